import PyProof.Rows.All
import HandS.ForMost
import HandS.IsInst
import HandS.Wide
import HandS.SortInts
import HandS.Strs
import KE.DataEq
import KE.DataFind
import HandS.SetFor
import HandS.Exc
import HandS.TryMany
import HandS.ExcOwn
import HandS.WordsExc
import HandS.Deep
import HandS.Dict
import HandS.More
import HandS.Small
import KE.SortData
import KE.DataCmp
import HandS.TupAny
import HandS.RevTup
import HandS.TupMul
import HandS.Style
import HandS.TupSets
import HandS.Ends
import PySem.Challenge.RW_everyproof_k03_whole_clauses
set_option Elab.async false
set_option linter.all false
set_option autoImplicit false
/-! PA1: the pure language: code, store, evaluator. -/
namespace Pl
open PySem

abbrev D := PyData

inductive Bop | add | sub | mul | fdiv | mod
  deriving DecidableEq
inductive Cop | eq | ne | lt | le | gt | ge | is_ | isn | in_ | nin
  deriving DecidableEq

/-- built-in functions -/
inductive Bi | len | int | abs | max | min | list | tuple | all | any | sorted | sum
  deriving DecidableEq
/-- methods of what may change -/
inductive Me | append | extend | remove | pop
  deriving DecidableEq
inductive Ty | none | bool | int | str | list | tuple | dict
  deriving DecidableEq
/-- expressions: names by slot -/
inductive Ex where
  | var (i : Nat)
  | glob (x : Str)
  | con (d : D)
  | bin (o : Bop) (a b : Ex)
  | neg (a : Ex)
  | cmp (o : Cop) (a b : Ex)
  | cmp2 (o p : Cop) (a b c : Ex)
  | and (a b : Ex)
  | or (a b : Ex)
  | not (a : Ex)
  | ite (c a b : Ex)
  | call (f : Str) (es : List Ex)
  | bi (f : Bi) (es : List Ex)
  | sset (a : Ex)
  | met (m : Me) (o : Ex) (es : List Ex)
  | idx (a i : Ex)
  | slL (a lo : Ex)
  | slH (a hi : Ex)
  | slB (a lo hi : Ex)
  | rev (a : Ex)
  | tup (es : List Ex)
  | lst (es : List Ex)
  | mls (es : List Ex)
  | mli (a : Ex)
  | dic (kvs : List (Str × Int))
  | isi (a : Ex) (t : Ty)
  | lc (vs ts : List Nat) (tup : Bool) (it : Ex) (cs : List Ex) (e : Ex)
  | lcr (vs : List Nat) (t : Nat) (lo : List Ex) (hi : Ex) (cs : List Ex) (e : Ex)
  | frz (a : Ex)
  | inx (o a : Ex)
  | mdc
  | mdd (a : Ex)
  | dgt (o a : Ex)
  | lc2 (vs ts : List Nat) (tup : Bool) (it : Ex) (ts1 : List Nat) (tup1 : Bool) (it1 : Ex) (e : Ex)

inductive Sm where
  | asg (i : Nat) (e : Ex)
  | asgs (is : List Nat) (e : Ex)
  | par (is : List Nat) (es : List Ex)
  | setix (o i e : Ex)
  | swap (o i o2 i2 e e2 : Ex)
  | exp (e : Ex)
  | ret (e : Ex)
  | retN
  | ite (c : Ex) (a b : List Sm)
  | whl (c : Ex) (b : List Sm)
  | for_ (ts : List Nat) (tup : Bool) (it : Ex) (b : List Sm)
  | forr (t : Nat) (lo : List Ex) (hi : Ex) (b : List Sm)
  | brk | cont | pass
  | raise (c : Str) (e : Ex)
  | try_ (b : List Sm) (hs : List (Str × D)) (kn : List Str)

structure Fn where
  name : Str
  params : Nat
  slots : Nat
  body : List Sm

inductive Vl where
  | p (d : D)
  | r (n : Nat)
  | s (ns : List Int)

inductive Cell where
  | lst (xs : List D)
  | dct (es : List (D × D))
  | dead

abbrev Store := List Cell
abbrev Rho := List (Option Vl)

/-- an exception in flight: its class, alone or with a word and a place -/
inductive Xn where
  | plain (c : Str)
  | own (c : Str) (w p : D)
def Xn.cls : Xn → Str
  | .plain c => c
  | .own c _ _ => c
inductive Res (α : Type) where
  | ok (a : α) (S : Store)
  | exn (x : Xn) (S : Store)
  | bad
/-- no exception leaves -/
def Res.noX {α : Type} : Res α → Res α
  | .ok a S => .ok a S
  | _ => .bad

def Res.bind {α β : Type} : Res α → (α → Store → Res β) → Res β
  | .ok a S, f => f a S
  | .exn x S, _ => .exn x S
  | .bad, _ => .bad

/-- what a value reads as -/
def rd (S : Store) : Vl → Option D
  | .p d => some d
  | .s ns => some (.list (ns.map .int))
  | .r n => match S[n]? with
    | some (.lst xs) => some (.list xs)
    | some (.dct es) => some (.dict es)
    | _ => none

/-! ### dicts by scalars -/
def keyOf : D → Option L2.Key
  | .int i => some (.inl i)
  | .str x => some (.inr x)
  | _ => none
def kD : L2.Key → D
  | .inl i => .int i
  | .inr x => .str x
def valD (es : List (D × D)) (k : L2.Key) : Option D := (es.find? fun e => decide (keyOf e.1 = some k)).map (·.2)
def putD (es : List (D × D)) (k : L2.Key) (v : D) : List (D × D) :=
  if (es.any fun e => decide (keyOf e.1 = some k)) = true then es.map (fun e => if keyOf e.1 = some k then (e.1, v) else e) else es ++ [(kD k, v)]
def scD : D → Bool
  | .none => true
  | .bool _ => true
  | .int _ => true
  | .str _ => true
  | _ => false

/-! ### operations on data -/
def small (i : Int) : Bool := decide (-(2 ^ 64) < i ∧ i < 2 ^ 64)
def okLen (n : Nat) : Bool := decide (n ≤ sizeLine)

def binD : Bop → D → D → Option D
  | .add, .int i, .int j => some (.int (i + j))
  | .add, .str x, .str y => if okLen (x.length + y.length) then some (.str (x ++ y)) else none
  | .add, .tuple xs, .tuple ys => if okLen (xs.length + ys.length) then some (.tuple (xs ++ ys)) else none
  | .add, .list xs, .list ys => if okLen (xs.length + ys.length) then some (.list (xs ++ ys)) else none
  | .sub, .int i, .int j => some (.int (i - j))
  | .mul, .int i, .int j => if small i || small j then some (.int (i * j)) else none
  | .mul, .tuple xs, .int j => if decide (2 ≤ j ∧ j ≤ 1000 ∧ 0 < xs.length ∧ xs.length ≤ 1000) then some (.tuple (List.replicate j.toNat xs).flatten) else none
  | .fdiv, .int i, .int j => if decide (0 < j ∧ j < 2 ^ 30) then some (.int (i / j)) else none
  | .mod, .int i, .int j => if decide (0 < j) then some (.int (i % j)) else none
  | _, _, _ => none

/-- data that may be compared: no dict within, not too deep -/
def cmpOk (d : D) : Bool := d.plain && decide (d.depth ≤ 200)

def subStr (x y : Str) : Bool := !(Builtin.Str.occurrences y x 0 y.length 1).isEmpty
def strLt (x y : Str) : Bool := decide (x.cps.toList < y.cps.toList)

def isNon : D → Bool
  | .none => true
  | _ => false

def cmpD : Cop → D → D → Option Bool
  | .eq, a, b => if cmpOk a && cmpOk b then some (PyData.eqv a b) else none
  | .ne, a, b => if cmpOk a && cmpOk b then some (!PyData.eqv a b) else none
  | .lt, .int i, .int j => some (decide (i < j))
  | .le, .int i, .int j => some (decide (i ≤ j))
  | .gt, .int i, .int j => some (decide (j < i))
  | .ge, .int i, .int j => some (decide (j ≤ i))
  | .is_, a, .none => some (isNon a)
  | .isn, a, .none => some (!isNon a)
  | .in_, a, .list xs => if cmpOk a && cmpOk (.list xs) then some (xs.any fun y => PyData.eqv y a) else none
  | .in_, a, .tuple xs => if cmpOk a && cmpOk (.tuple xs) then some (xs.any fun y => PyData.eqv y a) else none
  | .in_, .str x, .str y => some (subStr x y)
  | .nin, a, .list xs => if cmpOk a && cmpOk (.list xs) then some (!xs.any fun y => PyData.eqv y a) else none
  | .nin, a, .tuple xs => if cmpOk a && cmpOk (.tuple xs) then some (!xs.any fun y => PyData.eqv y a) else none
  | .nin, .str x, .str y => some (!subStr x y)
  | .in_, a, .dict es => (keyOf a).map fun k => (valD es k).isSome
  | .nin, a, .dict es => (keyOf a).map fun k => !(valD es k).isSome
  | .lt, .tuple xs, .tuple ys => if cmpOk (.tuple xs) && (cmpOk (.tuple ys) && PySem.W.alike (.tuple xs) (.tuple ys)) then some (PySem.W.dataLt (.tuple xs) (.tuple ys)) else none
  | _, _, _ => none

def atD {α : Type} (xs : List α) (i : Int) : Option α := L2.atI xs i

def idxD : D → D → Option D
  | .tuple xs, .int i => L2.atI xs i
  | .list xs, .int i => L2.atI xs i
  | .str z, .int i => if okLen z.length then (L2.atI z.cps.toList i).map fun c => .str ⟨#[c]⟩ else none
  | .dict es, k => (keyOf k).bind (valD es)
  | _, _ => none

def cutD {α : Type} (xs : List α) (lo hi : Option Int) : List α :=
  (xs.drop (HT.sIx xs.length 0 lo)).take (HT.sIx xs.length xs.length hi - HT.sIx xs.length 0 lo)

def slD : D → Option Int → Option Int → Option D
  | .tuple xs, lo, hi => some (.tuple (cutD xs lo hi))
  | .list xs, lo, hi => some (.list (cutD xs lo hi))
  | .str z, lo, hi => if okLen z.length then some (.str (L2.cutS z lo hi)) else none
  | _, _, _ => none

def intOf : D → Option Int
  | .int i => some i
  | _ => none

def tyOf : D → Ty
  | .none => .none
  | .bool _ => .bool
  | .int _ => .int
  | .str _ => .str
  | .list _ => .list
  | .tuple _ => .tuple
  | .dict _ => .dict

def isiT (a b : Ty) : Bool := a == b || (a == .bool && b == .int)
def isiD (d : D) (t : Ty) : Bool := isiT (tyOf d) t

/-! ### the evaluator -/
abbrev CallF := Str → List Vl → Store → Res Vl

def pOpt (o : Option D) (S : Store) : Res Vl := match o with
  | some d => .ok (.p d) S
  | none => .bad
def bOpt (o : Option Bool) (S : Store) : Res Vl := match o with
  | some b => .ok (.p (.bool b)) S
  | none => .bad

def rdAll (S : Store) : List Vl → Option (List D)
  | [] => some []
  | v :: vs => match rd S v, rdAll S vs with
    | some d, some ds => some (d :: ds)
    | _, _ => none
/-- the pure ones -/
def pureAll : List Vl → Option (List D)
  | [] => some []
  | .p d :: vs => (pureAll vs).map (d :: ·)
  | _ :: _ => none

def boolsOf : List D → Option (List Bool)
  | [] => some []
  | .bool b :: r => (boolsOf r).map (b :: ·)
  | _ :: _ => none
def intsOf : List D → Option (List Int)
  | [] => some []
  | .int b :: r => (intsOf r).map (b :: ·)
  | _ :: _ => none

/-- the tuple's items for several targets -/
def setTs : Rho → List Nat → List D → Rho
  | ρ, t :: ts, d :: ds => setTs (ρ.set t (some (.p d))) ts ds
  | ρ, _, _ => ρ
def bindT (ρ : Rho) (ts : List Nat) (tup : Bool) (d : D) : Option Rho :=
  match tup, d with
  | false, d => match ts with
    | [t] => some (ρ.set t (some (.p d)))
    | _ => none
  | true, .tuple ds => if ds.length = ts.length then some (setTs ρ ts ds) else none
  | true, _ => none
def wipeR (ρ : Rho) : List Nat → Rho
  | [] => ρ
  | v :: vs => (wipeR ρ vs).set v none
def itemsOf : Vl → Option (List D)
  | .p (.list xs) => some xs
  | .p (.tuple xs) => some xs
  | _ => none
def rangeD (lo n : Int) : List D := (List.range (n - lo).toNat).map fun (k : Nat) => .int (lo + (k : Int))
def rngOk (i : Int) : Bool := Nat.ble i.natAbs 4611686018427387903

def mapR (f : D → Store → Res (Option D)) : List D → Store → Res (List D)
  | [], S => .ok [] S
  | d :: ds, S => (f d S).bind fun o S1 => (mapR f ds S1).bind fun rs S2 => .ok (match o with | some r => r :: rs | none => rs) S2

def mapR2 (f : D → Store → Res (List D)) : List D → Store → Res (List D)
  | [], S => .ok [] S
  | d :: ds, S => (f d S).bind fun o S1 => (mapR2 f ds S1).bind fun rs S2 => .ok (o ++ rs) S2

/-- what may be sorted: alike data, tuples not empty (or no tuples at all) -/
def isTup1 : D → Bool
  | .tuple _ => true
  | _ => false
def notTupNone : D → Bool
  | .tuple _ => false
  | .none => false
  | _ => true
def sortOk (xs : List D) : Bool := (xs.all fun x => xs.all fun y => PySem.W.alike x y) && (xs.all isTup1 || xs.all notTupNone) && okLen xs.length && xs.all fun x => decide (x.depth ≤ 200)
/-- distinct ints in order -/
def insI (n : Int) : List Int → List Int
  | [] => [n]
  | x :: xs => if n < x then n :: x :: xs else if n = x then x :: xs else x :: insI n xs
def setI (ns : List Int) : List Int := ns.foldr insI []

/-- distinct rows of ints in order -/
def rowT (r : List Int) : D := .tuple (r.map .int)
def rowsI : List D → Option (List (List Int))
  | [] => some []
  | .tuple ds :: r => match intsOf ds, rowsI r with
    | some n, some ns => some (n :: ns)
    | _, _ => none
  | _ :: _ => none
def insR (n : List Int) : List (List Int) → List (List Int)
  | [] => [n]
  | x :: xs => if n < x then n :: x :: xs else if n = x then x :: xs else x :: insR n xs
def setR (rs : List (List Int)) : List (List Int) := rs.foldr insR []
/-- sorted(set(..)) -/
def ssetD : D → Option D
  | .list xs => match intsOf xs with
    | some ns => if ns.length < 64 then some (.list ((setI ns).map .int)) else none
    | none => match rowsI xs with
      | some rs => if rs.length < 64 then some (.list ((setR rs).map rowT)) else none
      | none => none
  | .tuple xs => match intsOf xs with
    | some ns => if ns.length < 64 then some (.list ((setI ns).map .int)) else none
    | none => none
  | _ => none
/-- a builtin called by values (all read) -/
def biD : Bi → List D → Option D
  | .len, [.list xs] => some (.int xs.length)
  | .len, [.tuple xs] => some (.int xs.length)
  | .len, [.str x] => if okLen x.length then some (.int x.length) else none
  | .int, [.int i] => some (.int i)
  | .int, [.bool b] => some (.int (if b then 1 else 0))
  | .abs, [.int i] => some (.int (if i < 0 then -i else i))
  | .max, [.int i, .int j] => some (.int (if j > i then j else i))
  | .min, [.int i, .int j] => some (.int (if j < i then j else i))
  | .list, [.list xs] => some (.list xs)
  | .list, [.tuple xs] => some (.list xs)
  | .tuple, [.list xs] => some (.tuple xs)
  | .tuple, [.tuple xs] => some (.tuple xs)
  | .all, [.list xs] => (boolsOf xs).map fun bs => .bool (bs.all id)
  | .any, [.list xs] => (boolsOf xs).map fun bs => .bool (bs.any id)
  | .sorted, [.list xs] => if sortOk xs then some (.list (xs.mergeSort (PySem.W.dataLe false id))) else none
  | .sum, [.list xs] => (intsOf xs).map fun ns => .int ns.sum
  | .min, [.list xs] => match intsOf xs with
    | some (n :: ns) => some (.int (ns.foldl min n))
    | _ => none
  | .max, [.list xs] => match intsOf xs with
    | some (n :: ns) => some (.int (ns.foldl max n))
    | _ => none
  | _, _ => none

/-- methods: of what may change -/
def metC : Me → List D → List D → Option (D × List D)
  | .append, xs, [d] => if decide (xs.length < sizeLine) then some (.none, xs ++ [d]) else none
  | .extend, xs, [.list ys] => if okLen (xs.length + ys.length) then some (.none, xs ++ ys) else none
  | .remove, xs, [d] => if cmpOk d && cmpOk (.list xs) then (PySem.SeqAt.dataPlace xs d).map fun j => (.none, xs.eraseIdx j) else none
  | .pop, xs, [] => xs.getLast?.map fun d => (d, xs.dropLast)
  | _, _, _ => none
def isLst (v : Vl) (S : Store) : Bool := match v with
  | .r n => match S[n]? with
    | some (.lst _) => true
    | _ => false
  | _ => false
def metV (m : Me) (o : Vl) (vs : List Vl) (S : Store) : Res Vl :=
  match o, pureAll vs with
  | .r n, some ds => match S[n]? with
    | some (.lst xs) => match metC m xs ds with
      | some (r, ys) => .ok (.p r) (S.set n (.lst ys))
      | none => .bad
    | _ => .bad
  | _, _ => .bad

/-- d.get(k), list.index(x) -/
def getD' : D → D → Option D
  | .dict es, k => (keyOf k).map fun j => (valD es j).getD .none
  | _, _ => none
def inxD : D → D → Option D
  | .list xs, d => if PySem.SeqAt.shaped (.list xs) && PySem.SeqAt.shaped d then (PySem.SeqAt.dataPlace xs d).map fun j => .int (j : Nat) else none
  | _, _ => none
def isDct (v : Vl) (S : Store) : Bool := match rd S v with
  | some (.dict _) => true
  | _ => false
def isLs (v : Vl) (S : Store) : Bool := match rd S v with
  | some (.list _) => true
  | _ => false
def asB : Vl → Store → Res Bool
  | .p (.bool b), S => .ok b S
  | _, _ => .bad

section
variable (cl : CallF) (g : Str → Option D)
mutual
def ev : Ex → Rho → Store → Res Vl
  | .var i, ρ, S => match ρ[i]? with
    | some (some v) => .ok v S
    | _ => .bad
  | .glob x, _, S => match g x with
    | some d => .ok (.p d) S
    | none => .bad
  | .con d, _, S => .ok (.p d) S
  | .bin o a b, ρ, S => (ev a ρ S).bind fun x S1 => (ev b ρ S1).bind fun y S2 =>
      match rd S2 x, rd S2 y with
      | some d, some e => pOpt (binD o d e) S2
      | _, _ => .bad
  | .neg a, ρ, S => (ev a ρ S).bind fun x S1 => match x with
      | .p (.int i) => .ok (.p (.int (-i))) S1
      | _ => .bad
  | .cmp o a b, ρ, S => (ev a ρ S).bind fun x S1 => (ev b ρ S1).bind fun y S2 =>
      match rd S2 x, rd S2 y with
      | some d, some e => bOpt (cmpD o d e) S2
      | _, _ => .bad
  | .cmp2 o p a b c, ρ, S => (ev a ρ S).bind fun x S1 => (ev b ρ S1).bind fun y S2 =>
      match rd S2 x, rd S2 y with
      | some d, some e => match cmpD o d e with
        | some true => (ev c ρ S2).bind fun z S3 => match rd S3 y, rd S3 z with
          | some e', some f => bOpt (cmpD p e' f) S3
          | _, _ => .bad
        | some false => .ok (.p (.bool false)) S2
        | none => .bad
      | _, _ => .bad
  | .and a b, ρ, S => ((ev a ρ S).bind asB).bind fun x S1 => if x = true then ev b ρ S1 else .ok (.p (.bool false)) S1
  | .or a b, ρ, S => ((ev a ρ S).bind asB).bind fun x S1 => if x = true then .ok (.p (.bool true)) S1 else ev b ρ S1
  | .not a, ρ, S => ((ev a ρ S).bind asB).bind fun x S1 => .ok (.p (.bool !x)) S1
  | .ite c a b, ρ, S => ((ev c ρ S).bind asB).bind fun x S1 => if x = true then ev a ρ S1 else ev b ρ S1
  | .call f es, ρ, S => (evs es ρ S).bind fun vs S1 => cl f vs S1
  | .bi f es, ρ, S => (evs es ρ S).bind fun vs S1 => match rdAll S1 vs with
      | some ds => pOpt (biD f ds) S1
      | none => .bad
  | .sset a, ρ, S => (ev a ρ S).bind fun x S1 => match rd S1 x with
      | some d => pOpt (ssetD d) S1
      | none => .bad
  | .met m o es, ρ, S => (ev o ρ S).bind fun x S1 => if isLst x S1 = true then (evs es ρ S1).bind fun vs S2 => metV m x vs S2 else .bad
  | .idx a i, ρ, S => (ev a ρ S).bind fun x S1 => (ev i ρ S1).bind fun y S2 =>
      match rd S2 x, rd S2 y with
      | some d, some e => pOpt (idxD d e) S2
      | _, _ => .bad
  | .slL a lo, ρ, S => (ev a ρ S).bind fun x S1 => (ev lo ρ S1).bind fun y S2 =>
      match rd S2 x, y with
      | some d, .p (.int i) => pOpt (slD d (some i) none) S2
      | _, _ => .bad
  | .slH a hi, ρ, S => (ev a ρ S).bind fun x S1 => (ev hi ρ S1).bind fun y S2 =>
      match rd S2 x, y with
      | some d, .p (.int i) => pOpt (slD d none (some i)) S2
      | _, _ => .bad
  | .slB a lo hi, ρ, S => (ev a ρ S).bind fun x S1 => (ev lo ρ S1).bind fun y S2 => (ev hi ρ S2).noX.bind fun z S3 =>
      match rd S3 x, y, z with
      | some d, .p (.int i), .p (.int j) => pOpt (slD d (some i) (some j)) S3
      | _, _, _ => .bad
  | .rev a, ρ, S => (ev a ρ S).bind fun x S1 => match rd S1 x with
      | some (.list xs) => .ok (.p (.list xs.reverse)) S1
      | _ => .bad
  | .tup es, ρ, S => (evs es ρ S).bind fun vs S1 => match pureAll vs with
      | some ds => if okLen ds.length then .ok (.p (.tuple ds)) S1 else .bad
      | none => .bad
  | .lst es, ρ, S => (evs es ρ S).bind fun vs S1 => match pureAll vs with
      | some ds => if okLen ds.length then .ok (.p (.list ds)) S1 else .bad
      | none => .bad
  | .mls es, ρ, S => (evs es ρ S).bind fun vs S1 => match pureAll vs with
      | some ds => if okLen ds.length then .ok (.r S1.length) (S1 ++ [.lst ds]) else .bad
      | none => .bad
  | .mli a, ρ, S => (ev a ρ S).bind fun x S1 => match rd S1 x with
      | some (.list ds) => .ok (.r S1.length) (S1 ++ [.lst ds])
      | some (.tuple ds) => .ok (.r S1.length) (S1 ++ [.lst ds])
      | _ => .bad
  | .dic kvs, _, S => .ok (.p (.dict (kvs.map fun kv => (.str kv.1, .int kv.2)))) S
  | .isi a t, ρ, S => (ev a ρ S).bind fun x S1 => match rd S1 x with
      | some d => .ok (.p (.bool (isiD d t))) S1
      | none => .bad
  | .lc vs ts tup it cs e, ρ, S => (ev it ρ S).bind fun x S1 => match itemsOf x with
      | some xs => (mapR (fun d S2 => match bindT (wipeR ρ vs) ts tup d with
          | some ρ2 => (evc cs ρ2 S2).bind fun b S3 => if b then (ev e ρ2 S3).bind fun y S4 => match y with
              | .p r => .ok (some r) S4
              | _ => .bad
            else .ok none S3
          | none => .bad) xs S1).noX.bind fun rs S2 => if okLen rs.length then .ok (.p (.list rs)) S2 else .bad
      | none => .bad
  | .lcr vs t lo hi cs e, ρ, S => (evs lo ρ S).bind fun ls S1 => (ev hi ρ S1).bind fun y S2 => match (match ls with | [] => some 0 | [.p (.int l)] => some l | _ => none), y with
      | some l, .p (.int n) => if rngOk l && rngOk n then (mapR (fun d S2 =>
            (evc cs ((wipeR ρ vs).set t (some (.p d))) S2).bind fun b S3 => if b then (ev e ((wipeR ρ vs).set t (some (.p d))) S3).bind fun y S4 => match y with
              | .p r => .ok (some r) S4
              | _ => .bad
            else .ok none S3) (rangeD l n) S2).noX.bind fun rs S2 => if okLen rs.length then .ok (.p (.list rs)) S2 else .bad
          else .bad
      | _, _ => .bad
  | .frz a, ρ, S => (ev a ρ S).bind fun x S1 => match x with
      | .r n => match S1[n]? with
        | some (.lst xs) => .ok (.p (.list xs)) (S1.set n .dead)
        | _ => .bad
      | _ => .bad
  | .inx o a, ρ, S => (ev o ρ S).bind fun x S1 => if isLs x S1 = true then (ev a ρ S1).bind fun y S2 => match rd S2 x, y with
      | some d, .p e => pOpt (inxD d e) S2
      | _, _ => .bad
    else .bad
  | .mdc, _, S => .ok (.r S.length) (S ++ [.dct []])
  | .mdd a, ρ, S => (ev a ρ S).bind fun x S1 => match rd S1 x with
      | some (.dict es) => .ok (.r S1.length) (S1 ++ [.dct es])
      | _ => .bad
  | .dgt o a, ρ, S => (ev o ρ S).bind fun x S1 => if isDct x S1 = true then (ev a ρ S1).bind fun y S2 => match rd S2 x, rd S2 y with
      | some d, some e => pOpt (getD' d e) S2
      | _, _ => .bad
    else .bad
  | .lc2 vs ts tup it ts1 tup1 it1 e, ρ, S => (ev it ρ S).bind fun x S1 => match itemsOf x with
      | some xs => (mapR2 (fun d S2 => match bindT (wipeR ρ vs) ts tup d with
          | some ρ2 => (ev it1 ρ2 S2).bind fun x1 S3 => match itemsOf x1 with
            | some xs1 => mapR (fun d1 S4 => match bindT (wipeR ρ2 ts1) ts1 tup1 d1 with
              | some ρ3 => (ev e ρ3 S4).bind fun y S5 => match y with
                | .p r => .ok (some r) S5
                | _ => .bad
              | none => .bad) xs1 S3
            | none => .bad
          | none => .bad) xs S1).noX.bind fun rs S2 => if okLen rs.length then .ok (.p (.list rs)) S2 else .bad
      | none => .bad
def evs : List Ex → Rho → Store → Res (List Vl)
  | [], _, S => .ok [] S
  | e :: es, ρ, S => (ev e ρ S).bind fun v S1 => (evs es ρ S1).bind fun vs S2 => .ok (v :: vs) S2
def evc : List Ex → Rho → Store → Res Bool
  | [], _, S => .ok true S
  | e :: es, ρ, S => ((ev e ρ S).bind asB).bind fun v S1 => if v = true then evc es ρ S1 else .ok false S1
end
end

/-! ### statements -/
inductive Fl where
  | nx (ρ : Rho)
  | rt (v : Vl)
  | bk (ρ : Rho)
  | ct (ρ : Rho)

/-- a loop's turns over items -/
def forR (b : D → Rho → Store → Res Fl) : List D → Rho → Store → Res Fl
  | [], ρ, S => .ok (.nx ρ) S
  | d :: ds, ρ, S => (b d ρ S).bind fun f S1 => match f with
    | .nx ρ1 => forR b ds ρ1 S1
    | .ct ρ1 => forR b ds ρ1 S1
    | .bk ρ1 => .ok (.nx ρ1) S1
    | .rt v => .ok (.rt v) S1
/-- a while loop, at most n turns -/
def whlR (c : Rho → Store → Res Bool) (b : Rho → Store → Res Fl) : Nat → Rho → Store → Res Fl
  | 0, _, _ => .bad
  | n + 1, ρ, S => (c ρ S).bind fun v S1 => if v = true then (b ρ S1).bind fun f S2 => match f with
      | .nx ρ1 => whlR c b n ρ1 S2
      | .ct ρ1 => whlR c b n ρ1 S2
      | .bk ρ1 => .ok (.nx ρ1) S2
      | .rt v => .ok (.rt v) S2
    else .ok (.nx ρ) S1
def setV (ρ : Rho) : List Nat → List Vl → Rho
  | i :: is, v :: vs => setV (ρ.set i (some v)) is vs
  | _, _ => ρ
def whileFuel : Nat := 1000000

/-- o[i] = v -/
def putR (v x y : Vl) (S : Store) : Res Unit := match v, x, y with
  | .p d, .r n, .p k => match S[n]? with
    | some (.lst xs) => match k with
      | .int k => match L2.ixN xs.length k with
        | some j => .ok () (S.set n (.lst (xs.set j d)))
        | none => .bad
      | _ => .bad
    | some (.dct es) => match keyOf k with
      | some k => if scD d && decide (es.length < sizeLine) then .ok () (S.set n (.dct (putD es k d))) else .bad
      | none => .bad
    | _ => .bad
  | _, _, _ => .bad
section
variable (cl : CallF) (g : Str → Option D)
mutual
def evS : Sm → Rho → Store → Res Fl
  | .asg i e, ρ, S => (ev cl g e ρ S).bind fun v S1 => .ok (.nx (ρ.set i (some v))) S1
  | .asgs is e, ρ, S => (ev cl g e ρ S).bind fun v S1 => match v with
      | .p (.tuple ds) => if ds.length = is.length then .ok (.nx (setTs ρ is ds)) S1 else .bad
      | _ => .bad
  | .par is es, ρ, S => (evs cl g es ρ S).bind fun vs S1 => if vs.length = is.length then .ok (.nx (setV ρ is vs)) S1 else .bad
  | .setix o i e, ρ, S => (ev cl g e ρ S).bind fun v S1 => (ev cl g o ρ S1).bind fun x S2 => (ev cl g i ρ S2).bind fun y S3 => (putR v x y S3).bind fun _ S4 => .ok (.nx ρ) S4
  | .swap o i o2 i2 e e2, ρ, S => (evs cl g [e, e2] ρ S).bind fun vs S1 => match vs with
      | [v, v2] => (ev cl g o ρ S1).bind fun x S2 => (ev cl g i ρ S2).bind fun y S3 => (putR v x y S3).bind fun _ S4 =>
          (ev cl g o2 ρ S4).bind fun x2 S5 => (ev cl g i2 ρ S5).bind fun y2 S6 => (putR v2 x2 y2 S6).bind fun _ S7 => .ok (.nx ρ) S7
      | _ => .bad
  | .exp e, ρ, S => (ev cl g e ρ S).bind fun _ S1 => .ok (.nx ρ) S1
  | .ret e, ρ, S => (ev cl g e ρ S).bind fun v S1 => .ok (.rt v) S1
  | .retN, _, S => .ok (.rt (.p .none)) S
  | .ite c a b, ρ, S => ((ev cl g c ρ S).bind asB).bind fun v S1 => if v = true then evSs a ρ S1 else evSs b ρ S1
  | .whl c b, ρ, S => whlR (fun ρ S => (ev cl g c ρ S).bind asB) (fun ρ S => evSs b ρ S) whileFuel ρ S
  | .for_ ts tup it b, ρ, S => (ev cl g it ρ S).bind fun x S1 => match itemsOf x with
      | some xs => forR (fun d ρ S => match bindT ρ ts tup d with
        | some ρ2 => evSs b ρ2 S
        | none => .bad) xs ρ S1
      | none => .bad
  | .forr t lo hi b, ρ, S => (evs cl g lo ρ S).bind fun ls S1 => (ev cl g hi ρ S1).bind fun y S2 => match (match ls with | [] => some 0 | [.p (.int l)] => some l | _ => none), y with
      | some l, .p (.int n) => if rngOk l && rngOk n then forR (fun d ρ S => evSs b (ρ.set t (some (.p d))) S) (rangeD l n) ρ S2 else .bad
      | _, _ => .bad
  | .brk, ρ, S => .ok (.bk ρ) S
  | .cont, ρ, S => .ok (.ct ρ) S
  | .pass, ρ, S => .ok (.nx ρ) S
  | .raise c e, ρ, S => (ev cl g e ρ S).bind fun _ S1 => .exn (.plain c) S1
  | .try_ b hs kn, ρ, S => match evSs b ρ S with
      | .exn x S1 => if kn.contains x.cls then match hs.lookup x.cls with
          | some d => .ok (.rt (.p d)) S1
          | none => .exn x S1
        else .bad
      | r => r
def evSs : List Sm → Rho → Store → Res Fl
  | [], ρ, S => .ok (.nx ρ) S
  | s :: ss, ρ, S => (evS s ρ S).bind fun f S1 => match f with
    | .nx ρ1 => evSs ss ρ1 S1
    | f => .ok f S1
end
end

/-- what a call hands back: its own objects are forgotten -/
def finish (n : Nat) (v : Vl) (S : Store) : Res Vl := match v with
  | .p d => .ok (.p d) (S.take n)
  | .s ns => .ok (.s ns) (S.take n)
  | .r k => if k < n then .ok (.r k) (S.take n) else match S[k]? with
    | some c => .ok (.r n) (S.take n ++ [c])
    | none => .bad
/-- an exception that leaves forgets them, too -/
def Res.cut {α : Type} (n : Nat) : Res α → Res α
  | .exn x S => .exn x (S.take n)
  | r => r
def runFn (cl : CallF) (g : Str → Option D) (fn : Fn) (vs : List Vl) (S : Store) : Res Vl :=
  if vs.length = fn.params then ((evSs cl g fn.body (vs.map some ++ List.replicate (fn.slots - vs.length) none) S).bind fun f S1 => match f with
    | .nx _ => finish S.length (.p .none) S1
    | .rt v => finish S.length v S1
    | _ => .bad).cut S.length
  else .bad
/-- the program's defs -/
structure Prog where
  fns : List Fn
  consts : Str → Option D
def Prog.call (P : Prog) : Nat → CallF
  | 0, _, _, _ => .bad
  | n + 1, f, vs, S => match P.fns.find? (fun x => x.name == f) with
    | some fn => runFn (P.call n) P.consts fn vs S
    | none => .bad
end Pl

set_option Elab.async false
set_option linter.all false
set_option autoImplicit false
set_option maxRecDepth 100000
set_option maxHeartbeats 4000000
/-! PAV: sorting tuples of which some may be empty. -/
namespace Pl
open PySem PySem.Spec PySem.SeqAt PySem.Calls PySem.W PyProof.Rows
section
variable {prog : Program} {w : World} {A : Around} {s : Shared}
/-- tuple's own <, as a sort of one type calls it -/
theorem lt_of_tuples {E : Value → Shared → Prop} {Q : Value → Shared → Prop} {p q : Addr} {us vs : Array Value} {e r : Nat → Bool} (hp : s.heap.IsTuple p us) (hq : s.heap.IsTuple q vs)
    (he : ∀ j (a : j < us.size) (b : j < vs.size), EqAt A.in1 s us[j] vs[j] (e j)) (hr : ∀ j (a : j < us.size) (b : j < vs.size), e j = false → RcLt A.in1 s us[j] vs[j] (r j))
    (k : Q (.bool (firstLt e r (decide (us.size < vs.size)) (List.range (min us.size vs.size)))) s) : wpAny (model prog w) A (call (.builtin "tuple.__lt__") [.ref p, .ref q]) Q E s := by
  obtain ⟨⟨c1, d1, f1, t1⟩, o1, rfl, n1, rfl⟩ := id hp
  obtain ⟨⟨c2, d2, f2, t2⟩, o2, rfl, n2, rfl⟩ := id hq
  exact call_meets F.slot_tuple_lt ⟨_, o1, rfl⟩ F.entry_tuple_lt (F.args_tuple_lt_2 _ _) (tuple_ltAt p q us vs n1 n2 d1 d2 t1 t2 e r) ⟨o1, o2, he, hr, k⟩
theorem one_tuples {E : Value → Shared → Prop} {Q : Bool → Shared → Prop} {xs ys : List PyData} {a b : Value} {as bs : List Addr} (ra : Reads s.heap a (.tuple xs) as) (rb : Reads s.heap b (.tuple ys) bs)
    (hal : alikeAll xs ys = true) (hu : A.units + min (PyData.tuple xs).depth (PyData.tuple ys).depth < cLine) (hq : Q (dataLt (.tuple xs) (.tuple ys)) s) : wpAny (model prog w) A (oneLt' true a b) Q E s := by
  cases ra with
  | @tuple p o us n _ _ h1 h2 h3 h4 =>
    cases rb with
    | @tuple q o' vs n' _ _ k1 k2 k3 k4 =>
      have m1 : us.size = xs.length := by simpa using ReadsAll.length _ _ _ h4
      have m2 : vs.size = ys.length := by simpa using ReadsAll.length _ _ _ k4
      rw [dataLt_tuple, ← firstLt_toks xs ys hal, ← m1, ← m2] at hq
      rw [oneLt'_eq, if_pos rfl]
      refine wpAny_bind (wpAny_cRoomFor (room_here hu) (wpAny_bind (wpAny_callSpecialIfBound?_slot (T := "tuple") ⟨_, h1, h2⟩ F.slot_tuple_lt
        (lt_of_tuples (e := pairEq xs ys) (r := fun j => dataLt (xs.getD j .none) (ys.getD j .none)) ⟨_, h1, h2, _, h3⟩ ⟨_, k1, k2, _, k3⟩ (fun j i1 i2 => ?_) (fun j i1 i2 ne => ?_) (wpAny_truthy_bool hq)))))
      · have z := eqAt_alikeAll xs ys A.in1 s us.toList vs.toList _ _ h4 k4 hal (room_in hu) j (by simpa using i1) (by simpa using i2)
        simpa using z
      · have z := rcLt_alikeAll xs ys A.in1 s us.toList vs.toList _ _ h4 k4 hal (room_in hu) j (by simpa using i1) (by simpa using i2) ne
        simpa using z
def neT : PyData → Bool
  | .tuple (_ :: _) => true
  | _ => false
/-- the first items -/
theorem firsts_of {M : Model} {E : Value → Shared → Prop} : ∀ {vs : List Value} {ds : List PyData} {Q : List (Option Value) → Shared → Prop}, EachIs (fun v d => ∃ as, Reads s.heap v d as) vs ds → (∀ d ∈ ds, ∃ xs, d = .tuple xs) →
    (∀ fs : List (Option Value), EachIs (fun (f : Option Value) d => f.isSome = neT d) fs ds → Q fs s) → wpAny M A (vs.mapM firstOfTuple') Q E s
  | _, _, Q, .nil, _, k => by
    rw [List.mapM_nil]
    exact wpAny_pure (k [] .nil)
  | _, _, Q, .cons (b := d) ⟨as, r⟩ t, ht, k => by
    obtain ⟨xs, rfl⟩ := ht d List.mem_cons_self
    rw [List.mapM_cons]
    refine wpAny_bind ?_
    cases r with
    | @tuple p o us n _ _ h1 h2 h3 h4 =>
      rw [kas_first_eq]
      refine wpAny_bind (Looks.here (show Looks M s.heap (typeOf (.ref p)) o.cls from (Looks.ld h1).andThen .now) ?_)
      rw [h2, if_neg (by simp)]
      refine wpAny_bind (listItems_at h1 h3 (wpAny_pure ?_))
      refine wpAny_bind (firsts_of t (fun d hd => ht d (List.mem_cons_of_mem _ hd)) fun fs q => wpAny_pure (k _ (.cons ?_ q)))
      have m1 : us.size = xs.length := by simpa using ReadsAll.length _ _ _ h4
      cases xs with
      | nil =>
        have : us[0]? = none := by simp at m1; simp [m1]
        rw [this]
        rfl
      | cons x xs =>
        have : us[0]?.isSome = true := by simp at m1; simp [m1]
        rw [this]
        rfl
/-- where one is empty, no kind for tuples is taken -/
theorem kind_of {E : Value → Shared → Prop} {vs : List Value} {ds : List PyData} {Q : SortKind → Shared → Prop} (e : EachIs (fun v d => ∃ as, Reads s.heap v d as) vs ds) (ht : ∀ d ∈ ds, ∃ xs, d = .tuple xs) (h0 : ds.any (fun d => !neT d) = true)
    (k : Q (if ds.head?.any neT then general' else oneType') s) : wpAny (model prog w) A (keyKind' vs.toArray) Q E s := by
  rw [keyKind'_eq, List.mapM_toArray, map_eq_pure_bind]
  refine wpAny_bind (wpAny_bind (firsts_of e ht fun fs q => wpAny_pure ?_))
  have n1 : (fs.toArray.all fun x => x.isSome) = false := by
    rw [List.all_toArray, Bool.eq_false_iff]
    intro hall
    have : ∀ {fs : List (Option Value)} {ds : List PyData}, EachIs (fun (f : Option Value) d => f.isSome = neT d) fs ds → fs.all (fun x => x.isSome) = true → ds.any (fun d => !neT d) = false := fun {fs ds} q => by
      induction q with
      | nil => intro _; rfl
      | cons h t ih =>
        intro z
        rw [List.all_cons, Bool.and_eq_true] at z
        rw [List.any_cons, ← h, z.1, ih z.2]
        rfl
    rw [this q hall] at h0
    cases h0
  have n2 : (fs.toArray[0]?.bind id).isSome = ds.head?.any neT := by
    cases q with
    | nil => rfl
    | cons h t =>
      simp only [List.getElem?_toArray, List.getElem?_cons_zero, Option.bind_some, id, List.head?_cons, Option.any_some]
      exact h
  simp only [n1, n2, Bool.false_eq_true, if_false]
  cases hq : ds.head?.any neT with
  | true =>
    rw [hq] at k
    simp only [if_true]
    exact wpAny_pure k
  | false =>
    rw [hq] at k
    simp only [Bool.false_eq_true, if_false] at k ⊢
    rw [oneTypeOnly'_eq, List.mapM_toArray, map_eq_pure_bind]
    refine wpAny_bind (wpAny_bind (wpAny_bind (kas_mapM (r := Value.type "tuple") _ (fun v hv Q' hq' => ?_) (wpAny_pure ?_))))
    · obtain ⟨d, hd, as, r⟩ := e.left v hv
      obtain ⟨xs, rfl⟩ := ht d hd
      exact Looks.here (looks_reads r) hq'
    · have hne : vs ≠ [] := by
        rintro rfl
        cases e
        cases h0
      obtain ⟨v, vs', rfl⟩ := List.exists_cons_of_ne_nil hne
      have hall : ((List.map (fun _ => Value.type "tuple") (v :: vs')).toArray.all fun x => x == Value.type "tuple") = true := by
        simp only [List.all_toArray, List.all_map, List.all_eq_true]
        intro _ _
        exact beq_self_eq_true _
      have hget : (List.map (fun _ => Value.type "tuple") (v :: vs')).toArray[0]? = some (Value.type "tuple") := by simp
      rw [hget]
      simp only [hall, if_true]
      exact wpAny_pure (wpAny_pure k)
/-- tuples that are alike, empty ones among them, can be sorted -/
theorem sorts_tups {vs : List Value} {ds : List PyData} (e : EachIs (fun v d => ∃ as, Reads s.heap v d as) vs ds) (hal : AllAlike ds) (ht : ∀ d ∈ ds, ∃ xs, d = .tuple xs) (hu : ∀ d, d ∈ ds → A.units + d.depth < cLine) : SortsAt prog w A s (dataKind s.heap ds) vs := by
  by_cases h0 : ds.any (fun d => !neT d) = true
  · refine ⟨fun v hv => ?_, if ds.head?.any neT then general' else oneType', ?_, fun _ E Q k => kind_of e ht h0 k⟩
    · obtain ⟨d, hd, as, r⟩ := e.left v hv
      exact ⟨_, dataKind_some hal hd r⟩
    · intro E x y a b Q ha hb k
      obtain ⟨d, as, hd, ra, rfl⟩ := dataKind_inv ha
      obtain ⟨d', as', hd', rb, rfl⟩ := dataKind_inv hb
      have room : A.units + min d.depth d'.depth < cLine := Nat.lt_of_le_of_lt (Nat.add_le_add_left (Nat.min_le_left _ _) _) (hu d hd)
      have k' : Q (dataLt d d') s := k
      have q := hal d hd d' hd'
      obtain ⟨xs, rfl⟩ := ht d hd
      obtain ⟨ys, rfl⟩ := ht d' hd'
      split
      · exact oneLt_alike (f := false) (fun z => nomatch z) ra rb q (fun z => nomatch z) room k'
      · rw [keyLt'_oneType]
        exact one_tuples ra rb (by simpa [alike] using q) room k'
  · refine SortsAt.data e hal (.inl fun d hd => ?_) hu
    obtain ⟨xs, rfl⟩ := ht d hd
    cases xs with
    | nil => exact absurd (List.any_eq_true.mpr ⟨_, hd, rfl⟩) h0
    | cons x r => exact ⟨x, r, rfl⟩
end

section
variable {prog : Program} {w : World} {A : Around} {E : Value → Shared → Prop} {s : Shared} {β : Type} {vs : List Value} {bs : List β} {enc : β → PyData} {R : Value → β → Prop}
/-- sorted(xs), xs a list of tuples that are alike (or of others) -/
theorem sorted_wide {l : Addr} {Q : Value → Shared → Prop} (hl : s.heap.IsList l vs.toArray) (e : EachIs R vs bs) (er : EachIs (fun v b => ∃ as, Reads s.heap v (enc b) as) vs bs) (hal : AllAlike (bs.map enc))
    (hk : (∀ d ∈ bs.map enc, ∃ xs, d = .tuple xs) ∨ ∀ d, d ∈ bs.map enc → d ≠ .none ∧ ∀ xs, d ≠ .tuple xs) (hz : bs.length ≤ sizeLine) (hu : ∀ b, b ∈ bs → A.units + 2 + (enc b).depth < cLine)
    (k : ∀ out, out.length = bs.length → EachIs R out (bs.mergeSort (dataLe false enc)) → Q (.ref (s.heap.objs.size + 1)) { s with heap := sortedAll s.heap vs (List.toArray out) }) : wpAny (model prog w) A (call (.builtin "sorted") [.ref l]) Q E s := by
  rcases hk with hk | hk
  · have e2 : EachIs (fun v b => ∃ as, Reads (sortingHeap (copyHeap s.heap vs) (s.heap.objs.size + 1) vs) v (enc b) as) vs bs := er.mono fun _ _ ⟨as, r⟩ => ⟨as, PyProof.Rows.Reads.keeps (fun _ _ => sorting_copy_old) r⟩
    have S := sorts_tups (prog := prog) (w := w) (A := A.in1.in1) (s := { s with heap := sortingHeap (copyHeap s.heap vs) (s.heap.objs.size + 1) vs }) (each_map (R := fun v d => ∃ as, Reads (sortingHeap (copyHeap s.heap vs) (s.heap.objs.size + 1) vs) v d as) enc e2) hal hk (bound_map hu)
    exact sorted_vals hl S (by rw [e.length]; exact hz) (k _ (by rw [sortVals_length false rfl]; exact e.length) (sortVals_data false e e2 hal))
  · exact sorted_data hl e er hal (.inr hk) hz hu k
end
end Pl

set_option Elab.async false
set_option linter.all false
set_option autoImplicit false
set_option maxRecDepth 100000
/-! PA2: what stands in the heap for data and stores. -/
namespace Pl
open PySem PySem.Spec PyProof.Rows L2

/-- the addresses of the store's cells, and others that are kept apart -/
structure Map where
  m : List (Option Addr)
  r : List Addr
def Map.has (M : Map) (a : Addr) : Prop := some a ∈ M.m ∨ a ∈ M.r

/-- a list of the written part -/
def KL (K : PySem.W.Frag) (a : Addr) (xs : List V) : Prop :=
  ∃ (o : Obj) (its : Array Value) (n : Nat), K.lookup a = some o ∧ o.cls = .type "list" ∧ o.dict = none ∧ o.data = .seq its n ∧ its.size ≤ sizeLine ∧ Vals xs its.toList
/-- a list that stays as it is; the same, perhaps of the outer world -/
def FL (m : Map) (H : Hp) (a : Addr) (xs : List V) : Prop := H a = some (.lst xs) ∧ ¬ m.has a
def WL (K : PySem.W.Frag) (m : Map) (H : Hp) (a : Addr) (xs : List V) : Prop := (Rd H a (.lst xs) ∧ ¬ m.has a) ∨ KL K a xs
theorem FL.sq {K : PySem.W.Frag} {m : Map} {H : Hp} {a : Addr} {xs : List V} (h : FL m H a xs) : SqL K H a xs := .inl (.inl h.1)
theorem WL.sq {K : PySem.W.Frag} {m : Map} {H : Hp} {a : Addr} {xs : List V} (h : WL K m H a xs) : SqL K H a xs := by
  rcases h with ⟨h, _⟩ | h
  · exact .inl h
  · exact .inr h

/-- dicts by scalars -/
def vD : V → D
  | .bl b => .bool b
  | .int i => .int i
  | .str x => .str x
  | _ => .none
def scV : V → Bool
  | .non => true
  | .bl _ => true
  | .int _ => true
  | .str _ => true
  | _ => false
def DicR (kvs : List (L2.Key × V)) (es : List (D × D)) : Prop := es = kvs.map (fun e => (kD e.1, vD e.2)) ∧ (∀ e ∈ kvs, scV e.2 = true)
mutual
inductive Rp (K : PySem.W.Frag) (m : Map) (H : Hp) : V → D → Prop
  | non : Rp K m H .non .none
  | bl (b : Bool) : Rp K m H (.bl b) (.bool b)
  | int (i : Int) : Rp K m H (.int i) (.int i)
  | str (x : Str) : Rp K m H (.str x) (.str x)
  | lst {a : Addr} {xs : List V} {ds : List D} : FL m H a xs → RpAll K m H xs ds → Rp K m H (.ref a) (.list ds)
  | tup {a : Addr} {xs : List V} {ds : List D} : SqT K H a xs → RpAll K m H xs ds → Rp K m H (.ref a) (.tuple ds)
  | dic {a : Addr} {kvs : List (Key × V)} {es : List (D × D)} : H a = some (.dK kvs) → ¬ m.has a → DicR kvs es → Rp K m H (.ref a) (.dict es)
inductive RpAll (K : PySem.W.Frag) (m : Map) (H : Hp) : List V → List D → Prop
  | nil : RpAll K m H [] []
  | cons {v : V} {vs : List V} {d : D} {ds : List D} : Rp K m H v d → RpAll K m H vs ds → RpAll K m H (v :: vs) (d :: ds)
end

/-- from one moment to a later one -/
structure Stp (m : Map) (H : Hp) (m' : Map) (H' : Hp) : Prop where
  keep : ∀ a o, some a ∉ m.m → H a = some o → H' a = some o
  len : m.m.length ≤ m'.m.length
  old : ∀ (n : Nat) (a : Addr), n < m.m.length → m'.m[n]? = some (some a) → m.m[n]? = some (some a)
  new : ∀ a, some a ∈ m'.m → some a ∈ m.m ∨ H a = none
  res : m'.r = m.r

theorem Stp.refl (m : Map) (H : Hp) : Stp m H m H := ⟨fun _ _ _ h => h, Nat.le_refl _, fun _ _ _ h => h, fun _ h => .inl h, rfl⟩
theorem Stp.trans {m m1 m2 : Map} {H H1 H2 : Hp} (a : Stp m H m1 H1) (b : Stp m1 H1 m2 H2) : Stp m H m2 H2 := by
  refine ⟨fun x o hx h => ?_, Nat.le_trans a.len b.len, fun n x hn h => ?_, fun x hx => ?_, b.res.trans a.res⟩
  · refine b.keep x o (fun hm => ?_) (a.keep x o hx h)
    rcases a.new x hm with h1 | h1
    · exact hx h1
    · rw [h] at h1; cases h1
  · exact a.old n x hn (b.old n x (Nat.lt_of_lt_of_le hn a.len) h)
  · rcases b.new x hx with h1 | h1
    · exact a.new x h1
    · by_cases hm : some x ∈ m.m
      · exact .inl hm
      · refine .inr ?_
        cases q : H x with
        | none => rfl
        | some o =>
          rw [a.keep x o hm q] at h1; cases h1
theorem Stp.same {m : Map} {H H' : Hp} (h : Same H H') : Stp m H m H' := ⟨fun a o _ e => h a o e, Nat.le_refl _, fun _ _ _ h => h, fun _ h => .inl h, rfl⟩

theorem Rd.keep {H H' : Hp} {a : Addr} {u : HO} (k : ∀ o, H a = some o → H' a = some o) (h : Rd H a u) : Rd H' a u := by
  rcases h with h | ⟨o, h⟩
  · exact .inl (k _ h)
  · exact .inr ⟨o, k _ h⟩
theorem Rd.there {H : Hp} {a : Addr} {u : HO} (h : Rd H a u) : ∃ o, H a = some o := by
  rcases h with h | ⟨o, h⟩
  · exact ⟨_, h⟩
  · exact ⟨_, h⟩
theorem Stp.nohas {m m' : Map} {H H' : Hp} {a : Addr} (st : Stp m H m' H') (h : ¬ m.has a) (e : ∃ o, H a = some o) : ¬ m'.has a := fun hm => by
  obtain ⟨o, e⟩ := e
  rcases hm with hm | hm
  · rcases st.new a hm with z | z
    · exact h (.inl z)
    · rw [e] at z; cases z
  · rw [st.res] at hm
    exact h (.inr hm)
theorem FL.stp {m m' : Map} {H H' : Hp} {a : Addr} {xs : List V} (st : Stp m H m' H') (h : FL m H a xs) : FL m' H' a xs :=
  ⟨st.keep a _ (fun z => h.2 (.inl z)) h.1, st.nohas h.2 ⟨_, h.1⟩⟩
theorem WL.stp {K : PySem.W.Frag} {m m' : Map} {H H' : Hp} {a : Addr} {xs : List V} (st : Stp m H m' H') (h : WL K m H a xs) : WL K m' H' a xs := by
  rcases h with ⟨h, hm⟩ | h
  · exact .inl ⟨Rd.keep (fun o => st.keep a o fun z => hm (.inl z)) h, st.nohas hm (Rd.there h)⟩
  · exact .inr h

/-- the addresses that may change hold lists (or dicts), never tuples -/
def MutOk (m : Map) (H : Hp) : Prop := ∀ a, m.has a → (∃ xs, H a = some (.lst xs)) ∨ (∃ kvs, H a = some (.dK kvs)) ∨ ∃ kvs, H a = some (.dT kvs)
theorem MutOk.tup {m : Map} {H : Hp} (h : MutOk m H) {a : Addr} {xs : List V} (r : Rd H a (.tup xs)) : ¬ m.has a := fun hm => by
  rcases h a hm with ⟨ys, e⟩ | ⟨ys, e⟩ | ⟨ys, e⟩ <;> rcases r with r | ⟨o, r⟩ <;> (rw [e] at r; cases r)
theorem sqT_stp {K : PySem.W.Frag} {m m' : Map} {H H' : Hp} {a : Addr} {xs : List V} (st : Stp m H m' H') (ok : MutOk m H) (h : SqT K H a xs) : SqT K H' a xs := by
  rcases h with h | h
  · exact .inl (Rd.keep (fun o => st.keep a o fun z => ok.tup h (.inl z)) h)
  · exact .inr h
mutual
theorem Rp.stp {K : PySem.W.Frag} {m m' : Map} {H H' : Hp} (st : Stp m H m' H') (ok : MutOk m H) : ∀ (d : D) (v : V), Rp K m H v d → Rp K m' H' v d
  | .none, _, h => by cases h; exact .non
  | .bool b, _, h => by cases h; exact .bl b
  | .int i, _, h => by cases h; exact .int i
  | .str x, _, h => by cases h; exact .str x
  | .list ds, _, h => by
    cases h with
    | lst h1 h2 => exact .lst (h1.stp st) (RpAll.stp st ok ds _ h2)
  | .tuple ds, _, h => by
    cases h with
    | tup h1 h2 => exact .tup (sqT_stp st ok h1) (RpAll.stp st ok ds _ h2)
  | .dict es, _, h => by
    cases h with
    | dic h1 h2 h3 =>
      exact .dic (st.keep _ _ (fun z => h2 (.inl z)) h1) (st.nohas h2 ⟨_, h1⟩) h3
theorem RpAll.stp {K : PySem.W.Frag} {m m' : Map} {H H' : Hp} (st : Stp m H m' H') (ok : MutOk m H) : ∀ (ds : List D) (vs : List V), RpAll K m H vs ds → RpAll K m' H' vs ds
  | [], _, h => by cases h; exact .nil
  | d :: ds, _, h => by
    cases h with
    | cons h1 h2 => exact .cons (Rp.stp st ok d _ h1) (RpAll.stp st ok ds _ h2)
end

/-- a value of the language -/
def RV (K : PySem.W.Frag) (m : Map) (H : Hp) (x : V) : Vl → Prop
  | .p d => Rp K m H x d
  | .r n => n < m.m.length ∧ ∀ a, m.m[n]? = some (some a) → x = .ref a
  | .s ns => ∃ a, x = .ref a ∧ WL K m H a (ns.map V.int)
theorem RV.stp {K : PySem.W.Frag} {m m' : Map} {H H' : Hp} {x : V} {v : Vl} (st : Stp m H m' H') (ok : MutOk m H) (h : RV K m H x v) : RV K m' H' x v := by
  cases v with
  | p d => exact Rp.stp st ok d x h
  | r n => exact ⟨Nat.lt_of_lt_of_le h.1 st.len, fun a e => h.2 a (st.old n a h.1 e)⟩
  | s ns => obtain ⟨a, e, w⟩ := h; exact ⟨a, e, w.stp st⟩

/-- a cell stands at a -/
def CellOk (K : PySem.W.Frag) (m : Map) (H : Hp) (a : Addr) : Cell → Prop
  | .lst ds => ∃ xs, H a = some (.lst xs) ∧ RpAll K m H xs ds
  | .dct es => ∃ kvs, H a = some (.dK kvs) ∧ DicR kvs es
  | .dead => False
theorem CellOk.keep {K : PySem.W.Frag} {m m' : Map} {H H' : Hp} {a a' : Addr} {c : Cell} (h : CellOk K m H a c) (e : ∀ o, H a = some o → H' a' = some o) (r : ∀ ds vs, RpAll K m H vs ds → RpAll K m' H' vs ds) : CellOk K m' H' a' c := by
  cases c with
  | lst ds => obtain ⟨xs, h1, h2⟩ := h; exact ⟨xs, e _ h1, r ds xs h2⟩
  | dct es => obtain ⟨kvs, h1, h2⟩ := h; exact ⟨kvs, e _ h1, h2⟩
  | dead => exact h.elim
/-- the store -/
structure RS (K : PySem.W.Frag) (m : Map) (H : Hp) (S : Store) : Prop where
  len : m.m.length = S.length
  inj : ∀ (i j : Nat) (a : Addr), m.m[i]? = some (some a) → m.m[j]? = some (some a) → i = j
  cell : ∀ (i : Nat) (a : Addr), m.m[i]? = some (some a) → ∃ c, S[i]? = some c ∧ CellOk K m H a c
  liveC : ∀ (i : Nat) c, S[i]? = some c → c ≠ .dead → ∃ a, m.m[i]? = some (some a)
  res : ∀ a ∈ m.r, some a ∉ m.m ∧ ∃ xs, H a = some (.lst xs)
theorem RS.live {K : PySem.W.Frag} {m : Map} {H : Hp} {S : Store} (h : RS K m H S) (i : Nat) (ds : List D) (e : S[i]? = some (.lst ds)) : ∃ a, m.m[i]? = some (some a) := h.liveC i _ e (fun z => nomatch z)
theorem mem_ix {m : List (Option Addr)} {a : Addr} (h : some a ∈ m) : ∃ i : Nat, m[i]? = some (some a) := List.mem_iff_getElem?.mp h
theorem RS.mut {K : PySem.W.Frag} {m : Map} {H : Hp} {S : Store} (h : RS K m H S) : MutOk m H := fun a ha => by
  rcases ha with ha | ha
  case inr => exact .inl (h.res a ha).2
  obtain ⟨i, e⟩ := mem_ix ha
  obtain ⟨c, _, hc⟩ := h.cell i a e
  cases c with
  | lst ds => obtain ⟨xs, e, _⟩ := hc; exact .inl ⟨xs, e⟩
  | dct kvs => obtain ⟨xs, e, _⟩ := hc; exact .inr (.inl ⟨xs, e⟩)
  | dead => exact hc.elim
/-- objects added alone -/
theorem RS.same {K : PySem.W.Frag} {m : Map} {H H' : Hp} {S : Store} (h : RS K m H S) (s : Same H H') : RS K m H' S := by
  refine ⟨h.len, h.inj, fun i a e => ?_, h.liveC, fun a ha => ⟨(h.res a ha).1, let ⟨xs, e⟩ := (h.res a ha).2; ⟨xs, s _ _ e⟩⟩⟩
  obtain ⟨c, e1, hc⟩ := h.cell i a e
  exact ⟨c, e1, hc.keep (fun o q => s _ _ q) (RpAll.stp (Stp.same s) h.mut)⟩

/-- names' values -/
structure RE (K : PySem.W.Frag) (m : Map) (H : Hp) (ρ : Rho) (σ : L2.St) : Prop where
  len : ρ.length = σ.length
  get : ∀ (i : Nat) v, ρ[i]? = some (some v) → ∃ x, σ[i]? = some (some x) ∧ RV K m H x v
theorem RE.stp {K : PySem.W.Frag} {m m' : Map} {H H' : Hp} {ρ : Rho} {σ : L2.St} (st : Stp m H m' H') (ok : MutOk m H) (h : RE K m H ρ σ) : RE K m' H' ρ σ :=
  ⟨h.len, fun i v e => let ⟨x, e1, r⟩ := h.get i v e; ⟨x, e1, r.stp st ok⟩⟩
theorem RE.set {K : PySem.W.Frag} {m : Map} {H : Hp} {ρ : Rho} {σ : L2.St} (h : RE K m H ρ σ) (i : Nat) {v : Vl} {x : V} (r : RV K m H x v) : RE K m H (ρ.set i (some v)) (σ.set i (some x)) := by
  refine ⟨by simp [h.len], fun j w e => ?_⟩
  by_cases hj : j = i
  · subst hj
    by_cases hl : j < ρ.length
    · rw [List.getElem?_set_self hl] at e
      cases e
      exact ⟨x, by rw [List.getElem?_set_self (by rw [← h.len]; exact hl)], r⟩
    · rw [List.getElem?_eq_none (by simpa using hl)] at e; cases e
  · rw [List.getElem?_set_ne (Ne.symm hj)] at e
    obtain ⟨y, e1, r1⟩ := h.get j w e
    exact ⟨y, by rw [List.getElem?_set_ne (Ne.symm hj)]; exact e1, r1⟩
theorem RE.unset {K : PySem.W.Frag} {m : Map} {H : Hp} {ρ : Rho} {σ : L2.St} (h : RE K m H ρ σ) (i : Nat) : RE K m H (ρ.set i none) (σ.set i none) := by
  refine ⟨by simp [h.len], fun j w e => ?_⟩
  by_cases hj : j = i
  · subst hj
    by_cases hl : j < ρ.length
    · rw [List.getElem?_set_self hl] at e; cases e
    · rw [List.getElem?_eq_none (by simpa using hl)] at e; cases e
  · rw [List.getElem?_set_ne (Ne.symm hj)] at e
    obtain ⟨y, e1, r1⟩ := h.get j w e
    exact ⟨y, by rw [List.getElem?_set_ne (Ne.symm hj)]; exact e1, r1⟩
theorem RE.wipe {K : PySem.W.Frag} {m : Map} {H : Hp} {ρ : Rho} {σ : L2.St} (h : RE K m H ρ σ) : ∀ vs : List Nat, RE K m H (wipeR ρ vs) (wipe σ vs)
  | [] => h
  | v :: vs => (RE.wipe h vs).unset v

/-- what may be read as d -/
inductive WR (K : PySem.W.Frag) (m : Map) (H : Hp) : V → D → Prop
  | p {x : V} {d : D} : Rp K m H x d → WR K m H x d
  | l {a : Addr} {xs : List V} {ds : List D} : SqL K H a xs → RpAll K m H xs ds → WR K m H (.ref a) (.list ds)
  | d {a : Addr} {kvs : List (L2.Key × V)} {es : List (D × D)} : H a = some (.dK kvs) → DicR kvs es → WR K m H (.ref a) (.dict es)
theorem WR.dict {K : PySem.W.Frag} {m : Map} {H : Hp} {v : V} {es : List (D × D)} (h : WR K m H v (.dict es)) : ∃ a kvs, v = .ref a ∧ H a = some (.dK kvs) ∧ DicR kvs es := by
  cases h with
  | p h => cases h with | dic h1 h2 h3 => exact ⟨_, _, rfl, h1, h3⟩
  | d h1 h2 => exact ⟨_, _, rfl, h1, h2⟩
theorem rpAll_ints {K : PySem.W.Frag} {m : Map} {H : Hp} : ∀ ns : List Int, RpAll K m H (ns.map V.int) (ns.map .int)
  | [] => .nil
  | n :: ns => .cons (.int n) (rpAll_ints ns)
theorem WR.of {K : PySem.W.Frag} {m : Map} {H : Hp} {S : Store} {x : V} {v : Vl} {d : D} (hS : RS K m H S) (r : RV K m H x v) (h : rd S v = some d) : WR K m H x d := by
  cases v with
  | p e =>
    have : e = d := Option.some.inj h
    subst this
    exact .p r
  | s ns =>
    have : PyData.list (ns.map .int) = d := Option.some.inj h
    subst this
    obtain ⟨a, rfl, w⟩ := r
    exact .l w.sq (rpAll_ints ns)
  | r n =>
    simp only [rd] at h
    split at h
    · next xs e =>
      cases h
      obtain ⟨a, ea⟩ := hS.live n _ e
      obtain ⟨c, e1, hc⟩ := hS.cell n a ea
      rw [e] at e1; cases e1
      obtain ⟨ys, e2, r2⟩ := hc
      rw [r.2 a ea]
      exact .l (.inl (.inl e2)) r2
    · next es e =>
      cases h
      obtain ⟨a, ea⟩ := hS.liveC n _ e (fun z => nomatch z)
      obtain ⟨c, e1, hc⟩ := hS.cell n a ea
      rw [e] at e1; cases e1
      obtain ⟨ys, e2, r2⟩ := hc
      rw [r.2 a ea]
      exact .d e2 r2
    · cases h

theorem rpAll_len {K : PySem.W.Frag} {m : Map} {H : Hp} : ∀ {vs : List V} {ds : List D}, RpAll K m H vs ds → vs.length = ds.length
  | _, _, .nil => rfl
  | _, _, .cons _ t => by rw [List.length_cons, List.length_cons, rpAll_len t]
theorem rpAll_get {K : PySem.W.Frag} {m : Map} {H : Hp} : ∀ {vs : List V} {ds : List D} {i : Nat} {d : D}, RpAll K m H vs ds → ds[i]? = some d → ∃ v, vs[i]? = some v ∧ Rp K m H v d
  | _, _, _, _, .nil, e => by simp at e
  | _, _, 0, _, .cons r _, e => by simp at e; subst e; exact ⟨_, rfl, r⟩
  | _, _, i + 1, _, .cons _ t, e => by
    obtain ⟨v, h1, h2⟩ := rpAll_get (i := i) t (by simpa using e)
    exact ⟨v, by simpa using h1, h2⟩
theorem rpAll_append {K : PySem.W.Frag} {m : Map} {H : Hp} : ∀ {vs ws : List V} {ds es : List D}, RpAll K m H vs ds → RpAll K m H ws es → RpAll K m H (vs ++ ws) (ds ++ es)
  | _, _, _, _, .nil, h => h
  | _, _, _, _, .cons r t, h => .cons r (rpAll_append t h)
theorem rpAll_take {K : PySem.W.Frag} {m : Map} {H : Hp} : ∀ {vs : List V} {ds : List D} (n : Nat), RpAll K m H vs ds → RpAll K m H (vs.take n) (ds.take n)
  | _, _, 0, _ => .nil
  | _, _, _ + 1, .nil => .nil
  | _, _, n + 1, .cons r t => .cons r (rpAll_take n t)
theorem rpAll_drop {K : PySem.W.Frag} {m : Map} {H : Hp} : ∀ {vs : List V} {ds : List D} (n : Nat), RpAll K m H vs ds → RpAll K m H (vs.drop n) (ds.drop n)
  | _, _, 0, r => r
  | _, _, _ + 1, .nil => .nil
  | _, _, n + 1, .cons _ t => rpAll_drop n t
theorem rpAll_reverse {K : PySem.W.Frag} {m : Map} {H : Hp} : ∀ {vs : List V} {ds : List D}, RpAll K m H vs ds → RpAll K m H vs.reverse ds.reverse
  | _, _, .nil => .nil
  | _, _, .cons r t => by
    rw [List.reverse_cons, List.reverse_cons]
    exact rpAll_append (rpAll_reverse t) (.cons r .nil)
theorem rpAll_set {K : PySem.W.Frag} {m : Map} {H : Hp} {v : V} {d : D} (r : Rp K m H v d) : ∀ {vs : List V} {ds : List D} (i : Nat), RpAll K m H vs ds → RpAll K m H (vs.set i v) (ds.set i d)
  | _, _, _, .nil => .nil
  | _, _, 0, .cons _ t => .cons r t
  | _, _, i + 1, .cons q t => .cons q (rpAll_set r i t)
theorem rpAll_erase {K : PySem.W.Frag} {m : Map} {H : Hp} : ∀ {vs : List V} {ds : List D} (i : Nat), RpAll K m H vs ds → RpAll K m H (vs.eraseIdx i) (ds.eraseIdx i)
  | _, _, _, .nil => .nil
  | _, _, 0, .cons _ t => t
  | _, _, i + 1, .cons q t => .cons q (rpAll_erase i t)
theorem rpAll_dropLast {K : PySem.W.Frag} {m : Map} {H : Hp} {vs : List V} {ds : List D} (h : RpAll K m H vs ds) : RpAll K m H vs.dropLast ds.dropLast := by
  rw [List.dropLast_eq_take, List.dropLast_eq_take, rpAll_len h]
  exact rpAll_take _ h
theorem rpAll_rep {K : PySem.W.Frag} {m : Map} {H : Hp} {vs : List V} {ds : List D} (h : RpAll K m H vs ds) : ∀ n : Nat, RpAll K m H (List.replicate n vs).flatten (List.replicate n ds).flatten
  | 0 => .nil
  | n + 1 => by
    rw [List.replicate_succ, List.replicate_succ, List.flatten_cons, List.flatten_cons]
    exact rpAll_append h (rpAll_rep h n)

mutual
theorem Rp.dp {K : PySem.W.Frag} {m : Map} {H : Hp} : ∀ (d : D) (v : V), d.plain = true → Rp K m H v d → Dp K H v d
  | .none, _, _, h => by cases h; exact .non
  | .bool b, _, _, h => by cases h; exact .bl b
  | .int i, _, _, h => by cases h; exact .int i
  | .str x, _, _, h => by cases h; exact .str x
  | .list ds, _, p, h => by
    cases h with
    | lst h1 h2 => exact .lst h1.sq (RpAll.dp ds _ p h2)
  | .tuple ds, _, p, h => by
    cases h with
    | tup h1 h2 => exact .tup h1 (RpAll.dp ds _ p h2)
  | .dict es, _, p, h => nomatch p
theorem RpAll.dp {K : PySem.W.Frag} {m : Map} {H : Hp} : ∀ (ds : List D) (vs : List V), PyData.plainAll ds = true → RpAll K m H vs ds → DpAll K H vs ds
  | [], _, _, h => by cases h; exact .nil
  | d :: ds, _, p, h => by
    have p' : d.plain = true ∧ PyData.plainAll ds = true := by simpa [PyData.plainAll] using p
    cases h with
    | cons h1 h2 => exact .cons (Rp.dp d _ p'.1 h1) (RpAll.dp ds _ p'.2 h2)
end
theorem WR.dp {K : PySem.W.Frag} {m : Map} {H : Hp} {v : V} {d : D} (p : d.plain = true) (h : WR K m H v d) : Dp K H v d := by
  cases h with
  | p h => exact Rp.dp d v p h
  | l h1 h2 => exact .lst h1 (RpAll.dp _ _ p h2)
  | d h1 h2 => exact nomatch p
theorem WR.list {K : PySem.W.Frag} {m : Map} {H : Hp} {v : V} {ds : List D} (h : WR K m H v (.list ds)) : ∃ a xs, v = .ref a ∧ SqL K H a xs ∧ RpAll K m H xs ds := by
  cases h with
  | p h => cases h with | lst h1 h2 => exact ⟨_, _, rfl, h1.sq, h2⟩
  | l h1 h2 => exact ⟨_, _, rfl, h1, h2⟩
theorem WR.tuple {K : PySem.W.Frag} {m : Map} {H : Hp} {v : V} {ds : List D} (h : WR K m H v (.tuple ds)) : ∃ a xs, v = .ref a ∧ SqT K H a xs ∧ RpAll K m H xs ds := by
  cases h with
  | p h => cases h with | tup h1 h2 => exact ⟨_, _, rfl, h1, h2⟩
theorem WR.int {K : PySem.W.Frag} {m : Map} {H : Hp} {v : V} {i : Int} (h : WR K m H v (.int i)) : v = .int i := by
  cases h with
  | p h => cases h; rfl
theorem WR.str {K : PySem.W.Frag} {m : Map} {H : Hp} {v : V} {i : Str} (h : WR K m H v (.str i)) : v = .str i := by
  cases h with
  | p h => cases h; rfl
theorem WR.bool {K : PySem.W.Frag} {m : Map} {H : Hp} {v : V} {i : Bool} (h : WR K m H v (.bool i)) : v = .bl i := by
  cases h with
  | p h => cases h; rfl
theorem WR.none {K : PySem.W.Frag} {m : Map} {H : Hp} {v : V} (h : WR K m H v .none) : v = .non := by
  cases h with
  | p h => cases h; rfl

theorem same_upd {H : Hp} {p : Addr} {o : HO} (h : H p = none) : Same H (upd H p o) := fun b x e => by
  rw [upd_ne (ne_of_none e h)]
  exact e
/-- a new tuple, a new list -/
theorem Rp.newT {K : PySem.W.Frag} {m : Map} {H : Hp} {p : Addr} {xs : List V} {ds : List D} (ok : MutOk m H) (hn : H p = none) (h : RpAll K m H xs ds) : Rp K m (upd H p (.tup xs)) (.ref p) (.tuple ds) :=
  .tup (.inl (.inl upd_same)) (RpAll.stp (Stp.same (same_upd hn)) ok ds xs h)
theorem Rp.newL {K : PySem.W.Frag} {m : Map} {H : Hp} {p : Addr} {xs : List V} {ds : List D} (ok : MutOk m H) (hn : H p = none) (h : RpAll K m H xs ds) : Rp K m (upd H p (.lst xs)) (.ref p) (.list ds) := by
  refine .lst ⟨upd_same, fun hm => ?_⟩ (RpAll.stp (Stp.same (same_upd hn)) ok ds xs h)
  rcases ok p hm with ⟨ys, e⟩ | ⟨ys, e⟩ | ⟨ys, e⟩ <;> (rw [hn] at e; cases e)

/-! ### an object that may change is changed -/
theorem Map.ne {m : Map} {a b : Addr} (ha : m.has a) (hb : ¬ m.has b) : b ≠ a := fun z => hb (by rw [z]; exact ha)
theorem FL.mut {m : Map} {H : Hp} {a b : Addr} {o : HO} {xs : List V} (ha : m.has a) (h : FL m H b xs) : FL m (upd H a o) b xs :=
  ⟨by rw [upd_ne (Map.ne ha h.2)]; exact h.1, h.2⟩
theorem WL.mut {K : PySem.W.Frag} {m : Map} {H : Hp} {a b : Addr} {o : HO} {xs : List V} (ha : m.has a) (h : WL K m H b xs) : WL K m (upd H a o) b xs := by
  rcases h with ⟨h, hm⟩ | h
  · exact .inl ⟨Rd.keep (fun o e => by rw [upd_ne (Map.ne ha hm)]; exact e) h, hm⟩
  · exact .inr h
mutual
theorem Rp.mut {K : PySem.W.Frag} {m : Map} {H : Hp} {a : Addr} {o : HO} (ha : m.has a) (ok : MutOk m H) : ∀ (d : D) (v : V), Rp K m H v d → Rp K m (upd H a o) v d
  | .none, _, h => by cases h; exact .non
  | .bool b, _, h => by cases h; exact .bl b
  | .int i, _, h => by cases h; exact .int i
  | .str x, _, h => by cases h; exact .str x
  | .list ds, _, h => by
    cases h with
    | lst h1 h2 => exact .lst (h1.mut ha) (RpAll.mut ha ok ds _ h2)
  | .tuple ds, _, h => by
    cases h with
    | tup h1 h2 =>
      refine .tup ?_ (RpAll.mut ha ok ds _ h2)
      rcases h1 with h1 | h1
      · exact .inl (Rd.keep (fun o e => by rw [upd_ne (Map.ne ha (ok.tup h1))]; exact e) h1)
      · exact .inr h1
  | .dict es, _, h => by
    cases h with
    | dic h1 h2 h3 => exact .dic (by rw [upd_ne (Map.ne ha h2)]; exact h1) h2 h3
theorem RpAll.mut {K : PySem.W.Frag} {m : Map} {H : Hp} {a : Addr} {o : HO} (ha : m.has a) (ok : MutOk m H) : ∀ (ds : List D) (vs : List V), RpAll K m H vs ds → RpAll K m (upd H a o) vs ds
  | [], _, h => by cases h; exact .nil
  | d :: ds, _, h => by
    cases h with
    | cons h1 h2 => exact .cons (Rp.mut ha ok d _ h1) (RpAll.mut ha ok ds _ h2)
end
theorem RV.mut {K : PySem.W.Frag} {m : Map} {H : Hp} {a : Addr} {o : HO} {x : V} {v : Vl} (ha : m.has a) (ok : MutOk m H) (h : RV K m H x v) : RV K m (upd H a o) x v := by
  cases v with
  | p d => exact Rp.mut ha ok d x h
  | r n => exact h
  | s ns => obtain ⟨a, e, w⟩ := h; exact ⟨a, e, w.mut ha⟩
/-- a cell is written -/
theorem RS.writeC {K : PySem.W.Frag} {m : Map} {H : Hp} {S : Store} {n : Nat} {a : Addr} {o : HO} {c' : Cell} (h : RS K m H S) (e : m.m[n]? = some (some a)) (r : CellOk K m (upd H a o) a c') : RS K m (upd H a o) (S.set n c') := by
  have hm : some a ∈ m.m := List.mem_iff_getElem?.mpr ⟨n, e⟩
  have ha : m.has a := .inl hm
  have hn : n < S.length := by rw [← h.len]; exact (List.getElem?_eq_some_iff.mp e).1
  refine ⟨by simp [h.len], h.inj, fun i b eb => ?_, fun i es ei hd => ?_, fun b hb => ?_⟩
  · by_cases hi : i = n
    · subst hi
      rw [e] at eb; cases eb
      exact ⟨c', by rw [List.getElem?_set_self hn], r⟩
    · obtain ⟨c, e1, hc⟩ := h.cell i b eb
      have hb : b ≠ a := fun z => hi (h.inj i n a (by rw [← z]; exact eb) e)
      exact ⟨c, by rw [List.getElem?_set_ne (Ne.symm hi)]; exact e1, hc.keep (fun o q => by rw [upd_ne hb]; exact q) (RpAll.mut ha h.mut)⟩
  · by_cases hi : i = n
    · subst hi; exact ⟨a, e⟩
    · rw [List.getElem?_set_ne (Ne.symm hi)] at ei
      exact h.liveC i es ei hd
  · obtain ⟨h1, ys, e2⟩ := h.res b hb
    exact ⟨h1, ys, by rw [upd_ne (show b ≠ a from fun z => h1 (by rw [z]; exact hm))]; exact e2⟩
theorem RS.write {K : PySem.W.Frag} {m : Map} {H : Hp} {S : Store} {n : Nat} {a : Addr} {xs : List V} {ds : List D} (h : RS K m H S) (e : m.m[n]? = some (some a)) (r : RpAll K m H xs ds) : RS K m (upd H a (.lst xs)) (S.set n (.lst ds)) :=
  h.writeC e ⟨xs, upd_same, RpAll.mut (.inl (List.mem_iff_getElem?.mpr ⟨n, e⟩)) h.mut ds xs r⟩
theorem Stp.write {m : Map} {H : Hp} {a : Addr} {o : HO} (hm : some a ∈ m.m) : Stp m H m (upd H a o) :=
  ⟨fun b o' hb e => by rw [upd_ne (show b ≠ a from fun z => hb (by rw [z]; exact hm))]; exact e, Nat.le_refl _, fun _ _ _ h => h, fun _ h => .inl h, rfl⟩
/-- a new cell -/
def Map.more (M : Map) (a : Addr) : Map := ⟨M.m ++ [some a], M.r⟩
theorem Stp.more {m : Map} {H : Hp} {p : Addr} {o : HO} (hn : H p = none) : Stp m H (m.more p) (upd H p o) := by
  refine ⟨fun b u _ e => same_upd hn b u e, by simp [Map.more], fun n a hl e => ?_, fun a ha => ?_, rfl⟩
  · simp only [Map.more] at e
    rw [List.getElem?_append_left hl] at e
    exact e
  · simp only [Map.more, List.mem_append, List.mem_singleton, Option.some.injEq] at ha
    rcases ha with ha | ha
    · exact .inl ha
    · subst ha; exact .inr hn
theorem RS.moreC {K : PySem.W.Frag} {m : Map} {H : Hp} {S : Store} {p : Addr} {o : HO} {c' : Cell} (h : RS K m H S) (hn : H p = none) (r : CellOk K (m.more p) (upd H p o) p c') : RS K (m.more p) (upd H p o) (S ++ [c']) := by
  have ok := h.mut
  have st : Stp m H (m.more p) (upd H p o) := Stp.more hn
  have hp : some p ∉ m.m := fun z => by rcases ok p (.inl z) with ⟨_, e⟩ | ⟨_, e⟩ | ⟨_, e⟩ <;> (rw [hn] at e; cases e)
  refine ⟨by simp [Map.more, h.len], fun i j a e1 e2 => ?_, fun i a e => ?_, fun i es e hd => ?_, fun a ha => ?_⟩
  · simp only [Map.more, List.getElem?_append, List.getElem?_singleton] at e1 e2
    split at e1 <;> split at e2
    · exact h.inj i j a e1 e2
    · split at e2 <;> cases e2
      exact absurd (List.mem_iff_getElem?.mpr ⟨i, e1⟩) hp
    · split at e1 <;> cases e1
      exact absurd (List.mem_iff_getElem?.mpr ⟨j, e2⟩) hp
    · split at e1 <;> split at e2 <;> simp_all <;> omega
  · simp only [Map.more, List.getElem?_append, List.getElem?_singleton] at e
    split at e
    · next hi =>
      obtain ⟨c, e1, hc⟩ := h.cell i a e
      exact ⟨c, by rw [List.getElem?_append_left (by rw [← h.len]; exact hi)]; exact e1, hc.keep (fun o q => same_upd hn _ _ q) (RpAll.stp st ok)⟩
    · next hi =>
      split at e <;> cases e
      refine ⟨c', ?_, r⟩
      rw [List.getElem?_append_right (by rw [← h.len]; omega), ← h.len]
      simp_all
  · simp only [List.getElem?_append, List.getElem?_singleton] at e
    split at e
    · next hi =>
      obtain ⟨a, ea⟩ := h.liveC i es e hd
      exact ⟨a, by simp only [Map.more]; rw [List.getElem?_append_left (by rw [h.len]; exact hi)]; exact ea⟩
    · next hi =>
      split at e <;> cases e
      refine ⟨p, ?_⟩
      simp only [Map.more]
      rw [List.getElem?_append_right (by rw [h.len]; omega), h.len]
      simp_all
  · obtain ⟨h1, ys, e⟩ := h.res a ha
    refine ⟨fun z => ?_, ys, same_upd hn _ _ e⟩
    simp only [Map.more, List.mem_append, List.mem_singleton, Option.some.injEq] at z
    rcases z with z | z
    · exact h1 z
    · subst z; rw [hn] at e; cases e
theorem RS.more {K : PySem.W.Frag} {m : Map} {H : Hp} {S : Store} {p : Addr} {xs : List V} {ds : List D} (h : RS K m H S) (hn : H p = none) (r : RpAll K m H xs ds) : RS K (m.more p) (upd H p (.lst xs)) (S ++ [.lst ds]) :=
  h.moreC hn ⟨xs, upd_same, RpAll.stp (Stp.more hn) h.mut ds xs r⟩
/-- a cell is given up -/
def Map.drop (M : Map) (n : Nat) : Map := ⟨M.m.set n none, M.r⟩
theorem mem_set_none {m : List (Option Addr)} {n : Nat} {a : Addr} (h : some a ∈ m.set n none) : some a ∈ m := by
  rcases List.mem_or_eq_of_mem_set h with h | h
  · exact h
  · cases h
theorem Stp.drop {m : Map} {H : Hp} (n : Nat) : Stp m H (m.drop n) H := by
  refine ⟨fun _ _ _ e => e, by simp [Map.drop], fun k a hl e => ?_, fun a ha => .inl (mem_set_none ha), rfl⟩
  simp only [Map.drop] at e
  by_cases hk : k = n
  · subst hk
    rw [List.getElem?_set_self hl] at e; cases e
  · rw [List.getElem?_set_ne (Ne.symm hk)] at e; exact e
theorem RS.drop {K : PySem.W.Frag} {m : Map} {H : Hp} {S : Store} (h : RS K m H S) (n : Nat) : RS K (m.drop n) H (S.set n .dead) := by
  have st : Stp m H (m.drop n) H := Stp.drop n
  have old : ∀ (i : Nat) (a : Addr), (m.drop n).m[i]? = some (some a) → m.m[i]? = some (some a) ∧ i ≠ n := fun i a e => by
    have hi : i < m.m.length := by
      have := (List.getElem?_eq_some_iff.mp e).1
      simpa [Map.drop] using this
    refine ⟨st.old i a hi e, fun z => ?_⟩
    subst z
    simp only [Map.drop] at e
    rw [List.getElem?_set_self hi] at e; cases e
  refine ⟨by simp [Map.drop, h.len], fun i j a e1 e2 => h.inj i j a (old i a e1).1 (old j a e2).1, fun i a e => ?_, fun i es e hd => ?_, fun a ha => ⟨fun z => (h.res a ha).1 (mem_set_none z), (h.res a ha).2⟩⟩
  · obtain ⟨e', hi⟩ := old i a e
    obtain ⟨c, e1, hc⟩ := h.cell i a e'
    exact ⟨c, by rw [List.getElem?_set_ne (Ne.symm hi)]; exact e1, hc.keep (fun _ q => q) (RpAll.stp st h.mut)⟩
  · by_cases hi : i = n
    · subst hi
      by_cases hl : i < S.length
      · rw [List.getElem?_set_self hl] at e; cases e; exact absurd rfl hd
      · rw [List.getElem?_eq_none (by simpa using hl)] at e; cases e
    · rw [List.getElem?_set_ne (Ne.symm hi)] at e
      obtain ⟨a, ea⟩ := h.liveC i es e hd
      exact ⟨a, by simp only [Map.drop]; rw [List.getElem?_set_ne (Ne.symm hi)]; exact ea⟩
theorem Rp.given {K : PySem.W.Frag} {m : Map} {H : Hp} {S : Store} {n : Nat} {a : Addr} {xs : List V} {ds : List D} (h : RS K m H S) (e : m.m[n]? = some (some a)) (hx : H a = some (.lst xs)) (r : RpAll K m H xs ds) : Rp K (m.drop n) H (.ref a) (.list ds) := by
  refine .lst ⟨hx, fun hm => ?_⟩ (RpAll.stp (Stp.drop n) h.mut ds xs r)
  rcases hm with hm | hm
  · obtain ⟨i, ei⟩ := mem_ix hm
    have hi : i < m.m.length := by
      have := (List.getElem?_eq_some_iff.mp ei).1
      simpa [Map.drop] using this
    have e2 := (Stp.drop (m := m) (H := H) n).old i a hi ei
    have := h.inj i n a e2 e
    subst this
    simp only [Map.drop] at ei
    rw [List.getElem?_set_self hi] at ei; cases ei
  · exact (h.res a hm).1 (List.mem_iff_getElem?.mpr ⟨n, e⟩)
end Pl

set_option Elab.async false
set_option linter.all false
set_option autoImplicit false
set_option maxRecDepth 100000
/-! PA3: operations by values. -/
namespace Pl
open PySem PySem.Spec PyProof.Rows L2

/-- what an operation on data asks: the result is laid, all else stays -/
def Fin (K : PySem.W.Frag) (m : Map) (H : Hp) (r : D) (Q : VK) : Prop := ∀ x H', Same H H' → Rp K m H' x r → Q x H'
def rB (K : PySem.W.Frag) (o : Bop) : R2 := fun x y H Q => ∃ m d e r, MutOk m H ∧ WR K m H x d ∧ WR K m H y e ∧ binD o d e = some r ∧ Fin K m H r Q

theorem Fin.at {K : PySem.W.Frag} {m : Map} {H : Hp} {r : D} {Q : VK} {x : V} (f : Fin K m H r Q) (h : Rp K m H x r) : Q x H := f x H (Same.refl H) h
theorem Fin.tup {K : PySem.W.Frag} {m : Map} {H : Hp} {ds : List D} {Q : VK} {xs : List V} (ok : MutOk m H) (f : Fin K m H (.tuple ds) Q) (h : RpAll K m H xs ds) : ∀ p, H p = none → Q (.ref p) (upd H p (.tup xs)) :=
  fun p hn => f _ _ (same_upd hn) (Rp.newT ok hn h)
theorem Fin.lst {K : PySem.W.Frag} {m : Map} {H : Hp} {ds : List D} {Q : VK} {xs : List V} (ok : MutOk m H) (f : Fin K m H (.list ds) Q) (h : RpAll K m H xs ds) : ∀ p, H p = none → Q (.ref p) (upd H p (.lst xs)) :=
  fun p hn => f _ _ (same_upd hn) (Rp.newL ok hn h)

theorem okLen_le {n : Nat} (h : okLen n = true) : n ≤ sizeLine := of_decide_eq_true h
theorem Same.stp {m : Map} {H H' : Hp} (s : Same H H') : Stp m H m H' := Stp.same s

section
variable {X : Cx}
/-- list + list, whatever is read -/
def rCatL (K : PySem.W.Frag) : R2 := fun x y H Q => ∃ l b xs zs, x = .ref l ∧ y = .ref b ∧ SqL K H l xs ∧ SqL K H b zs ∧ xs.length + zs.length ≤ sizeLine ∧ ∀ p, H p = none → Q (.ref p) (upd H p (.lst (xs ++ zs)))
theorem op_catL : OpR X (binaryOp .Add) (rCatL X.K) := by
  intro pins s σ H x y v u Q I rx ry h
  obtain ⟨l, b, xs, zs, rfl, rfl, hH, hB, hz, q⟩ := h
  cases rx
  cases ry
  obtain ⟨its, r, pl, hl⟩ := I.list hH
  obtain ⟨its2, r2, pl2, hl2⟩ := I.list hB
  obtain ⟨⟨cls, dd, data, sl⟩, ho, hc, n, hd⟩ := pl.isList
  obtain ⟨⟨cls2, dd2, data2, sl2⟩, ho2, hc2, n2, hd2⟩ := pl2.isList
  simp only at hc hd hc2 hd2
  subst hc hd hc2 hd2
  have e : its.toArray ++ its2.toArray = (its ++ its2).toArray := by simp
  refine concat_meets ⟨_, ho, rfl⟩ ⟨_, ho2, rfl⟩ noFill_list_add seq_list_add PySem.F.slot_list_add PySem.F.entry_list_add (PySem.F.args_list_add_2 _ _) (list_addW l b its.toArray its2.toArray n n2 dd dd2 sl sl2 (by rw [List.size_toArray, List.size_toArray, ← r.length, ← r2.length]; exact hz)) ⟨ho, ho2, ?_⟩
  rw [e]
  refine ⟨.ref _, _, I.lnew (t' := s.toks) (r.append r2) (by rw [List.length_append]; omega), rfl, q _ I.fresh⟩

theorem cr_small {i : Int} (h : small i = true) : -(2 ^ 64) < i ∧ i < 2 ^ 64 := of_decide_eq_true h

theorem op_add3 : OpR X (binaryOp .Add) (rB X.K .add) := by
  intro pins s σ H x y v u Q I rx ry ⟨m, d, e, r, ok, hx, hy, hb, f⟩
  cases d <;> cases e <;> first | (simp [binD] at hb; done) | skip
  · simp only [binD, Option.some.injEq] at hb; subst hb
    cases hx.int; cases hy.int
    exact op_add pins s σ H _ _ v u Q I rx ry ⟨_, _, rfl, rfl, f.at (.int _)⟩
  · simp only [binD] at hb
    split at hb
    · next hz =>
      simp only [Option.some.injEq] at hb; subst hb
      cases hx.str; cases hy.str
      exact op_add_str pins s σ H _ _ v u Q I rx ry ⟨_, _, rfl, rfl, okLen_le hz, f.at (.str _)⟩
    · cases hb
  · simp only [binD] at hb
    split at hb
    · next hz =>
      simp only [Option.some.injEq] at hb; subst hb
      obtain ⟨a, xs, rfl, h1, h2⟩ := hx.list
      obtain ⟨b, ys, rfl, h3, h4⟩ := hy.list
      exact op_catL pins s σ H _ _ v u Q I rx ry ⟨_, _, _, _, rfl, rfl, h1, h3, by rw [rpAll_len h2, rpAll_len h4]; exact okLen_le hz, f.lst ok (rpAll_append h2 h4)⟩
    · cases hb
  · simp only [binD] at hb
    split at hb
    · next hz =>
      simp only [Option.some.injEq] at hb; subst hb
      obtain ⟨a, xs, rfl, h1, h2⟩ := hx.tuple
      obtain ⟨b, ys, rfl, h3, h4⟩ := hy.tuple
      refine op_catA pins s σ H _ _ v u Q I rx ry ⟨_, _, _, _, rfl, rfl, h1, h3, by rw [rpAll_len h2, rpAll_len h4]; exact okLen_le hz, fun e => ?_, fun _ e => ?_, fun _ _ => f.tup ok (rpAll_append h2 h4)⟩
      · subst e
        have := rpAll_append h2 h4
        exact f.at (.tup h3 this)
      · subst e
        have := rpAll_append h2 h4
        rw [List.append_nil] at this
        exact f.at (.tup h1 this)
    · cases hb
theorem op_sub3 : OpR X (binaryOp .Sub) (rB X.K .sub) := by
  intro pins s σ H x y v u Q I rx ry ⟨m, d, e, r, ok, hx, hy, hb, f⟩
  cases d <;> cases e <;> first | (simp [binD] at hb; done) | skip
  simp only [binD, Option.some.injEq] at hb; subst hb
  cases hx.int; cases hy.int
  exact op_sub pins s σ H _ _ v u Q I rx ry ⟨_, _, rfl, rfl, f.at (.int _)⟩
theorem op_mul3 : OpR X (binaryOp .Mult) (rB X.K .mul) := by
  intro pins s σ H x y v u Q I rx ry ⟨m, d, e, r, ok, hx, hy, hb, f⟩
  cases d <;> cases e <;> first | (simp [binD] at hb; done) | skip
  · simp only [binD] at hb
    split at hb
    · next hz =>
      simp only [Option.some.injEq] at hb; subst hb
      cases hx.int; cases hy.int
      refine op_mul pins s σ H _ _ v u Q I rx ry ⟨_, _, rfl, rfl, ?_, f.at (.int _)⟩
      rw [Bool.or_eq_true] at hz
      rcases hz with hz | hz
      · exact .inl (cr_small hz)
      · exact .inr (cr_small hz)
    · cases hb
  · simp only [binD] at hb
    split at hb
    · next hz =>
      simp only [Option.some.injEq] at hb; subst hb
      obtain ⟨a, xs, rfl, h1, h2⟩ := hx.tuple
      cases hy.int
      obtain ⟨z1, z2, z3, z4⟩ := of_decide_eq_true hz
      refine op_repT pins s σ H _ _ v u Q I rx ry ⟨_, _, _, rfl, rfl, h1, ?_, z1, z2, by rw [rpAll_len h2]; exact z4, f.tup ok (rpAll_rep h2 _)⟩
      intro e
      have := rpAll_len h2
      rw [e] at this
      simp at this
      omega
    · cases hb
theorem op_fdiv3 : OpR X (binaryOp .FloorDiv) (rB X.K .fdiv) := by
  intro pins s σ H x y v u Q I rx ry ⟨m, d, e, r, ok, hx, hy, hb, f⟩
  cases d <;> cases e <;> first | (simp [binD] at hb; done) | skip
  simp only [binD] at hb
  split at hb
  · next hz =>
    simp only [Option.some.injEq] at hb; subst hb
    cases hx.int; cases hy.int
    exact op_fdiv pins s σ H _ _ v u Q I rx ry ⟨_, _, rfl, rfl, (show _ ∧ _ from of_decide_eq_true hz), f.at (.int _)⟩
  · cases hb
theorem op_mod3 : OpR X (binaryOp .Mod) (rB X.K .mod) := by
  intro pins s σ H x y v u Q I rx ry ⟨m, d, e, r, ok, hx, hy, hb, f⟩
  cases d <;> cases e <;> first | (simp [binD] at hb; done) | skip
  simp only [binD] at hb
  split at hb
  · next hz =>
    simp only [Option.some.injEq] at hb; subst hb
    cases hx.int; cases hy.int
    exact op_mod pins s σ H _ _ v u Q I rx ry ⟨_, _, rfl, rfl, of_decide_eq_true hz, f.at (.int _)⟩
  · cases hb

/-! ### comparisons -/
def rC (K : PySem.W.Frag) (o : Cop) : R2 := fun x y H Q => ∃ m d e b, MutOk m H ∧ WR K m H x d ∧ WR K m H y e ∧ cmpD o d e = some b ∧ Q (.bl b) H
theorem cmpOk_ok {d : D} (h : cmpOk d = true) : d.plain = true ∧ d.depth ≤ 200 := by
  unfold cmpOk at h
  rw [Bool.and_eq_true] at h
  exact ⟨h.1, of_decide_eq_true h.2⟩
theorem room_min {A : Around} {d e : D} (hu : A.units + 260 < cLine) (h : d.depth ≤ 200) : A.units + min d.depth e.depth < cLine := by
  have : min d.depth e.depth ≤ d.depth := Nat.min_le_left _ _
  omega
theorem op_eq3 (hu : X.A.units + 260 < cLine) : OpR X (compareOp .Eq) (rC X.K .eq) := by
  intro pins s σ H x y v u Q I rx ry ⟨m, d, e, b, ok, hx, hy, hb, q⟩
  simp only [cmpD] at hb
  split at hb
  · next hz =>
    rw [Bool.and_eq_true] at hz
    obtain ⟨p1, d1⟩ := cmpOk_ok hz.1
    obtain ⟨p2, d2⟩ := cmpOk_ok hz.2
    cases hb
    obtain ⟨as, r1⟩ := Dp.reads I d x v (hx.dp p1) rx
    obtain ⟨bs, r2⟩ := Dp.reads I e y u (hy.dp p2) ry
    exact SeqAt.eq_plain r1 r2 p1 p2 (room_min hu d1) ⟨.bl _, H, I, rfl, q⟩
  · cases hb
theorem op_ne3 (hu : X.A.units + 260 < cLine) : OpR X (compareOp .NotEq) (rC X.K .ne) := by
  intro pins s σ H x y v u Q I rx ry ⟨m, d, e, b, ok, hx, hy, hb, q⟩
  simp only [cmpD] at hb
  split at hb
  · next hz =>
    rw [Bool.and_eq_true] at hz
    obtain ⟨p1, d1⟩ := cmpOk_ok hz.1
    obtain ⟨p2, d2⟩ := cmpOk_ok hz.2
    cases hb
    obtain ⟨as, r1⟩ := Dp.reads I d x v (hx.dp p1) rx
    obtain ⟨bs, r2⟩ := Dp.reads I e y u (hy.dp p2) ry
    exact SeqAt.ne_plain r1 r2 p1 p2 (room_min hu d1) ⟨.bl _, H, I, rfl, q⟩
  · cases hb
theorem op_lt3 (hu : X.A.units + 260 < cLine) : OpR X (compareOp .Lt) (rC X.K .lt) := by
  intro pins s σ H x y v u Q I rx ry ⟨m, d, e, b, ok, hx, hy, hb, q⟩
  cases d <;> cases e <;> first | (simp [cmpD] at hb; done) | skip
  · cases hx.int; cases hy.int
    cases hb
    exact op_lt pins s σ H _ _ v u Q I rx ry ⟨_, _, rfl, rfl, q⟩
  · simp only [cmpD] at hb
    split at hb
    · next hz =>
      rw [Bool.and_eq_true, Bool.and_eq_true] at hz
      obtain ⟨p1, d1⟩ := cmpOk_ok hz.1
      obtain ⟨p2, d2⟩ := cmpOk_ok hz.2.1
      cases hb
      obtain ⟨as, r1⟩ := Dp.reads I _ x v (hx.dp p1) rx
      obtain ⟨bs, r2⟩ := Dp.reads I _ y u (hy.dp p2) ry
      exact PySem.W.lt_data r1 r2 hz.2.2 (fun z => nomatch z) (room_min hu d1) ⟨.bl _, H, I, rfl, q⟩
    · cases hb
theorem op_le3 : OpR X (compareOp .LtE) (rC X.K .le) := by
  intro pins s σ H x y v u Q I rx ry ⟨m, d, e, b, ok, hx, hy, hb, q⟩
  cases d <;> cases e <;> first | (simp [cmpD] at hb; done) | skip
  cases hx.int; cases hy.int
  cases hb
  exact op_le pins s σ H _ _ v u Q I rx ry ⟨_, _, rfl, rfl, q⟩
theorem op_gt3 : OpR X (compareOp .Gt) (rC X.K .gt) := by
  intro pins s σ H x y v u Q I rx ry ⟨m, d, e, b, ok, hx, hy, hb, q⟩
  cases d <;> cases e <;> first | (simp [cmpD] at hb; done) | skip
  cases hx.int; cases hy.int
  cases hb
  exact op_gt pins s σ H _ _ v u Q I rx ry ⟨_, _, rfl, rfl, q⟩
theorem op_ge3 : OpR X (compareOp .GtE) (rC X.K .ge) := by
  intro pins s σ H x y v u Q I rx ry ⟨m, d, e, b, ok, hx, hy, hb, q⟩
  cases d <;> cases e <;> first | (simp [cmpD] at hb; done) | skip
  cases hx.int; cases hy.int
  cases hb
  exact op_ge pins s σ H _ _ v u Q I rx ry ⟨_, _, rfl, rfl, q⟩
theorem WR.non_iff {K : PySem.W.Frag} {m : Map} {H : Hp} {x : V} {d : D} (h : WR K m H x d) : decide (x = .non) = isNon d := by
  cases h with
  | p h => cases h <;> simp [isNon]
  | l _ _ => simp [isNon]
  | d _ _ => simp [isNon]
theorem WR.non_iff' {K : PySem.W.Frag} {m : Map} {H : Hp} {x : V} {d : D} (h : WR K m H x d) : (!decide (x = .non)) = !isNon d := by
  cases h with
  | p h => cases h <;> simp [isNon]
  | l _ _ => simp [isNon]
  | d _ _ => simp [isNon]
theorem op_is3 : OpR X (compareOp .Is) (rC X.K .is_) := by
  intro pins s σ H x y v u Q I rx ry ⟨m, d, e, b, ok, hx, hy, hb, q⟩
  cases e <;> first | (simp [cmpD] at hb; done) | skip
  cases hy.none
  simp only [cmpD, Option.some.injEq] at hb
  refine op_isN pins s σ H _ _ v u Q I rx ry ⟨rfl, ?_⟩
  rw [hx.non_iff, hb]
  exact q
theorem op_isn3 : OpR X (compareOp .IsNot) (rC X.K .isn) := by
  intro pins s σ H x y v u Q I rx ry ⟨m, d, e, b, ok, hx, hy, hb, q⟩
  cases e <;> first | (simp [cmpD] at hb; done) | skip
  cases hy.none
  simp only [cmpD, Option.some.injEq] at hb
  refine op_notN pins s σ H _ _ v u Q I rx ry ⟨rfl, ?_⟩
  rw [hx.non_iff', hb]
  exact q
/-! ### dicts by scalars -/
theorem keyOf_kD {k : L2.Key} : keyOf (kD k) = some k := by cases k <;> rfl
theorem rp_sc {K : PySem.W.Frag} {m : Map} {H : Hp} {v : V} (h : scV v = true) : Rp K m H v (vD v) := by
  cases v <;> first | (cases h; done) | skip
  · exact .non
  · exact .bl _
  · exact .int _
  · exact .str _
theorem sc_rp {K : PySem.W.Frag} {m : Map} {H : Hp} {v : V} {d : D} (h : Rp K m H v d) (hs : scD d = true) : scV v = true ∧ d = vD v := by
  cases h <;> first | exact ⟨rfl, rfl⟩ | (cases hs)
theorem wr_key {K : PySem.W.Frag} {m : Map} {H : Hp} {x : V} {d : D} {k : L2.Key} (h : WR K m H x d) (e : keyOf d = some k) : x = kV k := by
  cases d <;> first | (cases e; done) | skip
  · cases e; exact h.int
  · cases e; exact h.str
theorem valD_map {k : L2.Key} : ∀ {kvs : List (L2.Key × V)}, valD (kvs.map fun e => (kD e.1, vD e.2)) k = (valV kvs k).map vD
  | [] => rfl
  | e :: r => by
    by_cases h : e.1 = k
    · rw [valV_pos h]
      simp [valD, List.find?_cons, keyOf_kD, h]
    · rw [valV_neg h]
      have ih := valD_map (k := k) (kvs := r)
      unfold valD at ih ⊢
      rw [← ih, List.map_cons, List.find?_cons]
      simp [keyOf_kD, h]
theorem any_map {k : L2.Key} {kvs : List (L2.Key × V)} : ((kvs.map fun e => (kD e.1, vD e.2)).any fun e => decide (keyOf e.1 = some k)) = kvs.any fun kv => decide (kv.1 = k) := by
  rw [List.any_map]
  refine congrArg (fun f => List.any kvs f) (funext fun e => ?_)
  simp [keyOf_kD]
theorem putD_map {k : L2.Key} {v : V} {kvs : List (L2.Key × V)} : putD (kvs.map fun e => (kD e.1, vD e.2)) k (vD v) = (putK kvs k v).map fun e => (kD e.1, vD e.2) := by
  unfold putD putK
  rw [any_map]
  split
  · rw [List.map_map, List.map_map]
    refine List.map_congr_left fun e _ => ?_
    simp only [Function.comp, keyOf_kD, Option.some.injEq]
    split <;> rfl
  · rw [List.map_append]; rfl
theorem DicR.get {K : PySem.W.Frag} {m : Map} {H : Hp} {kvs : List (L2.Key × V)} {es : List (D × D)} {k : L2.Key} {d : D} (h : DicR kvs es) (e : valD es k = some d) : ∃ v, valV kvs k = some v ∧ Rp K m H v d := by
  obtain ⟨h1, h2⟩ := h
  subst h1
  rw [valD_map] at e
  obtain ⟨v, e1, e2⟩ := Option.map_eq_some_iff.mp e
  subst e2
  refine ⟨v, e1, rp_sc ?_⟩
  unfold valV at e1
  obtain ⟨p, e3, e4⟩ := Option.map_eq_some_iff.mp e1
  subst e4
  exact h2 p (List.mem_of_find?_eq_some e3)
theorem DicR.no {kvs : List (L2.Key × V)} {es : List (D × D)} {k : L2.Key} (h : DicR kvs es) (e : valD es k = none) : valV kvs k = none := by
  obtain ⟨h1, h2⟩ := h
  subst h1
  rw [valD_map] at e
  simpa using e
theorem DicR.some? {kvs : List (L2.Key × V)} {es : List (D × D)} (h : DicR kvs es) (k : L2.Key) : (valV kvs k).isSome = (valD es k).isSome := by
  obtain ⟨h1, h2⟩ := h
  subst h1
  rw [valD_map]
  simp
theorem putK_sc {k : L2.Key} {v : V} {kvs : List (L2.Key × V)} (h : ∀ e ∈ kvs, scV e.2 = true) (hv : scV v = true) : ∀ e ∈ putK kvs k v, scV e.2 = true := by
  unfold putK
  split
  · intro e he
    obtain ⟨x, hx, rfl⟩ := List.mem_map.mp he
    split
    · exact hv
    · exact h x hx
  · intro e he
    rcases List.mem_append.mp he with he | he
    · exact h e he
    · rw [List.mem_singleton.mp he]; exact hv
theorem DicR.put {K : PySem.W.Frag} {m : Map} {H : Hp} {kvs : List (L2.Key × V)} {es : List (D × D)} {k : L2.Key} {v : V} {d : D} (h : DicR kvs es) (r : Rp K m H v d) (hs : scD d = true) : DicR (putK kvs k v) (putD es k d) := by
  obtain ⟨h1, h2⟩ := h
  obtain ⟨s1, s2⟩ := sc_rp r hs
  subst h1 s2
  exact ⟨putD_map, putK_sc h2 s1⟩
theorem DicR.len {kvs : List (L2.Key × V)} {es : List (D × D)} (h : DicR kvs es) : kvs.length = es.length := by rw [h.1, List.length_map]
theorem room_in1 {A : Around} {d e : List D} {x : D} (hu : A.units + 260 < cLine) (h : x.depth ≤ 200) : A.units + 1 + min (PyData.depthAll d) x.depth < cLine := by
  have : min (PyData.depthAll d) x.depth ≤ x.depth := Nat.min_le_right _ _
  omega
theorem op_in3 (hu : X.A.units + 260 < cLine) : OpR X (compareOp .In) (rC X.K .in_) := by
  intro pins s σ H x y v u Q I rx ry ⟨m, d, e, b, ok, hx, hy, hb, q⟩
  cases e with
  | list ys =>
    simp only [cmpD] at hb
    split at hb
    · next hz =>
      rw [Bool.and_eq_true] at hz
      obtain ⟨p1, d1⟩ := cmpOk_ok hz.1
      obtain ⟨p2, d2⟩ := cmpOk_ok hz.2
      cases hb
      obtain ⟨as, r1⟩ := Dp.reads I d x v (hx.dp p1) rx
      obtain ⟨bs, r2⟩ := Dp.reads I _ y u (hy.dp p2) ry
      exact SeqAt.in_list_data r2 r1 p2 p1 (room_in1 (e := ys) hu d1) ⟨.bl _, H, I, rfl, q⟩
    · cases hb
  | tuple ys =>
    simp only [cmpD] at hb
    split at hb
    · next hz =>
      rw [Bool.and_eq_true] at hz
      obtain ⟨p1, d1⟩ := cmpOk_ok hz.1
      obtain ⟨p2, d2⟩ := cmpOk_ok hz.2
      cases hb
      obtain ⟨as, r1⟩ := Dp.reads I d x v (hx.dp p1) rx
      obtain ⟨bs, r2⟩ := Dp.reads I _ y u (hy.dp p2) ry
      exact SeqAt.in_tuple_data r2 r1 p2 p1 (room_in1 (e := ys) hu d1) ⟨.bl _, H, I, rfl, q⟩
    · cases hb
  | str z =>
    cases d <;> first | (simp [cmpD] at hb; done) | skip
    cases hx.str; cases hy.str
    cases hb
    exact op_in_str pins s σ H _ _ v u Q I rx ry ⟨_, _, rfl, rfl, q⟩
  | dict es =>
    have hb : ((keyOf d).map fun k => (valD es k).isSome) = some b := by cases d <;> exact hb
    obtain ⟨k, ek, eb⟩ := Option.map_eq_some_iff.mp hb
    obtain ⟨a, kvs, rfl, ha, hr⟩ := hy.dict
    have ex := wr_key hx ek
    subst ex
    cases ry
    refine d_in (show X.A.units + 1 < cLine by omega) I (.k ha) rx fun s' I' => ⟨.bl b, H, I', ?_, q⟩
    show _ = Value.bool b
    rw [hr.some?, eb]
  | _ => cases d <;> (simp [cmpD] at hb; done)
theorem op_nin3 (hu : X.A.units + 260 < cLine) : OpR X (compareOp .NotIn) (rC X.K .nin) := by
  intro pins s σ H x y v u Q I rx ry ⟨m, d, e, b, ok, hx, hy, hb, q⟩
  cases e with
  | list ys =>
    simp only [cmpD] at hb
    split at hb
    · next hz =>
      rw [Bool.and_eq_true] at hz
      obtain ⟨p1, d1⟩ := cmpOk_ok hz.1
      obtain ⟨p2, d2⟩ := cmpOk_ok hz.2
      cases hb
      obtain ⟨as, r1⟩ := Dp.reads I d x v (hx.dp p1) rx
      obtain ⟨bs, r2⟩ := Dp.reads I _ y u (hy.dp p2) ry
      exact SeqAt.notIn_list_data r2 r1 p2 p1 (room_in1 (e := ys) hu d1) ⟨.bl _, H, I, rfl, q⟩
    · cases hb
  | tuple ys =>
    simp only [cmpD] at hb
    split at hb
    · next hz =>
      rw [Bool.and_eq_true] at hz
      obtain ⟨p1, d1⟩ := cmpOk_ok hz.1
      obtain ⟨p2, d2⟩ := cmpOk_ok hz.2
      cases hb
      obtain ⟨as, r1⟩ := Dp.reads I d x v (hx.dp p1) rx
      obtain ⟨bs, r2⟩ := Dp.reads I _ y u (hy.dp p2) ry
      exact SeqAt.notIn_tuple_data r2 r1 p2 p1 (room_in1 (e := ys) hu d1) ⟨.bl _, H, I, rfl, q⟩
    · cases hb
  | str z =>
    cases d <;> first | (simp [cmpD] at hb; done) | skip
    cases hx.str; cases hy.str
    cases hb
    refine op_notin_str pins s σ H _ _ v u Q I rx ry ⟨_, _, rfl, rfl, q⟩
  | dict es =>
    have hb : ((keyOf d).map fun k => !(valD es k).isSome) = some b := by cases d <;> exact hb
    obtain ⟨k, ek, eb⟩ := Option.map_eq_some_iff.mp hb
    obtain ⟨a, kvs, rfl, ha, hr⟩ := hy.dict
    have ex := wr_key hx ek
    subst ex
    cases ry
    refine d_notIn (show X.A.units + 1 < cLine by omega) I (.k ha) rx fun s' I' => ⟨.bl b, H, I', ?_, q⟩
    show _ = Value.bool b
    rw [hr.some?, eb]
  | _ => cases d <;> (simp [cmpD] at hb; done)

/-! ### items, slices -/
def rI3 (K : PySem.W.Frag) : R2 := fun x y H Q => ∃ m d e r, MutOk m H ∧ WR K m H x d ∧ WR K m H y e ∧ idxD d e = some r ∧ Fin K m H r Q
theorem ixN_len {α β : Type} {xs : List α} {ys : List β} (h : xs.length = ys.length) {i : Int} : ixN xs.length i = ixN ys.length i := by rw [h]
theorem atI_rp {K : PySem.W.Frag} {m : Map} {H : Hp} {xs : List V} {ds : List D} {i : Int} {r : D} (h : RpAll K m H xs ds) (e : atI ds i = some r) : ∃ v, atI xs i = some v ∧ Rp K m H v r := by
  unfold atI at e ⊢
  rw [rpAll_len h]
  cases q : ixN ds.length i with
  | none => rw [q] at e; cases e
  | some j =>
    rw [q] at e
    exact rpAll_get h e
theorem ix3 (hu : X.A.units + 260 < cLine) : IxR X (rI3 X.K) := by
  intro value slice pins s σ H x y v u Q I rx ry ⟨m, d, e, r, ok, hx, hy, hb, f⟩ hs
  by_cases hd : ∃ es, d = .dict es
  · obtain ⟨es, rfl⟩ := hd
    have hb : (keyOf e).bind (valD es) = some r := by cases e <;> exact hb
    obtain ⟨k, ek, ev⟩ := Option.bind_eq_some_iff.mp hb
    obtain ⟨a, kvs, rfl, ha, hr⟩ := hx.dict
    have ex := wr_key hy ek
    subst ex
    cases rx
    obtain ⟨z, e1, rz⟩ := hr.get (K := X.K) (m := m) (H := H) ev
    have g : DGet H a (kV k) (some z) := e1 ▸ DGet.k ha
    exact tail_any (dict_typeIs I g) PySem.F.slot_dict_getitem.lookup (d_getItem (by omega) I g ry fun w' s3 I3 rw' => ⟨z, H, I3, rw', f.at rz⟩) hs
  cases d <;> cases e <;> first | (exact absurd ⟨_, rfl⟩ hd; done) | (simp [idxD] at hb; done) | skip
  · simp only [idxD] at hb
    split at hb
    · next hz =>
      cases hx.str; cases hy.int
      cases q : atI (‹Str›).cps.toList ‹Int› with
      | none => rw [q] at hb; cases hb
      | some c =>
        rw [q] at hb
        cases hb
        exact ix_str value slice pins s σ H _ _ v u Q I rx ry ⟨_, _, c, rfl, rfl, okLen_le hz, q, f.at (.str _)⟩ hs
    · cases hb
  · simp only [idxD] at hb
    obtain ⟨a, xs, rfl, h1, h2⟩ := hx.list
    cases hy.int
    obtain ⟨w, e1, e2⟩ := atI_rp h2 hb
    exact ix_list value slice pins s σ H _ _ v u Q I rx ry ⟨_, _, _, _, rfl, rfl, h1, e1, f.at e2⟩ hs
  · simp only [idxD] at hb
    obtain ⟨a, xs, rfl, h1, h2⟩ := hx.tuple
    cases hy.int
    obtain ⟨w, e1, e2⟩ := atI_rp h2 hb
    exact ix_tup value slice pins s σ H _ _ v u Q I rx ry ⟨_, _, _, _, rfl, rfl, h1, e1, f.at e2⟩ hs

def rS3 (K : PySem.W.Frag) : V → Option Int → Option Int → Hp → VK → Prop := fun x lo hi H Q => ∃ m d r, MutOk m H ∧ WR K m H x d ∧ slD d lo hi = some r ∧ Fin K m H r Q
theorem cut_rp {K : PySem.W.Frag} {m : Map} {H : Hp} {xs : List V} {ds : List D} (h : RpAll K m H xs ds) (lo hi : Option Int) : RpAll K m H (cutV xs lo hi) (cutD ds lo hi) := by
  unfold cutV cutD
  rw [rpAll_len h]
  exact rpAll_take _ (rpAll_drop _ h)
theorem cut_whole {xs : List D} {lo hi : Option Int} (h : HT.sIx xs.length 0 lo = 0 ∧ HT.sIx xs.length xs.length hi = xs.length) : cutD xs lo hi = xs := by
  unfold cutD
  rw [h.1, h.2, List.drop_zero, Nat.sub_zero, List.take_length]
theorem sl3 : SlR X (rS3 X.K) := by
  intro pins s σ H x v vl vu lo hi sl Q I rx hs pl pu ⟨m, d, r, ok, hx, hb, f⟩
  cases d <;> first | (simp [slD] at hb; done) | skip
  · next z =>
    simp only [slD] at hb
    split at hb
    · next hz =>
      cases hx.str
      simp only [Option.some.injEq] at hb
      subst hb
      exact sl_str pins s σ H _ v vl vu lo hi sl Q I rx hs pl pu ⟨z, rfl, okLen_le hz, f.at (.str _)⟩
    · cases hb
  · simp only [slD, Option.some.injEq] at hb
    subst hb
    obtain ⟨a, xs, rfl, h1, h2⟩ := hx.list
    exact sl_list pins s σ H _ v vl vu lo hi sl Q I rx hs pl pu ⟨_, _, rfl, h1, f.lst ok (cut_rp h2 lo hi)⟩
  · simp only [slD, Option.some.injEq] at hb
    subst hb
    obtain ⟨a, xs, rfl, h1, h2⟩ := hx.tuple
    refine sl_tupA pins s σ H _ v vl vu lo hi sl Q I rx hs pl pu ⟨_, _, rfl, h1, fun e => ?_, fun _ => f.tup ok (cut_rp h2 lo hi)⟩
    rw [rpAll_len h2] at e
    rw [cut_whole e] at f
    exact f.at (.tup h1 h2)
end
end Pl

set_option Elab.async false
set_option linter.all false
set_option autoImplicit false
set_option maxRecDepth 100000
/-! PA4: rules for expressions. -/
namespace Pl
open PySem PySem.Spec PyProof.Rows L2

/-- an exception in flight: its class, its dict -/
def XnIs (K : PySem.W.Frag) (m : Map) (H : Hp) (cls : Value) (d : Option Addr) : Xn → Prop
  | .plain c => ∃ C, PySem.W.nsIn K mainGlobals c = some (some (.ref C)) ∧ cls = .ref C ∧ d = none
  | .own c w p => ∃ C dx vw vp, PySem.W.nsIn K mainGlobals c = some (some (.ref C)) ∧ cls = .ref C ∧ d = some dx ∧ H dx = some (.xd [("word", vw), ("place", vp)]) ∧ Rp K m H vw w ∧ Rp K m H vp p
/-- no exception -/
abbrev EN : XK := fun _ _ _ => False
/-- what is wanted behind: it ends well, and whatever stands for the result; E is wanted of exceptions -/
def Post {α β : Type} (K : PySem.W.Frag) (E : XK) (Rel : Map → Hp → β → α → Prop) (r : Res α) (m : Map) (H : Hp) (Q : β → Hp → Prop) : Prop :=
  match r with
  | .ok a S' => ∀ b H' m', Stp m H m' H' → RS K m' H' S' → Rel m' H' b a → Q b H'
  | .exn x S' => ∀ cls d H' m', Stp m H m' H' → RS K m' H' S' → XnIs K m' H' cls d x → E cls d H'
  | .bad => False
abbrev RVs (K : PySem.W.Frag) (m : Map) (H : Hp) : List V → List Vl → Prop := Paired (RV K m H)
def RB (m : Map) (H : Hp) (b a : Bool) : Prop := b = a
abbrev PostV (K : PySem.W.Frag) (E : XK) := Post K E (RV K)
abbrev PostVs (K : PySem.W.Frag) (E : XK) := Post K E (RVs K)
abbrev PostB (K : PySem.W.Frag) (E : XK) := Post K E RB

section
variable {α β α' β' : Type} {K : PySem.W.Frag} {E : XK} {Rel : Map → Hp → β → α → Prop} {Rel' : Map → Hp → β' → α' → Prop} {m m1 : Map} {H H1 : Hp}
theorem Post.stp {r : Res α} {Q : β → Hp → Prop} (st : Stp m H m1 H1) (h : Post K E Rel r m H Q) : Post K E Rel r m1 H1 Q := by
  cases r with
  | bad => exact h
  | exn x S => exact fun c d H' m' st' rs rel => h c d H' m' (st.trans st') rs rel
  | ok a S => exact fun b H' m' st' rs rel => h b H' m' (st.trans st') rs rel
theorem Post.mono {r : Res α} {Q Q' : β → Hp → Prop} (h : Post K E Rel r m H Q) (q : ∀ b H', Q b H' → Q' b H') : Post K E Rel r m H Q' := by
  cases r with
  | bad => exact h
  | exn x S => exact h
  | ok a S => exact fun b H' m' st' rs rel => q _ _ (h b H' m' st' rs rel)
theorem Post.bind {r : Res α} {k : α → Store → Res α'} {Q : β' → Hp → Prop} (h : Post K E Rel' (r.bind k) m H Q) :
    Post K E Rel r m H (fun b H1 => ∃ a S1 m1, Stp m H m1 H1 ∧ RS K m1 H1 S1 ∧ Rel m1 H1 b a ∧ r = .ok a S1 ∧ Post K E Rel' (k a S1) m1 H1 Q) := by
  cases r with
  | bad => exact h
  | exn x S => exact h
  | ok a S => exact fun b H1 m1 st rs rel => ⟨a, S, m1, st, rs, rel, rfl, Post.stp st h⟩
theorem Post.unX {r : Res α} {k : α → Store → Res α'} {Q : β' → Hp → Prop} (h : Post K E Rel' (r.noX.bind k) m H Q) : Post K E Rel' (r.bind k) m H Q := by
  cases r with
  | bad => exact h
  | exn x S => exact h.elim
  | ok a S => exact h
end

/-- the readings -/
def tE (K : PySem.W.Frag) (E : XK) (cl : CallF) (g : Str → Option D) (c : Ex) : TE := fun σ H Q => ∃ ρ S m, RE K m H ρ σ ∧ RS K m H S ∧ PostV K E (ev cl g c ρ S) m H Q
def tT (K : PySem.W.Frag) (E : XK) (cl : CallF) (g : Str → Option D) (c : Ex) : TT := fun σ H Q => ∃ ρ S m, RE K m H ρ σ ∧ RS K m H S ∧ PostB K E ((ev cl g c ρ S).bind asB) m H Q
def tA (K : PySem.W.Frag) (E : XK) (cl : CallF) (g : Str → Option D) (cs : List Ex) : TA := fun σ H Q => ∃ ρ S m, RE K m H ρ σ ∧ RS K m H S ∧ PostVs K E (evs cl g cs ρ S) m H Q

theorem _root_.L2.PE.imp {X : Cx} {e : Expr} {t t' : TE} (h : PE X e t) (i : ∀ σ H Q, t' σ H Q → t σ H Q) : PE X e t' := ⟨fun pins s σ H Q I w => h.run pins s σ H Q I (i σ H Q w)⟩
theorem _root_.L2.PT.imp {X : Cx} {e : Expr} {t t' : TT} (h : PT X e t) (i : ∀ σ H Q, t' σ H Q → t σ H Q) : PT X e t' := ⟨fun pins s σ H Q I w => h.run pins s σ H Q I (i σ H Q w)⟩
theorem _root_.L2.PW.imp {X : Cx} {e : Expr} {t t' : TT} (h : PW X e t) (i : ∀ σ H Q, t' σ H Q → t σ H Q) : PW X e t' := ⟨fun wh pins s σ H Q I w => h.run wh pins s σ H Q I (i σ H Q w)⟩
theorem _root_.L2.PA.imp {X : Cx} {es : List Expr} {t t' : TA} (h : PA X es t) (i : ∀ σ H Q, t' σ H Q → t σ H Q) : PA X es t' := ⟨fun pos pins s σ H Q I w => h.run pos pins s σ H Q I (i σ H Q w)⟩

section
variable {K : PySem.W.Frag} {E : XK} {m : Map} {H : Hp} {S : Store}
theorem postV_opt {o : Option D} {Q : VK} (hS : RS K m H S) (h : PostV K E (pOpt o S) m H Q) : ∃ d, o = some d ∧ Fin K m H d Q := by
  cases o with
  | none => exact h.elim
  | some d => exact ⟨d, rfl, fun x H' s r => h x H' m (Stp.same s) (hS.same s) r⟩
theorem postV_bopt {o : Option Bool} {Q : VK} (hS : RS K m H S) (h : PostV K E (bOpt o S) m H Q) : ∃ b, o = some b ∧ Q (.bl b) H := by
  cases o with
  | none => exact h.elim
  | some b => exact ⟨b, rfl, h (.bl b) H m (Stp.refl m H) hS (.bl b)⟩
theorem post_ok {α β : Type} {Rel : Map → Hp → β → α → Prop} {a : α} {b : β} {Q : β → Hp → Prop} (hS : RS K m H S) (r : Rel m H b a) (h : Post K E Rel (.ok a S) m H Q) : Q b H := h b H m (Stp.refl m H) hS r
/-- a test's answer -/
theorem asB_post {r : Res Vl} {Q : Bool → Hp → Prop} (h : PostB K E (r.bind asB) m H Q) : PostV K E r m H (fun x H1 => ∃ k, x = .bl k ∧ Q k H1) := by
  cases r with
  | bad => exact h
  | exn x S => exact h
  | ok v S1 =>
    intro x H1 m1 st rs rv
    have h2 : PostB K E (asB v S1) m1 H1 Q := Post.stp st h
    cases v with
    | r n => exact h2.elim
    | s ns => exact h2.elim
    | p d =>
      cases d with
      | bool k => cases rv; exact ⟨k, rfl, h2 k H1 m1 (Stp.refl _ _) rs rfl⟩
      | _ => exact h2.elim
theorem asB_val {r : Res Vl} {k : Bool → Store → Res Vl} {Q : VK} (h : PostV K E ((r.bind asB).bind k) m H Q) :
    PostV K E r m H (fun x H1 => ∃ b, x = .bl b ∧ ∃ S1 m1, Stp m H m1 H1 ∧ RS K m1 H1 S1 ∧ PostV K E (k b S1) m1 H1 Q) := by
  cases r with
  | bad => exact h
  | exn x S => exact h
  | ok v S1 =>
    intro x H1 m1 st rs rv
    cases v with
    | r n => exact h.elim
    | s ns => exact h.elim
    | p d =>
      cases d with
      | bool b => cases rv; exact ⟨b, rfl, S1, m1, st, rs, Post.stp st h⟩
      | _ => exact h.elim
theorem asB_tst {α β : Type} {Rel : Map → Hp → β → α → Prop} {r : Res Vl} {k : Bool → Store → Res α} {Q : β → Hp → Prop} (h : Post K E Rel ((r.bind asB).bind k) m H Q) :
    PostB K E (r.bind asB) m H (fun b H1 => ∃ S1 m1, Stp m H m1 H1 ∧ RS K m1 H1 S1 ∧ Post K E Rel (k b S1) m1 H1 Q) :=
  (Post.bind h).mono fun b H1 ⟨a, S1, m1, st, rs, e, _, h2⟩ => by
    have e' : b = a := e
    subst e'
    exact ⟨S1, m1, st, rs, h2⟩
end

section
variable {X : Cx} {E : XK} {cl : CallF} {g : Str → Option D}
/-! ### names, constants -/
theorem e_var {i : Nat} {x : Str} {pos : Pos} (hN : X.N[i]? = some x) (hv : Vis X.env.scope x) (hd : (x == ("__debug__" : Str)) = false) (hcd : (x == ("__classdict__" : Str)) = false) : PE X (.Name x pos) (tE X.K E cl g (.var i)) :=
  (pe_var hN hv hd hcd).imp fun σ H Q ⟨ρ, S, m, hE, hS, h⟩ => by
    simp only [ev] at h
    split at h
    · next v e =>
      obtain ⟨y, e1, r⟩ := hE.get i v e
      exact ⟨y, e1, post_ok hS r h⟩
    · exact h.elim
theorem e_con {e : Expr} {d : D} {y : V} (he : PE X e (tC y)) (r : ∀ (m : Map) H, Rp X.K m H y d) : PE X e (tE X.K E cl g (.con d)) :=
  he.imp fun σ H Q ⟨ρ, S, m, hE, hS, h⟩ => post_ok (b := y) hS (show RV X.K m H y (.p d) from r m H) h
theorem e_glob {e : Expr} {x : Str} {y : V} {d : D} (he : PE X e (tC y)) (hx : g x = some d) (r : ∀ (m : Map) H, MutOk m H → Rp X.K m H y d) : PE X e (tE X.K E cl g (.glob x)) :=
  he.imp fun σ H Q ⟨ρ, S, m, hE, hS, h⟩ => by
    simp only [ev, hx] at h
    exact post_ok (b := y) hS (show RV X.K m H y (.p d) from r m H hS.mut) h

/-! ### two operands -/
variable {a b c : Expr} {ca cb cc : Ex} {pos : Pos}
/-- a, then b, then what is made of both values -/
theorem two {σ : L2.St} {H : Hp} {Q : VK} {ρ : Rho} {S : Store} {m : Map} {k : Vl → Vl → Store → Res Vl} {R : V → V → Hp → Prop} (hE : RE X.K m H ρ σ) (hS : RS X.K m H S)
    (h : PostV X.K E ((ev cl g ca ρ S).bind fun x S1 => (ev cl g cb ρ S1).bind fun y S2 => k x y S2) m H Q)
    (hk : ∀ x y S2 m2 v w H2, RE X.K m2 H2 ρ σ → RS X.K m2 H2 S2 → RV X.K m2 H2 v x → RV X.K m2 H2 w y → PostV X.K E (k x y S2) m2 H2 Q → R v w H2) :
    tE X.K E cl g ca σ H fun v H1 => tE X.K E cl g cb σ H1 fun w H2 => R v w H2 :=
  ⟨ρ, S, m, hE, hS, (Post.bind h).mono fun v H1 ⟨x, S1, m1, st1, hS1, r1, _, h1⟩ =>
    ⟨ρ, S1, m1, hE.stp st1 hS.mut, hS1, (Post.bind h1).mono fun w H2 ⟨y, S2, m2, st2, hS2, r2, _, h2⟩ =>
      hk x y S2 m2 v w H2 ((hE.stp st1 hS.mut).stp st2 hS1.mut) hS2 (r1.stp st2 hS1.mut) r2 h2⟩⟩
theorem e_bin {op : Operator} {o : Bop} (ho : OpR X (binaryOp op) (rB X.K o)) (ha : PE X a (tE X.K E cl g ca)) (hb : PE X b (tE X.K E cl g cb)) : PE X (.BinOp a op b pos) (tE X.K E cl g (.bin o ca cb)) :=
  (pe_op ho ha hb).imp fun σ H Q ⟨ρ, S, m, hE, hS, h⟩ => by
    simp only [ev] at h
    refine two hE hS h fun x y S2 m2 v w H2 _ hS2 r1 r2 h2 => ?_
    split at h2
    · next d e e1 e2 =>
      obtain ⟨r, er, f⟩ := postV_opt hS2 h2
      exact ⟨m2, d, e, r, hS2.mut, WR.of hS2 r1 e1, WR.of hS2 r2 e2, er, f⟩
    · exact h2.elim
theorem e_neg (ha : PE X a (tE X.K E cl g ca)) : PE X (.UnaryOp .USub a pos) (tE X.K E cl g (.neg ca)) :=
  (pe_un un_neg ha).imp fun σ H Q ⟨ρ, S, m, hE, hS, h⟩ => by
    simp only [ev] at h
    refine ⟨ρ, S, m, hE, hS, (Post.bind h).mono fun v H1 ⟨x, S1, m1, st1, hS1, r1, _, h1⟩ => ?_⟩
    split at h1
    · cases r1
      exact ⟨_, rfl, post_ok (b := V.int _) hS1 (.int _) h1⟩
    · exact h1.elim
theorem e_cmp {op : CmpOp} {o : Cop} (ho : OpR X (compareOp op) (rC X.K o)) (ha : PE X a (tE X.K E cl g ca)) (hb : PE X b (tE X.K E cl g cb)) (hm : behindInMarks op b = false) : PE X (.Compare a [op] [b] pos) (tE X.K E cl g (.cmp o ca cb)) :=
  (pe_cmpR ho ha hb hm).imp fun σ H Q ⟨ρ, S, m, hE, hS, h⟩ => by
    simp only [ev] at h
    refine two hE hS h fun x y S2 m2 v w H2 _ hS2 r1 r2 h2 => ?_
    split at h2
    · next d e e1 e2 =>
      obtain ⟨r, er, f⟩ := postV_bopt hS2 h2
      exact ⟨m2, d, e, r, hS2.mut, WR.of hS2 r1 e1, WR.of hS2 r2 e2, er, f⟩
    · exact h2.elim
theorem t_of_e {e : Expr} {c : Ex} {t : TE} (h : PT X e (tTest t)) (i : ∀ σ H Q, tE X.K E cl g c σ H Q → t σ H Q) : PT X e (tT X.K E cl g c) :=
  h.imp fun σ H Q ⟨ρ, S, m, hE, hS, h⟩ => i σ H _ ⟨ρ, S, m, hE, hS, asB_post h⟩
theorem t_cmp {op : CmpOp} {o : Cop} (ho : OpR X (compareOp op) (rC X.K o)) (ha : PE X a (tE X.K E cl g ca)) (hb : PE X b (tE X.K E cl g cb)) (hm : behindInMarks op b = false) : PT X (.Compare a [op] [b] pos) (tT X.K E cl g (.cmp o ca cb)) :=
  t_of_e (pt_cmpR ho ha hb hm) fun σ H Q ⟨ρ, S, m, hE, hS, h⟩ => by
    simp only [ev] at h
    refine two hE hS h fun x y S2 m2 v w H2 _ hS2 r1 r2 h2 => ?_
    split at h2
    · next d e e1 e2 =>
      obtain ⟨r, er, f⟩ := postV_bopt hS2 h2
      exact ⟨m2, d, e, r, hS2.mut, WR.of hS2 r1 e1, WR.of hS2 r2 e2, er, f⟩
    · exact h2.elim
theorem chain_imp {o p : Cop} {σ : L2.St} {H : Hp} {Q : VK} (h : tE X.K E cl g (.cmp2 o p ca cb cc) σ H Q) : tChain (rC X.K o) (rC X.K p) (tE X.K E cl g ca) (tE X.K E cl g cb) (tE X.K E cl g cc) σ H Q := by
  obtain ⟨ρ, S, m, hE, hS, h⟩ := h
  simp only [ev] at h
  refine two hE hS h fun x y S2 m2 v w H2 hE2 hS2 r1 r2 h2 => ?_
  split at h2
  · next d e e1 e2 =>
    split at h2
    · next er =>
      refine ⟨m2, d, e, true, hS2.mut, WR.of hS2 r1 e1, WR.of hS2 r2 e2, er, true, rfl, ?_⟩
      rw [if_pos rfl]
      refine ⟨ρ, S2, m2, hE2, hS2, (Post.bind h2).mono fun z H3 ⟨zv, S3, m3, st3, hS3, r3, _, h3⟩ => ?_⟩
      split at h3
      · next e' f e3 e4 =>
        obtain ⟨r, er', q⟩ := postV_bopt hS3 h3
        exact ⟨m3, e', f, r, hS3.mut, WR.of hS3 (r2.stp st3 hS2.mut) e3, WR.of hS3 r3 e4, er', q⟩
      · exact h3.elim
    · next er =>
      refine ⟨m2, d, e, false, hS2.mut, WR.of hS2 r1 e1, WR.of hS2 r2 e2, er, false, rfl, ?_⟩
      rw [if_neg Bool.false_ne_true]
      exact post_ok (b := V.bl false) hS2 (.bl false) h2
    · exact h2.elim
  · exact h2.elim
theorem marks2 {op op' : CmpOp} (h : behindInMarks op' c = false) : lastMarks [op, op'] [b, c] = false := by
  unfold lastMarks
  unfold lastMarks
  exact h
theorem e_chain {op op' : CmpOp} {o p : Cop} (ho : OpR X (compareOp op) (rC X.K o)) (ho' : OpR X (compareOp op') (rC X.K p)) (ha : PE X a (tE X.K E cl g ca)) (hb : PE X b (tE X.K E cl g cb)) (hc : PE X c (tE X.K E cl g cc)) (hm : behindInMarks op' c = false) :
    PE X (.Compare a [op, op'] [b, c] pos) (tE X.K E cl g (.cmp2 o p ca cb cc)) := (pe_chain ho ho' ha hb hc (marks2 hm)).imp fun _ _ _ h => chain_imp h
theorem t_chain {op op' : CmpOp} {o p : Cop} (ho : OpR X (compareOp op) (rC X.K o)) (ho' : OpR X (compareOp op') (rC X.K p)) (ha : PE X a (tE X.K E cl g ca)) (hb : PE X b (tE X.K E cl g cb)) (hc : PE X c (tE X.K E cl g cc)) (hm : behindInMarks op' c = false) :
    PT X (.Compare a [op, op'] [b, c] pos) (tT X.K E cl g (.cmp2 o p ca cb cc)) := t_of_e (pt_chain ho ho' ha hb hc (marks2 hm)) fun _ _ _ h => chain_imp h

/-! ### and, or, not, if -/
variable {rest : List Expr}
theorem e_and (ha : PE X a (tE X.K E cl g ca)) (hb : PE X (.BoolOp .And (b :: rest) pos) (tE X.K E cl g cb)) : PE X (.BoolOp .And (a :: b :: rest) pos) (tE X.K E cl g (.and ca cb)) :=
  (pe_and ha hb).imp fun σ H Q ⟨ρ, S, m, hE, hS, h⟩ => by
    simp only [ev] at h
    refine ⟨ρ, S, m, hE, hS, (asB_val h).mono fun x H1 ⟨k, e, S1, m1, st1, hS1, h1⟩ => ⟨k, e, ?_⟩⟩
    cases k with
    | true => exact ⟨ρ, S1, m1, hE.stp st1 hS.mut, hS1, h1⟩
    | false => exact post_ok (b := V.bl false) hS1 (.bl false) h1
theorem e_or (ha : PE X a (tE X.K E cl g ca)) (hb : PE X (.BoolOp .Or (b :: rest) pos) (tE X.K E cl g cb)) : PE X (.BoolOp .Or (a :: b :: rest) pos) (tE X.K E cl g (.or ca cb)) :=
  (pe_or ha hb).imp fun σ H Q ⟨ρ, S, m, hE, hS, h⟩ => by
    simp only [ev] at h
    refine ⟨ρ, S, m, hE, hS, (asB_val h).mono fun x H1 ⟨k, e, S1, m1, st1, hS1, h1⟩ => ⟨k, e, ?_⟩⟩
    cases k with
    | true => exact post_ok (b := V.bl true) hS1 (.bl true) h1
    | false => exact ⟨ρ, S1, m1, hE.stp st1 hS.mut, hS1, h1⟩
theorem e_not (ha : PE X a (tE X.K E cl g ca)) : PE X (.UnaryOp .Not a pos) (tE X.K E cl g (.not ca)) :=
  (pe_not ha).imp fun σ H Q ⟨ρ, S, m, hE, hS, h⟩ => by
    simp only [ev] at h
    refine ⟨ρ, S, m, hE, hS, (asB_val h).mono fun x H1 ⟨k, e, S1, m1, st1, hS1, h1⟩ => ⟨k, e, ?_⟩⟩
    exact post_ok (b := V.bl (!k)) hS1 (.bl _) h1
theorem w_and (ha : PT X a (tT X.K E cl g ca)) (hb : PW X (.BoolOp .And (b :: rest) pos) (tT X.K E cl g cb)) : PW X (.BoolOp .And (a :: b :: rest) pos) (tT X.K E cl g (.and ca cb)) :=
  (pw_and ha hb).imp fun σ H Q ⟨ρ, S, m, hE, hS, h⟩ => by
    have h : PostB X.K E ((((ev cl g ca ρ S).bind asB).bind fun x S1 => if x = true then ev cl g cb ρ S1 else .ok (.p (.bool false)) S1).bind asB) m H Q := h
    have h' : PostB X.K E (((ev cl g ca ρ S).bind asB).bind fun x S1 => (if x = true then ev cl g cb ρ S1 else .ok (.p (.bool false)) S1).bind asB) m H Q := by
      cases q : (ev cl g ca ρ S).bind asB with
      | bad => rw [q] at h; exact h
      | exn x S1 => rw [q] at h; exact h
      | ok x S1 => rw [q] at h; exact h
    refine ⟨ρ, S, m, hE, hS, (asB_tst h').mono fun k H1 ⟨S1, m1, st1, hS1, h1⟩ => ?_⟩
    cases k with
    | true => exact ⟨ρ, S1, m1, hE.stp st1 hS.mut, hS1, h1⟩
    | false => exact post_ok (Rel := RB) (b := false) hS1 rfl h1
theorem w_or (ha : PT X a (tT X.K E cl g ca)) (hb : PW X (.BoolOp .Or (b :: rest) pos) (tT X.K E cl g cb)) : PW X (.BoolOp .Or (a :: b :: rest) pos) (tT X.K E cl g (.or ca cb)) :=
  (pw_or ha hb).imp fun σ H Q ⟨ρ, S, m, hE, hS, h⟩ => by
    have h : PostB X.K E ((((ev cl g ca ρ S).bind asB).bind fun x S1 => if x = true then .ok (.p (.bool true)) S1 else ev cl g cb ρ S1).bind asB) m H Q := h
    have h' : PostB X.K E (((ev cl g ca ρ S).bind asB).bind fun x S1 => (if x = true then .ok (.p (.bool true)) S1 else ev cl g cb ρ S1).bind asB) m H Q := by
      cases q : (ev cl g ca ρ S).bind asB with
      | bad => rw [q] at h; exact h
      | exn x S1 => rw [q] at h; exact h
      | ok x S1 => rw [q] at h; exact h
    refine ⟨ρ, S, m, hE, hS, (asB_tst h').mono fun k H1 ⟨S1, m1, st1, hS1, h1⟩ => ?_⟩
    cases k with
    | true => exact post_ok (Rel := RB) (b := true) hS1 rfl h1
    | false => exact ⟨ρ, S1, m1, hE.stp st1 hS.mut, hS1, h1⟩
theorem t_not (ha : PT X a (tT X.K E cl g ca)) : PT X (.UnaryOp .Not a pos) (tT X.K E cl g (.not ca)) :=
  (pt_not ha).imp fun σ H Q ⟨ρ, S, m, hE, hS, h⟩ => by
    have h : PostB X.K E ((((ev cl g ca ρ S).bind asB).bind fun x S1 => .ok (.p (.bool !x)) S1).bind asB) m H Q := h
    have h' : PostB X.K E (((ev cl g ca ρ S).bind asB).bind fun x S1 => .ok (!x) S1) m H Q := by
      cases q : (ev cl g ca ρ S).bind asB with
      | bad => rw [q] at h; exact h
      | exn x S1 => rw [q] at h; exact h
      | ok x S1 => rw [q] at h; exact h
    refine ⟨ρ, S, m, hE, hS, (asB_tst h').mono fun k H1 ⟨S1, m1, st1, hS1, h1⟩ => ?_⟩
    exact post_ok (Rel := RB) (b := !k) hS1 rfl h1
theorem e_ite (hc : PT X c (tT X.K E cl g cc)) (ha : PE X a (tE X.K E cl g ca)) (hb : PE X b (tE X.K E cl g cb)) : PE X (.IfExp c a b pos) (tE X.K E cl g (.ite cc ca cb)) :=
  (pe_ifExp hc ha hb).imp fun σ H Q ⟨ρ, S, m, hE, hS, h⟩ => by
    simp only [ev] at h
    refine ⟨ρ, S, m, hE, hS, (asB_tst h).mono fun k H1 ⟨S1, m1, st1, hS1, h1⟩ => ?_⟩
    cases k with
    | true => exact ⟨ρ, S1, m1, hE.stp st1 hS.mut, hS1, h1⟩
    | false => exact ⟨ρ, S1, m1, hE.stp st1 hS.mut, hS1, h1⟩
theorem t_val {e : Expr} {ce : Ex} (h : PE X e (tE X.K E cl g ce)) (he : ∀ whole, isTrue e X.env whole = (do let v ← whole; standAt e.pos; holding [v] (truthy v))) : PT X e (tT X.K E cl g ce) :=
  (pt_val h he).imp fun σ H Q ⟨ρ, S, m, hE, hS, h⟩ => ⟨ρ, S, m, hE, hS, asB_post h⟩

/-! ### items, slices -/
theorem e_idx (hu : X.A.units + 260 < cLine) (ha : PE X a (tE X.K E cl g ca)) (hb : PE X b (tE X.K E cl g cb)) (hs : PlainIx b) : PE X (.Subscript a b pos) (tE X.K E cl g (.idx ca cb)) :=
  (pe_ix (ix3 hu) ha hb hs).imp fun σ H Q ⟨ρ, S, m, hE, hS, h⟩ => by
    simp only [ev] at h
    refine two hE hS h fun x y S2 m2 v w H2 _ hS2 r1 r2 h2 => ?_
    split at h2
    · next d e e1 e2 =>
      obtain ⟨r, er, f⟩ := postV_opt hS2 h2
      exact ⟨m2, d, e, r, hS2.mut, WR.of hS2 r1 e1, WR.of hS2 r2 e2, er, f⟩
    · exact h2.elim
variable {p2 : Pos}
theorem e_slL (ha : PE X a (tE X.K E cl g ca)) (hb : PE X b (tE X.K E cl g cb)) : PE X (.Subscript a (.Slice (some b) none none p2) pos) (tE X.K E cl g (.slL ca cb)) :=
  (pe_slice sl3 ha (po_some hb) po_none).imp fun σ H Q ⟨ρ, S, m, hE, hS, h⟩ => by
    simp only [ev] at h
    refine two hE hS h fun x y S2 m2 v w H2 _ hS2 r1 r2 h2 => ?_
    split at h2
    · next d i e1 =>
      obtain ⟨r, er, f⟩ := postV_opt hS2 h2
      cases r2
      exact ⟨i, rfl, m2, d, r, hS2.mut, WR.of hS2 r1 e1, er, f⟩
    · exact h2.elim
theorem e_slH (ha : PE X a (tE X.K E cl g ca)) (hb : PE X b (tE X.K E cl g cb)) : PE X (.Subscript a (.Slice none (some b) none p2) pos) (tE X.K E cl g (.slH ca cb)) :=
  (pe_slice sl3 ha po_none (po_some hb)).imp fun σ H Q ⟨ρ, S, m, hE, hS, h⟩ => by
    simp only [ev] at h
    refine two hE hS h fun x y S2 m2 v w H2 _ hS2 r1 r2 h2 => ?_
    split at h2
    · next d i e1 =>
      obtain ⟨r, er, f⟩ := postV_opt hS2 h2
      cases r2
      exact ⟨i, rfl, m2, d, r, hS2.mut, WR.of hS2 r1 e1, er, f⟩
    · exact h2.elim
theorem e_slB (ha : PE X a (tE X.K E cl g ca)) (hb : PE X b (tE X.K E cl g cb)) (hc : PE X c (tE X.K E cl g cc)) : PE X (.Subscript a (.Slice (some b) (some c) none p2) pos) (tE X.K E cl g (.slB ca cb cc)) :=
  (pe_slice sl3 ha (po_some hb) (po_some hc)).imp fun σ H Q ⟨ρ, S, m, hE, hS, h⟩ => by
    simp only [ev] at h
    refine two hE hS h fun x y S2 m2 v w H2 hE2 hS2 r1 r2 h2 => ?_
    cases q : ev cl g cc ρ S2 with
    | bad => rw [q] at h2; exact h2.elim
    | exn xx S3 => rw [q] at h2; exact h2.elim
    | ok z S3 =>
      have h3 := h2
      have h2' := Post.unX (Rel' := RV X.K) h2
      rw [q] at h3
      simp only [Res.noX, Res.bind] at h3
      split at h3
      · next d i j e1 =>
        cases r2
        refine ⟨i, rfl, ρ, S2, m2, hE2, hS2, (Post.bind h2').mono fun z H3 ⟨zv, S3', m3, st3, hS3, r3, e3, h4⟩ => ?_⟩
        rw [q] at e3
        cases e3
        cases r3
        simp only [e1] at h4
        obtain ⟨r, er, f⟩ := postV_opt hS3 h4
        exact ⟨j, rfl, m3, d, r, hS3.mut, WR.of hS3 (r1.stp st3 hS2.mut) e1, er, f⟩
      · exact h3.elim
theorem e_rev {k : Nat} {p1 p3 p4 : Pos} (ha : PE X a (tE X.K E cl g ca)) : PE X (.Subscript a (.Slice none none (some (.UnaryOp .USub (.Constant (.int 1) k p1) p3)) p4) pos) (tE X.K E cl g (.rev ca)) :=
  (pe_revL ha).imp fun σ H Q ⟨ρ, S, m, hE, hS, h⟩ => by
    simp only [ev] at h
    refine ⟨ρ, S, m, hE, hS, (Post.bind h).mono fun v H1 ⟨x, S1, m1, st1, hS1, r1, _, h1⟩ => ?_⟩
    split at h1
    · next xs e =>
      obtain ⟨a, ys, rfl, h2, h3⟩ := (WR.of hS1 r1 e).list
      refine ⟨a, ys, rfl, h2, fun p hn => ?_⟩
      exact h1 _ _ m1 (Stp.same (same_upd hn)) (hS1.same (same_upd hn)) (Rp.newL hS1.mut hn (rpAll_reverse h3))
    · exact h1.elim

/-! ### arguments, displays -/
variable {es : List Expr} {ces : List Ex}
theorem a_nil : PA X [] (tA X.K E cl g []) := pa_nil.imp fun σ H Q ⟨ρ, S, m, hE, hS, h⟩ => post_ok (b := []) hS .nil h
theorem a_cons (ha : PE X a (tE X.K E cl g ca)) (hr : PA X es (tA X.K E cl g ces)) (hs : starEach (a :: es) X.env = (false, eval a X.env) :: starEach es X.env) : PA X (a :: es) (tA X.K E cl g (ca :: ces)) :=
  (pa_cons ha hr hs).imp fun σ H Q ⟨ρ, S, m, hE, hS, h⟩ => by
    simp only [evs] at h
    refine ⟨ρ, S, m, hE, hS, (Post.bind h).mono fun v H1 ⟨x, S1, m1, st1, hS1, r1, _, h1⟩ => ?_⟩
    refine ⟨ρ, S1, m1, hE.stp st1 hS.mut, hS1, (Post.bind h1).mono fun vs H2 ⟨xs, S2, m2, st2, hS2, r2, _, h2⟩ => ?_⟩
    exact post_ok (b := v :: vs) hS2 (.cons (r1.stp st2 hS1.mut) r2) h2
theorem pure_rp {K : PySem.W.Frag} {m : Map} {H : Hp} : ∀ {vs : List V} {xs : List Vl} {ds : List D}, RVs K m H vs xs → pureAll xs = some ds → RpAll K m H vs ds
  | _, _, _, .nil, h => by cases h; exact .nil
  | _, .p d :: xs, _, .cons r t, h => by
    simp only [pureAll] at h
    cases q : pureAll xs with
    | none => rw [q] at h; cases h
    | some es =>
      rw [q] at h
      cases h
      exact .cons r (pure_rp t q)
  | _, .r n :: xs, _, .cons r t, h => by cases h
  | _, .s n :: xs, _, .cons r t, h => by cases h
theorem rdAll_wr {K : PySem.W.Frag} {m : Map} {H : Hp} {S : Store} (hS : RS K m H S) : ∀ {vs : List V} {xs : List Vl} {ds : List D}, RVs K m H vs xs → rdAll S xs = some ds → Paired (WR K m H) vs ds
  | _, _, _, .nil, h => by cases h; exact .nil
  | _, x :: xs, _, .cons r t, h => by
    simp only [rdAll] at h
    split at h
    · next d ds e1 e2 =>
      cases h
      exact .cons (WR.of hS r e1) (rdAll_wr hS t e2)
    · cases h
theorem e_tup {k : Nat} (h : PA X es (tA X.K E cl g ces)) : PE X (.Tuple es k pos) (tE X.K E cl g (.tup ces)) :=
  (pe_tup h).imp fun σ H Q ⟨ρ, S, m, hE, hS, h⟩ => by
    simp only [ev] at h
    refine ⟨ρ, S, m, hE, hS, (Post.bind h).mono fun vs H1 ⟨xs, S1, m1, st1, hS1, r1, _, h1⟩ => ?_⟩
    split at h1
    · next ds e =>
      split at h1
      · next hz =>
        have r := pure_rp r1 e
        exact ⟨by rw [rpAll_len r]; exact okLen_le hz, fun p hn => h1 _ _ m1 (Stp.same (same_upd hn)) (hS1.same (same_upd hn)) (Rp.newT hS1.mut hn r)⟩
      · exact h1.elim
    · exact h1.elim
theorem e_lst (h : PA X es (tA X.K E cl g ces)) : PE X (.List es pos) (tE X.K E cl g (.lst ces)) :=
  (pe_lst h).imp fun σ H Q ⟨ρ, S, m, hE, hS, h⟩ => by
    simp only [ev] at h
    refine ⟨ρ, S, m, hE, hS, (Post.bind h).mono fun vs H1 ⟨xs, S1, m1, st1, hS1, r1, _, h1⟩ => ?_⟩
    split at h1
    · next ds e =>
      split at h1
      · next hz =>
        have r := pure_rp r1 e
        exact ⟨by rw [rpAll_len r]; exact okLen_le hz, fun p hn => h1 _ _ m1 (Stp.same (same_upd hn)) (hS1.same (same_upd hn)) (Rp.newL hS1.mut hn r)⟩
      · exact h1.elim
    · exact h1.elim
/-- a list that is to change -/
theorem e_mls (h : PA X es (tA X.K E cl g ces)) : PE X (.List es pos) (tE X.K E cl g (.mls ces)) :=
  (pe_lst h).imp fun σ H Q ⟨ρ, S, m, hE, hS, h⟩ => by
    simp only [ev] at h
    refine ⟨ρ, S, m, hE, hS, (Post.bind h).mono fun vs H1 ⟨xs, S1, m1, st1, hS1, r1, _, h1⟩ => ?_⟩
    split at h1
    · next ds e =>
      split at h1
      · next hz =>
        have r := pure_rp r1 e
        refine ⟨by rw [rpAll_len r]; exact okLen_le hz, fun p hn => h1 _ _ (m1.more p) (Stp.more hn) (hS1.more hn r) ⟨by simp [Map.more, hS1.len], fun a e => ?_⟩⟩
        simp only [Map.more] at e
        rw [← hS1.len, List.getElem?_append_right (Nat.le_refl _)] at e
        simp only [Nat.sub_self, List.getElem?_cons_zero, Option.some.injEq] at e
        rw [e]
      · exact h1.elim
    · exact h1.elim
theorem e_frz {e : Expr} (ha : PE X e (tE X.K E cl g ca)) : PE X e (tE X.K E cl g (.frz ca)) :=
  ha.imp fun σ H Q ⟨ρ, S, m, hE, hS, h⟩ => by
    simp only [ev] at h
    refine ⟨ρ, S, m, hE, hS, (Post.bind h).mono fun v H1 ⟨x, S1, m1, st1, hS1, r1, _, h1⟩ => ?_⟩
    split at h1
    · next n _ =>
      split at h1
      · next xs e =>
        obtain ⟨a, ea⟩ := hS1.live n _ e
        obtain ⟨c, e1, hc⟩ := hS1.cell n a ea
        rw [e] at e1; cases e1
        obtain ⟨ys, e2, r2⟩ := hc
        rw [r1.2 a ea]
        exact h1 _ _ (m1.drop n) (Stp.drop n) (hS1.drop n) (Rp.given hS1 ea e2 r2)
      · exact h1.elim
    · exact h1.elim

/-! ### calls -/
/-- what a def promises: what the evaluator says -/
def spF (K : PySem.W.Frag) (cl : CallF) (f : Str) : Sp := fun vs H Q E => ∃ xs S m, RS K m H S ∧ RVs K m H vs xs ∧ PostV K E (cl f xs S) m H Q
structure FnAt (X : Cx) (cl : CallF) (k : Nat) (f : Str) : Prop where
  ex : ∃ (fa : Addr) (fd : FuncData) (ps : List Str), X.mg f = some (.ref fa) ∧ PySem.W.keepIn X.K (.ref fa) = true ∧ Binds X.K fd ps [] ∧ FnOk X.prog X.w X.K X.mg X.base (L2.CX X.prog X.w) k fa fd ps (spF X.K cl f)
/-- exceptions with that wish are taken -/
abbrev Tk (X : Cx) (E : XK) : Prop := Takes X (fun cls d _ H => E cls d H)
theorem Tk.pass {X : Cx} {E : XK} (t : Tk X E) : Passes (L2.CX X.prog X.w) X E := passes_call t fun _ _ _ _ h => h
theorem Tk.none {X : Cx} : Tk X EN := fun _ _ ⟨_, _, _, _, _, _, _, _, _, _, _, _, _, _, _, _, w⟩ => w.elim
theorem e_call {k : Nat} {f : Str} {p : Pos} (tk : Tk X E) (F : FnAt X cl k f) (hr : Room k X.A) (hg : Gl X f) (ha : PA X (a :: es) (tA X.K E cl g ces)) (hdb : (f == ("__debug__" : Str)) = false)
    (hs : starEach (a :: es) X.env = (false, eval a X.env) :: starEach es X.env) (hpl : (backTo pos (starEach es X.env)).any (·.1) = false) :
    PE X (.Call (.Name f p) (a :: es) [] pos) (tE X.K E cl g (.call f ces)) := by
  obtain ⟨fa, fd, ps, h1, h2, h3, h4⟩ := F.ex
  refine (pe_call h4 hr hg h1 h2 h3 .nil tk.pass ha hdb hs hpl).imp fun σ H Q ⟨ρ, S, m, hE, hS, h⟩ => ?_
  simp only [ev] at h
  refine ⟨ρ, S, m, hE, hS, (Post.bind h).mono fun vs H1 ⟨xs, S1, m1, st1, hS1, r1, _, q⟩ => ?_⟩
  rw [List.append_nil]
  exact ⟨xs, S1, m1, hS1, r1, q⟩
theorem e_call0 {k : Nat} {f : Str} {p : Pos} (tk : Tk X E) (F : FnAt X cl k f) (hr : Room k X.A) (hg : Gl X f) (hdb : (f == ("__debug__" : Str)) = false) :
    PE X (.Call (.Name f p) [] [] pos) (tE X.K E cl g (.call f [])) := by
  obtain ⟨fa, fd, ps, h1, h2, h3, h4⟩ := F.ex
  refine (pe_call0 h4 hr hg h1 h2 h3 .nil tk.pass hdb).imp fun σ H Q ⟨ρ, S, m, hE, hS, h⟩ => ?_
  simp only [ev, evs, Res.bind] at h
  exact ⟨[], S, m, hS, .nil, h⟩

/-- a builtin by values -/
def rBi (K : PySem.W.Frag) (f : Bi) : List V → Hp → VK → Prop := fun vs H Q => ∃ m ds r, MutOk m H ∧ Paired (WR K m H) vs ds ∧ biD f ds = some r ∧ Fin K m H r Q
theorem e_bi {f : Bi} {t : TE} {e : Expr} (he : PE X e t) (i : ∀ σ H Q, tCB (rBi X.K f) (tA X.K E cl g ces) σ H Q → t σ H Q) : PE X e (tE X.K E cl g (.bi f ces)) :=
  he.imp fun σ H Q ⟨ρ, S, m, hE, hS, h⟩ => i σ H Q (by
    simp only [ev] at h
    refine ⟨ρ, S, m, hE, hS, (Post.bind h).mono fun vs H1 ⟨xs, S1, m1, st1, hS1, r1, _, h1⟩ => ?_⟩
    split at h1
    · next ds e =>
      obtain ⟨r, er, f⟩ := postV_opt hS1 h1
      exact ⟨m1, ds, r, hS1.mut, rdAll_wr hS1 r1 e, er, f⟩
    · exact h1.elim)
end
end Pl

set_option Elab.async false
set_option linter.all false
set_option autoImplicit false
set_option maxRecDepth 100000
/-! PA5: builtins and methods. -/
namespace Pl
open PySem PySem.Spec PyProof.Rows L2

mutual
theorem plain_lay : ∀ d : D, d.canLay0 = true → d.plain = true
  | .none, _ => rfl
  | .bool _, _ => rfl
  | .int _, _ => rfl
  | .str _, _ => rfl
  | .list xs, h => plain_layA xs (by simpa [PyData.canLay0] using h)
  | .tuple xs, h => plain_layA xs (by simpa [PyData.canLay0] using h)
  | .dict _, h => absurd h (by simp [PyData.canLay0])
theorem plain_layA : ∀ ds : List D, PyData.canLayAll0 ds = true → PyData.plainAll ds = true
  | [], _ => rfl
  | d :: ds, h => by
    have h' : d.canLay0 = true ∧ PyData.canLayAll0 ds = true := by simpa [PyData.canLayAll0] using h
    simp only [PyData.plainAll, plain_lay d h'.1, plain_layA ds h'.2, Bool.and_self]
end
section
variable {X : Cx}
theorem paired1 {α β : Type} {R : α → β → Prop} {xs : List α} {y : β} (h : Paired R xs [y]) : ∃ x, xs = [x] ∧ R x y := by
  cases h with
  | cons r t => cases t; exact ⟨_, rfl, r⟩
theorem paired2 {α β : Type} {R : α → β → Prop} {xs : List α} {y z : β} (h : Paired R xs [y, z]) : ∃ a b, xs = [a, b] ∧ R a y ∧ R b z := by
  cases h with
  | cons r t =>
    cases t with
    | cons r2 t2 => cases t2; exact ⟨_, _, rfl, r, r2⟩
theorem WR.seq {K : PySem.W.Frag} {m : Map} {H : Hp} {v : V} {ds : List D} (h : WR K m H v (.list ds) ∨ WR K m H v (.tuple ds)) : ∃ a xs, v = .ref a ∧ (SqL K H a xs ∨ SqT K H a xs) ∧ RpAll K m H xs ds := by
  rcases h with h | h
  · obtain ⟨a, xs, e, h1, h2⟩ := h.list; exact ⟨a, xs, e, .inl h1, h2⟩
  · obtain ⟨a, xs, e, h1, h2⟩ := h.tuple; exact ⟨a, xs, e, .inr h1, h2⟩

theorem cr_len3 : CallR X (.builtin "len") (rBi X.K .len) := by
  intro pins s σ H vs us Q I r ⟨m, ds, d, ok, hv, hb, f⟩
  unfold biD at hb
  split at hb <;> first | contradiction | skip
  · next xs _ =>
    obtain ⟨x, rfl, h⟩ := paired1 hv
    obtain ⟨a, ys, rfl, h1, h2⟩ := h.list
    cases hb
    exact call_len pins s σ H _ us Q I r ⟨_, _, rfl, .inl ⟨ys, h1, rfl⟩, by rw [rpAll_len h2]; exact f.at (.int _)⟩
  · next xs _ =>
    obtain ⟨x, rfl, h⟩ := paired1 hv
    obtain ⟨a, ys, rfl, h1, h2⟩ := h.tuple
    cases hb
    exact call_len pins s σ H _ us Q I r ⟨_, _, rfl, .inr ⟨ys, h1, rfl⟩, by rw [rpAll_len h2]; exact f.at (.int _)⟩
  · next z _ =>
    split at hb
    · next hz =>
      obtain ⟨x, rfl, h⟩ := paired1 hv
      cases h.str
      cases hb
      exact call_len pins s σ H _ us Q I r ⟨_, _, rfl, ⟨okLen_le hz, rfl⟩, f.at (.int _)⟩
    · cases hb
theorem cr_int3 : CallR X (.type "int") (rBi X.K .int) := by
  intro pins s σ H vs us Q I r ⟨m, ds, d, ok, hv, hb, f⟩
  unfold biD at hb
  split at hb <;> first | contradiction | skip
  · obtain ⟨x, rfl, h⟩ := paired1 hv
    cases h.int; cases hb
    exact call_int1 pins s σ H _ us Q I r (.inl ⟨_, rfl, f.at (.int _)⟩)
  · obtain ⟨x, rfl, h⟩ := paired1 hv
    cases h.bool; cases hb
    exact call_int1 pins s σ H _ us Q I r (.inr ⟨_, rfl, f.at (.int _)⟩)
theorem cr_abs3 : CallR X (.builtin "abs") (rBi X.K .abs) := by
  intro pins s σ H vs us Q I r ⟨m, ds, d, ok, hv, hb, f⟩
  unfold biD at hb
  split at hb <;> first | contradiction | skip
  obtain ⟨x, rfl, h⟩ := paired1 hv
  cases h.int; cases hb
  exact call_abs pins s σ H _ us Q I r ⟨_, rfl, f.at (.int _)⟩
theorem ints_rp0 {K : PySem.W.Frag} {m : Map} {H : Hp} : ∀ {xs : List D} {vs : List V} {bs : List Int}, RpAll K m H vs xs → intsOf xs = some bs → vs = bs.map V.int
  | [], _, _, h, e => by cases h; cases e; rfl
  | x :: xs, _, _, h, e => by
    cases h with
    | cons h1 h2 =>
      cases x <;> first | (simp [intsOf] at e; done) | skip
      simp only [intsOf] at e
      cases q : intsOf xs with
      | none => rw [q] at e; cases e
      | some cs =>
        rw [q] at e; cases e
        cases h1
        rw [ints_rp0 h2 q]
        rfl
theorem foldl_max : ∀ (ns : List Int) (n m : Int), m ∈ n :: ns → (∀ y ∈ n :: ns, y ≤ m) → ns.foldl max n = m
  | [], n, m, h, _ => by simp only [List.mem_singleton] at h; exact h.symm
  | k :: ns, n, m, h, hm => by
    have h1 := hm n List.mem_cons_self
    have h2 := hm k (List.mem_cons_of_mem _ List.mem_cons_self)
    refine foldl_max ns (max n k) m ?_ fun y hy => ?_
    · rcases List.mem_cons.mp h with rfl | h
      · rw [Int.max_eq_left h2]; exact List.mem_cons_self
      · rcases List.mem_cons.mp h with rfl | h
        · rw [Int.max_eq_right h1]; exact List.mem_cons_self
        · exact List.mem_cons_of_mem _ h
    · rcases List.mem_cons.mp hy with rfl | hy
      · omega
      · exact hm y (List.mem_cons_of_mem _ (List.mem_cons_of_mem _ hy))
theorem foldl_min : ∀ (ns : List Int) (n m : Int), m ∈ n :: ns → (∀ y ∈ n :: ns, m ≤ y) → ns.foldl min n = m
  | [], n, m, h, _ => by simp only [List.mem_singleton] at h; exact h.symm
  | k :: ns, n, m, h, hm => by
    have h1 := hm n List.mem_cons_self
    have h2 := hm k (List.mem_cons_of_mem _ List.mem_cons_self)
    refine foldl_min ns (min n k) m ?_ fun y hy => ?_
    · rcases List.mem_cons.mp h with rfl | h
      · rw [Int.min_eq_left h2]; exact List.mem_cons_self
      · rcases List.mem_cons.mp h with rfl | h
        · rw [Int.min_eq_right h1]; exact List.mem_cons_self
        · exact List.mem_cons_of_mem _ h
    · rcases List.mem_cons.mp hy with rfl | hy
      · omega
      · exact hm y (List.mem_cons_of_mem _ (List.mem_cons_of_mem _ hy))
theorem cr_max3 (hc : X.calm = true) : CallR X (.builtin "max") (rBi X.K .max) := by
  intro pins s σ H vs us Q I r ⟨m, ds, d, ok, hv, hb, f⟩
  unfold biD at hb
  split at hb <;> first | contradiction | skip
  · obtain ⟨x, y, rfl, h, h'⟩ := paired2 hv
    cases h.int; cases h'.int; cases hb
    exact call_max2 hc pins s σ H _ us Q I r ⟨_, _, rfl, f.at (.int _)⟩
  · split at hb
    · next n ns e =>
      obtain ⟨x, rfl, h⟩ := paired1 hv
      obtain ⟨a, ys, rfl, h1, h2⟩ := h.list
      cases hb
      have e2 := ints_rp0 h2 e
      subst e2
      exact cr_max hc pins s σ H _ us Q I r ⟨_, n :: ns, rfl, h1, by simp, fun k hk hm => by
        rw [foldl_max ns n k hk hm] at f
        exact f.at (.int _)⟩
    · cases hb
theorem cr_min3 (hc : X.calm = true) : CallR X (.builtin "min") (rBi X.K .min) := by
  intro pins s σ H vs us Q I r ⟨m, ds, d, ok, hv, hb, f⟩
  unfold biD at hb
  split at hb <;> first | contradiction | skip
  · obtain ⟨x, y, rfl, h, h'⟩ := paired2 hv
    cases h.int; cases h'.int; cases hb
    exact call_min2 hc pins s σ H _ us Q I r ⟨_, _, rfl, f.at (.int _)⟩
  · split at hb
    · next n ns e =>
      obtain ⟨x, rfl, h⟩ := paired1 hv
      obtain ⟨a, ys, rfl, h1, h2⟩ := h.list
      cases hb
      have e2 := ints_rp0 h2 e
      subst e2
      exact cr_min hc pins s σ H _ us Q I r ⟨_, n :: ns, rfl, h1, by simp, fun k hk hm => by
        rw [foldl_min ns n k hk hm] at f
        exact f.at (.int _)⟩
    · cases hb
theorem cr_sum3 (hc : X.calm = true) : CallR X (.builtin "sum") (rBi X.K .sum) := by
  intro pins s σ H vs us Q I r ⟨m, ds, d, ok, hv, hb, f⟩
  unfold biD at hb
  split at hb <;> first | contradiction | skip
  next xs _ =>
  obtain ⟨ns, e, eb⟩ := Option.map_eq_some_iff.mp hb
  obtain ⟨x, rfl, h⟩ := paired1 hv
  obtain ⟨a, ys, rfl, h1, h2⟩ := h.list
  subst eb
  have e2 := ints_rp0 h2 e
  subst e2
  exact cr_sum hc pins s σ H _ us Q I r ⟨_, ns, rfl, h1, f.at (.int _)⟩
theorem cr_list3 : CallR X (.type "list") (rBi X.K .list) := by
  intro pins s σ H vs us Q I r ⟨m, ds, d, ok, hv, hb, f⟩
  unfold biD at hb
  split at hb <;> first | contradiction | skip
  · obtain ⟨x, rfl, h⟩ := paired1 hv
    obtain ⟨a, ys, rfl, h1, h2⟩ := h.list
    cases hb
    exact call_list_of pins s σ H _ us Q I r ⟨_, _, rfl, .inl h1, f.lst ok h2⟩
  · obtain ⟨x, rfl, h⟩ := paired1 hv
    obtain ⟨a, ys, rfl, h1, h2⟩ := h.tuple
    cases hb
    exact call_list_of pins s σ H _ us Q I r ⟨_, _, rfl, .inr h1, f.lst ok h2⟩
theorem cr_tuple3 : CallR X (.type "tuple") (rBi X.K .tuple) := by
  intro pins s σ H vs us Q I r ⟨m, ds, d, ok, hv, hb, f⟩
  unfold biD at hb
  split at hb <;> first | contradiction | skip
  · obtain ⟨x, rfl, h⟩ := paired1 hv
    obtain ⟨a, ys, rfl, h1, h2⟩ := h.list
    cases hb
    exact call_tuple_of pins s σ H _ us Q I r ⟨_, _, rfl, .inl ⟨h1, f.tup ok h2⟩⟩
  · obtain ⟨x, rfl, h⟩ := paired1 hv
    obtain ⟨a, ys, rfl, h1, h2⟩ := h.tuple
    cases hb
    exact call_tuple_of pins s σ H _ us Q I r ⟨_, _, rfl, .inr ⟨h1, f.at (.tup h1 h2)⟩⟩
theorem bools_rp {K : PySem.W.Frag} {m : Map} {H : Hp} : ∀ {xs : List D} {vs : List V} {bs : List Bool}, RpAll K m H vs xs → boolsOf xs = some bs → vs = bs.map V.bl
  | [], _, _, h, e => by cases h; cases e; rfl
  | x :: xs, _, _, h, e => by
    cases h with
    | cons h1 h2 =>
      cases x <;> first | (simp [boolsOf] at e; done) | skip
      simp only [boolsOf] at e
      cases q : boolsOf xs with
      | none => rw [q] at e; cases e
      | some cs =>
        rw [q] at e; cases e
        cases h1
        rw [bools_rp h2 q]
        rfl
theorem ints_rp {K : PySem.W.Frag} {m : Map} {H : Hp} : ∀ {xs : List D} {vs : List V} {bs : List Int}, RpAll K m H vs xs → intsOf xs = some bs → vs = bs.map V.int
  | [], _, _, h, e => by cases h; cases e; rfl
  | x :: xs, _, _, h, e => by
    cases h with
    | cons h1 h2 =>
      cases x <;> first | (simp [intsOf] at e; done) | skip
      simp only [intsOf] at e
      cases q : intsOf xs with
      | none => rw [q] at e; cases e
      | some cs =>
        rw [q] at e; cases e
        cases h1
        rw [ints_rp h2 q]
        rfl
theorem cr_all3 (hc : X.calm = true) : CallR X (.builtin "all") (rBi X.K .all) := by
  intro pins s σ H vs us Q I r ⟨m, ds, d, ok, hv, hb, f⟩
  unfold biD at hb
  split at hb <;> first | contradiction | skip
  next xs _ =>
  obtain ⟨x, rfl, h⟩ := paired1 hv
  obtain ⟨a, ys, rfl, h1, h2⟩ := h.list
  cases q : boolsOf xs with
  | none => rw [q] at hb; cases hb
  | some bs =>
    rw [q] at hb; cases hb
    have e := bools_rp h2 q
    subst e
    exact cr_all hc pins s σ H _ us Q I r ⟨_, _, rfl, h1, f.at (.bl _)⟩
theorem cr_any3 (hc : X.calm = true) : CallR X (.builtin "any") (rBi X.K .any) := by
  intro pins s σ H vs us Q I r ⟨m, ds, d, ok, hv, hb, f⟩
  unfold biD at hb
  split at hb <;> first | contradiction | skip
  next xs _ =>
  obtain ⟨x, rfl, h⟩ := paired1 hv
  obtain ⟨a, ys, rfl, h1, h2⟩ := h.list
  cases q : boolsOf xs with
  | none => rw [q] at hb; cases hb
  | some bs =>
    rw [q] at hb; cases hb
    have e := bools_rp h2 q
    subst e
    exact cr_any hc pins s σ H _ us Q I r ⟨_, _, rfl, h1, f.at (.bl _)⟩

/-! ### sorted -/
mutual
theorem plain_alike : ∀ d : D, PySem.W.alike d d = true → d.plain = true
  | .none, _ => rfl
  | .bool _, _ => rfl
  | .int _, _ => rfl
  | .str _, _ => rfl
  | .list xs, h => plain_alikeAll xs (by simpa [PySem.W.alike] using h)
  | .tuple xs, h => plain_alikeAll xs (by simpa [PySem.W.alike] using h)
  | .dict _, h => absurd h (by simp [PySem.W.alike])
theorem plain_alikeAll : ∀ ds : List D, PySem.W.alikeAll ds ds = true → PyData.plainAll ds = true
  | [], _ => rfl
  | d :: ds, h => by
    have h' := PySem.W.alike_all_cons h
    simp only [PyData.plainAll, plain_alike d h'.1, plain_alikeAll ds h'.2, Bool.and_self]
end
/-- a value stands for a datum -/
def SR (K : PySem.W.Frag) (m : Map) (H : Hp) (u : Value) (d : D) : Prop := ∃ x, RelV x u ∧ Rp K m H x d
theorem sr_each {K : PySem.W.Frag} {m : Map} {H : Hp} : ∀ {xs : List V} {us : List Value} {ds : List D}, Vals xs us → RpAll K m H xs ds → PySem.W.EachIs (SR K m H) us ds
  | _, _, _, .nil, .nil => .nil
  | _, _, _, .cons r t, .cons p q => .cons ⟨_, r, p⟩ (sr_each t q)
theorem sr_back {K : PySem.W.Frag} {m : Map} {H : Hp} : ∀ {us : List Value} {ds : List D}, PySem.W.EachIs (SR K m H) us ds → ∃ xs, Vals xs us ∧ RpAll K m H xs ds
  | _, _, .nil => ⟨[], .nil, .nil⟩
  | _, _, .cons ⟨x, r, p⟩ t => by
    obtain ⟨xs, h1, h2⟩ := sr_back t
    exact ⟨x :: xs, .cons r h1, .cons p h2⟩
theorem sr_reads {pins : List (Addr × Obj)} {σ : L2.St} {H : Hp} {s : Shared} {m : Map} (I : Inv X pins σ H s) : ∀ {us : List Value} {ds : List D}, (∀ d ∈ ds, d.plain = true) → PySem.W.EachIs (SR X.K m H) us ds → PySem.W.EachIs (fun v b => ∃ as, Reads s.heap v (id b) as) us ds
  | _, _, _, .nil => .nil
  | _, b :: _, h, .cons e t => by
    obtain ⟨x, r, p⟩ := e
    exact .cons (Dp.reads I b _ _ (Rp.dp b x (h _ List.mem_cons_self) p) r) (sr_reads I (fun d hd => h d (List.mem_cons_of_mem _ hd)) t)
theorem cr_sorted3 (hu : X.A.units + 260 < cLine) : CallR X (.builtin "sorted") (rBi X.K .sorted) := by
  intro pins s σ H vs us Q I r ⟨m, ds, d, ok, hv, hb, f⟩
  unfold biD at hb
  split at hb <;> first | contradiction | skip
  next xs _ =>
  split at hb
  case isFalse => cases hb
  next hz =>
  cases hb
  obtain ⟨x, rfl, h⟩ := paired1 hv
  obtain ⟨a, ys, rfl, h1, h2⟩ := h.list
  simp only [sortOk, Bool.and_eq_true, List.all_eq_true, Bool.or_eq_true] at hz
  obtain ⟨⟨⟨z1, z2⟩, z3⟩, z4⟩ := hz
  obtain ⟨its, rv, pl, hl⟩ := I.list h1
  rw [Vals.ref1 r]
  have hal : PySem.W.AllAlike (xs.map id) := by
    rw [List.map_id]; intro d hd d' hd'
    exact z1 d hd d' hd'
  have hpl : ∀ d ∈ xs, d.plain = true := fun d hd => plain_alike d (z1 d hd d hd)
  have hso : (∀ d ∈ xs.map id, ∃ ys, d = .tuple ys) ∨ ∀ d, d ∈ xs.map id → d ≠ .none ∧ ∀ ys, d ≠ .tuple ys := by
    rw [List.map_id]
    rcases z2 with z2 | z2
    · refine .inl fun d hd => ?_
      have := z2 d hd
      cases d with
      | tuple l => exact ⟨l, rfl⟩
      | _ => exact absurd this (by simp [isTup1])
    · refine .inr fun d hd => ?_
      have := z2 d hd
      cases d <;> first | (simp [notTupNone] at this; done) | (refine ⟨fun e => ?_, fun xs e => ?_⟩ <;> cases e)
  have e1 := sr_each rv h2
  have er := sr_reads I hpl e1
  refine sorted_wide (R := SR X.K m H) (enc := id) pl.isList e1 er hal hso (okLen_le z3) (fun b hb => ?_) fun out ho eo => ?_
  · have : b.depth ≤ 200 := of_decide_eq_true (z4 b hb)
    show X.A.units + 2 + b.depth < cLine
    omega
  · obtain ⟨zs, v1, v2⟩ := sr_back eo
    obtain ⟨ep, he'⟩ := PyProof.Rows.sortedAll_at s.heap its out.toArray
    have hlen : zs.length ≤ sizeLine := by
      rw [v1.length, ho]; exact okLen_le z3
    exact ⟨.ref _, upd H (s.heap.objs.size + 1) (.lst zs), I.laid (t' := s.toks) (fun _ _ => PyProof.Rows.sortedAll_old) (Nat.le_succ _) ⟨hlen, out, ep, v1, he'⟩, rfl,
      f.lst ok v2 _ (I.hok.fresh (Nat.le_succ _))⟩

/-! ### methods -/
def rMe (K : PySem.W.Frag) (f : Me) : V → List V → Hp → VK → Prop := fun x vs H Q => ∃ m a xs ds es r ys, MutOk m H ∧ m.has a ∧ x = .ref a ∧ H a = some (.lst xs) ∧ RpAll K m H xs ds ∧ RpAll K m H vs es ∧ metC f ds es = some (r, ys) ∧
  ∀ z zs, Rp K m H z r → RpAll K m H zs ys → Q z (upd H a (.lst zs))
theorem mt_append3 : MtR X "list.append" (rMe X.K .append) := by
  intro pins s σ H x vs v us Q I rx rv ⟨m, a, xs, ds, es, r, ys, ok, ha, e, hx, h1, h2, hb, q⟩
  unfold metC at hb
  split at hb <;> first | contradiction | skip
  split at hb
  · next hz =>
    cases hb
    cases h2 with
    | cons p t =>
      cases t
      refine mt_append pins s σ H _ _ v us Q I rx rv ⟨a, xs, _, e, rfl, hx, by rw [rpAll_len h1]; exact of_decide_eq_true hz, q _ _ .non (rpAll_append h1 (.cons p .nil))⟩
  · cases hb
theorem mt_extend3 : MtR X "list.extend" (rMe X.K .extend) := by
  intro pins s σ H x vs v us Q I rx rv ⟨m, a, xs, ds, es, r, ys, ok, ha, e, hx, h1, h2, hb, q⟩
  unfold metC at hb
  split at hb <;> first | contradiction | skip
  split at hb
  · next hz =>
    cases hb
    cases h2 with
    | cons p t =>
      cases t
      cases p with
      | lst p1 p2 =>
        refine mt_extend pins s σ H _ _ v us Q I rx rv ⟨a, _, xs, _, e, rfl, hx, p1.1, by rw [rpAll_len h1, rpAll_len p2]; exact okLen_le hz, q _ _ .non (rpAll_append h1 p2)⟩
  · cases hb
theorem mt_pop3 : MtR X "list.pop" (rMe X.K .pop) := by
  intro pins s σ H x vs v us Q I rx rv ⟨m, a, xs, ds, es, r, ys, ok, ha, e, hx, h1, h2, hb, q⟩
  cases es with
  | cons y t => simp [metC] at hb
  | nil =>
    cases h2
    cases q' : ds.getLast? with
    | none => simp [metC, q'] at hb
    | some d =>
      simp only [metC, q', Option.map_some, Option.some.injEq, Prod.mk.injEq] at hb
      obtain ⟨rfl, rfl⟩ := hb
      have e2 : ds[ds.length - 1]? = some d := by rw [← List.getLast?_eq_getElem?]; exact q'
      obtain ⟨z, e3, r3⟩ := rpAll_get h1 e2
      exact mt_pop pins s σ H _ _ v us Q I rx rv ⟨a, xs, z, e, rfl, hx, by rw [rpAll_len h1]; exact e3, q _ _ r3 (rpAll_dropLast h1)⟩
theorem mt_remove3 (hu : X.A.units + 260 < cLine) : MtR X "list.remove" (rMe X.K .remove) := by
  intro pins s σ H x vs v us Q I rx rv ⟨m, a, xs, ds, es, r, ys, ok, ha, e, hx, h1, h2, hb, q⟩
  match es, h2, hb with
  | [], _, hb => simp [metC] at hb
  | _ :: _ :: _, _, hb => simp [metC] at hb
  | [d], h2, hb =>
    simp only [metC] at hb
    split at hb
    · next hz =>
      rw [Bool.and_eq_true] at hz
      obtain ⟨p1, d1⟩ := cmpOk_ok hz.1
      obtain ⟨p2, d2⟩ := cmpOk_ok hz.2
      cases q' : PySem.SeqAt.dataPlace ds d with
      | none => rw [q'] at hb; cases hb
      | some j =>
        rw [q'] at hb
        cases hb
        cases h2 with
        | cons p t =>
          cases t
          subst e
          cases rx
          obtain ⟨u, rfl, ru⟩ := rv.one
          obtain ⟨z, its, n, rr, hl, eo⟩ := I.lstM hx
          obtain ⟨as, r1⟩ := Dp.readsAll I ds xs its (RpAll.dp ds xs p2 h1) rr
          obtain ⟨bs, r2⟩ := Dp.reads I d _ u (Rp.dp d _ p1 p) ru
          refine SeqAt.remove_list_data (j := j) (vs := its.toArray) ⟨_, eo, rfl, n, rfl⟩ (by simpa using r1) r2 p2 p1 (room_in1 (e := ds) hu d1) q' (by rw [List.size_toArray]; omega) ?_
          refine ⟨.non, _, I.lset (its' := its.eraseIdx j) (t' := s.toks) hx eo ?_ (rr.eraseIdx j) ?_, rfl, q _ _ .non (rpAll_erase j h1)⟩
          · show its.toArray.eraseIdxIfInBounds j = (its.eraseIdx j).toArray
            rw [List.eraseIdxIfInBounds_toArray]
          · have := len_erase xs j
            omega
    · cases hb
/-- list.index(x) -/
def rIx3 (K : PySem.W.Frag) : V → List V → Hp → VK → Prop := fun x vs H Q => ∃ m ds y d r, MutOk m H ∧ vs = [y] ∧ WR K m H x (.list ds) ∧ Rp K m H y d ∧ inxD (.list ds) d = some r ∧ Fin K m H r Q
theorem shaped_plain {d : D} (h : PySem.SeqAt.shaped d = true) : d.plain = true := by
  have := PySem.SeqAt.canLay_of_shaped h
  exact (show ∀ d : D, d.canLay0 = true → d.plain = true from plain_lay) d this
theorem mt_index3 (hu : X.A.units + 260 < cLine) : MtR X "list.index" (rIx3 X.K) := by
  intro pins s σ H x vs v us Q I rx rv ⟨m, ds, y, d, r, ok, e, hx, hy, hb, f⟩
  subst e
  simp only [inxD] at hb
  split at hb
  case isFalse => cases hb
  next hz =>
  rw [Bool.and_eq_true] at hz
  obtain ⟨j, ej, eb⟩ := Option.map_eq_some_iff.mp hb
  subst eb
  have hx' := hx
  obtain ⟨a, ys, rfl, h1, h2⟩ := hx'.list
  have p1 := shaped_plain hz.1
  have p2 := shaped_plain hz.2
  obtain ⟨hj1, hj2, hj3⟩ := List.findIdx?_eq_some_iff_getElem.mp ej
  exact mt_indexD (by omega) pins s σ H _ _ v us Q I rx rv ⟨a, y, d, ds, j, ds[j], rfl, rfl, hx.dp p1, Rp.dp d y p2 hy, hz.1, hz.2, List.getElem?_eq_getElem hj1, hj2, fun k z' hk ek => by
    have := hj3 k hk
    obtain ⟨hk2, ez⟩ := List.getElem?_eq_some_iff.mp ek
    subst ez
    simpa using this, f.at (.int _)⟩
end
end Pl

set_option Elab.async false
set_option linter.all false
set_option autoImplicit false
set_option maxRecDepth 100000
/-! PA6: calls of builtins, methods, isinstance. -/
namespace Pl
open PySem PySem.Spec PyProof.Rows L2

/-! ### arguments without a star -/
def noStar : Expr → Bool
  | .Starred .. => false
  | _ => true
theorem star_cons {e : Expr} {es : List Expr} {env : Env} (h : noStar e = true) : starEach (e :: es) env = (false, eval e env) :: starEach es env := by
  cases e <;> first | rfl | (simp [noStar] at h)
theorem star_any {env : Env} {pos : Pos} : ∀ {es : List Expr}, (∀ e ∈ es, noStar e = true) → (backTo pos (starEach es env)).any (·.1) = false
  | [], _ => rfl
  | e :: es, h => by
    rw [star_cons (h e List.mem_cons_self)]
    have ih := star_any (env := env) (pos := pos) fun x hx => h x (List.mem_cons_of_mem _ hx)
    unfold backTo at ih ⊢
    rw [List.map_cons, List.any_cons, ih]
    rfl
theorem star_all {env : Env} {pos : Pos} {es : List Expr} (h : ∀ e ∈ es, noStar e = true) : (backTo pos (starEach es env)).all (fun x => !x.1) = true := by
  have := star_any (env := env) (pos := pos) h
  rw [List.all_eq_true]
  intro x hx
  rw [List.any_eq_false] at this
  have := this x hx
  simpa using this

section
variable {X : Cx} {E : XK} {cl : CallF} {g : Str → Option D} {a b c : Expr} {ca cb cc : Ex} {pos p : Pos} {es : List Expr} {ces : List Ex}
theorem e_biB {id : String} {f : Bi} {x : Str} (hc : CallR X (.builtin id) (rBi X.K f)) (hg : Gl X x) (hm : X.mg x = none) (hv : bootBuiltins x = some (.builtin id)) (ha : PA X (a :: es) (tA X.K E cl g ces)) (hn : x ≠ "__name__") (hd : (x == ("__debug__" : Str)) = false)
    (hs : ∀ e ∈ a :: es, noStar e = true) : PE X (.Call (.Name x p) (a :: es) [] pos) (tE X.K E cl g (.bi f ces)) :=
  e_bi (pe_callB hc hg hm hv ha hn hd (star_cons (hs a List.mem_cons_self)) (star_any fun e he => hs e (List.mem_cons_of_mem _ he))) fun _ _ _ h => h
theorem e_biT {id : String} {f : Bi} {x : Str} (hc : CallR X (.type id) (rBi X.K f)) (hg : Gl X x) (hm : X.mg x = none) (hv : bootBuiltins x = some (.type id)) (ha : PA X (a :: es) (tA X.K E cl g ces)) (hn : x ≠ "__name__") (hd : (x == ("__debug__" : Str)) = false)
    (hs : ∀ e ∈ a :: es, noStar e = true) : PE X (.Call (.Name x p) (a :: es) [] pos) (tE X.K E cl g (.bi f ces)) :=
  e_bi (pe_callTy hc hg hm hv ha hn hd (star_cons (hs a List.mem_cons_self)) (star_any fun e he => hs e (List.mem_cons_of_mem _ he))) fun _ _ _ h => h

/-! ### isinstance -/
def Ty.nm : Ty → String
  | .none => "NoneType"
  | .bool => "bool"
  | .int => "int"
  | .str => "str"
  | .list => "list"
  | .tuple => "tuple"
  | .dict => "dict"
theorem kit_tab : ∀ a b : Ty, b ≠ .none → kitB a.nm b.nm = some (isiT a b) := by
  intro a b hb
  cases b <;> first | exact absurd rfl hb | (cases a <;> decide +kernel)
theorem tyX_of {K : PySem.W.Frag} {m : Map} {H : Hp} {x : V} {d : D} (h : WR K m H x d) : TyX K H x (.type (tyOf d).nm) := by
  have lst : ∀ {a : Addr} {xs : List V}, SqL K H a xs → TyX K H (.ref a) (.type "list") := fun {a xs} h => by
    rcases h with (h | ⟨o, h⟩) | ⟨o, its, n, hk, hc, _⟩
    · exact .base (.lst h)
    · exact .base (.frz h)
    · exact .kList hk hc
  have tup : ∀ {a : Addr} {xs : List V}, SqT K H a xs → TyX K H (.ref a) (.type "tuple") := fun {a xs} h => by
    rcases h with (h | ⟨o, h⟩) | ⟨o, its, n, hk, hc, _⟩
    · exact .base (.tup h)
    · exact .fTuple h
    · exact .kTuple hk hc
  cases h with
  | l h1 h2 => exact lst h1
  | d h1 h2 => exact .base (.dK h1)
  | p h =>
    cases h with
    | non => exact .base .non
    | bl b => exact .base (.bl b)
    | int i => exact .base (.int i)
    | str z => exact .base (.str z)
    | lst h1 h2 => exact lst h1.sq
    | tup h1 h2 => exact tup h1
    | dic h1 h2 h3 => exact .base (.dK h1)
theorem e_isi {t : Ty} {tn : Str} {p2 : Pos} (ht : t ≠ .none) (hg : Gl X "isinstance") (hm : X.mg "isinstance" = none) (hg2 : Gl X tn) (hm2 : X.mg tn = none) (hv2 : bootBuiltins tn = some (.type t.nm)) (hn2 : tn ≠ "__name__") (hd2 : (tn == ("__debug__" : Str)) = false)
    (ha : PE X a (tE X.K E cl g ca)) (hs : noStar a = true) : PE X (.Call (.Name "isinstance" p) [a, .Name tn p2] [] pos) (tE X.K E cl g (.isi ca t)) := by
  have h2 : PE X (.Name tn p2) (tC (.ty t.nm)) := pe_bltn hg2 hm2 hv2 rfl hn2 hd2
  refine (pe_callB call_isi hg hm boot_isinstance (pa_cons ha (pa_cons h2 pa_nil (star_cons rfl)) (star_cons hs)) (by decide) (by decide) (star_cons hs) (star_any fun e he => by
    rw [List.mem_singleton] at he; subst he; rfl)).imp fun σ H Q ⟨ρ, S, m, hE, hS, h⟩ => ?_
  simp only [ev] at h
  refine ⟨ρ, S, m, hE, hS, (Post.bind h).mono fun v H1 ⟨x, S1, m1, st1, hS1, r1, _, h1⟩ => ?_⟩
  split at h1
  · next d e =>
    exact ⟨v, .ty t.nm, _, _, _, rfl, .ty _, tyX_of (WR.of hS1 r1 e), kit_ty (kit_tab _ _ ht), post_ok (b := V.bl _) hS1 (.bl _) h1⟩
  · exact h1.elim

/-! ### methods of lists -/
theorem isLst_ok {v : Vl} {S : Store} (h : isLst v S = true) : ∃ n xs, v = .r n ∧ S[n]? = some (.lst xs) := by
  cases v with
  | p d => cases h
  | s d => cases h
  | r n =>
    simp only [isLst] at h
    split at h
    · next xs e => exact ⟨n, xs, rfl, e⟩
    · cases h
theorem met_at {f : Me} {x : V} {v : Vl} {vs : List V} {xs : List Vl} {S : Store} {m : Map} {H : Hp} {Q : VK} (hS : RS X.K m H S) (rx : RV X.K m H x v) (rs : RVs X.K m H vs xs) (h : PostV X.K E (metV f v xs S) m H Q) : rMe X.K f x vs H Q := by
  unfold metV at h
  split at h
  · next n ds e1 =>
    split at h
    · next ys e2 =>
      obtain ⟨a, ea⟩ := hS.live n _ e2
      obtain ⟨c, e3, hc⟩ := hS.cell n a ea
      rw [e2] at e3; cases e3
      obtain ⟨zs, e4, r4⟩ := hc
      have hm : some a ∈ m.m := List.mem_iff_getElem?.mpr ⟨n, ea⟩
      split at h
      · next r ws e5 =>
        refine ⟨m, a, zs, ys, ds, r, ws, hS.mut, .inl hm, rx.2 a ea, e4, r4, pure_rp rs e1, e5, fun z us hz hu => ?_⟩
        exact h z _ m (Stp.write hm) (hS.write ea hu) (RV.mut (v := .p r) (.inl hm) hS.mut hz)
      · exact h.elim
    · exact h.elim
  · exact h.elim
theorem ty_at {x : V} {v : Vl} {S : Store} {m : Map} {H : Hp} (hS : RS X.K m H S) (rx : RV X.K m H x v) (h : isLst v S = true) : tyV X.K "list" x H := by
  obtain ⟨n, xs, rfl, e⟩ := isLst_ok h
  obtain ⟨a, ea⟩ := hS.live n _ e
  obtain ⟨c, e3, hc⟩ := hS.cell n a ea
  rw [e] at e3; cases e3
  obtain ⟨zs, e4, r4⟩ := hc
  rw [rx.2 a ea]
  exact .inl ⟨rfl, zs, .inl (.inl e4)⟩
theorem e_met {f : Me} {name : Str} {id : String} {apos : Pos} (slot : Slot "list" name id) (hty : typeOf (.builtin id) = pure (.type "method_descriptor")) (hm : MtR X id (rMe X.K f)) (ha : PE X a (tE X.K E cl g ca)) (hb : PA X (b :: es) (tA X.K E cl g ces))
    (hbase : attributeBase a name X.env (eval a X.env) = eval a X.env) (hs : ∀ e ∈ b :: es, noStar e = true) (hfew : (b :: es).length < 30) (hline : (apos.endLine == pos.line) = true) :
    PE X (.Call (.Attribute a name apos) (b :: es) [] pos) (tE X.K E cl g (.met f ca ces)) := by
  refine (pe_bm PySem.F.plainAttrs_list slot hty hm ha hb hbase ?_ hline (star_cons (hs b List.mem_cons_self)) (star_any fun e he => hs e (List.mem_cons_of_mem _ he))).imp fun σ H Q ⟨ρ, S, m, hE, hS, h⟩ => ?_
  · rw [star_all hs]
    have h0 : ((b :: es).length + ([] : List Keyword).length + (if ([] : List Keyword).isEmpty then 0 else 1)) = (b :: es).length := rfl
    rw [h0, decide_eq_true hfew]
    rfl
  · simp only [ev] at h
    refine ⟨ρ, S, m, hE, hS, (Post.bind h).mono fun v H1 ⟨x, S1, m1, st1, hS1, r1, _, h1⟩ => ?_⟩
    split at h1
    · next hl =>
      refine ⟨ty_at hS1 r1 hl, ρ, S1, m1, hE.stp st1 hS.mut, hS1, (Post.bind h1).mono fun vs H2 ⟨xs, S2, m2, st2, hS2, r2, _, h2⟩ => ?_⟩
      exact met_at hS2 (r1.stp st2 hS1.mut) r2 h2
    · exact h1.elim
theorem e_met0 {f : Me} {name : Str} {id : String} {apos : Pos} (slot : Slot "list" name id) (hty : typeOf (.builtin id) = pure (.type "method_descriptor")) (hm : MtR X id (rMe X.K f)) (ha : PE X a (tE X.K E cl g ca))
    (hbase : attributeBase a name X.env (eval a X.env) = eval a X.env) (hline : (apos.endLine == pos.line) = true) :
    PE X (.Call (.Attribute a name apos) [] [] pos) (tE X.K E cl g (.met f ca [])) := by
  refine (pe_bm0 PySem.F.plainAttrs_list slot hty hm ha hbase hline).imp fun σ H Q ⟨ρ, S, m, hE, hS, h⟩ => ?_
  simp only [ev] at h
  refine ⟨ρ, S, m, hE, hS, (Post.bind h).mono fun v H1 ⟨x, S1, m1, st1, hS1, r1, _, h1⟩ => ?_⟩
  split at h1
  · next hl =>
    simp only [evs, Res.bind] at h1
    exact ⟨ty_at hS1 r1 hl, met_at hS1 r1 .nil h1⟩
  · exact h1.elim
/-! ### list.index, dict.get -/
theorem isLs_ok {v : Vl} {S : Store} (h : isLs v S = true) : ∃ ds, rd S v = some (.list ds) := by
  unfold isLs at h
  split at h
  · next ds e => exact ⟨ds, e⟩
  · cases h
theorem isDct_ok {v : Vl} {S : Store} (h : isDct v S = true) : ∃ ds, rd S v = some (.dict ds) := by
  unfold isDct at h
  split at h
  · next ds e => exact ⟨ds, e⟩
  · cases h
theorem e_inx {apos : Pos} (hu : X.A.units + 260 < cLine) (ha : PE X a (tE X.K E cl g ca)) (hb : PE X b (tE X.K E cl g cb)) (hbase : attributeBase a "index" X.env (eval a X.env) = eval a X.env) (hs : noStar b = true) (hline : (apos.endLine == pos.line) = true) :
    PE X (.Call (.Attribute a "index" apos) [b] [] pos) (tE X.K E cl g (.inx ca cb)) := by
  refine (pe_bm PySem.F.plainAttrs_list PySem.F.slot_list_index PySem.F.type_list_index (mt_index3 hu) ha (pa_cons hb pa_nil (star_cons hs)) hbase ?_ hline (star_cons hs) (by rfl)).imp fun σ H Q ⟨ρ, S, m, hE, hS, h⟩ => ?_
  · rw [star_all (es := [b]) (fun e he => by rw [List.mem_singleton.mp he]; exact hs)]
    rfl
  · simp only [ev] at h
    refine ⟨ρ, S, m, hE, hS, (Post.bind h).mono fun v H1 ⟨x, S1, m1, st1, hS1, r1, _, h1⟩ => ?_⟩
    split at h1
    · next hl =>
      obtain ⟨ds, e⟩ := isLs_ok hl
      have w1 := WR.of hS1 r1 e
      obtain ⟨p, ys, rfl, q1, q2⟩ := w1.list
      refine ⟨.inl ⟨rfl, ys, q1⟩, ρ, S1, m1, hE.stp st1 hS.mut, hS1, (Post.bind h1).mono fun w H2 ⟨y, S2, m2, st2, hS2, r2, _, h2⟩ => ?_⟩
      cases y with
      | r n => cases hq : rd S2 x <;> (simp only [hq] at h2; exact h2.elim)
      | s n => cases hq : rd S2 x <;> (simp only [hq] at h2; exact h2.elim)
      | p e' =>
        cases ed : rd S2 x with
        | none => simp only [ed] at h2; exact h2.elim
        | some d =>
          simp only [ed] at h2
          obtain ⟨r, er, f⟩ := postV_opt hS2 h2
          cases d <;> first | (simp [inxD] at er; done) | skip
          exact ⟨m2, _, w, _, r, hS2.mut, rfl, WR.of hS2 (r1.stp st2 hS1.mut) ed, r2, er, f⟩
    · exact h1.elim
theorem e_dgt {apos : Pos} (hu : X.A.units + 260 < cLine) (ha : PE X a (tE X.K E cl g ca)) (hb : PE X b (tE X.K E cl g cb)) (hbase : attributeBase a "get" X.env (eval a X.env) = eval a X.env) (hs : noStar b = true) (hline : (apos.endLine == pos.line) = true) :
    PE X (.Call (.Attribute a "get" apos) [b] [] pos) (tE X.K E cl g (.dgt ca cb)) := by
  refine (pe_dget1 (by omega) ha hb ⟨hbase, ?_, hline, ?_⟩).imp fun σ H Q ⟨ρ, S, m, hE, hS, h⟩ => ?_
  · rw [star_all (es := [b]) (fun e he => by rw [List.mem_singleton.mp he]; exact hs)]
    rfl
  · rw [star_cons hs]; rfl
  · simp only [ev] at h
    refine ⟨ρ, S, m, hE, hS, (Post.bind h).mono fun v H1 ⟨x, S1, m1, st1, hS1, r1, _, h1⟩ => ?_⟩
    split at h1
    · next hl =>
      obtain ⟨ds, e⟩ := isDct_ok hl
      obtain ⟨p, ys, rfl, q1, q2⟩ := (WR.of hS1 r1 e).dict
      refine ⟨p, rfl, .inl ⟨ys, .inl q1⟩, ρ, S1, m1, hE.stp st1 hS.mut, hS1, (Post.bind h1).mono fun w H2 ⟨y, S2, m2, st2, hS2, r2, _, h2⟩ => ?_⟩
      split at h2
      · next d e' ed ee =>
        obtain ⟨r, er, f⟩ := postV_opt hS2 h2
        cases d <;> first | (simp [getD'] at er; done) | skip
        next es =>
        obtain ⟨k, ek, ev⟩ := Option.map_eq_some_iff.mp (show ((keyOf e').map fun j => (valD es j).getD .none) = some r from er)
        obtain ⟨p', kvs, ep, q3, q4⟩ := (WR.of hS2 (r1.stp st2 hS1.mut) ed).dict
        cases ep
        have ex := wr_key (WR.of hS2 r2 ee) ek
        subst ex
        refine ⟨_, DGet.k q3, ?_⟩
        cases q5 : valD es k with
        | none =>
          rw [q4.no q5]
          rw [q5] at ev
          subst ev
          exact f.at .non
        | some z =>
          obtain ⟨u, e1, e2⟩ := q4.get (K := X.K) (m := m2) (H := H2) q5
          rw [e1]
          rw [q5] at ev
          subst ev
          exact f.at e2
      · exact h2.elim
    · exact h1.elim
end
end Pl

set_option Elab.async false
set_option linter.all false
set_option autoImplicit false
set_option maxRecDepth 100000
/-! PA7: what is walked; list comprehensions. -/
namespace Pl
open PySem PySem.Spec PyProof.Rows L2

/-! ### maps changed -/
structure Chg (m : Map) (H : Hp) (m' : Map) (H' : Hp) : Prop where
  keep : ∀ a o, ¬ m.has a → H a = some o → H' a = some o
  nohas : ∀ a o, ¬ m.has a → H a = some o → ¬ m'.has a
theorem FL.chg {m m' : Map} {H H' : Hp} {a : Addr} {xs : List V} (st : Chg m H m' H') (h : FL m H a xs) : FL m' H' a xs := ⟨st.keep a _ h.2 h.1, st.nohas a _ h.2 h.1⟩
theorem WL.chg {K : PySem.W.Frag} {m m' : Map} {H H' : Hp} {a : Addr} {xs : List V} (st : Chg m H m' H') (h : WL K m H a xs) : WL K m' H' a xs := by
  rcases h with ⟨h, hm⟩ | h
  · obtain ⟨o, e⟩ := Rd.there h
    exact .inl ⟨Rd.keep (fun o => st.keep a o hm) h, st.nohas a o hm e⟩
  · exact .inr h
mutual
theorem Rp.chg {K : PySem.W.Frag} {m m' : Map} {H H' : Hp} (st : Chg m H m' H') (ok : MutOk m H) : ∀ (d : D) (v : V), Rp K m H v d → Rp K m' H' v d
  | .none, _, h => by cases h; exact .non
  | .bool b, _, h => by cases h; exact .bl b
  | .int i, _, h => by cases h; exact .int i
  | .str x, _, h => by cases h; exact .str x
  | .list ds, _, h => by
    cases h with
    | lst h1 h2 => exact .lst (h1.chg st) (RpAll.chg st ok ds _ h2)
  | .tuple ds, _, h => by
    cases h with
    | tup h1 h2 =>
      refine .tup ?_ (RpAll.chg st ok ds _ h2)
      rcases h1 with h1 | h1
      · exact .inl (Rd.keep (fun o => st.keep _ o (ok.tup h1)) h1)
      · exact .inr h1
  | .dict es, _, h => by
    cases h with
    | dic h1 h2 h3 => exact .dic (st.keep _ _ h2 h1) (st.nohas _ _ h2 h1) h3
theorem RpAll.chg {K : PySem.W.Frag} {m m' : Map} {H H' : Hp} (st : Chg m H m' H') (ok : MutOk m H) : ∀ (ds : List D) (vs : List V), RpAll K m H vs ds → RpAll K m' H' vs ds
  | [], _, h => by cases h; exact .nil
  | d :: ds, _, h => by
    cases h with
    | cons h1 h2 => exact .cons (Rp.chg st ok d _ h1) (RpAll.chg st ok ds _ h2)
end
structure Old (m m' : Map) : Prop where
  len : m.m.length ≤ m'.m.length
  old : ∀ (n : Nat) (a : Addr), n < m.m.length → m'.m[n]? = some (some a) → m.m[n]? = some (some a)
theorem RV.chg {K : PySem.W.Frag} {m m' : Map} {H H' : Hp} {x : V} {v : Vl} (st : Chg m H m' H') (e : Old m m') (ok : MutOk m H) (h : RV K m H x v) : RV K m' H' x v := by
  cases v with
  | p d => exact Rp.chg st ok d x h
  | r n => exact ⟨Nat.lt_of_lt_of_le h.1 e.len, fun a ea => h.2 a (e.old n a h.1 ea)⟩
  | s ns => obtain ⟨a, e, w⟩ := h; exact ⟨a, e, w.chg st⟩
theorem RE.chg {K : PySem.W.Frag} {m m' : Map} {H H' : Hp} {ρ : Rho} {σ : L2.St} (st : Chg m H m' H') (e : Old m m') (ok : MutOk m H) (h : RE K m H ρ σ) : RE K m' H' ρ σ :=
  ⟨h.len, fun i v e1 => let ⟨x, e2, r⟩ := h.get i v e1; ⟨x, e2, r.chg st e ok⟩⟩

/-- an address kept apart -/
def Map.res (M : Map) (D : Addr) : Map := ⟨M.m, D :: M.r⟩
theorem no_has {m : Map} {H : Hp} {D : Addr} (ok : MutOk m H) (hn : H D = none) : ¬ m.has D := fun z => by
  rcases ok D z with ⟨_, e⟩ | ⟨_, e⟩ | ⟨_, e⟩ <;> (rw [hn] at e; cases e)
theorem Chg.res {m : Map} {H : Hp} {D : Addr} {o : HO} (hn : H D = none) : Chg m H (m.res D) (upd H D o) := by
  refine ⟨fun a u _ e => same_upd hn a u e, fun a u h e hm => ?_⟩
  rcases hm with hm | hm
  · exact h (.inl hm)
  · rcases List.mem_cons.mp hm with z | z
    · subst z; rw [hn] at e; cases e
    · exact h (.inr z)
theorem RS.resv {K : PySem.W.Frag} {m : Map} {H : Hp} {S : Store} {D : Addr} {xs : List V} (h : RS K m H S) (hn : H D = none) : RS K (m.res D) (upd H D (.lst xs)) S := by
  have st := Chg.res (m := m) (o := .lst xs) hn
  refine ⟨h.len, h.inj, fun i a e => ?_, h.liveC, fun a ha => ?_⟩
  · obtain ⟨c, e1, hc⟩ := h.cell i a e
    exact ⟨c, e1, hc.keep (fun o q => same_upd hn _ _ q) (RpAll.chg st h.mut)⟩
  · rcases List.mem_cons.mp ha with z | z
    · subst z; exact ⟨fun q => no_has h.mut hn (.inl q), xs, upd_same⟩
    · obtain ⟨h1, ys, e⟩ := h.res a z
      exact ⟨h1, ys, same_upd hn _ _ e⟩
/-- .. and given back -/
theorem Chg.unres {m : List (Option Addr)} {r : List Addr} {H : Hp} {D : Addr} : Chg ⟨m, D :: r⟩ H ⟨m, r⟩ H :=
  ⟨fun _ _ _ e => e, fun a _ h _ hm => h (by
    rcases hm with hm | hm
    · exact .inl hm
    · exact .inr (List.mem_cons_of_mem _ hm))⟩
theorem RS.unres {K : PySem.W.Frag} {m : List (Option Addr)} {r : List Addr} {H : Hp} {S : Store} {D : Addr} (h : RS K ⟨m, D :: r⟩ H S) : RS K ⟨m, r⟩ H S := by
  refine ⟨h.len, h.inj, fun i a e => ?_, h.liveC, fun a ha => h.res a (List.mem_cons_of_mem _ ha)⟩
  obtain ⟨c, e1, hc⟩ := h.cell i a e
  exact ⟨c, e1, hc.keep (fun o q => q) (RpAll.chg Chg.unres h.mut)⟩
theorem Stp.unres {m m' : Map} {H H' : Hp} {D : Addr} {o : HO} (hn : H D = none) (st : Stp (m.res D) (upd H D o) m' H') : Stp m H ⟨m'.m, m.r⟩ H' := by
  refine ⟨fun a u hm e => st.keep a u hm (same_upd hn a u e), st.len, st.old, fun a ha => ?_, rfl⟩
  rcases st.new a ha with z | z
  · exact .inl z
  · refine .inr ?_
    cases q : H a with
    | none => rfl
    | some u => rw [same_upd hn a u q] at z; cases z
/-- the list kept apart grows -/
theorem RS.app {K : PySem.W.Frag} {m : Map} {H : Hp} {S : Store} {D : Addr} {xs : List V} (h : RS K m H S) (hD : D ∈ m.r) : RS K m (upd H D (.lst xs)) S := by
  have hn : some D ∉ m.m := (h.res D hD).1
  refine ⟨h.len, h.inj, fun i a e => ?_, h.liveC, fun a ha => ?_⟩
  · obtain ⟨c, e1, hc⟩ := h.cell i a e
    have hne : a ≠ D := fun z => hn (by rw [← z]; exact List.mem_iff_getElem?.mpr ⟨i, e⟩)
    exact ⟨c, e1, hc.keep (fun o q => by rw [upd_ne hne]; exact q) (RpAll.mut (.inr hD) h.mut)⟩
  · obtain ⟨h1, ys, e⟩ := h.res a ha
    by_cases hne : a = D
    · subst hne; exact ⟨h1, xs, upd_same⟩
    · exact ⟨h1, ys, by rw [upd_ne hne]; exact e⟩
/-! ### what is walked -/
def iDyn (K : PySem.W.Frag) (tl : TE) : TI := fun σ H R => tl σ H fun x H1 => ∃ a, x = .ref a ∧ (((∃ xs, SqL K H1 a xs) ∧ R (Itl K a) H1) ∨ ((∃ xs, SqT K H1 a xs) ∧ R (Itt K a) H1))
section
variable {X : Cx} {tg : Expr}
theorem pi_dyn {l : Expr} {tl : TE} (hl : PE X l tl) : PI X tg l (iDyn X.K tl) := by
  refine ⟨fun pins s σ H R I h => thn (hl.run pins s σ H _ I h) fun v s1 ⟨x, H1, I1, r1, a, e, q⟩ => ?_⟩
  subst e
  cases r1
  have fresh : ∀ b ∈ [s1.heap.objs.size], FpOk X pins H1 b := fun b hb => by
    rw [List.mem_singleton.mp hb]
    exact I1.fpOk (Nat.le_refl _) (I1.hok.fresh (Nat.le_refl _))
  rcases q with ⟨⟨xs, hq⟩, q⟩ | ⟨⟨xs, hq⟩, q⟩
  · obtain ⟨its, rv, pl, _⟩ := I1.list hq
    exact wpAny_pyIter_list pl.isList ⟨_, [_], _, _, H1, rfl, I1.kept (t' := s1.toks) fun b o e => Heap.get?_push_of_some _ e, turn_list a _, ⟨_, Heap.get?_push_size _ rfl, rfl, rfl⟩, fresh, q⟩
  · obtain ⟨its, rv, pl, _⟩ := I1.tuple hq
    exact wpAny_pyIter_tuple (show s1.heap.IsTuple a its.toArray from pl) ⟨_, [_], _, _, H1, rfl, I1.kept (t' := s1.toks) fun b o e => Heap.get?_push_of_some _ e, turn_tuple a _, ⟨_, Heap.get?_push_size _ rfl, rfl, rfl⟩, fresh, q⟩
end

/-! ### targets -/
theorem wipe_set {σ : L2.St} {i : Nat} {x : Option V} : ∀ {vs : List Nat}, i ∈ vs → wipe (σ.set i x) vs = wipe σ vs
  | v :: vs, h => by
    unfold wipe
    by_cases hv : i = v
    · subst hv
      by_cases hi : i ∈ vs
      · rw [wipe_set hi]
      · have : ∀ ws : List Nat, i ∉ ws → wipe (σ.set i x) ws = (wipe σ ws).set i x := by
          intro ws
          induction ws with
          | nil => intro _; rfl
          | cons w ws ih =>
            intro hw
            rw [List.mem_cons, not_or] at hw
            unfold wipe
            rw [ih hw.2, List.set_comm _ _ hw.1]
        rw [this vs hi, List.set_set]
    · rcases List.mem_cons.mp h with z | z
      · exact absurd z hv
      · rw [wipe_set z]
theorem wipe_wipe {σ : L2.St} (vs : List Nat) : wipe (wipe σ vs) vs = wipe σ vs := by
  have : ∀ (ws : List Nat) (τ : L2.St), (∀ w ∈ ws, w ∈ vs) → wipe (wipe τ ws) vs = wipe τ vs := by
    intro ws
    induction ws with
    | nil => intro τ _; rfl
    | cons w ws ih =>
      intro τ h
      show wipe ((wipe τ ws).set w none) vs = _
      rw [wipe_set (h w List.mem_cons_self)]
      exact ih τ fun x hx => h x (List.mem_cons_of_mem _ hx)
  exact this vs σ fun _ h => h
/-- several names -/
def setVs : L2.St → List Nat → List V → L2.St
  | σ, t :: ts, v :: vs => setVs (σ.set t (some v)) ts vs
  | σ, _, _ => σ
theorem wipe_setVs {vs : List Nat} : ∀ {ts : List Nat} {xs : List V} {σ : L2.St}, (∀ t ∈ ts, t ∈ vs) → wipe (setVs σ ts xs) vs = wipe σ vs
  | [], _, _, _ => by unfold setVs; rfl
  | t :: ts, [], _, _ => by unfold setVs; rfl
  | t :: ts, x :: xs, σ, h => by
    unfold setVs
    rw [wipe_setVs fun u hu => h u (List.mem_cons_of_mem _ hu), wipe_set (h t List.mem_cons_self)]
theorem RE.setTs {K : PySem.W.Frag} {m : Map} {H : Hp} : ∀ {ts : List Nat} {vs : List V} {ds : List D} {ρ : Rho} {σ : L2.St}, RE K m H ρ σ → RpAll K m H vs ds → RE K m H (Pl.setTs ρ ts ds) (setVs σ ts vs)
  | [], _, _, _, _, h, r => by cases r <;> exact h
  | t :: ts, _, _, _, _, h, .nil => h
  | t :: ts, v :: vs, d :: ds, ρ, σ, h, .cons p q => by
    show RE K m H (Pl.setTs (ρ.set t (some (.p d))) ts ds) (setVs (σ.set t (some v)) ts vs)
    exact RE.setTs (h.set t (v := .p d) p) q
/-- a target, by values: the names ts, alone or as a tuple -/
structure GOk (K : PySem.W.Frag) (ts : List Nat) (tup : Bool) (gt : TG) : Prop where
  ok : ∀ (m : Map) (H : Hp) (ρ ρ2 : Rho) (σ : L2.St) (x : V) (d : D) (Q : L2.St → Hp → Prop), RE K m H ρ σ → Rp K m H x d → bindT ρ ts tup d = some ρ2 → (∀ xs, RE K m H ρ2 (setVs σ ts xs) → Q (setVs σ ts xs) H) → gt x σ H Q
def gNames (is : List Nat) : TGs := match is with
  | [] => gNil
  | i :: is => gCons (gName i) (gNames is)
section
variable {X : Cx}
/-- a name that may be stored -/
structure Nm (X : Cx) (i : Nat) (x : Str) : Prop where
  at_ : X.N[i]? = some x
  loc : Loc X.env.scope x
  fn : X.fn x = true ∨ X.env.scope.names.lookup x = some .local
theorem pg_nm {i : Nat} {x : Str} {pos : Pos} (hN : X.N.Nodup) (h : Nm X i x) : PG X (.Name x pos) (gName i) := pg_name hN h.at_ h.loc h.fn
theorem gok_one {K : PySem.W.Frag} {i : Nat} : GOk K [i] false (gName i) := by
  refine ⟨fun m H ρ ρ2 σ y d Q hE r e q => ?_⟩
  simp only [bindT, Option.some.injEq] at e
  subst e
  exact q [y] (hE.set i (v := .p d) r)
inductive NmAll (X : Cx) : List Nat → List Expr → Prop
  | nil : NmAll X [] []
  | cons {i : Nat} {is : List Nat} {x : Str} {pos : Pos} {es : List Expr} : Nm X i x → NmAll X is es → NmAll X (i :: is) (.Name x pos :: es)
theorem NmAll.len {is : List Nat} {es : List Expr} (h : NmAll X is es) : is.length = es.length := by
  induction h with
  | nil => rfl
  | cons _ _ ih => rw [List.length_cons, List.length_cons, ih]
theorem pgs_nms (hN : X.N.Nodup) {is : List Nat} {es : List Expr} (h : NmAll X is es) : PGs X es (gNames is) := by
  induction h with
  | nil => exact pgs_nil
  | cons p _ ih => exact pgs_cons (pg_nm hN p) ih rfl
theorem gNames_ok : ∀ {is : List Nat} {xs : List V} {σ : L2.St} {H : Hp} {Q : L2.St → Hp → Prop}, xs.length = is.length → Q (setVs σ is xs) H → gNames is xs σ H Q
  | [], [], _, _, _, _, q => ⟨rfl, q⟩
  | [], _ :: _, _, _, _, h, _ => by simp at h
  | _ :: _, [], _, _, _, h, _ => by simp at h
  | i :: is, x :: xs, _, _, _, h, q => ⟨x, xs, rfl, gNames_ok (by simpa using h) q⟩
theorem each_len {env : Env} : ∀ es : List Expr, (∀ e ∈ es, ∃ x pos, e = .Name x pos) → (assignEach es env).length = es.length ∧ (assignEach es env).findIdx? (·.1) = none
  | [], _ => ⟨rfl, rfl⟩
  | e :: es, h => by
    obtain ⟨x, pos, rfl⟩ := h e List.mem_cons_self
    obtain ⟨h1, h2⟩ := each_len es fun a ha => h a (List.mem_cons_of_mem _ ha)
    refine ⟨by show (assignEach es env).length + 1 = _; rw [h1]; rfl, ?_⟩
    show List.findIdx? (·.1) ((false, assign (.Name x pos) env) :: assignEach es env) = none
    rw [List.findIdx?_cons, h2]
    rfl
theorem NmAll.names {is : List Nat} {es : List Expr} (h : NmAll X is es) : ∀ e ∈ es, ∃ x pos, e = .Name x pos := by
  induction h with
  | nil => intro e he; cases he
  | cons p _ ih =>
    intro e he
    rcases List.mem_cons.mp he with rfl | he
    · exact ⟨_, _, rfl⟩
    · exact ih e he
theorem pg_tups {is : List Nat} {es : List Expr} {k : Nat} {pos : Pos} (hc : X.calm = true) (hN : X.N.Nodup) (h : NmAll X is es) : PG X (.Tuple es k pos) (gTup X.K is.length (gNames is)) := by
  obtain ⟨h1, h2⟩ := each_len (env := X.env) es h.names
  exact pg_tup hc (pgs_nms hN h) (by rw [h1, h.len]) h2
theorem gok_tup {K : PySem.W.Frag} {is : List Nat} : GOk K is true (gTup K is.length (gNames is)) := by
  refine ⟨fun m H ρ ρ2 σ y d Q hE r e q => ?_⟩
  cases d with
  | tuple ds =>
    simp only [bindT] at e
    split at e
    · next hl =>
      cases e
      cases r with
      | tup p1 p2 =>
        have hx := rpAll_len p2
        exact ⟨_, _, rfl, p1, by omega, gNames_ok (by omega) (q _ (hE.setTs p2))⟩
    · cases e
  | _ => cases e
end

/-! ### tests of a comprehension -/
def tC3 (K : PySem.W.Frag) (E : XK) (cl : CallF) (g : Str → Option D) (cs : List Ex) : TT := fun σ H Q => ∃ ρ S m, RE K m H ρ σ ∧ RS K m H S ∧ PostB K E (evc cl g cs ρ S) m H Q
section
variable {X : Cx} {E : XK} {cl : CallF} {g : Str → Option D}
theorem _root_.L2.PTs.imp {X : Cx} {e : List Expr} {t t' : TT} (h : PTs X e t) (i : ∀ σ H Q, t' σ H Q → t σ H Q) : PTs X e t' := ⟨fun pins s σ H Q I w => h.run pins s σ H Q I (i σ H Q w)⟩
theorem c_nil : PTs X [] (tC3 X.K E cl g []) := pts_nil.imp fun σ H Q ⟨ρ, S, m, hE, hS, h⟩ => post_ok (Rel := RB) (b := true) hS rfl h
theorem c_one {c : Expr} {cc : Ex} (h : PT X c (tT X.K E cl g cc)) : PTs X [c] (tC3 X.K E cl g [cc]) := (pts_one h).imp fun σ H Q ⟨ρ, S, m, hE, hS, h⟩ => by
  simp only [evc] at h
  refine ⟨ρ, S, m, hE, hS, ?_⟩
  cases q : (ev cl g cc ρ S).bind asB with
  | bad => rw [q] at h; exact h
  | exn x S1 => rw [q] at h; exact h
  | ok b S1 =>
    rw [q] at h
    cases b <;> exact h

/-! ### list comprehensions -/
variable {F : D → Store → Res (Option D)}
theorem mapR_cons {d : D} {ds rs : List D} {S S2 : Store} (h : mapR F (d :: ds) S = .ok rs S2) : ∃ o S1 rs1, F d S = .ok o S1 ∧ mapR F ds S1 = .ok rs1 S2 ∧ rs = (match o with | some r => r :: rs1 | none => rs1) := by
  simp only [mapR] at h
  cases q : F d S with
  | bad => rw [q] at h; cases h
  | exn x S1 => rw [q] at h; cases h
  | ok o S1 =>
    rw [q] at h
    simp only [Res.bind] at h
    cases q2 : mapR F ds S1 with
    | bad => rw [q2] at h; cases h
    | exn x S1 => rw [q2] at h; cases h
    | ok rs1 S3 =>
      rw [q2] at h
      cases h
      exact ⟨o, S1, rs1, rfl, q2, rfl⟩
def LcInv (K : PySem.W.Frag) (F : D → Store → Res (Option D)) (xs rs : List D) (S2 : Store) (m1 : Map) (H1 : Hp) (D : Addr) (i : Nat) (H : Hp) : Prop :=
  ∃ S' mm accD accV rs', Stp m1 H1 ⟨mm, m1.r⟩ H ∧ RS K ⟨mm, D :: m1.r⟩ H S' ∧ H D = some (.lst accV) ∧ RpAll K ⟨mm, D :: m1.r⟩ H accV accD ∧ mapR F (xs.drop i) S' = .ok rs' S2 ∧ accD ++ rs' = rs
theorem lc_start {K : PySem.W.Frag} {xs rs : List Pl.D} {S1 S2 : Store} {m1 : Map} {H1 : Hp} {D : Addr} (hS : RS K m1 H1 S1) (hn : H1 D = none) (h : mapR F xs S1 = .ok rs S2) : LcInv K F xs rs S2 m1 H1 D 0 (upd H1 D (.lst [])) :=
  ⟨S1, m1.m, [], [], rs, Stp.same (same_upd hn), hS.resv hn, upd_same, .nil, h, rfl⟩
theorem lc_end {K : PySem.W.Frag} {xs rs : List Pl.D} {S1 S2 : Store} {m1 : Map} {H1 H : Hp} {D : Addr} {Q : VK} (hS : RS K m1 H1 S1) (hn : H1 D = none) (i : LcInv K F xs rs S2 m1 H1 D xs.length H) (h : PostV K E (.ok (.p (.list rs)) S2) m1 H1 Q) : Q (.ref D) H := by
  obtain ⟨S', mm, accD, accV, rs', st, hS', hD, ha, hm, e⟩ := i
  rw [List.drop_length] at hm
  simp only [mapR, Res.ok.injEq] at hm
  obtain ⟨rfl, rfl⟩ := hm
  rw [List.append_nil] at e
  subst e
  refine h _ H ⟨mm, m1.r⟩ st hS'.unres (.lst ⟨hD, fun z => ?_⟩ (RpAll.chg Chg.unres hS'.mut accD accV ha))
  rcases z with z | z
  · exact (hS'.res D List.mem_cons_self).1 z
  · obtain ⟨_, ys, e⟩ := hS.res D z
    rw [hn] at e; cases e
theorem chg_of {m1 : Map} {H1 H : Hp} {D : Addr} {mm : List (Option Addr)} (hn : H1 D = none) (st : Stp m1 H1 ⟨mm, m1.r⟩ H) : Chg m1 H1 ⟨mm, D :: m1.r⟩ H := by
  refine ⟨fun a o h e => st.keep a o (fun z => h (.inl z)) e, fun a o h e hm => ?_⟩
  rcases hm with hm | hm
  · rcases st.new a hm with z | z
    · exact h (.inl z)
    · rw [e] at z; cases z
  · rcases List.mem_cons.mp hm with z | z
    · subst z; rw [hn] at e; cases e
    · exact h (.inr z)
theorem lc_turn {cs : List Ex} {e : Ex} {vs ts : List Nat} {tup : Bool} {gt : TG} {xs rs : List Pl.D} {S1 S2 : Store} {m1 : Map} {H1 H : Hp} {D : Addr} {ρ : Rho} {σ : L2.St} {i : Nat} {x : V} {d : Pl.D}
    (hF : F = fun d S2 => match bindT (wipeR ρ vs) ts tup d with
          | some ρ2 => (evc cl g cs ρ2 S2).bind fun b S3 => if b then (ev cl g e ρ2 S3).bind fun y S4 => match y with
              | .p r => .ok (some r) S4
              | _ => .bad
            else .ok none S3
          | none => .bad)
    (G : GOk X.K ts tup gt) (hts : ∀ t ∈ ts, t ∈ vs) (hE : RE X.K m1 H1 ρ σ) (hS : RS X.K m1 H1 S1) (hn : H1 D = none) (hz : rs.length ≤ sizeLine) (hd : xs[i]? = some d) (hx : Rp X.K m1 H1 x d) (I : LcInv X.K F xs rs S2 m1 H1 D i H) :
    gt x (wipe σ vs) H fun σ2 H2 => wipe σ2 vs = wipe σ vs ∧ tC3 X.K EN cl g cs σ2 H2 fun b H3 =>
      if b = true then tE X.K EN cl g e σ2 H3 fun y H4 => ∃ acc, H4 D = some (.lst acc) ∧ acc.length < sizeLine ∧ LcInv X.K F xs rs S2 m1 H1 D (i + 1) (upd H4 D (.lst (acc ++ [y]))) else LcInv X.K F xs rs S2 m1 H1 D (i + 1) H3 := by
  obtain ⟨S', mm, accD, accV, rs', st, hS', hD, ha, hm, er⟩ := I
  have hlt : i < xs.length := (List.getElem?_eq_some_iff.mp hd).1
  have hdr : xs.drop i = d :: xs.drop (i + 1) := by
    rw [List.drop_eq_getElem_cons hlt]
    have := (List.getElem?_eq_some_iff.mp hd).2
    rw [this]
  rw [hdr] at hm
  obtain ⟨o, S3, rs1, f1, f2, f3⟩ := mapR_cons hm
  have ch := chg_of hn st
  have old : Old m1 ⟨mm, D :: m1.r⟩ := ⟨st.len, st.old⟩
  have hEw : RE X.K ⟨mm, D :: m1.r⟩ H (wipeR ρ vs) (wipe σ vs) := (hE.chg ch old hS.mut).wipe vs
  have hxw := Rp.chg ch hS.mut d x hx
  have hDm : some D ∉ mm := (hS'.res D List.mem_cons_self).1
  have f1' := f1
  rw [hF] at f1'
  cases qb : bindT (wipeR ρ vs) ts tup d with
  | none => simp only [qb] at f1'; cases f1'
  | some ρ2 =>
    simp only [qb] at f1'
    refine G.ok ⟨mm, D :: m1.r⟩ H (wipeR ρ vs) ρ2 (wipe σ vs) x d _ hEw hxw qb fun ws hE2 => ?_
    refine ⟨by rw [wipe_setVs hts, wipe_wipe], ρ2, S', ⟨mm, D :: m1.r⟩, hE2, hS', ?_⟩
    cases qc : evc cl g cs ρ2 S' with
    | bad => rw [qc] at f1'; cases f1'
    | exn x S4 => rw [qc] at f1'; cases f1'
    | ok b S4 =>
      rw [qc] at f1'
      simp only [Res.bind] at f1'
      intro b' H3 M3 st3 hS3 eb
      have eb : b' = b := eb
      subst eb
      have keepD : ∀ {M : Map} {H' : Hp}, Stp ⟨mm, D :: m1.r⟩ H M H' → H' D = some (.lst accV) := fun s => s.keep D _ hDm hD
      have low : ∀ {M : Map} {H' : Hp}, Stp ⟨mm, D :: m1.r⟩ H M H' → Stp m1 H1 ⟨M.m, m1.r⟩ H' := fun {M H'} s => st.trans ⟨s.keep, s.len, s.old, s.new, rfl⟩
      cases b' with
      | false =>
        simp only [Bool.false_eq_true, if_false] at f1' ⊢
        cases f1'
        subst f3
        have hr : M3.r = D :: m1.r := st3.res
        obtain ⟨M3m, M3r⟩ := M3
        simp only at hr
        subst hr
        exact ⟨_, M3m, accD, accV, _, low st3, hS3, keepD st3, RpAll.stp st3 hS'.mut accD accV ha, f2, er⟩
      | true =>
        simp only [if_true] at f1' ⊢
        cases qe : ev cl g e ρ2 S4 with
        | bad => rw [qe] at f1'; cases f1'
        | exn x S5 => rw [qe] at f1'; cases f1'
        | ok y S5 =>
          rw [qe] at f1'
          simp only [Res.bind] at f1'
          cases y with
          | r n => cases f1'
          | s n => cases f1'
          | p r =>
            cases f1'
            subst f3
            refine ⟨ρ2, S4, M3, hE2.stp st3 hS'.mut, hS3, ?_⟩
            rw [qe]
            intro yv H4 M4 st4 hS4 ry
            have st5 := st3.trans st4
            have hr : M4.r = D :: m1.r := st5.res
            obtain ⟨M4m, M4r⟩ := M4
            simp only at hr
            subst hr
            have hl := rpAll_len ha
            refine ⟨accV, keepD st5, ?_, S3, M4m, accD ++ [r], accV ++ [yv], rs1, ?_, hS4.app List.mem_cons_self, upd_same, ?_, f2, by rw [List.append_assoc]; exact er⟩
            · have := congrArg List.length er
              rw [List.length_append, List.length_cons] at this
              omega
            · have l := low st5
              refine ⟨fun a u hm e => ?_, l.len, l.old, l.new, rfl⟩
              have hne : a ≠ D := fun z => by rw [z, hn] at e; cases e
              rw [upd_ne hne]
              exact l.keep a u hm e
            · exact RpAll.mut (.inr List.mem_cons_self) hS4.mut _ _ (rpAll_append (RpAll.stp st5 hS'.mut accD accV ha) (.cons ry .nil))

theorem items_of {x : Vl} {xs : List Pl.D} (h : itemsOf x = some xs) : x = .p (.list xs) ∨ x = .p (.tuple xs) := by
  cases x with
  | r n => cases h
  | s n => cases h
  | p d => cases d <;> first | (cases h; done) | (cases h; first | exact .inl rfl | exact .inr rfl)
/-- [e for target in list or tuple if ..] -/
theorem e_lc {elt tg iter : Expr} {ifs : List Expr} {scope : Scope} {own : List (Str × Nat)} {pos : Pos} {cit ce : Ex} {cs : List Ex} {ts : List Nat} {tup : Bool} {gt : TG} (hc : X.calm = true) (hN : X.N.Nodup)
    (hi : PE X iter (tE X.K E cl g cit)) (ok : BlkOk X.N X.env.scope scope own) (hts : ∀ t ∈ ts, t ∈ own.map (·.2))
    (hg : ∀ (s : Shared) (H : Hp) (C : Addr) (cl' : List (Str × Addr)) (fp : List Addr), PG (X.blk s H scope (compEnvC scope cl' C X.env) fp) tg gt) (G : GOk X.K ts tup gt)
    (ht : ∀ (s : Shared) (H : Hp) (C : Addr) (cl' : List (Str × Addr)) (fp : List Addr), PTs (X.blk s H scope (compEnvC scope cl' C X.env) fp) ifs (tC3 X.K EN cl g cs))
    (he : ∀ (s : Shared) (H : Hp) (C : Addr) (cl' : List (Str × Addr)) (fp : List Addr), PE (X.blk s H scope (compEnvC scope cl' C X.env) fp) elt (tE X.K EN cl g ce)) (hs : ∀ x, foldedSetIterable iter X.env x = pure x) :
    PE X (.ListComp elt [⟨tg, iter, ifs, 0⟩] scope pos) (tE X.K E cl g (.lc (own.map (·.2)) ts tup cit cs ce)) ∧
    ∀ σ H Q, tE X.K E cl g (.lc (own.map (·.2)) ts tup cit cs ce) σ H Q → tLc (iDyn X.K (tE X.K E cl g cit)) gt (tC3 X.K EN cl g cs) (tE X.K EN cl g ce) (own.map (·.2)) σ H Q := by
  have imp : ∀ σ H Q, tE X.K E cl g (.lc (own.map (·.2)) ts tup cit cs ce) σ H Q → tLc (iDyn X.K (tE X.K E cl g cit)) gt (tC3 X.K EN cl g cs) (tE X.K EN cl g ce) (own.map (·.2)) σ H Q := fun σ H Q ⟨ρ, S, m, hE, hS, h⟩ => by
    simp only [ev] at h
    refine ⟨ρ, S, m, hE, hS, (Post.bind h).mono fun v H1 ⟨x, S1, m1, st1, hS1, r1, _, h1⟩ => ?_⟩
    split at h1
    case h_2 => exact h1.elim
    next xs ex =>
    generalize hF : (fun d S2 => match bindT (wipeR ρ (own.map (·.2))) ts tup d with
          | some ρ2 => (evc cl g cs ρ2 S2).bind fun b S3 => if b = true then (ev cl g ce ρ2 S3).bind fun y S4 => match y with
              | .p r => Res.ok (some r) S4
              | _ => .bad
            else .ok none S3
          | none => .bad) = F at h1
    cases qm : mapR F xs S1 with
    | bad => rw [qm] at h1; exact h1.elim
    | exn x S2 => rw [qm] at h1; exact h1.elim
    | ok rs S2 =>
      rw [qm] at h1
      simp only [Res.noX, Res.bind] at h1
      split at h1
      case isFalse => exact h1.elim
      next hz =>
      have hE1 := hE.stp st1 hS.mut
      rcases items_of ex with rfl | rfl
      · cases r1 with
        | @lst a ys _ h2 h3 =>
          refine ⟨a, rfl, .inl ⟨⟨ys, h2.sq⟩, fun D hn => ?_⟩⟩
          refine lc_list (xs := ys) (LcInv X.K F xs rs S2 m1 H1 D) (lc_start hS1 hn qm) (fun i H _ J => ?_) (fun i x H hx J => ?_) fun H J => lc_end hS1 hn (by rw [← rpAll_len h3]; exact J) h1
          · obtain ⟨S', mm, accD, accV, rs', st, hS', hD, ha, hm, er⟩ := J
            exact (h2.chg (chg_of hn st)).sq
          · obtain ⟨d, hd⟩ : ∃ d, xs[i]? = some d := by
              have := (List.getElem?_eq_some_iff.mp hx).1
              exact ⟨_, List.getElem?_eq_getElem (by rw [← rpAll_len h3]; exact this)⟩
            obtain ⟨w, hw, rw'⟩ := rpAll_get h3 hd
            rw [hx] at hw; cases hw
            exact lc_turn hF.symm G hts hE1 hS1 hn (okLen_le hz) hd rw' J
      · cases r1 with
        | @tup a ys _ h2 h3 =>
          refine ⟨a, rfl, .inr ⟨⟨ys, h2⟩, fun D hn => ?_⟩⟩
          refine lc_tup (xs := ys) (LcInv X.K F xs rs S2 m1 H1 D) (lc_start hS1 hn qm) (fun i H _ J => ?_) (fun i x H hx J => ?_) fun H J => lc_end hS1 hn (by rw [← rpAll_len h3]; exact J) h1
          · obtain ⟨S', mm, accD, accV, rs', st, hS', hD, ha, hm, er⟩ := J
            exact sqT_stp st hS1.mut h2
          · obtain ⟨d, hd⟩ : ∃ d, xs[i]? = some d := by
              have := (List.getElem?_eq_some_iff.mp hx).1
              exact ⟨_, List.getElem?_eq_getElem (by rw [← rpAll_len h3]; exact this)⟩
            obtain ⟨w, hw, rw'⟩ := rpAll_get h3 hd
            rw [hx] at hw; cases hw
            exact lc_turn hF.symm G hts hE1 hS1 hn (okLen_le hz) hd rw' J
  exact ⟨(pe_lc hc hN (pi_dyn hi) ok hg ht he hs).imp imp, imp⟩
end
end Pl

set_option Elab.async false
set_option linter.all false
set_option autoImplicit false
set_option maxRecDepth 100000
/-! PA8: comprehensions over ranges. -/
namespace Pl
open PySem PySem.Spec PyProof.Rows L2

section
variable {X : Cx} {E : XK} {cl : CallF} {g : Str → Option D}
/-- a range's ends -/
def loOf : List Vl → Option Int := fun ls => match ls with
  | [] => some 0
  | [.p (.int l)] => some l
  | _ => none
theorem range_at {lo n : Int} {i : Nat} : i < (n - lo).toNat → (rangeD lo n)[i]? = some (.int (lo + (i : Int))) := fun h => by
  unfold rangeD
  rw [List.getElem?_map, List.getElem?_range h]
  rfl
theorem range_len {lo n : Int} : (rangeD lo n).length = (n - lo).toNat := by
  unfold rangeD
  rw [List.length_map, List.length_range]
theorem rng_ok {i : Int} (h : rngOk i = true) : -(2 ^ 62) ≤ i ∧ i < 2 ^ 62 := by
  have := Nat.le_of_ble_eq_true h
  constructor <;> omega
/-- range(n), range(lo, n): the ends, then R of the walk -/
def iR (K : PySem.W.Frag) (E : XK) (cl : CallF) (g : Str → Option D) (clo : List Ex) (chi : Ex) : TI := fun σ H R => ∃ ρ S m, RE K m H ρ σ ∧ RS K m H S ∧
  PostVs K E ((evs cl g clo ρ S).bind fun ls S1 => (ev cl g chi ρ S1).bind fun y S2 => .ok (y :: ls) S2) m H fun vs H1 => ∃ l n : Int, rngOk l = true ∧ rngOk n = true ∧ vs.head? = some (.int n) ∧ (vs.tail = [] ∧ l = 0 ∨ vs.tail = [.int l]) ∧ R (Itr l (n - l).toNat) H1
theorem _root_.L2.PI.imp {X : Cx} {tg e : Expr} {t t' : TI} (h : PI X tg e t) (i : ∀ σ H Q, t' σ H Q → t σ H Q) : PI X tg e t' := ⟨fun pins s σ H Q I w => h.run pins s σ H Q I (i σ H Q w)⟩
theorem pi_r1 {tg a : Expr} {ca : Ex} {p pos : Pos} (hg : Gl X "range") (hm : X.mg "range" = none) (ha : PE X a (tE X.K E cl g ca)) (hs : noStar a = true) : PI X tg (.Call (.Name "range" p) [a] [] pos) (iR X.K E cl g [] ca) :=
  (pi_range1 hg hm (pa_cons ha pa_nil (star_cons hs)) (star_cons hs)).imp fun σ H R ⟨ρ, S, m, hE, hS, h⟩ => by
    simp only [evs, Res.bind] at h
    refine ⟨ρ, S, m, hE, hS, (Post.bind (Rel := RV X.K) h).mono fun v H1 ⟨x, S1, m1, st1, hS1, r1, _, h1⟩ => ?_⟩
    obtain ⟨l, n, b1, b2, e1, e2, q⟩ := post_ok (b := [v]) hS1 (.cons r1 .nil) h1
    have e1' : v = .int n := Option.some.inj e1
    rcases e2 with ⟨_, e2⟩ | e2
    · subst e2
      obtain ⟨z1, z2⟩ := rng_ok b2
      rw [Int.sub_zero] at q
      exact ⟨n, by rw [e1'], z1, z2, q⟩
    · exact nomatch e2
theorem pi_r2 {tg a b : Expr} {ca cb : Ex} {p pos : Pos} (hg : Gl X "range") (hm : X.mg "range" = none) (ha : PE X a (tE X.K E cl g ca)) (hb : PE X b (tE X.K E cl g cb)) (hs : noStar a = true) (hs2 : noStar b = true) :
    PI X tg (.Call (.Name "range" p) [a, b] [] pos) (iR X.K E cl g [ca] cb) :=
  (pi_range2 hg hm (pa_cons ha (pa_cons hb pa_nil (star_cons hs2)) (star_cons hs)) (by rw [star_cons hs, star_cons hs2]; rfl) (by rw [star_cons hs2]; rfl)).imp fun σ H R ⟨ρ, S, m, hE, hS, h⟩ => by
    simp only [evs] at h
    have h' : PostVs X.K E ((ev cl g ca ρ S).bind fun x S1 => (ev cl g cb ρ S1).bind fun y S2 => .ok [y, x] S2) m H fun vs H1 => ∃ l n : Int, rngOk l = true ∧ rngOk n = true ∧ vs.head? = some (.int n) ∧ (vs.tail = [] ∧ l = 0 ∨ vs.tail = [.int l]) ∧ R (Itr l (n - l).toNat) H1 := by
      cases q : ev cl g ca ρ S with
      | bad => rw [q] at h; exact h
      | exn x S1 => rw [q] at h; exact h
      | ok x S1 => rw [q] at h; exact h
    refine ⟨ρ, S, m, hE, hS, (Post.bind (Rel := RV X.K) h').mono fun v H1 ⟨x, S1, m1, st1, hS1, r1, _, h1⟩ => ?_⟩
    refine ⟨ρ, S1, m1, hE.stp st1 hS.mut, hS1, (Post.bind (Rel := RV X.K) h1).mono fun w H2 ⟨y, S2, m2, st2, hS2, r2, _, h2⟩ => ?_⟩
    obtain ⟨l, n, b1, b2, e1, e2, q⟩ := post_ok (b := [w, v]) hS2 (.cons r2 (.cons (r1.stp st2 hS1.mut) .nil)) h2
    have e1' : w = .int n := Option.some.inj e1
    rcases e2 with ⟨e2, _⟩ | e2
    · exact nomatch e2
    · have e2' : v = .int l := by
        injection e2
      obtain ⟨z1, z2⟩ := rng_ok b1
      obtain ⟨z3, z4⟩ := rng_ok b2
      exact ⟨l, n, by rw [e1', e2'], ⟨z1, z2, z3, z4⟩, q⟩
/-- from the evaluator's ends to the walk -/
theorem iR_of {α : Type} {β : Type} {Rel : Map → Hp → β → α → Prop} {clo : List Ex} {chi : Ex} {ρ : Rho} {S : Store} {m : Map} {H : Hp} {σ : L2.St} {k : Int → Int → Store → Res α} {Q : β → Hp → Prop} {R : It → Hp → Prop} (hE : RE X.K m H ρ σ) (hS : RS X.K m H S)
    (h : Post X.K E Rel ((evs cl g clo ρ S).bind fun ls S1 => (ev cl g chi ρ S1).bind fun y S2 => match (match ls with | [] => some 0 | [.p (.int l)] => some l | _ => none), y with
      | some l, .p (.int n) => if rngOk l && rngOk n then k l n S2 else .bad
      | _, _ => .bad) m H Q)
    (hk : ∀ l n S2 m2 H2, RE X.K m2 H2 ρ σ → RS X.K m2 H2 S2 → Post X.K E Rel (k l n S2) m2 H2 Q → R (Itr l (n - l).toNat) H2) : iR X.K E cl g clo chi σ H R := by
  refine ⟨ρ, S, m, hE, hS, ?_⟩
  cases q1 : evs cl g clo ρ S with
  | bad => rw [q1] at h; exact h.elim
  | exn x S1 => rw [q1] at h; exact h
  | ok ls S1 =>
    rw [q1] at h
    simp only [Res.bind] at h ⊢
    cases q2 : ev cl g chi ρ S1 with
    | bad => rw [q2] at h; exact h.elim
    | exn x S2 => rw [q2] at h; exact h
    | ok y S2 =>
      rw [q2] at h
      simp only [Res.bind] at h ⊢
      intro vs H2 m2 st rs rel
      split at h
      · next l n e =>
        split at h
        · next hb =>
          rw [Bool.and_eq_true] at hb
          cases rel with
          | cons r t =>
            cases r
            refine ⟨l, n, hb.1, hb.2, rfl, ?_, hk l n S2 m2 H2 (hE.stp st hS.mut) rs (Post.stp st h)⟩
            split at e
            · cases e; cases t; exact .inl ⟨rfl, rfl⟩
            · cases e
              cases t with
              | cons r2 t2 => cases t2; cases r2; exact .inr rfl
            · cases e
        · exact h.elim
      · exact h.elim

/-- [e for k in range(..) if ..] -/
theorem e_lcr {elt tg iter : Expr} {ifs : List Expr} {scope : Scope} {own : List (Str × Nat)} {pos : Pos} {clo : List Ex} {chi ce : Ex} {cs : List Ex} {t : Nat} (hc : X.calm = true) (hN : X.N.Nodup)
    (hi : PI X tg iter (iR X.K E cl g clo chi)) (ok : BlkOk X.N X.env.scope scope own) (hts : t ∈ own.map (·.2))
    (hg : ∀ (s : Shared) (H : Hp) (C : Addr) (cl' : List (Str × Addr)) (fp : List Addr), PG (X.blk s H scope (compEnvC scope cl' C X.env) fp) tg (gName t))
    (ht : ∀ (s : Shared) (H : Hp) (C : Addr) (cl' : List (Str × Addr)) (fp : List Addr), PTs (X.blk s H scope (compEnvC scope cl' C X.env) fp) ifs (tC3 X.K EN cl g cs))
    (he : ∀ (s : Shared) (H : Hp) (C : Addr) (cl' : List (Str × Addr)) (fp : List Addr), PE (X.blk s H scope (compEnvC scope cl' C X.env) fp) elt (tE X.K EN cl g ce)) (hs : ∀ x, foldedSetIterable iter X.env x = pure x) :
    PE X (.ListComp elt [⟨tg, iter, ifs, 0⟩] scope pos) (tE X.K E cl g (.lcr (own.map (·.2)) t clo chi cs ce)) ∧
    ∀ σ H Q, tE X.K E cl g (.lcr (own.map (·.2)) t clo chi cs ce) σ H Q → tLc (iR X.K E cl g clo chi) (gName t) (tC3 X.K EN cl g cs) (tE X.K EN cl g ce) (own.map (·.2)) σ H Q := by
  have imp : ∀ σ H Q, tE X.K E cl g (.lcr (own.map (·.2)) t clo chi cs ce) σ H Q → tLc (iR X.K E cl g clo chi) (gName t) (tC3 X.K EN cl g cs) (tE X.K EN cl g ce) (own.map (·.2)) σ H Q := fun σ H Q ⟨ρ, S, m, hE, hS, h⟩ => by
    simp only [ev] at h
    refine iR_of (Rel := RV X.K) hE hS h fun l n S1 m1 H1 hE1 hS1 h1 => ?_
    intro D hn
    generalize hF : (fun d S2 =>
            (evc cl g cs ((wipeR ρ (own.map (·.2))).set t (some (.p d))) S2).bind fun b S3 => if b = true then (ev cl g ce ((wipeR ρ (own.map (·.2))).set t (some (.p d))) S3).bind fun y S4 => match y with
              | .p r => Res.ok (some r) S4
              | _ => .bad
            else .ok none S3) = F at h1
    cases qm : mapR F (rangeD l n) S1 with
    | bad => rw [qm] at h1; exact h1.elim
    | exn x S2 => rw [qm] at h1; exact h1.elim
    | ok rs S2 =>
      rw [qm] at h1
      simp only [Res.noX, Res.bind] at h1
      split at h1
      case isFalse => exact h1.elim
      next hz =>
      refine lc_range (LcInv X.K F (rangeD l n) rs S2 m1 H1 D) (lc_start hS1 hn qm) (fun i H hi J => ?_) fun H J => lc_end hS1 hn (by rw [range_len]; exact J) h1
      refine lc_turn (ts := [t]) (tup := false) (vs := own.map (·.2)) (e := ce) (cs := cs) ?_ gok_one (fun u hu => by rw [List.mem_singleton.mp hu]; exact hts) hE1 hS1 hn (okLen_le hz) (range_at hi) (.int _) J
      rw [← hF]
      rfl
  exact ⟨(pe_lc hc hN hi ok hg ht he hs).imp imp, imp⟩
end
end Pl

set_option Elab.async false
set_option linter.all false
set_option autoImplicit false
set_option maxRecDepth 100000
/-! PA9: statements. -/
namespace Pl
open PySem PySem.Spec PyProof.Rows L2

/-- what is wanted behind a statement -/
def PostS (K : PySem.W.Frag) (E : XK) (r : Res Fl) (m : Map) (H : Hp) (D : Ends) : Prop :=
  match r with
  | .ok (.nx ρ) S' => ∀ σ' H' m', Stp m H m' H' → RS K m' H' S' → RE K m' H' ρ σ' → D.nx σ' H'
  | .ok (.rt v) S' => ∀ x H' m', Stp m H m' H' → RS K m' H' S' → RV K m' H' x v → D.rt x H'
  | .ok (.bk ρ) S' => ∀ σ' H' m', Stp m H m' H' → RS K m' H' S' → RE K m' H' ρ σ' → D.bk σ' H'
  | .ok (.ct ρ) S' => ∀ σ' H' m', Stp m H m' H' → RS K m' H' S' → RE K m' H' ρ σ' → D.ct σ' H'
  | .exn x S' => ∀ cls d H' m', Stp m H m' H' → RS K m' H' S' → XnIs K m' H' cls d x → E cls d H'
  | .bad => False
section
variable {K : PySem.W.Frag} {E : XK} {m m1 : Map} {H H1 : Hp} {D D' : Ends}
theorem PostS.stp {r : Res Fl} (st : Stp m H m1 H1) (h : PostS K E r m H D) : PostS K E r m1 H1 D := by
  cases r with
  | bad => exact h
  | exn x S => exact fun c d H' m' st' rs rel => h c d H' m' (st.trans st') rs rel
  | ok f S => cases f <;> exact fun b H' m' st' rs rel => h b H' m' (st.trans st') rs rel
theorem PostS.bind {α β : Type} {Rel : Map → Hp → β → α → Prop} {r : Res α} {k : α → Store → Res Fl} (h : PostS K E (r.bind k) m H D) :
    Post K E Rel r m H (fun b H1 => ∃ a S1 m1, Stp m H m1 H1 ∧ RS K m1 H1 S1 ∧ Rel m1 H1 b a ∧ r = .ok a S1 ∧ PostS K E (k a S1) m1 H1 D) := by
  cases r with
  | bad => exact h
  | exn x S => exact h
  | ok a S1 => exact fun b H1 m1 st rs rel => ⟨a, S1, m1, st, rs, rel, rfl, PostS.stp st h⟩
theorem PostS.tst {r : Res Vl} {k : Bool → Store → Res Fl} (h : PostS K E ((r.bind asB).bind k) m H D) :
    PostB K E (r.bind asB) m H (fun b H1 => ∃ S1 m1, Stp m H m1 H1 ∧ RS K m1 H1 S1 ∧ PostS K E (k b S1) m1 H1 D) :=
  (PostS.bind (Rel := RB) h).mono fun b H1 ⟨a, S1, m1, st, rs, e, _, h2⟩ => by
    have e' : b = a := e
    subst e'
    exact ⟨S1, m1, st, rs, h2⟩
theorem PostS.nx {ρ : Rho} {σ : L2.St} {S : Store} (hS : RS K m H S) (hE : RE K m H ρ σ) (h : PostS K E (.ok (.nx ρ) S) m H D) : D.nx σ H := h σ H m (Stp.refl m H) hS hE
end
def tS (K : PySem.W.Frag) (E : XK) (cl : CallF) (g : Str → Option D) (c : Sm) : TS := fun D σ H => ∃ ρ S m, RE K m H ρ σ ∧ RS K m H S ∧ PostS K E (evS cl g c ρ S) m H D
def tSs (K : PySem.W.Frag) (E : XK) (cl : CallF) (g : Str → Option D) (cs : List Sm) : TS := fun D σ H => ∃ ρ S m, RE K m H ρ σ ∧ RS K m H S ∧ PostS K E (evSs cl g cs ρ S) m H D
theorem _root_.L2.PS.imp {X : Cx} {e : Stmt} {t t' : TS} (h : PS X e t) (i : ∀ D σ H, t' D σ H → t D σ H) : PS X e t' := ⟨fun pins s σ H D I w => h.run pins s σ H D I (i D σ H w)⟩
theorem _root_.L2.PSs.imp {X : Cx} {e : List Stmt} {t t' : TS} (h : PSs X e t) (i : ∀ D σ H, t' D σ H → t D σ H) : PSs X e t' := ⟨fun pins s σ H D I w => h.run pins s σ H D I (i D σ H w)⟩

section
variable {X : Cx} {E : XK} {cl : CallF} {g : Str → Option D} {e c : Expr} {ce cc : Ex} {pos : Pos}
theorem ss_nil : PSs X [] (tSs X.K E cl g []) := pss_nil.imp fun D σ H ⟨ρ, S, m, hE, hS, h⟩ => PostS.nx hS hE h
theorem ss_cons {s : Stmt} {ss : List Stmt} {cs : Sm} {css : List Sm} (h1 : PS X s (tS X.K E cl g cs)) (h2 : PSs X ss (tSs X.K E cl g css)) : PSs X (s :: ss) (tSs X.K E cl g (cs :: css)) :=
  (pss_cons h1 h2).imp fun D σ H ⟨ρ, S, m, hE, hS, h⟩ => by
    simp only [evSs] at h
    refine ⟨ρ, S, m, hE, hS, ?_⟩
    cases q : evS cl g cs ρ S with
    | bad => rw [q] at h; exact h.elim
    | exn x S1 => rw [q] at h; exact h
    | ok f S1 =>
      rw [q] at h
      simp only [Res.bind] at h
      cases f with
      | nx ρ1 => exact fun σ' H' m' st rs re => ⟨ρ1, S1, m', re, rs, PostS.stp st h⟩
      | rt v => exact h
      | bk ρ1 => exact h
      | ct ρ1 => exact h
theorem s_pass : PS X (.Pass pos) (tS X.K E cl g .pass) := ps_pass.imp fun D σ H ⟨ρ, S, m, hE, hS, h⟩ => PostS.nx hS hE h
theorem s_brk : PS X (.Break pos) (tS X.K E cl g .brk) := ps_break.imp fun D σ H ⟨ρ, S, m, hE, hS, h⟩ => h σ H m (Stp.refl m H) hS hE
theorem s_cont : PS X (.Continue pos) (tS X.K E cl g .cont) := ps_continue.imp fun D σ H ⟨ρ, S, m, hE, hS, h⟩ => h σ H m (Stp.refl m H) hS hE
theorem s_exp (he : PE X e (tE X.K E cl g ce)) (hs : swapsWith e none pos.line X.env = pure false) : PS X (.Expr e pos) (tS X.K E cl g (.exp ce)) :=
  (ps_expr he hs).imp fun D σ H ⟨ρ, S, m, hE, hS, h⟩ => by
    simp only [evS] at h
    exact ⟨ρ, S, m, hE, hS, (PostS.bind (Rel := RV X.K) h).mono fun v H1 ⟨x, S1, m1, st1, hS1, r1, _, h1⟩ => PostS.nx hS1 (hE.stp st1 hS.mut) h1⟩
theorem s_ret (he : PE X e (tE X.K E cl g ce)) : PS X (.Return (some e) pos) (tS X.K E cl g (.ret ce)) :=
  (ps_ret he).imp fun D σ H ⟨ρ, S, m, hE, hS, h⟩ => by
    simp only [evS] at h
    exact ⟨ρ, S, m, hE, hS, (PostS.bind (Rel := RV X.K) h).mono fun v H1 ⟨x, S1, m1, st1, hS1, r1, _, h1⟩ => h1 v H1 m1 (Stp.refl _ _) hS1 r1⟩
theorem s_retN : PS X (.Return none pos) (tS X.K E cl g .retN) := ps_retN.imp fun D σ H ⟨ρ, S, m, hE, hS, h⟩ => h .non H m (Stp.refl m H) hS .non
theorem s_ite {a b : List Stmt} {ca cb : List Sm} (hc : PT X c (tT X.K E cl g cc)) (ha : PSs X a (tSs X.K E cl g ca)) (hb : PSs X b (tSs X.K E cl g cb)) : PS X (.If c a b pos) (tS X.K E cl g (.ite cc ca cb)) :=
  (ps_if hc ha hb).imp fun D σ H ⟨ρ, S, m, hE, hS, h⟩ => by
    simp only [evS] at h
    refine ⟨ρ, S, m, hE, hS, (PostS.tst h).mono fun k H1 ⟨S1, m1, st1, hS1, h1⟩ => ?_⟩
    cases k with
    | true => exact ⟨ρ, S1, m1, hE.stp st1 hS.mut, hS1, h1⟩
    | false => exact ⟨ρ, S1, m1, hE.stp st1 hS.mut, hS1, h1⟩
/-- name = value -/
theorem s_asg {i : Nat} {x : Str} {p : Pos} (hN : X.N.Nodup) (hx : Nm X i x) (he : PE X e (tE X.K E cl g ce)) (hs : swapsWith e (some (.Name x p)) pos.line X.env = pure false) : PS X (.Assign [.Name x p] e pos) (tS X.K E cl g (.asg i ce)) :=
  (ps_set hN hx.at_ hx.loc he hs hx.fn).imp fun D σ H ⟨ρ, S, m, hE, hS, h⟩ => by
    simp only [evS] at h
    exact ⟨ρ, S, m, hE, hS, (PostS.bind (Rel := RV X.K) h).mono fun v H1 ⟨x, S1, m1, st1, hS1, r1, _, h1⟩ => PostS.nx hS1 ((hE.stp st1 hS.mut).set i r1) h1⟩
/-- the same from any reading of the assignment -/
theorem asg_imp {i : Nat} {te : TE} {D : Ends} {σ : L2.St} {H : Hp} (i' : ∀ σ H Q, tE X.K E cl g ce σ H Q → te σ H Q) (h : tS X.K E cl g (.asg i ce) D σ H) : tAsg te (gName i) D σ H := by
  obtain ⟨ρ, S, m, hE, hS, h⟩ := h
  simp only [evS] at h
  exact i' σ H _ ⟨ρ, S, m, hE, hS, (PostS.bind (Rel := RV X.K) h).mono fun v H1 ⟨x, S1, m1, st1, hS1, r1, _, h1⟩ => PostS.nx hS1 ((hE.stp st1 hS.mut).set i r1) h1⟩
/-- a, b = value -/
theorem s_asgs {is : List Nat} {es : List Expr} {k : Nat} {p : Pos} (hc : X.calm = true) (hN : X.N.Nodup) (hx : NmAll X is es) (he : PE X e (tE X.K E cl g ce)) (hs : swapsWith e (some (.Tuple es k p)) pos.line X.env = pure false) (hw : swappedStores [.Tuple es k p] e X.env = pure none) :
    PS X (.Assign [.Tuple es k p] e pos) (tS X.K E cl g (.asgs is ce)) :=
  (ps_asg he (pg_tups hc hN hx) hs hw).imp fun D σ H ⟨ρ, S, m, hE, hS, h⟩ => by
    simp only [evS] at h
    refine ⟨ρ, S, m, hE, hS, (PostS.bind (Rel := RV X.K) h).mono fun v H1 ⟨x, S1, m1, st1, hS1, r1, _, h1⟩ => ?_⟩
    split at h1
    · next ds _ =>
      split at h1
      · next hl =>
        cases r1 with
        | tup p1 p2 =>
          have hx := rpAll_len p2
          exact ⟨_, _, rfl, p1, by omega, gNames_ok (by omega) (PostS.nx hS1 ((hE.stp st1 hS.mut).setTs p2) h1)⟩
      · exact h1.elim
    · exact h1.elim
/-- a, b = x, y: by way of the tuple -/
theorem RE.setV {K : PySem.W.Frag} {m : Map} {H : Hp} : ∀ {ts : List Nat} {vs : List V} {ds : List Vl} {ρ : Rho} {σ : L2.St}, RE K m H ρ σ → RVs K m H vs ds → RE K m H (Pl.setV ρ ts ds) (setVs σ ts vs)
  | [], _, _, _, _, h, r => by cases r <;> exact h
  | t :: ts, _, _, _, _, h, .nil => h
  | t :: ts, v :: vs, d :: ds, ρ, σ, h, .cons p q => by
    show RE K m H (Pl.setV (ρ.set t (some d)) ts ds) (setVs (σ.set t (some v)) ts vs)
    exact RE.setV (h.set t p) q
theorem rvs_len {K : PySem.W.Frag} {m : Map} {H : Hp} {vs : List V} {xs : List Vl} (h : RVs K m H vs xs) : vs.length = xs.length := Paired.length h
theorem RVs.same {K : PySem.W.Frag} {m : Map} {H H' : Hp} (s : Same H H') (ok : MutOk m H) : ∀ {vs : List V} {xs : List Vl}, RVs K m H vs xs → RVs K m H' vs xs
  | _, _, .nil => .nil
  | _, _, .cons r t => .cons (r.stp (Stp.same s) ok) (RVs.same s ok t)
theorem s_par {is : List Nat} {es vs : List Expr} {k k2 : Nat} {p p2 : Pos} {cs : List Ex} (hc : X.calm = true) (hN : X.N.Nodup) (hx : NmAll X is es) (ha : PA X vs (tA X.K E cl g cs)) (hs : swapsWith (.Tuple vs k2 p2) (some (.Tuple es k p)) pos.line X.env = pure false)
    (hw : swappedStores [.Tuple es k p] (.Tuple vs k2 p2) X.env = pure none) (hl : is.length ≤ sizeLine) : PS X (.Assign [.Tuple es k p] (.Tuple vs k2 p2) pos) (tS X.K E cl g (.par is cs)) :=
  (ps_asg (pe_tup ha) (pg_tups hc hN hx) hs hw).imp fun D σ H ⟨ρ, S, m, hE, hS, h⟩ => by
    simp only [evS] at h
    refine ⟨ρ, S, m, hE, hS, (PostS.bind (Rel := RVs X.K) h).mono fun vs H1 ⟨xs, S1, m1, st1, hS1, r1, _, h1⟩ => ?_⟩
    split at h1
    · next hl' =>
      have hv := rvs_len r1
      refine ⟨by omega, fun q hq => ⟨q, vs, rfl, .inl (.inl upd_same), by omega, gNames_ok (by omega) ?_⟩⟩
      have sm := same_upd (o := .tup vs) hq
      exact PostS.nx (hS1.same sm) (((hE.stp st1 hS.mut).stp (Stp.same sm) hS1.mut).setV (RVs.same sm hS1.mut r1)) (PostS.stp (Stp.same sm) h1)
    · exact h1.elim
theorem s_par2 {i j : Nat} {x y : Str} {a b : Expr} {px py pt : Pos} {kt k2 : Nat} {pt2 : Pos} {cs : List Ex} (hc : X.calm = true) (hN : X.N.Nodup) (hi : X.N[i]? = some x) (hj : X.N[j]? = some y) (hij : i ≠ j)
    (hx : X.env.scope.names.lookup x = some .local) (hy : X.env.scope.names.lookup y = some .local) (ha : PA X [a, b] (tA X.K E cl g cs))
    (hw : swappedStores [.Tuple [.Name x px, .Name y py] kt pt] (.Tuple [a, b] k2 pt2) X.env = pure (some [x, y]))
    (hs : swapsWithSole [.Tuple [.Name x px, .Name y py] kt pt] (.Tuple [a, b] k2 pt2) pos.line X.env = pure false) : PS X (.Assign [.Tuple [.Name x px, .Name y py] kt pt] (.Tuple [a, b] k2 pt2) pos) (tS X.K E cl g (.par [i, j] cs)) :=
  (ps_par hc hN hi hj hij hx hy ha hw hs).imp fun D σ H ⟨ρ, S, m, hE, hS, h⟩ => by
    simp only [evS] at h
    refine ⟨ρ, S, m, hE, hS, (PostS.bind (Rel := RVs X.K) h).mono fun vs H1 ⟨xs, S1, m1, st1, hS1, r1, _, h1⟩ => ?_⟩
    split at h1
    · next hl =>
      have hv := rvs_len r1
      match vs, xs, r1, hl, h1 with
      | [v, w], [a, b], r1, _, h1 => exact ⟨v, w, rfl, PostS.nx hS1 ((hE.stp st1 hS.mut).setV (ts := [i, j]) r1) h1⟩
      | [], [], _, hl, _ => simp at hl
      | [_], [_], _, hl, _ => simp at hl
      | _ :: _ :: _ :: _, _ :: _ :: _ :: _, _, hl, _ => simp at hl
    · exact h1.elim
theorem s_par3 {i j l : Nat} {x y z : Str} {a b c : Expr} {px py pz pt : Pos} {kt k2 : Nat} {pt2 : Pos} {cs : List Ex} (hc : X.calm = true) (hN : X.N.Nodup) (hi : X.N[i]? = some x) (hj : X.N[j]? = some y) (hl : X.N[l]? = some z) (hij : i ≠ j) (hil : i ≠ l) (hjl : j ≠ l)
    (hx : X.env.scope.names.lookup x = some .local) (hy : X.env.scope.names.lookup y = some .local) (hz : X.env.scope.names.lookup z = some .local) (ha : PA X [a, b, c] (tA X.K E cl g cs))
    (hw : swappedStores [.Tuple [.Name x px, .Name y py, .Name z pz] kt pt] (.Tuple [a, b, c] k2 pt2) X.env = pure (some [x, y, z]))
    (hs : swapsWithSole [.Tuple [.Name x px, .Name y py, .Name z pz] kt pt] (.Tuple [a, b, c] k2 pt2) pos.line X.env = pure false) : PS X (.Assign [.Tuple [.Name x px, .Name y py, .Name z pz] kt pt] (.Tuple [a, b, c] k2 pt2) pos) (tS X.K E cl g (.par [i, j, l] cs)) :=
  (ps_par3 hc hN hi hj hl hij hil hjl hx hy hz ha hw hs).imp fun D σ H ⟨ρ, S, m, hE, hS, h⟩ => by
    simp only [evS] at h
    refine ⟨ρ, S, m, hE, hS, (PostS.bind (Rel := RVs X.K) h).mono fun vs H1 ⟨xs, S1, m1, st1, hS1, r1, _, h1⟩ => ?_⟩
    split at h1
    · next hl =>
      have hv := rvs_len r1
      match vs, xs, r1, hl, h1 with
      | [v, w, u], [a, b, c], r1, _, h1 => exact ⟨v, w, u, rfl, PostS.nx hS1 ((hE.stp st1 hS.mut).setV (ts := [i, j, l]) r1) h1⟩
      | [], [], _, hl, _ => simp at hl
      | [_], [_], _, hl, _ => simp at hl
      | [_, _], [_, _], _, hl, _ => simp at hl
      | _ :: _ :: _ :: _ :: _, _ :: _ :: _ :: _ :: _, _, hl, _ => simp at hl
    · exact h1.elim
/-- o[i] = v, of a list or a dict -/
def rSetA : TSet := fun o i v H Q => rSetL o i v H Q ∨ rSetD o i v H Q
theorem set_any (hu : X.A.units + 260 < cLine) : PSet X rSetA := by
  intro pins s σ H o i v ov iv u Q I ro ri rv h
  rcases h with h | h
  · exact set_list pins s σ H o i v ov iv u Q I ro ri rv h
  · exact set_dict (by omega) pins s σ H o i v ov iv u Q I ro ri rv h
theorem rSetA_mono {o i v : V} {H : Hp} {Q Q' : Hp → Prop} (h : rSetA o i v H Q) (k : ∀ H1, Q H1 → Q' H1) : rSetA o i v H Q' := by
  rcases h with ⟨p, xs, n, j, e1, e2, e3, e4, q⟩ | ⟨a, H', e1, e2, q⟩
  · exact .inl ⟨p, xs, n, j, e1, e2, e3, e4, k _ q⟩
  · exact .inr ⟨a, H', e1, e2, k _ q⟩
/-- o[i] = v: the cell -/
theorem put_ok {v x y : Vl} {vv xv yv : V} {S : Store} {m : Map} {H : Hp} {k : Unit → Store → Res Fl} {D : Ends} {K : PySem.W.Frag} {E : XK} (hS : RS K m H S) (r1 : RV K m H vv v) (r2 : RV K m H xv x) (r3 : RV K m H yv y) (h : PostS K E ((putR v x y S).bind k) m H D) :
    rSetA xv yv vv H fun H1 => ∃ S1 m1, Stp m H m1 H1 ∧ RS K m1 H1 S1 ∧ PostS K E (k () S1) m1 H1 D := by
  match v, x, y, r1, r2, r3, h with
  | .p d, .r n, .p i, r1, r2, r3, h =>
    simp only [putR] at h
    split at h
    · next xs e1 =>
      split at h
      · next i =>
        split at h
        · next j ej =>
          obtain ⟨a, ea⟩ := hS.live n _ e1
          obtain ⟨c, e3, hc⟩ := hS.cell n a ea
          rw [e1] at e3; cases e3
          obtain ⟨zs, e4, r4⟩ := hc
          have hm : some a ∈ m.m := List.mem_iff_getElem?.mpr ⟨n, ea⟩
          cases r3
          refine .inl ⟨a, zs, i, j, r2.2 a ea, rfl, e4, by rw [rpAll_len r4]; exact ej, ?_⟩
          exact ⟨_, m, Stp.write hm, hS.write ea (rpAll_set r1 j r4), PostS.stp (Stp.write hm) h⟩
        · exact h.elim
      · exact h.elim
    · next es e1 =>
      split at h
      · next j ej =>
        split at h
        · next hsc =>
          rw [Bool.and_eq_true] at hsc
          obtain ⟨a, ea⟩ := hS.liveC n _ e1 (fun z => nomatch z)
          obtain ⟨c, e3, hc⟩ := hS.cell n a ea
          rw [e1] at e3; cases e3
          obtain ⟨kvs, e4, r4⟩ := hc
          have hm : some a ∈ m.m := List.mem_iff_getElem?.mpr ⟨n, ea⟩
          have ey := wr_key (.p r3) ej
          subst ey
          refine .inr ⟨a, _, r2.2 a ea, DPut.k e4 (by rw [r4.len]; exact of_decide_eq_true hsc.2), ?_⟩
          exact ⟨_, m, Stp.write hm, hS.writeC (c' := .dct _) ea ⟨_, upd_same, r4.put r1 hsc.1⟩, PostS.stp (Stp.write hm) h⟩
        · exact h.elim
      · exact h.elim
    · exact h.elim
  | .p _, .r _, .r _, _, _, _, h => exact h.elim
  | .p _, .r _, .s _, _, _, _, h => exact h.elim
  | .r _, _, _, _, _, _, h => exact h.elim
  | .s _, _, _, _, _, _, h => exact h.elim
  | .p _, .p _, _, _, _, _, h => exact h.elim
  | .p _, .s _, _, _, _, _, h => exact h.elim
/-- o[i] = value -/
theorem s_setix {o i : Expr} {co ci : Ex} {p : Pos} (hu : X.A.units + 260 < cLine) (he : PE X e (tE X.K E cl g ce)) (ho : PE X o (tE X.K E cl g co)) (hi : PE X i (tE X.K E cl g ci)) (ha : ∀ v, assign (.Subscript o i p) X.env v = (do
      let ov ← holding [v] (eval o X.env)
      let iv ← holding [v, ov] (eval i X.env)
      standAt p
      holding [v, ov, iv] (setItem ov iv v)
      release [v, ov, iv] []))
    (hs : swapsWithSole [.Subscript o i p] e pos.line X.env = pure false) (hw : swappedStores [.Subscript o i p] e X.env = pure none) : PS X (.Assign [.Subscript o i p] e pos) (tS X.K E cl g (.setix co ci ce)) :=
  (ps_asg he (pg_sub ho hi (set_any hu) ha) hs hw rfl).imp fun D σ H ⟨ρ, S, m, hE, hS, h⟩ => by
    simp only [evS] at h
    refine ⟨ρ, S, m, hE, hS, (PostS.bind (Rel := RV X.K) h).mono fun v H1 ⟨x, S1, m1, st1, hS1, r1, _, h1⟩ => ?_⟩
    have hE1 := hE.stp st1 hS.mut
    refine ⟨ρ, S1, m1, hE1, hS1, (PostS.bind (Rel := RV X.K) h1).mono fun ov H2 ⟨ox, S2, m2, st2, hS2, r2, _, h2⟩ => ?_⟩
    have hE2 := hE1.stp st2 hS1.mut
    refine ⟨ρ, S2, m2, hE2, hS2, (PostS.bind (Rel := RV X.K) h2).mono fun iv H3 ⟨ix, S3, m3, st3, hS3, r3, _, h3⟩ => ?_⟩
    have hE3 := hE2.stp st3 hS2.mut
    refine rSetA_mono (put_ok hS3 ((r1.stp st2 hS1.mut).stp st3 hS2.mut) (r2.stp st3 hS2.mut) r3 h3) fun H4 ⟨S4, m4, st4, hS4, h4⟩ => ?_
    exact PostS.nx hS4 (hE3.stp st4 hS3.mut) h4
/-- o[i], o2[i2] = e, e2 -/
theorem s_swap {o i o2 i2 e e2 : Expr} {co ci co2 ci2 ce ce2 : Ex} {p p2 pt pv : Pos} {kt kv : Nat} (hu : X.A.units + 260 < cLine) (hc : X.calm = true) (he : PA X [e, e2] (tA X.K E cl g [ce, ce2])) (ho : PE X o (tE X.K E cl g co)) (hi : PE X i (tE X.K E cl g ci)) (ho2 : PE X o2 (tE X.K E cl g co2)) (hi2 : PE X i2 (tE X.K E cl g ci2)) (ha : ∀ v, assign (.Subscript o i p) X.env v = (do
      let ov ← holding [v] (eval o X.env)
      let iv ← holding [v, ov] (eval i X.env)
      standAt p
      holding [v, ov, iv] (setItem ov iv v)
      release [v, ov, iv] [])) (ha2 : ∀ v, assign (.Subscript o2 i2 p2) X.env v = (do
      let ov ← holding [v] (eval o2 X.env)
      let iv ← holding [v, ov] (eval i2 X.env)
      standAt p2
      holding [v, ov, iv] (setItem ov iv v)
      release [v, ov, iv] []))
    (hs : swapsWithSole [.Tuple [.Subscript o i p, .Subscript o2 i2 p2] kt pt] (.Tuple [e, e2] kv pv) pos.line X.env = pure false) (hw : swappedStores [.Tuple [.Subscript o i p, .Subscript o2 i2 p2] kt pt] (.Tuple [e, e2] kv pv) X.env = pure none) :
    PS X (.Assign [.Tuple [.Subscript o i p, .Subscript o2 i2 p2] kt pt] (.Tuple [e, e2] kv pv) pos) (tS X.K E cl g (.swap co ci co2 ci2 ce ce2)) :=
  (ps_asg (pe_tup he) (pg_tup hc (pgs_cons (pg_sub ho hi (set_any hu) ha) (pgs_cons (pg_sub ho2 hi2 (set_any hu) ha2) pgs_nil))) hs hw).imp fun D σ H ⟨ρ, S, m, hE, hS, h⟩ => by
    simp only [evS] at h
    refine ⟨ρ, S, m, hE, hS, (PostS.bind (Rel := RVs X.K) h).mono fun vs H1 ⟨xs, S1, m1, st1, hS1, r1, _, h1⟩ => ?_⟩
    have hl := rvs_len r1
    match vs, xs, r1, hl, h1 with
    | [v, v2], [x, x2], .cons q1 (.cons q2 _), _, h1 =>
      refine ⟨by rw [sizeLine_eq]; show (2 : Nat) ≤ 16777216; decide, fun q hq => ⟨q, _, rfl, .inl (.inl upd_same), rfl, v, [v2], rfl, ?_⟩⟩
      have sm := same_upd (o := .tup [v, v2]) hq
      have hS1' := hS1.same sm
      have q1 := q1.stp (Stp.same sm) hS1.mut
      have q2 := q2.stp (Stp.same sm) hS1.mut
      have hE1 := (hE.stp st1 hS.mut).stp (Stp.same sm) hS1.mut
      have h1 := PostS.stp (Stp.same sm) h1
      refine ⟨ρ, S1, m1, hE1, hS1', (PostS.bind (Rel := RV X.K) h1).mono fun ov H2 ⟨ox, S2, m2, st2, hS2, r2, _, h2⟩ => ?_⟩
      have hE2 := hE1.stp st2 hS1'.mut
      refine ⟨ρ, S2, m2, hE2, hS2, (PostS.bind (Rel := RV X.K) h2).mono fun iv H3 ⟨ix, S3, m3, st3, hS3, r3, _, h3⟩ => ?_⟩
      have hE3 := hE2.stp st3 hS2.mut
      refine rSetA_mono (put_ok hS3 ((q1.stp st2 hS1'.mut).stp st3 hS2.mut) (r2.stp st3 hS2.mut) r3 h3) fun H4 ⟨S4, m4, st4, hS4, h4⟩ => ?_
      have hE4 := hE3.stp st4 hS3.mut
      have q2 := ((q2.stp st2 hS1'.mut).stp st3 hS2.mut).stp st4 hS3.mut
      refine ⟨v2, [], rfl, ρ, S4, m4, hE4, hS4, (PostS.bind (Rel := RV X.K) h4).mono fun ov H5 ⟨ox, S5, m5, st5, hS5, r5, _, h5⟩ => ?_⟩
      have hE5 := hE4.stp st5 hS4.mut
      refine ⟨ρ, S5, m5, hE5, hS5, (PostS.bind (Rel := RV X.K) h5).mono fun iv H6 ⟨ix, S6, m6, st6, hS6, r6, _, h6⟩ => ?_⟩
      have hE6 := hE5.stp st6 hS5.mut
      refine rSetA_mono (put_ok hS6 ((q2.stp st5 hS4.mut).stp st6 hS5.mut) (r5.stp st6 hS5.mut) r6 h6) fun H7 ⟨S7, m7, st7, hS7, h7⟩ => ?_
      exact ⟨rfl, PostS.nx hS7 (hE6.stp st7 hS6.mut) h7⟩
    | _, [], _, _, h1 => exact h1.elim
    | _, [_], _, _, h1 => exact h1.elim
    | _, _ :: _ :: _ :: _, _, _, h1 => exact h1.elim

/-! ### loops -/
theorem s_whl {b : List Stmt} {cb : List Sm} (hp : PassesOwn (model X.prog X.w) X.A X.env X.xe) (hc : PT X c (tT X.K E cl g cc)) (hb : PSs X b (tSs X.K E cl g cb)) : PS X (.While c b [] pos) (tS X.K E cl g (.whl cc cb)) :=
  (ps_while hp hc hb).imp fun D σ H ⟨ρ, S, m, hE, hS, h⟩ => by
    simp only [evS] at h
    refine ⟨fun n σ H => ∃ ρ S m, RE X.K m H ρ σ ∧ RS X.K m H S ∧ PostS X.K E (whlR (fun ρ S => (ev cl g cc ρ S).bind asB) (fun ρ S => evSs cl g cb ρ S) n ρ S) m H D, ⟨whileFuel, ρ, S, m, hE, hS, h⟩, fun n σ1 H1 ⟨ρ1, S1, m1, hE1, hS1, h1⟩ => ?_⟩
    cases n with
    | zero => exact h1.elim
    | succ n =>
      simp only [whlR] at h1
      refine ⟨ρ1, S1, m1, hE1, hS1, (PostS.tst h1).mono fun k H2 ⟨S2, m2, st2, hS2, h2⟩ => ?_⟩
      have hE2 := hE1.stp st2 hS1.mut
      cases k with
      | false => exact PostS.nx hS2 hE2 h2
      | true =>
        simp only [if_true] at h2 ⊢
        refine ⟨fun σ H => ∃ ρ S m, RE X.K m H ρ σ ∧ RS X.K m H S ∧ PostS X.K E (whlR (fun ρ S => (ev cl g cc ρ S).bind asB) (fun ρ S => evSs cl g cb ρ S) n ρ S) m H D, fun σ' H' w => ⟨n, Nat.lt_succ_self n, w⟩, ρ1, S2, m2, hE2, hS2, ?_⟩
        cases q : evSs cl g cb ρ1 S2 with
        | bad => rw [q] at h2; exact h2.elim
        | exn x S3 => rw [q] at h2; exact h2
        | ok f S3 =>
          rw [q] at h2
          simp only [Res.bind] at h2
          cases f with
          | nx ρ3 => exact fun σ' H' m' st rs re => ⟨ρ3, S3, m', re, rs, PostS.stp st h2⟩
          | ct ρ3 => exact fun σ' H' m' st rs re => ⟨ρ3, S3, m', re, rs, PostS.stp st h2⟩
          | bk ρ3 => exact fun σ' H' m' st rs re => PostS.nx rs re (PostS.stp st h2)
          | rt v => exact h2
/-- one turn of a for loop -/
theorem for_step {b : D → Rho → Store → Res Fl} {xs : List Pl.D} {i : Nat} {d : Pl.D} {D : Ends} {m : Map} {H : Hp} {ρ : Rho} {S : Store} (hd : xs[i]? = some d) (h : PostS X.K E (forR b (xs.drop i) ρ S) m H D)
    (P : L2.St → Hp → Prop) (hP : ∀ σ' H' m' ρ' S', Stp m H m' H' → RE X.K m' H' ρ' σ' → RS X.K m' H' S' → PostS X.K E (forR b (xs.drop (i + 1)) ρ' S') m' H' D → P σ' H') :
    PostS X.K E (b d ρ S) m H { D with nx := P, ct := P, bk := D.nx } := by
  have hlt : i < xs.length := (List.getElem?_eq_some_iff.mp hd).1
  have hdr : xs.drop i = d :: xs.drop (i + 1) := by
    rw [List.drop_eq_getElem_cons hlt, (List.getElem?_eq_some_iff.mp hd).2]
  rw [hdr] at h
  simp only [forR] at h
  cases q : b d ρ S with
  | bad => rw [q] at h; exact h.elim
  | exn x S3 => rw [q] at h; exact h
  | ok f S3 =>
    rw [q] at h
    simp only [Res.bind] at h
    cases f with
    | nx ρ3 => exact fun σ' H' m' st rs re => hP σ' H' m' ρ3 S3 st re rs (PostS.stp st h)
    | ct ρ3 => exact fun σ' H' m' st rs re => hP σ' H' m' ρ3 S3 st re rs (PostS.stp st h)
    | bk ρ3 => exact fun σ' H' m' st rs re => PostS.nx rs re (PostS.stp st h)
    | rt v => exact h
theorem s_for {tg it : Expr} {b : List Stmt} {cit : Ex} {cb : List Sm} {ts : List Nat} {tup : Bool} {gt : TG} (hp : PassesOwn (model X.prog X.w) X.A X.env X.xe) (hc : X.calm = true) (hi : PE X it (tE X.K E cl g cit)) (hg : PG X tg gt) (G : GOk X.K ts tup gt) (hb : PSs X b (tSs X.K E cl g cb))
    (hs : ∀ x, foldedSetIterable it X.env x = pure x) : PS X (.For tg it b [] pos) (tS X.K E cl g (.for_ ts tup cit cb)) :=
  (ps_for hp hc (pi_dyn hi) hg hb hs).imp fun D σ H ⟨ρ, S, m, hE, hS, h⟩ => by
    simp only [evS] at h
    refine ⟨ρ, S, m, hE, hS, (PostS.bind (Rel := RV X.K) h).mono fun v H1 ⟨x, S1, m1, st1, hS1, r1, _, h1⟩ => ?_⟩
    have hE1 := hE.stp st1 hS.mut
    split at h1
    case h_2 => exact h1.elim
    next xs ex =>
    generalize hb : (fun d ρ S => match bindT ρ ts tup d with
        | some ρ2 => evSs cl g cb ρ2 S
        | none => .bad) = B at h1
    have turn : ∀ (P : L2.St → Hp → Prop) (i : Nat) (y : V) (d : Pl.D) (σ' : L2.St) (H' : Hp) (m' : Map) (ρ' : Rho) (S' : Store), xs[i]? = some d → Rp X.K m' H' y d → RE X.K m' H' ρ' σ' → RS X.K m' H' S' → PostS X.K E (forR B (xs.drop i) ρ' S') m' H' D →
        (∀ σ'' H'' m'' ρ'' S'', Stp m' H' m'' H'' → RE X.K m'' H'' ρ'' σ'' → RS X.K m'' H'' S'' → PostS X.K E (forR B (xs.drop (i + 1)) ρ'' S'') m'' H'' D → P σ'' H'') →
        gt y σ' H' fun σ2 H2 => tSs X.K E cl g cb { D with nx := P, ct := P, bk := D.nx } σ2 H2 := fun P i y d σ' H' m' ρ' S' hd ry hE' hS' h' hP => by
      have st := for_step hd h' P hP
      rw [← hb] at st
      simp only at st
      cases qb : bindT ρ' ts tup d with
      | none => rw [qb] at st; exact st.elim
      | some ρ2 =>
        rw [qb] at st
        exact G.ok m' H' ρ' ρ2 σ' y d _ hE' ry qb fun ws hE2 => ⟨ρ2, S', m', hE2, hS', st⟩
    have fin : ∀ σ' H' m' ρ' S', RE X.K m' H' ρ' σ' → RS X.K m' H' S' → PostS X.K E (forR B (xs.drop xs.length) ρ' S') m' H' D → D.nx σ' H' := fun σ' H' m' ρ' S' hE' hS' h' => by
      rw [List.drop_length] at h'
      exact PostS.nx hS' hE' h'
    rcases items_of ex with rfl | rfl
    · cases r1 with
      | @lst a ys _ h2 h3 =>
        refine ⟨a, rfl, .inl ⟨⟨ys, h2.sq⟩, ?_⟩⟩
        refine for_list (xs := ys) (fun i σ H => ∃ m ρ S, FL m H a ys ∧ RpAll X.K m H ys xs ∧ RE X.K m H ρ σ ∧ RS X.K m H S ∧ PostS X.K E (forR B (xs.drop i) ρ S) m H D) ⟨m1, ρ, S1, h2, h3, hE1, hS1, h1⟩ (fun i σ H _ ⟨_, _, _, f, _⟩ => f.sq) (fun i y σ' H' hy ⟨m', ρ', S', f, r, hE', hS', h'⟩ => ?_)
          fun σ' H' ⟨m', ρ', S', f, r, hE', hS', h'⟩ => fin σ' H' m' ρ' S' hE' hS' (by rw [← rpAll_len h3]; exact h')
        obtain ⟨d, hd⟩ : ∃ d, xs[i]? = some d := by
          have := (List.getElem?_eq_some_iff.mp hy).1
          exact ⟨_, List.getElem?_eq_getElem (by rw [← rpAll_len h3]; exact this)⟩
        obtain ⟨w, hw, rw'⟩ := rpAll_get r hd
        rw [hy] at hw; cases hw
        exact turn _ i y d σ' H' m' ρ' S' hd rw' hE' hS' h' fun σ'' H'' m'' ρ'' S'' st hE'' hS'' h'' => ⟨m'', ρ'', S'', f.stp st, RpAll.stp st hS'.mut xs ys r, hE'', hS'', h''⟩
    · cases r1 with
      | @tup a ys _ h2 h3 =>
        refine ⟨a, rfl, .inr ⟨⟨ys, h2⟩, ?_⟩⟩
        refine for_tup (xs := ys) (fun i σ H => ∃ m ρ S, SqT X.K H a ys ∧ RpAll X.K m H ys xs ∧ RE X.K m H ρ σ ∧ RS X.K m H S ∧ PostS X.K E (forR B (xs.drop i) ρ S) m H D) ⟨m1, ρ, S1, h2, h3, hE1, hS1, h1⟩ (fun i σ H _ ⟨_, _, _, f, _⟩ => f) (fun i y σ' H' hy ⟨m', ρ', S', f, r, hE', hS', h'⟩ => ?_)
          fun σ' H' ⟨m', ρ', S', f, r, hE', hS', h'⟩ => fin σ' H' m' ρ' S' hE' hS' (by rw [← rpAll_len h3]; exact h')
        obtain ⟨d, hd⟩ : ∃ d, xs[i]? = some d := by
          have := (List.getElem?_eq_some_iff.mp hy).1
          exact ⟨_, List.getElem?_eq_getElem (by rw [← rpAll_len h3]; exact this)⟩
        obtain ⟨w, hw, rw'⟩ := rpAll_get r hd
        rw [hy] at hw; cases hw
        exact turn _ i y d σ' H' m' ρ' S' hd rw' hE' hS' h' fun σ'' H'' m'' ρ'' S'' st hE'' hS'' h'' => ⟨m'', ρ'', S'', sqT_stp st hS'.mut f, RpAll.stp st hS'.mut xs ys r, hE'', hS'', h''⟩
theorem iR_ofS {clo : List Ex} {chi : Ex} {ρ : Rho} {S : Store} {m : Map} {H : Hp} {σ : L2.St} {k : Int → Int → Store → Res Fl} {D : Ends} {R : It → Hp → Prop} (hE : RE X.K m H ρ σ) (hS : RS X.K m H S)
    (h : PostS X.K E ((evs cl g clo ρ S).bind fun ls S1 => (ev cl g chi ρ S1).bind fun y S2 => match (match ls with | [] => some 0 | [.p (.int l)] => some l | _ => none), y with
      | some l, .p (.int n) => if rngOk l && rngOk n then k l n S2 else .bad
      | _, _ => .bad) m H D)
    (hk : ∀ l n S2 m2 H2, RE X.K m2 H2 ρ σ → RS X.K m2 H2 S2 → PostS X.K E (k l n S2) m2 H2 D → R (Itr l (n - l).toNat) H2) : iR X.K E cl g clo chi σ H R := by
  refine ⟨ρ, S, m, hE, hS, ?_⟩
  cases q1 : evs cl g clo ρ S with
  | bad => rw [q1] at h; exact h.elim
  | exn x S1 => rw [q1] at h; exact h
  | ok ls S1 =>
    rw [q1] at h
    simp only [Res.bind] at h ⊢
    cases q2 : ev cl g chi ρ S1 with
    | bad => rw [q2] at h; exact h.elim
    | exn x S2 => rw [q2] at h; exact h
    | ok y S2 =>
      rw [q2] at h
      simp only [Res.bind] at h ⊢
      intro vs H2 m2 st rs rel
      split at h
      · next l n e =>
        split at h
        · next hb =>
          rw [Bool.and_eq_true] at hb
          cases rel with
          | cons r t =>
            cases r
            refine ⟨l, n, hb.1, hb.2, rfl, ?_, hk l n S2 m2 H2 (hE.stp st hS.mut) rs (PostS.stp st h)⟩
            split at e
            · cases e; cases t; exact .inl ⟨rfl, rfl⟩
            · cases e
              cases t with
              | cons r2 t2 => cases t2; cases r2; exact .inr rfl
            · cases e
        · exact h.elim
      · exact h.elim
theorem s_forr {tg it : Expr} {b : List Stmt} {clo : List Ex} {chi : Ex} {cb : List Sm} {t : Nat} (hp : PassesOwn (model X.prog X.w) X.A X.env X.xe) (hc : X.calm = true) (hi : PI X tg it (iR X.K E cl g clo chi)) (hg : PG X tg (gName t)) (hb : PSs X b (tSs X.K E cl g cb))
    (hs : ∀ x, foldedSetIterable it X.env x = pure x) : PS X (.For tg it b [] pos) (tS X.K E cl g (.forr t clo chi cb)) :=
  (ps_for hp hc hi hg hb hs).imp fun D σ H ⟨ρ, S, m, hE, hS, h⟩ => by
    simp only [evS] at h
    refine iR_ofS hE hS h fun l n S1 m1 H1 hE1 hS1 h1 => ?_
    refine for_range (fun i σ H => ∃ m ρ S, RE X.K m H ρ σ ∧ RS X.K m H S ∧ PostS X.K E (forR (fun d ρ S => evSs cl g cb (ρ.set t (some (.p d))) S) ((rangeD l n).drop i) ρ S) m H D) ⟨m1, ρ, S1, hE1, hS1, h1⟩ (fun i σ' H' hi ⟨m', ρ', S', hE', hS', h'⟩ => ?_)
      fun σ' H' ⟨m', ρ', S', hE', hS', h'⟩ => ?_
    · have st := for_step (range_at hi) h' (fun σ H => ∃ m ρ S, RE X.K m H ρ σ ∧ RS X.K m H S ∧ PostS X.K E (forR (fun d ρ S => evSs cl g cb (ρ.set t (some (.p d))) S) ((rangeD l n).drop (i + 1)) ρ S) m H D) fun σ'' H'' m'' ρ'' S'' st hE'' hS'' h'' => ⟨m'', ρ'', S'', hE'', hS'', h''⟩
      exact ⟨_, S', m', hE'.set t (v := .p (.int _)) (.int _), hS', st⟩
    · have e : (rangeD l n).drop (n - l).toNat = [] := by
        rw [← range_len (lo := l) (n := n), List.drop_length]
      rw [e] at h'
      exact PostS.nx hS' hE' h'
end
end Pl

set_option Elab.async false
set_option linter.all false
set_option autoImplicit false
set_option maxRecDepth 100000
set_option maxHeartbeats 4000000
/-! PAS: set(list of ints), sorted. The road of HandS.SetFor (a tuple's set), over a list. -/
namespace Pl
open PySem PySem.Spec PyProof.Rows L2

/-- the set that set.__new__ lays -/
def sO (w : World) : Obj := { cls := .type "set", dict := none, data := .set #[] 0 (.fresh 0 0 (!w.params.followText "set-order")) }
section
variable {P : Program} {w : World} {A : Around} {E : Value → Shared → Prop} {s : Shared}
theorem int_at_of {items : Array Value} {ns : List Int} (hit : IntsAre items.toList ns) (i : Nat) (v : Value) (hv : items[i]? = some v) : ∃ k t, ns[i]? = some k ∧ v = .int k t := by
  have hl : items.size = ns.length := by simpa using hit.length
  have hi : i < ns.length := by rw [← hl]; exact (Array.getElem?_eq_some_iff.mp hv).1
  obtain ⟨t, e⟩ := PyProof.Rows.IntsAre.int_at hit i v (by rw [Array.getElem?_toList]; exact hv)
  exact ⟨ns[i], t, List.getElem?_eq_getElem hi, by rw [e, List.getD_eq_getElem?_getD, List.getElem?_eq_getElem hi]; rfl⟩
set_option maxHeartbeats 8000000 in
theorem set_of_list {l : Addr} {items : Array Value} (ns : List Int) {Q : Value → Shared → Prop} (hh : A.handled = none) (hl : s.heap.IsList l items) (hit : IntsAre items.toList ns) (hb : ns.length + 1 < scanBound)
    (h : ∀ (h' : Heap) (tk c : Nat), SetR w h' s.heap.objs.size (fun j => decide (j ∈ ns)) c → c ≤ ns.length → (∀ b o, s.heap.get? b = some o → h'.get? b = some o) → Q (.ref s.heap.objs.size) { s with heap := h', toks := tk }) :
    wpAny (model P w) A (call (.type "set") [.ref l]) Q E s := by
  have hisz : items.size = ns.length := by simpa using hit.length
  obtain ⟨c, tl, hmro⟩ := F.called_set.mro
  have hmade := F.called_set.made
  have hsub := F.called_set.sub
  refine wpAny_call (codeAny_of_tree ?_)
  show wpAny _ _ (callAny (.type "set") _) _ _ _
  refine wpAny_pure ⟨Code.quiet_builtin _ (by decide +kernel), codeAny_builtin F.entry_type_call ?_⟩
  rw [Around.under_plain (weight_type_call_type "set" [.ref l] []) rfl]
  have h1 := F.called_set.notType
  have h2 := F.called_set.canCreate
  have hct := F.typeCall_set_1 (.ref l)
  repeat (any_goals (first | assumption | wp_step))
  refine codeAny_mono (code_set_led1 (.ref l) (E := E) (Q₁ := fun obj s₁ => obj = .ref s.heap.objs.size ∧ s₁ = { s with heap := s.heap.push (sO w) }) ⟨rfl, rfl⟩) fun r s₁ hr => ?_
  match r, hr with
  | .error e, hr => exact hr
  | .ok (.ret obj), hr =>
    obtain ⟨rfl, rfl⟩ := hr
    have hS : (s.heap.push (sO w)).get? s.heap.objs.size = some (sO w) := Heap.get?_push_size _ rfl
    have hT : Shared.TypeIs { s with heap := s.heap.push (sO w) } (.ref s.heap.objs.size) "set" := ⟨_, hS, rfl⟩
    have hli := F.called_set.init.lookup
    have hbi := F.called_set.init.bind (.ref s.heap.objs.size)
    repeat (any_goals (first | assumption | wp_step))
    refine codeAny_mono (codeAny_call_builtin (R := wants (fun r s₂ => r = .none ∧ ∃ h' tk c, s₂ = { s with heap := h', toks := tk } ∧ SetR w h' s.heap.objs.size (fun j => decide (j ∈ ns)) c ∧ c ≤ ns.length ∧
        (∀ b o, s.heap.get? b = some o → h'.get? b = some o)) E) F.called_set.init.plain F.entry_set_init (check_set_init_1 hT ?_)) fun r₂ s₂ hr₂ => ?_
    · obtain ⟨ol, hol, hcl, nl, hdl⟩ := hl
      obtain ⟨ocls, odict, odata, oslots⟩ := ol
      simp only at hcl hdl
      subst hcl; subst hdl
      have hol' : (s.heap.push (sO w)).get? l = some { cls := .type "list", dict := odict, data := .seq items nl, slots := oslots } := Heap.get?_push_of_some _ hol
      have hsls := F.sub_list_set
      have hslf := F.sub_list_frozenset
      have hne : (Value.type "list" == Value.type "dict") = false := by decide
      have hl1 : (s.heap.push (sO w)).IsList l items := ⟨_, hol', rfl, nl, rfl⟩
      unfold Builtin.«set.__init__» noKeywords Builtin.Frozenset.updateFrom
      generalize hPI : pyIter = PI
      wp_walk
      subst hPI
      refine wpAny_pyIter_list hl1 ?_
      refine wpAny_bind (wpAny_runValue ?_)
      have hlS : l < s.heap.objs.size := Heap.lt_size hol
      have hz1 : (s.heap.push (sO w)).objs.size = s.heap.objs.size + 1 := Heap.size_push ..
      have hneI : l ≠ (s.heap.push (sO w)).objs.size := by
        rw [hz1]; exact Nat.ne_of_lt (Nat.lt_succ_of_lt hlS)
      have hSf : s.heap.objs.size ∉ [(s.heap.push (sO w)).objs.size, l] := by
        rw [hz1]; simp only [List.mem_cons, List.not_mem_nil, or_false, not_or]
        exact ⟨Nat.ne_of_lt (Nat.lt_succ_self _), Nat.ne_of_gt hlS⟩
      refine set_update_ints ((Walks.list (by simp [hh]) _ l hneI items).toS) s.heap.objs.size hSf ns hisz hb (int_at_of hit) (items.size - 0) 0 _ (by omega) (Nat.zero_le _)
        ⟨⟨_, Heap.get?_push_size _ rfl, rfl, rfl⟩, (hl1.push _)⟩ ⟨0, Nat.le_refl 0, setR_new_at (Heap.get?_push_of_some _ hS)⟩ fun s' c' hm hc' hS' => ?_
      obtain ⟨h', g2, d', tk', os'⟩ := s'
      obtain rfl : g2 = s.gens := hm.gens
      obtain rfl : d' = s.drawn := hm.drawn
      obtain rfl : os' = s.os := hm.os
      show wpAny _ _ _ _ _ _
      refine wpAny_pure ?_
      show wpAny _ _ (ret Value.none) _ _ _
      rw [hisz] at hc'
      refine wpAny_pure ⟨rfl, h', tk', c', rfl, hS', hc', fun b o e => ?_⟩
      have hb0 : b < s.heap.objs.size := Heap.lt_size e
      refine hm.heap b o ?_ (Heap.get?_push_of_some _ (Heap.get?_push_of_some _ e))
      rw [hz1]
      simp only [List.mem_cons, List.not_mem_nil, or_false, not_or]
      exact ⟨Nat.ne_of_lt hb0, Nat.ne_of_lt (Nat.lt_succ_of_lt hb0)⟩
    · match r₂, hr₂ with
      | .error e, hr₂ => exact hr₂
      | .ok (.ret r), hr₂ =>
        obtain ⟨rfl, h', tk, c', rfl, hS', hc', hk'⟩ := hr₂
        repeat (any_goals (first | assumption | wp_step))
        exact h _ _ _ hS' hc' hk'
      | .ok .next, hr₂ => exact hr₂.elim
      | .ok .brk, hr₂ => exact hr₂.elim
      | .ok .cont, hr₂ => exact hr₂.elim
  | .ok .next, hr => exact hr.elim
  | .ok .brk, hr => exact hr.elim
  | .ok .cont, hr => exact hr.elim
end

/-! ### the distinct ints in order -/
theorem insI_mem {n k : Int} : ∀ {xs : List Int}, k ∈ insI n xs ↔ k = n ∨ k ∈ xs
  | [] => by simp [insI]
  | x :: xs => by
    unfold insI
    split
    · simp
    · split
      · next h => subst h; simp
      · rw [List.mem_cons, List.mem_cons, insI_mem]
        constructor
        · rintro (h | h | h)
          · exact .inr (.inl h)
          · exact .inl h
          · exact .inr (.inr h)
        · rintro (h | h | h)
          · exact .inr (.inl h)
          · exact .inl h
          · exact .inr (.inr h)
theorem insI_up {n : Int} : ∀ {xs : List Int}, xs.Pairwise (· < ·) → (insI n xs).Pairwise (· < ·)
  | [], _ => by simp [insI]
  | x :: xs, h => by
    obtain ⟨h1, h2⟩ := List.pairwise_cons.mp h
    unfold insI
    split
    · next hl =>
      refine List.pairwise_cons.mpr ⟨fun y hy => ?_, h⟩
      rcases List.mem_cons.mp hy with rfl | hy
      · exact hl
      · have := h1 y hy; omega
    · split
      · exact h
      · refine List.pairwise_cons.mpr ⟨fun y hy => ?_, insI_up h2⟩
        rcases insI_mem.mp hy with rfl | hy
        · omega
        · exact h1 y hy
theorem setI_mem {k : Int} : ∀ {ns : List Int}, k ∈ setI ns ↔ k ∈ ns
  | [] => by simp [setI]
  | n :: ns => by
    show k ∈ insI n (setI ns) ↔ _
    rw [insI_mem, setI_mem, List.mem_cons]
theorem setI_up : ∀ ns : List Int, (setI ns).Pairwise (· < ·)
  | [] => by simp [setI]
  | n :: ns => insI_up (setI_up ns)
/-- two ascending lists with the same members are one -/
theorem up_eq : ∀ {xs ys : List Int}, xs.Pairwise (· < ·) → ys.Pairwise (· < ·) → (∀ k, k ∈ xs ↔ k ∈ ys) → xs = ys
  | [], [], _, _, _ => rfl
  | [], y :: ys, _, _, h => absurd ((h y).mpr List.mem_cons_self) (by simp)
  | x :: xs, [], _, _, h => absurd ((h x).mp List.mem_cons_self) (by simp)
  | x :: xs, y :: ys, h1, h2, h => by
    obtain ⟨a1, a2⟩ := List.pairwise_cons.mp h1
    obtain ⟨b1, b2⟩ := List.pairwise_cons.mp h2
    have e : x = y := by
      have p := (h x).mp List.mem_cons_self
      have q := (h y).mpr List.mem_cons_self
      rcases List.mem_cons.mp p with p | p
      · exact p
      · rcases List.mem_cons.mp q with q | q
        · exact q.symm
        · have := b1 x p; have := a1 y q; omega
    subst e
    congr 1
    refine up_eq a2 b2 fun k => ?_
    constructor
    · intro hk
      rcases List.mem_cons.mp ((h k).mp (List.mem_cons_of_mem _ hk)) with e | e
      · subst e; have := a1 _ hk; omega
      · exact e
    · intro hk
      rcases List.mem_cons.mp ((h k).mpr (List.mem_cons_of_mem _ hk)) with e | e
      · subst e; have := b1 _ hk; omega
      · exact e

section
variable {X : Cx} {E : XK} {cl : CallF} {g : Str → Option D} {a : Expr} {ca : Ex} {p p2 pos pos2 : Pos}
/-! ### list(..) that is to change; dicts, not looked into -/
theorem e_mli (hg : Gl X "list") (hm : X.mg "list" = none) (ha : PE X a (tE X.K E cl g ca)) (hs : noStar a = true) : PE X (.Call (.Name "list" p) [a] [] pos) (tE X.K E cl g (.mli ca)) :=
  (pe_callTy call_list_of hg hm PyProof.Rows.boot_list (pa_cons ha pa_nil (star_cons hs)) (by decide) (by decide) (star_cons hs) (by rfl)).imp fun σ H Q ⟨ρ, S, m, hE, hS, h⟩ => by
    simp only [ev] at h
    refine ⟨ρ, S, m, hE, hS, (Post.bind h).mono fun v H1 ⟨x, S1, m1, st1, hS1, r1, _, h1⟩ => ?_⟩
    have fin : ∀ {xs : List V} {ds : List D}, RpAll X.K m1 H1 xs ds → PostV X.K E (.ok (.r S1.length) (S1 ++ [.lst ds])) m1 H1 Q → ∀ l, H1 l = none → Q (.ref l) (upd H1 l (.lst xs)) := fun {xs ds} r h1 q hn => by
      refine h1 _ _ (m1.more q) (Stp.more hn) (hS1.more hn r) ⟨by simp [Map.more, hS1.len], fun a e => ?_⟩
      simp only [Map.more] at e
      rw [← hS1.len, List.getElem?_append_right (Nat.le_refl _)] at e
      simp only [Nat.sub_self, List.getElem?_cons_zero, Option.some.injEq] at e
      rw [e]
    split at h1
    · next ds e =>
      obtain ⟨b, ys, rfl, h2, h3⟩ := (WR.of hS1 r1 e).list
      exact ⟨b, ys, rfl, .inl h2, fin h3 h1⟩
    · next ds e =>
      obtain ⟨b, ys, rfl, h2, h3⟩ := (WR.of hS1 r1 e).tuple
      exact ⟨b, ys, rfl, .inr h2, fin h3 h1⟩
    · exact h1.elim
def isDic : List (Str × Int) → List (Option Expr) → List Expr → Bool
  | [], [], [] => true
  | (x, i) :: r, some (.Constant (.str y) _ _) :: ks, .Constant (.int j) _ _ :: vs => decide (x = y) && decide (i = j) && isDic r ks vs
  | _, _, _ => false
def dicT (kvs : List (Str × Int)) : List (TE × TE) := kvs.map fun kv => (tC (.str kv.1), tC (.int kv.2))
theorem isDic_pps {X : Cx} {pos : Pos} : ∀ {kvs : List (Str × Int)} {ks : List (Option Expr)} {vs : List Expr}, isDic kvs ks vs = true → PPs X pos ks vs (dicT kvs) ∧ ks.all (·.isSome) = true ∧ ks.length = vs.length ∧ ks.length = kvs.length
  | [], [], [], _ => ⟨pps_nil, rfl, rfl, rfl⟩
  | (x, i) :: r, k :: ks, v :: vs, h => by
    unfold isDic at h
    split at h
    · next e1 e2 e3 => cases e1
    · next e1 e2 e3 =>
      cases e1; cases e2; cases e3
      simp only [Bool.and_eq_true, decide_eq_true_eq] at h
      obtain ⟨⟨rfl, rfl⟩, h⟩ := h
      obtain ⟨q1, q2, q3, q4⟩ := isDic_pps (X := X) (pos := pos) h
      exact ⟨pps_cons pe_str pe_int q1, by simpa using q2, by simp [q3], by simp [q4]⟩
    · cases h
  | [], [], _ :: _, h => by simp [isDic] at h
  | [], _ :: _, _, h => by simp [isDic] at h
  | _ :: _, [], _, h => by simp [isDic] at h
  | _ :: _, _ :: _, [], h => by unfold isDic at h; split at h <;> simp_all
theorem pairs_tC {σ : L2.St} {H : Hp} : ∀ {kvs : List (Str × Int)} {Q : List (V × V) → Hp → Prop}, Q (kvs.map fun kv => (V.str kv.1, V.int kv.2)) H → tPairs (dicT kvs) σ H Q
  | [], _, h => h
  | kv :: r, Q, h => pairs_tC (kvs := r) (Q := fun ps H3 => Q ((V.str kv.1, V.int kv.2) :: ps) H3) h
theorem upd_upd {H : Hp} {p : Addr} {o o' : HO} : upd (upd H p o) p o' = upd H p o' := by
  funext b
  by_cases h : b = p
  · subst h; rw [upd_same, upd_same]
  · rw [upd_ne h, upd_ne h, upd_ne h]
theorem dic_new {K : PySem.W.Frag} {m : Map} {H : Hp} {q : Addr} {kvs : List (Key × V)} {es : List (D × D)} (ok : MutOk m H) (hn : H q = none) (r : DicR kvs es) : Rp K m (upd H q (.dK kvs)) (.ref q) (.dict es) :=
  .dic upd_same (fun hm => by rcases ok q hm with ⟨ys, e⟩ | ⟨ys, e⟩ | ⟨ys, e⟩ <;> (rw [hn] at e; cases e)) r
theorem e_dic {ks : List (Option Expr)} {vs : List Expr} {kvs : List (Str × Int)} (h : isDic kvs ks vs = true) (hl : kvs.length ≤ 1) : PE X (.Dict ks vs pos) (tE X.K E cl g (.dic kvs)) := by
  obtain ⟨q1, q2, q3, q4⟩ := isDic_pps (X := X) (pos := pos) h
  have go : ∀ {σ H Q}, tE X.K E cl g (.dic kvs) σ H Q → ∀ q, H q = none → Q (.ref q) (upd H q (.dK (kvs.map fun kv => ((.inr kv.1 : Key), V.int kv.2)))) := fun {σ H Q} ⟨ρ, S, m, hE, hS, h⟩ => by
    simp only [ev] at h
    exact fun q hn => h _ _ m (Stp.same (same_upd hn)) (hS.same (same_upd hn)) (dic_new hS.mut hn ⟨by rw [List.map_map]; rfl, fun e he => by obtain ⟨x, _, rfl⟩ := List.mem_map.mp he; rfl⟩)
  match ks, vs, h with
  | [], [], h =>
    cases kvs with
    | nil => exact pe_dnewK.imp fun σ H Q h => go h
    | cons _ _ => simp [isDic] at h
  | [], _ :: _, h => cases kvs <;> simp [isDic] at h
  | k :: ks, vs, h =>
    refine (pe_disp q1 q2 q3 (by simp) (by omega)).imp fun σ H Q h => ?_
    have f := go h
    intro p hn
    refine pairs_tC ⟨upd_same, kvs.map (fun kv => ((.inr kv.1 : Key), V.int kv.2)), ?_, by simp; omega, ?_⟩
    · rw [List.map_map]; rfl
    · rw [upd_upd]
      have e : mergeK [] (kvs.map fun kv => ((.inr kv.1 : Key), V.int kv.2)) = kvs.map fun kv => ((.inr kv.1 : Key), V.int kv.2) := by
        match kvs, hl with
        | [], _ => rfl
        | [x], _ => rfl
      rw [e]
      exact f p hn
/-! ### dicts that are to change -/
theorem new_cell {K : PySem.W.Frag} {E : XK} {m : Map} {H : Hp} {S : Store} {es : List (D × D)} {kvs : List (Key × V)} {Q : VK} (hS : RS K m H S) (r : DicR kvs es) (h : PostV K E (.ok (.r S.length) (S ++ [.dct es])) m H Q) : ∀ p, H p = none → Q (.ref p) (upd H p (.dK kvs)) := by
  intro p hn
  refine h _ _ (m.more p) (Stp.more hn) (hS.moreC hn ⟨kvs, upd_same, r⟩) ⟨by simp [Map.more, hS.len], fun a e => ?_⟩
  simp only [Map.more] at e
  rw [← hS.len, List.getElem?_append_right (Nat.le_refl _)] at e
  simp only [Nat.sub_self, List.getElem?_cons_zero, Option.some.injEq] at e
  rw [e]
theorem e_mdc : PE X (.Dict [] [] pos) (tE X.K E cl g .mdc) := pe_dnewK.imp fun σ H Q ⟨ρ, S, m, hE, hS, h⟩ => by
  simp only [ev] at h
  exact new_cell hS ⟨rfl, fun _ z => nomatch z⟩ h
theorem e_mdd (hg : Gl X "dict") (hm : X.mg "dict" = none) (ha : PE X a (tE X.K E cl g ca)) (hs : noStar a = true) : PE X (.Call (.Name "dict" p) [a] [] pos) (tE X.K E cl g (.mdd ca)) :=
  (pe_callTy call_dictD hg hm PyProof.Rows.boot_dict (pa_cons ha pa_nil (star_cons hs)) (by decide) (by decide) (star_cons hs) (by rfl)).imp fun σ H Q ⟨ρ, S, m, hE, hS, h⟩ => by
    simp only [ev] at h
    refine ⟨ρ, S, m, hE, hS, (Post.bind h).mono fun v H1 ⟨x, S1, m1, st1, hS1, r1, _, h1⟩ => ?_⟩
    split at h1
    · next es e =>
      obtain ⟨b, kvs, rfl, q1, q2⟩ := (WR.of hS1 r1 e).dict
      exact ⟨b, kvs, rfl, .inl q1, new_cell hS1 q2 h1⟩
    · exact h1.elim
end
end Pl

set_option Elab.async false
set_option linter.all false
set_option autoImplicit false
set_option maxRecDepth 100000
/-! PAT: raise, try. -/
namespace Pl
open PySem PySem.Spec PyProof.Rows L2

/-- an exception class of the program without an own init -/
structure XcAt (K : PySem.W.Frag) (mg : Str → Option Value) (c : Str) : Prop where
  ex : ∃ C, PySem.W.nsIn K mainGlobals c = some (some (.ref C)) ∧ mg c = some (.ref C) ∧ PySem.W.excIn K C [.type "ValueError", .type "Exception", .type "BaseException", .type "object"] "ValueError.__new__" = true ∧ PySem.W.keepIn K (.ref C) = true ∧
    PySem.W.subIn K (.ref C) (.type "BaseException") = some true ∧ PySem.W.typeIn K (.ref C) = some (.type "type")
def XmAt (K : PySem.W.Frag) (c y : Str) : Prop := ∀ C D, PySem.W.nsIn K mainGlobals c = some (some (.ref C)) → PySem.W.nsIn K mainGlobals y = some (some (.ref D)) → PySem.W.exmOne K (.ref C) (.ref D) = some (decide (c = y))

def isConE (d : D) : Expr → Bool
  | .Constant c _ _ => match d, c with
    | .int i, .int j => decide (i = j)
    | .bool i, .bool j => decide (i = j)
    | .str i, .str j => decide (i = j)
    | .none, .none => true
    | _, _ => false
  | _ => false
def isConEs : List D → List Expr → Bool
  | [], [] => true
  | d :: ds, e :: es => isConE d e && isConEs ds es
  | _, _ => false
/-- what a handler hands back -/
def isHd (d : D) (e : Expr) : Bool := match e with
  | .Tuple es _ _ => match d with
    | .tuple ds => isConEs ds es
    | _ => false
  | e => isConE d e
/-- the datum is laid -/
def tDat (K : PySem.W.Frag) (d : D) : TE := fun σ H Q => ∃ m, MutOk m H ∧ Fin K m H d Q
section
variable {X : Cx} {E : XK} {cl : CallF} {g : Str → Option D} {pos p p2 : Pos}
theorem con_pe {d : D} {e : Expr} (h : isConE d e = true) : ∃ v, PE X e (tC v) ∧ (∀ m H, Rp X.K m H v d) ∧ noStar e = true := by
  unfold isConE at h
  split at h
  · next c j q =>
    split at h
    · cases of_decide_eq_true h; exact ⟨.int _, pe_int, fun _ _ => .int _, rfl⟩
    · cases of_decide_eq_true h; exact ⟨.bl _, pe_bl, fun _ _ => .bl _, rfl⟩
    · cases of_decide_eq_true h; exact ⟨.str _, pe_str, fun _ _ => .str _, rfl⟩
    · exact ⟨.non, pe_non, fun _ _ => .non, rfl⟩
    · cases h
  · cases h
theorem cons_pa : ∀ {ds : List D} {es : List Expr}, isConEs ds es = true → ∃ vs, PA X es (fun σ H Q => Q vs H) ∧ ∀ m H, RpAll X.K m H vs ds
  | [], [], _ => ⟨[], pa_nil.imp fun _ _ _ h => h, fun _ _ => .nil⟩
  | d :: ds, e :: es, h => by
    rw [isConEs, Bool.and_eq_true] at h
    obtain ⟨v, h1, h2, h3⟩ := con_pe (X := X) h.1
    obtain ⟨vs, h4, h5⟩ := cons_pa (ds := ds) h.2
    exact ⟨v :: vs, (pa_cons h1 h4 (star_cons h3)).imp fun _ _ _ h => h, fun m H => .cons (h2 m H) (h5 m H)⟩
  | [], _ :: _, h => by simp [isConEs] at h
  | _ :: _, [], h => by simp [isConEs] at h
theorem hd_pe {d : D} {e : Expr} (h : isHd d e = true) (hl : ∀ ds, d = .tuple ds → ds.length ≤ sizeLine) : PE X e (tDat X.K d) := by
  unfold isHd at h
  split at h
  · next es k q =>
    split at h
    · next ds =>
      obtain ⟨vs, h1, h2⟩ := cons_pa (X := X) h
      refine (pe_tup h1).imp fun σ H Q ⟨m, ok, f⟩ => ⟨?_, f.tup ok (h2 m H)⟩
      have := rpAll_len (h2 m H)
      have := hl ds rfl
      omega
    · cases h
  · obtain ⟨v, h1, h2, _⟩ := con_pe (X := X) h
    exact h1.imp fun σ H Q ⟨m, ok, f⟩ => f.at (h2 m H)

/-- raise c(e) -/
theorem s_raise {c : Str} {a : Expr} {ca : Ex} (hc : X.calm = true) (tk : Tk X E) (xc : XcAt X.K X.mg c) (hg : Gl X c) (hd : (c == ("__debug__" : Str)) = false) (ha : PE X a (tE X.K E cl g ca)) (hs : noStar a = true) :
    PS X (.Raise (some (.Call (.Name c p) [a] [] p2)) none pos) (tS X.K E cl g (.raise c ca)) := by
  obtain ⟨C, h0, h1, h2, h3, h4, h5⟩ := xc.ex
  refine (ps_raise hc tk (pmk_ownA PySem.F.excBase_ValueError h2 h1 h3 (raises_own h4 h5) hg (pa_cons ha pa_nil (star_cons hs)) hd (star_cons hs) (by rfl))).imp fun D σ H ⟨ρ, S, m, hE, hS, h⟩ => ?_
  simp only [evS] at h
  refine ⟨ρ, S, m, hE, hS, (PostS.bind (Rel := RV X.K) h).mono fun v H1 ⟨x, S1, m1, st1, hS1, r1, _, h1⟩ => ?_⟩
  exact ⟨by rw [sizeLine_eq]; show (1 : Nat) ≤ 16777216; decide, h1 _ _ H1 m1 (Stp.refl _ _) hS1 ⟨C, h0, rfl, rfl⟩⟩

/-! ### try -/
def tupLen : D → Nat
  | .tuple ds => ds.length
  | _ => 0
def isH1 (gl : Str → Bool) (c : Str) (d : D) (h : ExceptHandler) : Bool := match h with
  | .ExceptHandler (some (.Name x _)) none [.Return (some e) _] _ => decide (x = c) && gl x && isHd d e && decide (tupLen d ≤ 100)
  | _ => false
def isHds (gl : Str → Bool) : List (Str × D) → List ExceptHandler → Bool
  | [], [] => true
  | cd :: hs, h :: hds => isH1 gl cd.1 cd.2 h && isHds gl hs hds
  | _, _ => false
/-- the handlers, for the library's rule -/
def hdL (K : PySem.W.Frag) : List (Value × D) → List (Value × (Addr → Value → Option Addr → TS))
  | [] => []
  | (C, d) :: r => (C, fun _ _ _ => tRet (tDat K d)) :: hdL K r
theorem hds_ok {gl : Str → Bool} : ∀ {hs : List (Str × D)} {hds : List ExceptHandler}, isHds gl hs hds = true → (∀ c, gl c = true → Gl X c ∧ (c == ("__debug__" : Str)) = false ∧ XcAt X.K X.mg c) →
    ∃ l, l.map (·.2) = hs.map (·.2) ∧ Paired (fun (a : Value × D) (b : Str × D) => ∃ C, a.1 = .ref C ∧ PySem.W.nsIn X.K mainGlobals b.1 = some (some (.ref C)) ∧ a.2 = b.2 ∧ gl b.1 = true) l hs ∧ HdsOk X hds (hdL X.K l)
  | [], [], _, _ => ⟨[], rfl, .nil, .nil⟩
  | (c, d) :: hs, h :: hds, hh, hx => by
    rw [isHds, Bool.and_eq_true] at hh
    obtain ⟨h1, h2⟩ := hh
    unfold isH1 at h1
    split at h1
    case h_2 => cases h1
    next x np e rp pos' =>
    simp only [Bool.and_eq_true] at h1
    obtain ⟨⟨⟨a1, a2⟩, a3⟩, a4⟩ := h1
    have ex := of_decide_eq_true a1
    subst ex
    obtain ⟨l, l1, l2, l3⟩ := hds_ok (hs := hs) h2 hx
    obtain ⟨g1, g2, g3⟩ := hx x a2
    obtain ⟨C, q0, q1, _⟩ := g3.ex
    refine ⟨(.ref C, d) :: l, by rw [List.map_cons, List.map_cons, l1], .cons ⟨C, rfl, q0, rfl, a2⟩ l2, .cons ⟨g1, g2, .inl q1⟩ (fun a oe cls dd pn _ _ => pss_one (ps_ret (hd_pe (X := X.suite a ((a, oe) :: pn)) a3 fun ds e => ?_))) l3⟩
    subst e
    have : ds.length ≤ 100 := of_decide_eq_true a4
    have hz := sizeLine_eq
    omega
  | [], _ :: _, h, _ => by simp [isHds] at h
  | _ :: _, [], h, _ => by simp [isHds] at h
/-- which handler takes it -/
theorem many_ok {D : Ends} {cls : Value} {dd : Option Addr} {m : Map} {H : Hp} {S : Store} {σ : L2.St} {c : Str} {C : Addr} (hS : RS X.K m H S) (hcl : cls = .ref C) (hns : PySem.W.nsIn X.K mainGlobals c = some (some (.ref C))) :
    ∀ {l : List (Value × Pl.D)} {hs : List (Str × Pl.D)}, Paired (fun (a : Value × Pl.D) (b : Str × Pl.D) => ∃ C, a.1 = .ref C ∧ PySem.W.nsIn X.K mainGlobals b.1 = some (some (.ref C)) ∧ a.2 = b.2 ∧ XmAt X.K c b.1) l hs →
      (∀ d, hs.lookup c = some d → PostS X.K E (.ok (.rt (.p d)) S) m H D) → (hs.lookup c = none → E cls dd H) → wMany X.K (fun cls d _ H => E cls d H) D (hdL X.K l) cls dd σ H
  | _, _, .nil, _, h2 => h2 rfl
  | (_, d) :: l, (y, _) :: hs, .cons ⟨C', e1, e2, e3, e4⟩ r, h1, h2 => by
    simp only at e1 e2 e3 e4
    subst e1 e3 hcl
    refine ⟨decide (c = y), e4 C C' hns e2, fun e a _ => ?_, fun e => ?_⟩
    · have e := of_decide_eq_true e
      subst e
      have q := h1 d (by simp)
      exact ⟨m, hS.mut, fun x H' s rp => q x H' m (Stp.same s) (hS.same s) rp⟩
    · have e : ¬ c = y := of_decide_eq_false e
      have hb : (c == y) = false := by simpa using e
      refine many_ok hS rfl hns r (fun d hd => h1 d ?_) (fun hd => h2 ?_)
      · rw [List.lookup_cons, hb]; exact hd
      · rw [List.lookup_cons, hb]; exact hd
theorem s_try {gl : Str → Bool} {b : List Stmt} {h0 : ExceptHandler} {hds : List ExceptHandler} {cb : List Sm} {hs : List (Str × Pl.D)} {kn : List Str} (hstk : X.stack = X.env :: X.outer) (hf : X.env.frame = some X.env.locals) (tk : Tk X E)
    (hb : ∀ (E' : XK) (pn : List (Addr × Obj)) (xe : Value → Shared → Prop), Tk (X.tr pn xe) E' → PassesOwn (model X.prog X.w) X.A X.env xe → PSs (X.tr pn xe) b (tSs X.K E' cl g cb))
    (hh : isHds gl hs (h0 :: hds) = true) (hx : ∀ c, gl c = true → Gl X c ∧ (c == ("__debug__" : Str)) = false ∧ XcAt X.K X.mg c) (hm : ∀ c ∈ kn, ∀ y, gl y = true → XmAt X.K c y) :
    PS X (.Try b (h0 :: hds) [] [] pos) (tS X.K E cl g (.try_ cb hs kn)) := by
  obtain ⟨l, l1, l2, l3⟩ := hds_ok (X := X) hh hx
  refine (ps_try_many (tb := fun W => tSs X.K (fun cls d H => ∀ σ, W cls d σ H) cl g cb) hstk hf tk (fun W pn xe t pass => hb _ pn xe (t.imp fun c d σ H h => h σ) pass) l3).imp fun D σ H ⟨ρ, S, m, hE, hS, h⟩ => ?_
  simp only [evS] at h
  refine ⟨ρ, S, m, hE, hS, ?_⟩
  cases q : evSs cl g cb ρ S with
  | bad => rw [q] at h; exact h
  | ok f S1 =>
    rw [q] at h
    cases f <;> exact h
  | exn x S1 =>
    rw [q] at h
    simp only at h
    split at h
    case isFalse => exact h.elim
    next hk =>
    intro cls d H' m' st rs xi σ'
    have hk : x.cls ∈ kn := by simpa using hk
    have hC : ∃ C, PySem.W.nsIn X.K mainGlobals x.cls = some (some (.ref C)) ∧ cls = .ref C := by
      cases x with
      | plain c => obtain ⟨C, h1, h2, _⟩ := xi; exact ⟨C, h1, h2⟩
      | own c w p => obtain ⟨C, _, _, _, h1, h2, _⟩ := xi; exact ⟨C, h1, h2⟩
    obtain ⟨C, h1, h2⟩ := hC
    refine many_ok (E := E) (c := x.cls) rs h2 h1 (Paired.mapP l2 fun a b ⟨C, e1, e2, e3, e4⟩ => ⟨C, e1, e2, e3, hm _ hk _ e4⟩) (fun d' hd => ?_) (fun hd => ?_)
    · rw [hd] at h
      exact PostS.stp st h
    · rw [hd] at h
      exact h cls d H' m' st rs xi
end
end Pl

set_option Elab.async false
set_option linter.all false
set_option autoImplicit false
set_option maxRecDepth 100000
/-! PAU: comprehensions of two loops. -/
namespace Pl
open PySem PySem.Spec PyProof.Rows L2

/-- a walk of n items, each known where Pv holds -/
theorem go_walk {J : It} {n : Nat} {it : Nat → Option V} {Pv : Nat → Hp → Prop} {Qd : Hp → Prop} {B : V → Hp → (Hp → Prop) → Prop} {G0 : Hp} (st : ∀ H, Pv n H → J.stop n H) (go : ∀ i H, i < n → Pv i H → J.go i H)
    (yl : ∀ i H x H', i < n → Pv i H → J.yld i H x H' → H' = H ∧ it i = some x) (p0 : Pv 0 G0) (turn : ∀ i x H, it i = some x → Pv i H → B x H (Pv (i + 1))) (fin : ∀ H, Pv n H → Qd H) :
    ∃ W : Nat → Nat → Hp → Prop, (∃ k, W 0 k G0) ∧ ∀ i k H, W i k H → (J.stop i H ∧ Qd H) ∨ (J.go i H ∧ ∃ Nx : Hp → Prop, (∀ H', Nx H' → ∃ k', k' < k ∧ W (i + 1) k' H') ∧ ∀ x H', J.yld i H x H' → B x H' Nx) := by
  refine ⟨fun i k H => i + k = n ∧ Pv i H, ⟨n, by omega, p0⟩, fun i k H hw => ?_⟩
  obtain ⟨e, pv⟩ := hw
  cases k with
  | zero =>
    have e : i = n := by omega
    subst e
    exact .inl ⟨st H pv, fin H pv⟩
  | succ k =>
    have hi : i < n := by omega
    refine .inr ⟨go i H hi pv, Pv (i + 1), fun H' q => ⟨k, by omega, by omega, q⟩, fun x H' y => ?_⟩
    obtain ⟨e1, e2⟩ := yl i H x H' hi pv y
    subst e1
    exact turn i x _ e2 pv
theorem go_list {K : PySem.W.Frag} {a : Addr} {xs : List V} {Pv : Nat → Hp → Prop} {Qd : Hp → Prop} {B : V → Hp → (Hp → Prop) → Prop} {G0 : Hp} (hl : ∀ i H, Pv i H → SqL K H a xs) (p0 : Pv 0 G0) (turn : ∀ i x H, xs[i]? = some x → Pv i H → B x H (Pv (i + 1))) (fin : ∀ H, Pv xs.length H → Qd H) :
    ∃ W : Nat → Nat → Hp → Prop, (∃ k, W 0 k G0) ∧ ∀ i k H, W i k H → ((Itl K a).stop i H ∧ Qd H) ∨ ((Itl K a).go i H ∧ ∃ Nx : Hp → Prop, (∀ H', Nx H' → ∃ k', k' < k ∧ W (i + 1) k' H') ∧ ∀ x H', (Itl K a).yld i H x H' → B x H' Nx) :=
  go_walk (n := xs.length) (it := fun i => xs[i]?) (fun H p => ⟨xs, hl _ H p, Nat.le_refl _⟩) (fun i H hi p => ⟨xs, xs[i], hl i H p, List.getElem?_eq_getElem hi⟩) (fun i H x H' _ p y => ⟨y.1, y.2 xs (hl i H p)⟩) p0 turn fin
theorem go_tup {K : PySem.W.Frag} {a : Addr} {xs : List V} {Pv : Nat → Hp → Prop} {Qd : Hp → Prop} {B : V → Hp → (Hp → Prop) → Prop} {G0 : Hp} (hl : ∀ i H, Pv i H → SqT K H a xs) (p0 : Pv 0 G0) (turn : ∀ i x H, xs[i]? = some x → Pv i H → B x H (Pv (i + 1))) (fin : ∀ H, Pv xs.length H → Qd H) :
    ∃ W : Nat → Nat → Hp → Prop, (∃ k, W 0 k G0) ∧ ∀ i k H, W i k H → ((Itt K a).stop i H ∧ Qd H) ∨ ((Itt K a).go i H ∧ ∃ Nx : Hp → Prop, (∀ H', Nx H' → ∃ k', k' < k ∧ W (i + 1) k' H') ∧ ∀ x H', (Itt K a).yld i H x H' → B x H' Nx) :=
  go_walk (n := xs.length) (it := fun i => xs[i]?) (fun H p => ⟨xs, hl _ H p, Nat.le_refl _⟩) (fun i H hi p => ⟨xs, xs[i], hl i H p, List.getElem?_eq_getElem hi⟩) (fun i H x H' _ p y => ⟨y.1, y.2 xs (hl i H p)⟩) p0 turn fin

theorem mapR2_cons {F : D → Store → Res (List D)} {d : D} {ds rs : List D} {S S2 : Store} (h : mapR2 F (d :: ds) S = .ok rs S2) : ∃ o S1 rs1, F d S = .ok o S1 ∧ mapR2 F ds S1 = .ok rs1 S2 ∧ rs = o ++ rs1 := by
  simp only [mapR2] at h
  cases q : F d S with
  | bad => rw [q] at h; cases h
  | exn x S1 => rw [q] at h; cases h
  | ok o S1 =>
    rw [q] at h
    simp only [Res.bind] at h
    cases q2 : mapR2 F ds S1 with
    | bad => rw [q2] at h; cases h
    | exn x S1 => rw [q2] at h; cases h
    | ok rs1 S3 =>
      rw [q2] at h
      cases h
      exact ⟨o, S1, rs1, rfl, q2, rfl⟩
section
variable {X : Cx} {E : XK} {cl : CallF} {g : Str → Option D}
/-- the list that grows, and what is left to come -/
def LcA (K : PySem.W.Frag) (m1 : Map) (H1 : Hp) (D : Addr) (acc : List Pl.D) (S' : Store) (H : Hp) (mm : List (Option Addr)) : Prop :=
  ∃ accV, Stp m1 H1 ⟨mm, m1.r⟩ H ∧ RS K ⟨mm, D :: m1.r⟩ H S' ∧ H D = some (.lst accV) ∧ RpAll K ⟨mm, D :: m1.r⟩ H accV acc
def Lc2 (K : PySem.W.Frag) (F : Pl.D → Store → Res (List Pl.D)) (xs rs : List Pl.D) (S2 : Store) (m1 : Map) (H1 : Hp) (D : Addr) (i : Nat) (H : Hp) : Prop :=
  ∃ S' mm acc rs', LcA K m1 H1 D acc S' H mm ∧ mapR2 F (xs.drop i) S' = .ok rs' S2 ∧ acc ++ rs' = rs
/-- within an inner loop that began at m4, H4 -/
def LcI (K : PySem.W.Frag) (F : Pl.D → Store → Res (Option Pl.D)) (xs rs : List Pl.D) (S2 : Store) (m1 : Map) (H1 : Hp) (D : Addr) (m4 : List (Option Addr)) (H4 : Hp) (i : Nat) (H : Hp) : Prop :=
  ∃ S' mm acc rs', LcA K m1 H1 D acc S' H mm ∧ Chg ⟨m4, D :: m1.r⟩ H4 ⟨mm, D :: m1.r⟩ H ∧ Old ⟨m4, D :: m1.r⟩ ⟨mm, D :: m1.r⟩ ∧ mapR F (xs.drop i) S' = .ok rs' S2 ∧ acc ++ rs' = rs
theorem Chg.refl {m : Map} {H : Hp} : Chg m H m H := ⟨fun _ _ _ e => e, fun _ _ h _ => h⟩
theorem Chg.stp {m m' m2 : Map} {H H' H2 : Hp} (c : Chg m H m' H') (s : Stp m' H' m2 H2) : Chg m H m2 H2 :=
  ⟨fun a o h e => s.keep a o (fun z => c.nohas a o h e (.inl z)) (c.keep a o h e), fun a o h e => s.nohas (c.nohas a o h e) ⟨o, c.keep a o h e⟩⟩
theorem Chg.app {m m' : Map} {H H' : Hp} {D : Addr} {o : HO} (c : Chg m H m' H') (hD : m.has D) : Chg m H m' (upd H' D o) :=
  ⟨fun a u h e => by rw [upd_ne (fun z => h (by rw [z]; exact hD))]; exact c.keep a u h e, c.nohas⟩
theorem LcA.step {K : PySem.W.Frag} {m1 : Map} {H1 : Hp} {D : Addr} {acc : List Pl.D} {S' S3 : Store} {H H3 : Hp} {mm : List (Option Addr)} {M : Map} (h : LcA K m1 H1 D acc S' H mm) (st : Stp ⟨mm, D :: m1.r⟩ H M H3) (hS : RS K M H3 S3) : M.r = D :: m1.r ∧ LcA K m1 H1 D acc S3 H3 M.m := by
  obtain ⟨accV, s1, r1, hD, ra⟩ := h
  have hr : M.r = D :: m1.r := st.res
  obtain ⟨Mm, Mr⟩ := M
  simp only at hr
  subst hr
  have hDm : some D ∉ mm := (r1.res D List.mem_cons_self).1
  exact ⟨rfl, accV, s1.trans ⟨st.keep, st.len, st.old, st.new, rfl⟩, hS, st.keep D _ hDm hD, RpAll.stp st r1.mut acc accV ra⟩
theorem LcA.app {K : PySem.W.Frag} {m1 : Map} {H1 : Hp} {D : Addr} {acc : List Pl.D} {S' : Store} {H : Hp} {mm : List (Option Addr)} {y : V} {r : Pl.D} (hn : H1 D = none) (h : LcA K m1 H1 D acc S' H mm) (ry : Rp K ⟨mm, D :: m1.r⟩ H y r) :
    ∃ accV, H D = some (.lst accV) ∧ accV.length = acc.length ∧ LcA K m1 H1 D (acc ++ [r]) S' (upd H D (.lst (accV ++ [y]))) mm := by
  obtain ⟨accV, s1, r1, hD, ra⟩ := h
  refine ⟨accV, hD, rpAll_len ra, accV ++ [y], ⟨fun a u hm e => ?_, s1.len, s1.old, s1.new, s1.res⟩, r1.app List.mem_cons_self, upd_same, RpAll.mut (.inr List.mem_cons_self) r1.mut _ _ (rpAll_append ra (.cons ry .nil))⟩
  have hne : a ≠ D := fun z => by rw [z, hn] at e; cases e
  rw [upd_ne hne]
  exact s1.keep a u hm e
/-- one turn of the inner loop -/
theorem lcI_turn {F : Pl.D → Store → Res (Option Pl.D)} {e : Ex} {ts : List Nat} {tup : Bool} {gt : TG} {xs rs : List Pl.D} {S2 : Store} {m1 : Map} {H1 H4 H : Hp} {D : Addr} {m4 : List (Option Addr)} {ρ : Rho} {σ : L2.St} {i : Nat} {x : V} {d : Pl.D}
    (hF : F = fun d1 S4 => match bindT (wipeR ρ ts) ts tup d1 with
              | some ρ3 => (ev cl g e ρ3 S4).bind fun y S5 => match y with
                | .p r => .ok (some r) S5
                | _ => .bad
              | none => .bad)
    (G : GOk X.K ts tup gt) (hn : H1 D = none) (hz : rs.length ≤ sizeLine) (hE : RE X.K ⟨m4, D :: m1.r⟩ H4 ρ σ) (ok4 : MutOk ⟨m4, D :: m1.r⟩ H4) (hd : xs[i]? = some d) (hx : Rp X.K ⟨m4, D :: m1.r⟩ H4 x d) (I : LcI X.K F xs rs S2 m1 H1 D m4 H4 i H) (P : Hp → Prop) (hP : ∀ H', LcI X.K F xs rs S2 m1 H1 D m4 H4 (i + 1) H' → P H') :
    gt x (wipe σ ts) H fun σ3 H5 => wipe σ3 ts = wipe σ ts ∧ tC3 X.K EN cl g [] σ3 H5 fun b H6 =>
      if b = true then tE X.K EN cl g e σ3 H6 fun y H7 => ∃ acc, H7 D = some (.lst acc) ∧ acc.length < sizeLine ∧ P (upd H7 D (.lst (acc ++ [y]))) else P H6 := by
  obtain ⟨S', mm, acc, rs', ha, ch, old, hm, er⟩ := I
  have hlt : i < xs.length := (List.getElem?_eq_some_iff.mp hd).1
  rw [List.drop_eq_getElem_cons hlt, (List.getElem?_eq_some_iff.mp hd).2] at hm
  obtain ⟨o, S3, rs1, f1, f2, f3⟩ := mapR_cons hm
  have hS' : RS X.K ⟨mm, D :: m1.r⟩ H S' := ha.choose_spec.2.1
  have hEw : RE X.K ⟨mm, D :: m1.r⟩ H (wipeR ρ ts) (wipe σ ts) := (hE.chg ch old ok4).wipe ts
  have hxw := Rp.chg ch ok4 d x hx
  rw [hF] at f1
  cases qb : bindT (wipeR ρ ts) ts tup d with
  | none => simp only [qb] at f1; cases f1
  | some ρ3 =>
    simp only [qb] at f1
    refine G.ok ⟨mm, D :: m1.r⟩ H (wipeR ρ ts) ρ3 (wipe σ ts) x d _ hEw hxw qb fun ws hE3 => ?_
    refine ⟨by rw [wipe_setVs (fun _ h => h), wipe_wipe], ρ3, S', ⟨mm, D :: m1.r⟩, hE3, hS', ?_⟩
    simp only [evc]
    intro b' H6 M6 st6 hS6 eb
    have eb : b' = true := eb
    subst eb
    simp only [if_true]
    refine ⟨ρ3, S', M6, hE3.stp st6 hS'.mut, hS6, ?_⟩
    cases qe : ev cl g e ρ3 S' with
    | bad => rw [qe] at f1; cases f1
    | exn x S5 => rw [qe] at f1; cases f1
    | ok y S5 =>
      rw [qe] at f1
      simp only [Res.bind] at f1
      cases y with
      | r n => cases f1
      | s n => cases f1
      | p r =>
        cases f1
        subst f3
        intro yv H7 M7 st7 hS7 ry
        have st := st6.trans st7
        obtain ⟨hr, ha7⟩ := ha.step st hS7
        obtain ⟨M7m, M7r⟩ := M7
        simp only at hr
        subst hr
        obtain ⟨accV, q1, q2, q3⟩ := ha7.app hn ry
        refine ⟨accV, q1, ?_, hP _ ⟨_, M7m, acc ++ [r], rs1, q3, (ch.stp st).app (.inr List.mem_cons_self), ⟨Nat.le_trans old.len st.len, fun n a hl e => old.old n a hl (st.old n a (Nat.lt_of_lt_of_le hl old.len) e)⟩, f2, by rw [List.append_assoc]; exact er⟩⟩
        have := congrArg List.length er
        rw [List.length_append, List.length_cons] at this
        omega
/-- one turn of the outer loop: the inner one from its start to its end -/
theorem lc2_turn {F : Pl.D → Store → Res (List Pl.D)} {it1 e : Ex} {vs ts ts1 : List Nat} {tup tup1 : Bool} {gt gt1 : TG} {xs rs : List Pl.D} {S1 S2 : Store} {m1 : Map} {H1 H : Hp} {D : Addr} {ρ : Rho} {σ : L2.St} {i : Nat} {x : V} {d : Pl.D}
    (hF : F = fun d S2 => match bindT (wipeR ρ vs) ts tup d with
          | some ρ2 => (ev cl g it1 ρ2 S2).bind fun x1 S3 => match itemsOf x1 with
            | some xs1 => mapR (fun d1 S4 => match bindT (wipeR ρ2 ts1) ts1 tup1 d1 with
              | some ρ3 => (ev cl g e ρ3 S4).bind fun y S5 => match y with
                | .p r => .ok (some r) S5
                | _ => .bad
              | none => .bad) xs1 S3
            | none => .bad
          | none => .bad)
    (G : GOk X.K ts tup gt) (G1 : GOk X.K ts1 tup1 gt1) (hts : ∀ t ∈ ts, t ∈ vs) (hE : RE X.K m1 H1 ρ σ) (hS : RS X.K m1 H1 S1) (hn : H1 D = none) (hz : rs.length ≤ sizeLine) (hd : xs[i]? = some d) (hx : Rp X.K m1 H1 x d) (I : Lc2 X.K F xs rs S2 m1 H1 D i H) :
    gt x (wipe σ vs) H fun σ2 H2 => wipe σ2 vs = wipe σ vs ∧ tC3 X.K EN cl g [] σ2 H2 fun b H3 =>
      if b = true then iDyn X.K (tE X.K EN cl g it1) σ2 H3 fun J1 H4 => ∃ W1 : Nat → Nat → Hp → Prop, (∃ k, W1 0 k H4) ∧ ∀ j k H, W1 j k H →
        (J1.stop j H ∧ Lc2 X.K F xs rs S2 m1 H1 D (i + 1) H) ∨ (J1.go j H ∧ ∃ Nx1 : Hp → Prop, (∀ H', Nx1 H' → ∃ k', k' < k ∧ W1 (j + 1) k' H') ∧ ∀ x H', J1.yld j H x H' → gt1 x (wipe σ2 ts1) H' fun σ3 H5 => wipe σ3 ts1 = wipe σ2 ts1 ∧ tC3 X.K EN cl g [] σ3 H5 fun b H6 =>
          if b = true then tE X.K EN cl g e σ3 H6 fun y H7 => ∃ acc, H7 D = some (.lst acc) ∧ acc.length < sizeLine ∧ Nx1 (upd H7 D (.lst (acc ++ [y]))) else Nx1 H6)
      else Lc2 X.K F xs rs S2 m1 H1 D (i + 1) H3 := by
  obtain ⟨S', mm, acc, rs', ha, hm, er⟩ := I
  have hlt : i < xs.length := (List.getElem?_eq_some_iff.mp hd).1
  rw [List.drop_eq_getElem_cons hlt, (List.getElem?_eq_some_iff.mp hd).2] at hm
  obtain ⟨o, S3, rs1, f1, f2, f3⟩ := mapR2_cons hm
  have hS' : RS X.K ⟨mm, D :: m1.r⟩ H S' := ha.choose_spec.2.1
  have hst : Stp m1 H1 ⟨mm, m1.r⟩ H := ha.choose_spec.1
  have ch := chg_of hn hst
  have old : Old m1 ⟨mm, D :: m1.r⟩ := ⟨hst.len, hst.old⟩
  have hEw : RE X.K ⟨mm, D :: m1.r⟩ H (wipeR ρ vs) (wipe σ vs) := (hE.chg ch old hS.mut).wipe vs
  have hxw := Rp.chg ch hS.mut d x hx
  rw [hF] at f1
  cases qb : bindT (wipeR ρ vs) ts tup d with
  | none => simp only [qb] at f1; cases f1
  | some ρ2 =>
    simp only [qb] at f1
    refine G.ok ⟨mm, D :: m1.r⟩ H (wipeR ρ vs) ρ2 (wipe σ vs) x d _ hEw hxw qb fun ws hE2 => ?_
    refine ⟨by rw [wipe_setVs hts, wipe_wipe], ρ2, S', ⟨mm, D :: m1.r⟩, hE2, hS', ?_⟩
    generalize setVs (wipe σ vs) ts ws = σ2 at hE2
    simp only [evc]
    intro b' H3 M3 st3 hS3 eb
    have eb : b' = true := eb
    subst eb
    simp only [if_true]
    refine ⟨ρ2, S', M3, hE2.stp st3 hS'.mut, hS3, ?_⟩
    generalize hF1 : (fun d1 S4 => match bindT (wipeR ρ2 ts1) ts1 tup1 d1 with
            | some ρ3 => (ev cl g e ρ3 S4).bind fun y S5 => match y with
              | .p r => Res.ok (some r) S5
              | _ => .bad
            | none => .bad) = F1 at f1
    cases qi : ev cl g it1 ρ2 S' with
    | bad => rw [qi] at f1; cases f1
    | exn x S5 => rw [qi] at f1; cases f1
    | ok x1 S4 =>
      rw [qi] at f1
      simp only [Res.bind] at f1
      split at f1
      case h_2 => cases f1
      next xs1 ex =>
      intro v H4 M4 st4 hS4 r4
      have st := st3.trans st4
      obtain ⟨hr, ha4⟩ := ha.step st hS4
      obtain ⟨m4, M4r⟩ := M4
      simp only at hr
      subst hr
      have hE4 : RE X.K ⟨m4, D :: m1.r⟩ H4 ρ2 σ2 := hE2.stp st hS'.mut
      have start : LcI X.K F1 xs1 (acc ++ o) S3 m1 H1 D m4 H4 0 H4 := ⟨S4, m4, acc, o, ha4, Chg.refl, ⟨Nat.le_refl _, fun _ _ _ h => h⟩, f1, rfl⟩
      have hz1 : (acc ++ o).length ≤ sizeLine := by
        rw [← er, f3, ← List.append_assoc, List.length_append] at hz
        omega
      have fin : ∀ H', LcI X.K F1 xs1 (acc ++ o) S3 m1 H1 D m4 H4 xs1.length H' → Lc2 X.K F xs rs S2 m1 H1 D (i + 1) H' := fun H' ⟨S5, mm5, acc5, rs5, a5, _, _, q5, e5⟩ => by
        rw [List.drop_length] at q5
        simp only [mapR, Res.ok.injEq] at q5
        obtain ⟨rfl, rfl⟩ := q5
        rw [List.append_nil] at e5
        subst e5
        exact ⟨S5, mm5, _, rs1, a5, f2, by rw [List.append_assoc, ← f3]; exact er⟩
      have item : ∀ {ys : List V} {j : Nat} {y : V}, RpAll X.K ⟨m4, D :: m1.r⟩ H4 ys xs1 → ys[j]? = some y → ∃ d, xs1[j]? = some d ∧ Rp X.K ⟨m4, D :: m1.r⟩ H4 y d := fun {ys j y} r hy => by
        have hl := rpAll_len r
        have := (List.getElem?_eq_some_iff.mp hy).1
        have hd : xs1[j]? = some xs1[j] := List.getElem?_eq_getElem (by omega)
        obtain ⟨w, hw, rw'⟩ := rpAll_get r hd
        rw [hy] at hw; cases hw
        exact ⟨_, hd, rw'⟩
      rcases items_of ex with rfl | rfl
      · cases r4 with
        | @lst a ys _ h2 h3 =>
          refine ⟨a, rfl, .inl ⟨⟨ys, h2.sq⟩, ?_⟩⟩
          refine go_list (xs := ys) (Pv := LcI X.K F1 xs1 (acc ++ o) S3 m1 H1 D m4 H4) (fun j H' q => ?_) start (fun j y H' hy q => ?_) fun H' q => fin H' (by rw [← rpAll_len h3]; exact q)
          · obtain ⟨S5, mm5, acc5, rs5, a5, c5, _⟩ := q
            exact (h2.chg c5).sq
          · obtain ⟨d5, e5, r5⟩ := item h3 hy
            exact lcI_turn (X := X) hF1.symm G1 hn hz1 hE4 hS4.mut e5 r5 q _ fun H' q => q
      · cases r4 with
        | @tup a ys _ h2 h3 =>
          refine ⟨a, rfl, .inr ⟨⟨ys, h2⟩, ?_⟩⟩
          refine go_tup (xs := ys) (Pv := LcI X.K F1 xs1 (acc ++ o) S3 m1 H1 D m4 H4) (fun j H' q => ?_) start (fun j y H' hy q => ?_) fun H' q => fin H' (by rw [← rpAll_len h3]; exact q)
          · obtain ⟨S5, mm5, acc5, rs5, a5, c5, _⟩ := q
            rcases h2 with h2 | h2
            · exact .inl (Rd.keep (fun o => c5.keep a o (hS4.mut.tup h2)) h2)
            · exact .inr h2
          · obtain ⟨d5, e5, r5⟩ := item h3 hy
            exact lcI_turn (X := X) hF1.symm G1 hn hz1 hE4 hS4.mut e5 r5 q _ fun H' q => q
/-- [e for target in one for target in two] -/
theorem e_lc2 {elt tg iter tg1 iter1 : Expr} {scope : Scope} {own : List (Str × Nat)} {pos : Pos} {cit cit1 ce : Ex} {ts ts1 : List Nat} {tup tup1 : Bool} {gt gt1 : TG} (hc : X.calm = true) (hN : X.N.Nodup)
    (hi : PE X iter (tE X.K E cl g cit)) (ok : BlkOk X.N X.env.scope scope own) (hts : ∀ t ∈ ts, t ∈ own.map (·.2)) (hts1 : ∀ t ∈ ts1, t ∈ own.map (·.2))
    (hg : ∀ (s : Shared) (H : Hp) (C : Addr) (cl' : List (Str × Addr)) (fp : List Addr), PG (X.blk s H scope (compEnvC scope cl' C X.env) fp) tg gt) (G : GOk X.K ts tup gt)
    (hi1 : ∀ (s : Shared) (H : Hp) (C : Addr) (cl' : List (Str × Addr)) (fp : List Addr), PE (X.blk s H scope (compEnvC scope cl' C X.env) fp) iter1 (tE X.K EN cl g cit1))
    (hg1 : ∀ (s : Shared) (H : Hp) (C : Addr) (cl' : List (Str × Addr)) (fp : List Addr), PG (X.blk s H scope (compEnvC scope cl' C X.env) fp) tg1 gt1) (G1 : GOk X.K ts1 tup1 gt1)
    (he : ∀ (s : Shared) (H : Hp) (C : Addr) (cl' : List (Str × Addr)) (fp : List Addr), PE (X.blk s H scope (compEnvC scope cl' C X.env) fp) elt (tE X.K EN cl g ce)) (hs : ∀ x, foldedSetIterable iter X.env x = pure x) (hs1 : ∀ env x, foldedSetIterable iter1 env x = pure x) :
    PE X (.ListComp elt [⟨tg, iter, [], 0⟩, ⟨tg1, iter1, [], 0⟩] scope pos) (tE X.K E cl g (.lc2 (own.map (·.2)) ts tup cit ts1 tup1 cit1 ce)) ∧
    ∀ σ H Q, tE X.K E cl g (.lc2 (own.map (·.2)) ts tup cit ts1 tup1 cit1 ce) σ H Q → tLc2 (iDyn X.K (tE X.K E cl g cit)) gt (tC3 X.K EN cl g []) (iDyn X.K (tE X.K EN cl g cit1)) gt1 (tC3 X.K EN cl g []) (tE X.K EN cl g ce) (own.map (·.2)) ts1 σ H Q := by
  have imp : ∀ σ H Q, tE X.K E cl g (.lc2 (own.map (·.2)) ts tup cit ts1 tup1 cit1 ce) σ H Q → tLc2 (iDyn X.K (tE X.K E cl g cit)) gt (tC3 X.K EN cl g []) (iDyn X.K (tE X.K EN cl g cit1)) gt1 (tC3 X.K EN cl g []) (tE X.K EN cl g ce) (own.map (·.2)) ts1 σ H Q := fun σ H Q ⟨ρ, S, m, hE, hS, h⟩ => by
    simp only [ev] at h
    refine ⟨ρ, S, m, hE, hS, (Post.bind h).mono fun v H1 ⟨x, S1, m1, st1, hS1, r1, _, h1⟩ => ?_⟩
    split at h1
    case h_2 => exact h1.elim
    next xs ex =>
    generalize hF : (fun d S2 => match bindT (wipeR ρ (own.map (·.2))) ts tup d with
          | some ρ2 => (ev cl g cit1 ρ2 S2).bind fun x1 S3 => match itemsOf x1 with
            | some xs1 => mapR (fun d1 S4 => match bindT (wipeR ρ2 ts1) ts1 tup1 d1 with
              | some ρ3 => (ev cl g ce ρ3 S4).bind fun y S5 => match y with
                | .p r => Res.ok (some r) S5
                | _ => .bad
              | none => .bad) xs1 S3
            | none => .bad
          | none => .bad) = F at h1
    cases qm : mapR2 F xs S1 with
    | bad => rw [qm] at h1; exact h1.elim
    | exn x S2 => rw [qm] at h1; exact h1.elim
    | ok rs S2 =>
      rw [qm] at h1
      simp only [Res.noX, Res.bind] at h1
      split at h1
      case isFalse => exact h1.elim
      next hz =>
      have hE1 := hE.stp st1 hS.mut
      have fin : ∀ {D : Addr}, H1 D = none → ∀ H', Lc2 X.K F xs rs S2 m1 H1 D xs.length H' → Q (.ref D) H' := fun {D} hn H' ⟨S', mm, acc, rs', ⟨accV, st, hS', hD, ra⟩, hm, e⟩ => by
        rw [List.drop_length] at hm
        simp only [mapR2, Res.ok.injEq] at hm
        obtain ⟨rfl, rfl⟩ := hm
        rw [List.append_nil] at e
        subst e
        refine h1 _ H' ⟨mm, m1.r⟩ st hS'.unres (.lst ⟨hD, fun z => ?_⟩ (RpAll.chg Chg.unres hS'.mut acc accV ra))
        rcases z with z | z
        · exact (hS'.res D List.mem_cons_self).1 z
        · obtain ⟨_, ys, e⟩ := hS1.res D z
          rw [hn] at e; cases e
      have start : ∀ {D : Addr}, H1 D = none → Lc2 X.K F xs rs S2 m1 H1 D 0 (upd H1 D (.lst [])) := fun {D} hn => ⟨S1, m1.m, [], rs, ⟨[], Stp.same (same_upd hn), hS1.resv hn, upd_same, .nil⟩, qm, rfl⟩
      rcases items_of ex with rfl | rfl
      · cases r1 with
        | @lst a ys _ h2 h3 =>
          refine ⟨a, rfl, .inl ⟨⟨ys, h2.sq⟩, fun D hn => ?_⟩⟩
          refine go_list (xs := ys) (Pv := Lc2 X.K F xs rs S2 m1 H1 D) (fun j H' q => ?_) (start hn) (fun j y H' hy q => ?_) fun H' q => fin hn H' (by rw [← rpAll_len h3]; exact q)
          · obtain ⟨S', mm, acc, rs', ⟨accV, st, _⟩, _⟩ := q
            exact (h2.chg (chg_of hn st)).sq
          · obtain ⟨d, hd⟩ : ∃ d, xs[j]? = some d := by
              have := (List.getElem?_eq_some_iff.mp hy).1
              exact ⟨_, List.getElem?_eq_getElem (by rw [← rpAll_len h3]; exact this)⟩
            obtain ⟨w, hw, rw'⟩ := rpAll_get h3 hd
            rw [hy] at hw; cases hw
            exact lc2_turn (X := X) hF.symm G G1 hts hE1 hS1 hn (okLen_le hz) hd rw' q
      · cases r1 with
        | @tup a ys _ h2 h3 =>
          refine ⟨a, rfl, .inr ⟨⟨ys, h2⟩, fun D hn => ?_⟩⟩
          refine go_tup (xs := ys) (Pv := Lc2 X.K F xs rs S2 m1 H1 D) (fun j H' q => ?_) (start hn) (fun j y H' hy q => ?_) fun H' q => fin hn H' (by rw [← rpAll_len h3]; exact q)
          · obtain ⟨S', mm, acc, rs', ⟨accV, st, _⟩, _⟩ := q
            exact sqT_stp st hS1.mut h2
          · obtain ⟨d, hd⟩ : ∃ d, xs[j]? = some d := by
              have := (List.getElem?_eq_some_iff.mp hy).1
              exact ⟨_, List.getElem?_eq_getElem (by rw [← rpAll_len h3]; exact this)⟩
            obtain ⟨w, hw, rw'⟩ := rpAll_get h3 hd
            rw [hy] at hw; cases hw
            exact lc2_turn (X := X) hF.symm G G1 hts hE1 hS1 hn (okLen_le hz) hd rw' q
  exact ⟨(pe_lc2 hc hN (pi_dyn hi) ok hts1 hg (fun _ _ _ _ _ => c_nil) (fun s H C cl' fp => pi_dyn (hi1 s H C cl' fp)) hg1 (fun _ _ _ _ _ => c_nil) he hs hs1).imp imp, imp⟩
end
end Pl

set_option Elab.async false
set_option linter.all false
set_option autoImplicit false
set_option maxRecDepth 100000
set_option maxHeartbeats 4000000
/-! PAX: sets of tuples of ints, sorted. -/
namespace Pl
open PySem PySem.Spec PySem.SeqAt PySem.Calls PySem.W PyProof.Rows

/-! ### sets of tuples of ints, sorted -/
theorem perm_lift {α β : Type} {f : α → β} {u v : List β} (p : u.Perm v) : ∀ L : List α, v = L.map f → ∃ L1 : List α, L1.Perm L ∧ u = L1.map f := by
  induction p with
  | nil => intro L e; exact ⟨L, .refl _, e⟩
  | cons x p ih =>
    intro L e
    cases L with
    | nil => cases e
    | cons y L =>
      rw [List.map_cons, List.cons.injEq] at e
      obtain ⟨L1, h1, h2⟩ := ih L e.2
      exact ⟨y :: L1, h1.cons y, by rw [List.map_cons, e.1, h2]⟩
  | swap x y l =>
    intro L e
    match L, e with
    | a :: b :: L, e =>
      rw [List.map_cons, List.map_cons, List.cons.injEq, List.cons.injEq] at e
      exact ⟨b :: a :: L, .swap _ _ _, by rw [List.map_cons, List.map_cons, e.1, e.2.1, e.2.2]⟩
  | trans p q ih1 ih2 =>
    intro L e
    obtain ⟨L2, h1, h2⟩ := ih2 L e
    obtain ⟨L1, h3, h4⟩ := ih1 L2 h2
    exact ⟨L1, h3.trans h1, h4⟩
theorem rows_alike {rs : List (List Int)} : AllAlike (rs.map rowT) := by
  intro d hd d' hd'
  obtain ⟨x, _, rfl⟩ := List.mem_map.mp hd
  obtain ⟨y, _, rfl⟩ := List.mem_map.mp hd'
  show alike (.tuple _) (.tuple _) = true
  rw [alike]
  exact alike_ints x y
theorem row_depth (r : List Int) : (rowT r).depth = 1 := by
  show PyData.depth (.tuple _) = 1
  rw [PyData.depth, depth_ints]
theorem reads_ints {h : Heap} : ∀ {vs : List Value} {ns : List Int}, IntsAre vs ns → ReadsAll h vs (ns.map .int) []
  | _, _, .nil => .nil
  | _, _, .cons n t r => by
    have := ReadsAll.cons (Reads.int (h := h) n t) (reads_ints r)
    simpa using this
theorem le_rows (a b : List Int) : dataLe false rowT a b = decide (a ≤ b) := by
  rw [dataLe_eq]
  show (!dataLt (.tuple (b.map .int)) (.tuple (a.map .int))) = _
  rw [dataLt_tuple]
  show (!rowLt (b.map .int) (a.map .int)) = _
  rw [dataLt_ints]
  by_cases h : b < a
  · simp [h]
  · simp [h, List.not_lt.mp h]
section
open L2
variable {P : Program} {w : World} {A : Around} {E : Value → Shared → Prop} {s : Shared}
theorem row_reads {h : Heap} {k : List Int} {b : Addr} (x : IsT P w h k b) : ∃ as, Reads h (.ref b) (rowT k) as := by
  obtain ⟨c, us, e, ⟨o, ho, hc, n, hd⟩, hi⟩ := tupInts_of x
  cases e
  exact ⟨_, .tuple ho hc hd (reads_ints hi)⟩
/-- sorted(a set of tuples of ints of any lengths) -/
theorem sorted_setR {a : Addr} {L : List (Addr × List Int)} {es : Array (Int × Value)} {ep : Nat} {t : SetTable} {Q : Value → Shared → Prop} (R : SetTR P w s.heap a L es ep t) (hh : A.handled = none) (hu : A.units + 10 < cLine)
    (k : ∀ s' p (out : Array Value) (c : Nat) (L' : List (Addr × List Int)), (∀ b o, s.heap.get? b = some o → s'.heap.get? b = some o) → s'.gens = s.gens → s'.os = s.os → s.heap.objs.size ≤ p →
      s'.heap.get? p = some (seqObj "list" out c) → out.toList = L'.map (fun q => Value.ref q.1) → L'.Perm L → L'.Pairwise (fun q r => dataLe false (fun q : Addr × List Int => rowT q.2) q r = true) → Q (.ref p) s') :
    wpAny (model P w) A (call (.builtin "sorted") [.ref a]) Q E s := by
  obtain ⟨o, ho, hex, hd⟩ := R.ob
  have hlen := R.size
  have hfew := R.few
  have hrw : es.toList.map (·.2) = L.map fun q => Value.ref q.1 := by
    rw [R.rows]
    unfold L2.rowsOf
    rw [List.map_map]
    rfl
  refine call_function_entry kind_sorted plain_sorted entry_sorted (args_sorted1 _) ?_
  unfold Builtin.«sorted»
  refine wpAny_bind (m := checkCount "sorted" 1 1 _) (wpAny_pure (wpAny_bind (collect_set (A := A.in1) hh ⟨o, ho, hex.1, hd⟩ R.fits (by unfold scanBound; omega) R.tab.ris R.led fun s1 us k1 z1 g1 o1 pm => ?_)))
  rw [hrw] at pm
  obtain ⟨L1, p1, rfl⟩ := perm_lift pm L rfl
  have hfew1 : L1.length < 64 := by rw [p1.length_eq]; exact hfew
  have hln : (L1.map fun q => Value.ref q.1).length ≤ sizeLine := by rw [List.length_map, sizeLine_eq]; omega
  refine wpAny_bind (wpAny_newList ?_ (by simpa using hln))
  generalize hvs : (L1.map fun q => Value.ref q.1) = us at hln
  have top : (s1.heap.push (seqObj "list" us.toArray 0)).get? s1.heap.objs.size = some (seqObj "list" us.toArray 0) := Heap.get?_push_size _ rfl
  have old : ∀ b u, s.heap.get? b = some u → (sortingHeap (s1.heap.push (seqObj "list" us.toArray 0)) s1.heap.objs.size us).get? b = some u := fun b u e => by
    have q := k1 b u e
    exact sortingHeap_old (Nat.ne_of_lt (Heap.lt_size q)) (Heap.get?_push_of_some _ q)
  have e0 : ∀ L2 : List (Addr × List Int), (∀ q ∈ L2, q ∈ L) → EachIs (fun v q => v = Value.ref q.1 ∧ q ∈ L) (L2.map fun q => Value.ref q.1) L2 := fun L2 => by
    induction L2 with
    | nil => intro _; exact .nil
    | cons x L2 ih => intro hs; exact .cons ⟨rfl, hs _ List.mem_cons_self⟩ (ih fun q hq => hs q (List.mem_cons_of_mem _ hq))
  have e1 : EachIs (fun v (q : Addr × List Int) => v = Value.ref q.1 ∧ q ∈ L) us L1 := hvs ▸ e0 L1 fun q hq => p1.mem_iff.mp hq
  have e2 : EachIs (fun v (q : Addr × List Int) => ∃ as, Reads (sortingHeap (s1.heap.push (seqObj "list" us.toArray 0)) s1.heap.objs.size us) v (rowT q.2) as) us L1 := e1.mono fun v q ⟨e, hq⟩ => by
    subst e
    exact row_reads (isT_keep (R.tup q hq) old)
  have hal : AllAlike (L1.map fun q => rowT q.2) := by
    have := rows_alike (rs := L1.map (·.2))
    rwa [List.map_map] at this
  have S := sorts_tups (prog := P) (w := w) (A := A.in1.in1) (s := { s1 with heap := sortingHeap (s1.heap.push (seqObj "list" us.toArray 0)) s1.heap.objs.size us })
    (each_map (R := fun v d => ∃ as, Reads (sortingHeap (s1.heap.push (seqObj "list" us.toArray 0)) s1.heap.objs.size us) v d as) (fun q : Addr × List Int => rowT q.2) e2) hal (fun d hd => by
      obtain ⟨q, _, rfl⟩ := List.mem_map.mp hd
      exact ⟨_, rfl⟩) (fun d hd => by
      obtain ⟨q, _, rfl⟩ := List.mem_map.mp hd
      rw [row_depth]
      show A.units + 2 + 1 < cLine
      omega)
  obtain ⟨c, hc⟩ := sortedHeap_at (vs := us) (out := (sortVals (dataKind (sortingHeap (s1.heap.push (seqObj "list" us.toArray 0)) s1.heap.objs.size us) (L1.map fun q => rowT q.2)) false us us).toArray) top
  have eo := sortVals_data false e1 e2 hal
  refine wpAny_bind (wpAny_holding (wpAny_call_entry slot_list_sort ⟨_, top, rfl⟩ entry_list_sort (list_sort_vals top S hln ⟨.none, rfl, wpAny_pure ⟨_, rfl, k _ s1.heap.objs.size _ c (L1.mergeSort (dataLe false fun q : Addr × List Int => rowT q.2)) (fun b u e => ?_) g1 o1 z1 hc ?_ ((List.mergeSort_perm _ _).trans p1) ?_⟩⟩) (args_list_sort _)))
  · have q := k1 b u e
    show (sortedHeap (s1.heap.push (seqObj "list" us.toArray 0)) s1.heap.objs.size us _).get? b = some u
    rw [sortedHeap_old (Nat.ne_of_lt (Heap.lt_size q)) (by rw [size_push']; exact Nat.lt_succ_of_lt (Heap.lt_size q))]
    exact Heap.get?_push_of_some _ q
  · have un : ∀ {us : List Value} {bs : List (Addr × List Int)}, EachIs (fun v (q : Addr × List Int) => v = Value.ref q.1 ∧ q ∈ L) us bs → us = bs.map fun q => Value.ref q.1 := fun {us bs} q => by
      induction q with
      | nil => rfl
      | cons h t ih => rw [List.map_cons, h.1, ← ih]
    simpa using un eo
  · have q := List.pairwise_mergeSort (le := dataLe false fun q : Addr × List Int => rowT q.2) (fun a b c h1 h2 => ?_) (fun a b => ?_) L1
    · exact q
    · have h1 : dataLe false rowT a.2 b.2 = true := h1
      have h2 : dataLe false rowT b.2 c.2 = true := h2
      show dataLe false rowT a.2 c.2 = true
      rw [le_rows, decide_eq_true_eq] at *
      exact List.le_trans h1 h2
    · show (dataLe false rowT a.2 b.2 || dataLe false rowT b.2 a.2) = true
      rw [le_rows, le_rows, Bool.or_eq_true, decide_eq_true_eq, decide_eq_true_eq]
      exact List.le_total a.2 b.2
end

/-! ### the rows in order -/
theorem insR_mem {n k : List Int} : ∀ {xs : List (List Int)}, k ∈ insR n xs ↔ k = n ∨ k ∈ xs
  | [] => by simp [insR]
  | x :: xs => by
    unfold insR
    split
    · simp
    · split
      · next h => subst h; simp
      · rw [List.mem_cons, List.mem_cons, insR_mem]
        constructor
        · rintro (h | h | h)
          · exact .inr (.inl h)
          · exact .inl h
          · exact .inr (.inr h)
        · rintro (h | h | h)
          · exact .inr (.inl h)
          · exact .inl h
          · exact .inr (.inr h)
theorem row_lt {a b : List Int} (h : ¬ a < b) (h2 : ¬ a = b) : b < a := by
  rcases List.le_total a b with q | q
  · rcases List.le_iff_lt_or_eq.mp q with q | q
    · exact absurd q h
    · exact absurd q h2
  · rcases List.le_iff_lt_or_eq.mp q with q | q
    · exact q
    · exact absurd q.symm h2
theorem insR_up {n : List Int} : ∀ {xs : List (List Int)}, xs.Pairwise (· < ·) → (insR n xs).Pairwise (· < ·)
  | [], _ => by simp [insR]
  | x :: xs, h => by
    obtain ⟨h1, h2⟩ := List.pairwise_cons.mp h
    unfold insR
    split
    · next hl =>
      refine List.pairwise_cons.mpr ⟨fun y hy => ?_, h⟩
      rcases List.mem_cons.mp hy with rfl | hy
      · exact hl
      · exact List.lt_trans hl (h1 y hy)
    · split
      · exact h
      · next n1 n2 =>
        refine List.pairwise_cons.mpr ⟨fun y hy => ?_, insR_up h2⟩
        rcases insR_mem.mp hy with rfl | hy
        · exact row_lt n1 n2
        · exact h1 y hy
theorem setR_mem {k : List Int} : ∀ {ns : List (List Int)}, k ∈ setR ns ↔ k ∈ ns
  | [] => by simp [setR]
  | n :: ns => by
    show k ∈ insR n (setR ns) ↔ _
    rw [insR_mem, setR_mem, List.mem_cons]
theorem setR_up : ∀ ns : List (List Int), (setR ns).Pairwise (· < ·)
  | [] => by simp [setR]
  | n :: ns => insR_up (setR_up ns)
theorem upR_eq : ∀ {xs ys : List (List Int)}, xs.Pairwise (· < ·) → ys.Pairwise (· < ·) → (∀ k, k ∈ xs ↔ k ∈ ys) → xs = ys
  | [], [], _, _, _ => rfl
  | [], y :: ys, _, _, h => absurd ((h y).mpr List.mem_cons_self) (by simp)
  | x :: xs, [], _, _, h => absurd ((h x).mp List.mem_cons_self) (by simp)
  | x :: xs, y :: ys, h1, h2, h => by
    obtain ⟨a1, a2⟩ := List.pairwise_cons.mp h1
    obtain ⟨b1, b2⟩ := List.pairwise_cons.mp h2
    have e : x = y := by
      have p := (h x).mp List.mem_cons_self
      have q := (h y).mpr List.mem_cons_self
      rcases List.mem_cons.mp p with p | p
      · exact p
      · rcases List.mem_cons.mp q with q | q
        · exact q.symm
        · exact absurd (List.lt_trans (b1 x p) (a1 y q)) (List.lt_irrefl _)
    subst e
    congr 1
    refine upR_eq a2 b2 fun k => ?_
    constructor
    · intro hk
      rcases List.mem_cons.mp ((h k).mp (List.mem_cons_of_mem _ hk)) with e | e
      · subst e; exact absurd (a1 _ hk) (List.lt_irrefl _)
      · exact e
    · intro hk
      rcases List.mem_cons.mp ((h k).mpr (List.mem_cons_of_mem _ hk)) with e | e
      · subst e; exact absurd (b1 _ hk) (List.lt_irrefl _)
      · exact e
section
open L2
variable {X : Cx} {E : XK} {cl : CallF} {g : Str → Option D} {a : Expr} {ca : Ex} {p p2 pos pos2 : Pos}
theorem rows_rp {K : PySem.W.Frag} {m : Map} {H : Hp} : ∀ {xs : List D} {vs : List V} {rs : List (List Int)}, RpAll K m H vs xs → rowsI xs = some rs → ∃ ks : List (Addr × List Int), vs = ks.map (fun p => V.ref p.1) ∧ rs = ks.map (·.2) ∧ ∀ p ∈ ks, SqT K H p.1 (p.2.map V.int)
  | [], _, _, h, e => by cases h; cases e; exact ⟨[], rfl, rfl, fun _ z => nomatch z⟩
  | x :: xs, _, _, h, e => by
    cases h with
    | cons h1 h2 =>
      cases x with
      | tuple ds =>
        simp only [rowsI] at e
        split at e
        · next n ns e1 e2 =>
          cases e
          obtain ⟨ks, rfl, rfl, q⟩ := rows_rp h2 e2
          obtain ⟨t, zs, rfl, t1, t2⟩ := (WR.p h1 : WR K m H _ _).tuple
          have := ints_rp t2 e1
          subst this
          exact ⟨(t, n) :: ks, rfl, rfl, List.forall_mem_cons.mpr ⟨t1, q⟩⟩
        · cases e
      | _ => simp [rowsI] at e
/-- what the set is made of -/
inductive SetArg (K : PySem.W.Frag) (H : Hp) : V → D → Prop where
  | il {b : Addr} {ns : List Int} : SqL K H b (ns.map V.int) → ns.length < 64 → SetArg K H (.ref b) (.list ((setI ns).map .int))
  | it {b : Addr} {ns : List Int} : SqT K H b (ns.map V.int) → ns.length < 64 → SetArg K H (.ref b) (.list ((setI ns).map .int))
  | rl {b : Addr} {ks : List (Addr × List Int)} : SqL K H b (ks.map fun p => V.ref p.1) → (∀ p ∈ ks, SqT K H p.1 (p.2.map V.int)) → ks.length < 64 → SetArg K H (.ref b) (.list ((setR (ks.map (·.2))).map rowT))
theorem setArg_of {K : PySem.W.Frag} {m : Map} {H : Hp} {x : V} {d r : D} (w : WR K m H x d) (h : ssetD d = some r) : SetArg K H x r := by
  unfold ssetD at h
  split at h
  · next xs =>
    obtain ⟨b, ys, rfl, h2, h3⟩ := w.list
    split at h
    · next ns e =>
      split at h
      · next hl =>
        cases h
        have := ints_rp h3 e
        subst this
        exact .il h2 hl
      · cases h
    · split at h
      · next rs e =>
        split at h
        · next hl =>
          cases h
          obtain ⟨ks, rfl, rfl, q⟩ := rows_rp h3 e
          exact .rl h2 q (by simpa using hl)
        · cases h
      · cases h
  · next xs =>
    obtain ⟨b, ys, rfl, h2, h3⟩ := w.tuple
    split at h
    · next ns e =>
      split at h
      · next hl =>
        cases h
        have := ints_rp h3 e
        subst this
        exact .it h2 hl
      · cases h
    · cases h
  · cases h
/-- sorted(set(ints or rows of ints)) -/
theorem e_sset (hc : X.calm = true) (hu : X.A.units + 260 < cLine) (hg : Gl X "sorted") (hm : X.mg "sorted" = none) (hg2 : Gl X "set") (hm2 : X.mg "set" = none) (ha : PE X a (tE X.K E cl g ca)) (hs : noStar a = true) :
    PE X (.Call (.Name "sorted" p) [.Call (.Name "set" p2) [a] [] pos2] [] pos) (tE X.K E cl g (.sset ca)) := by
  refine ⟨fun pins s σ H Q I ⟨ρ, S, m, hE, hS, h⟩ => ?_⟩
  simp only [ev] at h
  have hw := (Post.bind (Rel := RV X.K) h).mono (Q' := fun v H1 => ∃ m1 r, MutOk m1 H1 ∧ SetArg X.K H1 v r ∧ Fin X.K m1 H1 r Q) fun v H1 ⟨x, S1, m1, st1, hS1, r1, _, h1⟩ => by
    split at h1
    · next d e =>
      cases q : ssetD d with
      | none => rw [q] at h1; exact h1.elim
      | some r =>
        rw [q] at h1
        exact ⟨m1, r, hS1.mut, setArg_of (WR.of hS1 r1 e) q, fun y H' s r => h1 y H' m1 (Stp.same s) (hS1.same s) r⟩
    · exact h1.elim
  have na : starEach [a] X.env = (false, eval a X.env) :: starEach [] X.env := star_cons hs
  refine Call_ (ld_blt I hg hm boot_sorted ?_)
  refine PyProof.Rows.callWith_builtin1 (PyProof.Rows.args_cons ?_ rfl) rfl rfl
  refine Call_ (ld_blt I hg2 hm2 PyProof.Rows.boot_set ?_)
  refine PyProof.Rows.callWith_type1 (PyProof.Rows.args_cons (thn (ha.run pins s σ H _ I ⟨ρ, S, m, hE, hS, hw⟩) fun v s1 ⟨x, H1, I1, r1, q1⟩ => PyProof.Rows.args_nil ?_) na) na rfl
  obtain ⟨m1, r, ok, sa, f⟩ := q1
  -- the end for ints
  have fini : ∀ (ns : List Int), ns.length < 64 → ∀ (h' : Heap) (tk c : Nat), r = .list ((setI ns).map .int) → SetR X.w h' s1.heap.objs.size (fun j => decide (j ∈ ns)) c → c ≤ ns.length → (∀ b o, s1.heap.get? b = some o → h'.get? b = some o) →
      wpAny (model X.prog X.w) X.A (call (.builtin "sorted") [.ref s1.heap.objs.size]) (EP X pins σ Q) X.xe { s1 with heap := h', toks := tk } := by
    intro ns hlt h' tk c er R hc' k
    subst er
    have I2 : Inv X pins σ H1 { s1 with heap := h', toks := tk } := I1.kept k
    refine sorted_set R (I2.ok.hd hc) (by omega) fun s' q out n ms k' g' o' hp hgq hi' hup hm' hl' => ?_
    have ems : ms = setI ns := up_eq hup (setI_up ns) fun j => by
      rw [hm' j, setI_mem]
      simp
    subst ems
    have hn : H1 q = none := I2.hok.fresh hp
    have hlen : ((setI ns).map V.int).length ≤ sizeLine := by rw [List.length_map, hl', sizeLine_eq]; omega
    have J : Inv X pins σ (upd H1 q (.lst ((setI ns).map V.int))) s' :=
      I2.call' (ch := []) o' (Un.laid k' hp hn) (I2.hok.laid k' hp ⟨hlen, out.toList, n, vals_of_ints hi', hgq⟩) (by rw [g']; exact I2.bare) (fun _ z => nomatch z)
    exact ⟨.ref q, _, J, rfl, f.lst ok (rpAll_ints _) q hn⟩
  cases sa with
  | @il b ns hq hlt =>
    cases r1
    obtain ⟨its, r, pl, hz⟩ := I1.list hq
    exact set_of_list ns (I1.ok.hd hc) pl.isList (by simpa using r.ints) (by unfold scanBound; omega) fun h' tk c R hc' k => PyProof.Rows.args_nil (fini ns hlt h' tk c rfl R hc' k)
  | @it b ns hq hlt =>
    cases r1
    obtain ⟨its, r, pl, hz⟩ := I1.tuple hq
    exact call_set_tupI ns (I1.ok.hd hc) pl (by simpa using r.ints) (by unfold scanBound; omega) fun h' tk c R hc' k => PyProof.Rows.args_nil (fini ns hlt h' tk c rfl R hc' k)
  | @rl b ks hq hk hlt =>
    cases r1
    obtain ⟨its, r, pl, hz⟩ := I1.list hq
    refine call_set_tups (P := X.prog) (w := X.w) ks (I1.ok.hd hc) pl.isList (by simpa using refs_of_vals r) (fun p hp => I1.isT (hk p hp)) hlt (by omega) fun h' tk L es ep t R g' k => PyProof.Rows.args_nil ?_
    have I2 : Inv X pins σ H1 { s1 with heap := h', toks := tk } := I1.kept k
    refine sorted_setR R (I2.ok.hd hc) (by omega) fun s' q out n L' k' g1 o' hp hgq hout pm pw => ?_
    have hsub : ∀ z ∈ L', z ∈ ks := fun z hz => List.mem_of_mem_take (g'.sub z (pm.mem_iff.mp hz))
    have nd : (L'.map (·.2)).Nodup := (pm.map (·.2)).nodup_iff.mpr R.nd
    have ups : (L'.map (·.2)).Pairwise (· < ·) := by
      refine List.pairwise_map.mpr ?_
      have nd2 := List.pairwise_map.mp nd
      refine (pw.and nd2).imp fun {a b} ⟨h1, h2⟩ => ?_
      have h1 : dataLe false rowT a.2 b.2 = true := h1
      rw [le_rows, decide_eq_true_eq] at h1
      rcases List.le_iff_lt_or_eq.mp h1 with z | z
      · exact z
      · exact absurd z h2
    have ems : L'.map (·.2) = setR (ks.map (·.2)) := upR_eq ups (setR_up _) fun j => by
      rw [setR_mem, List.mem_map, List.mem_map]
      constructor
      · rintro ⟨z, hz, rfl⟩
        exact ⟨z, hsub z hz, rfl⟩
      · rintro ⟨z, hz, rfl⟩
        obtain ⟨y, hy, e⟩ := List.mem_map.mp (g'.all z (by rw [List.take_length]; exact hz))
        exact ⟨y, pm.mem_iff.mpr hy, e⟩
    have hn : H1 q = none := I2.hok.fresh hp
    have hfew : L'.length < 64 := by rw [pm.length_eq]; exact R.few
    have hlen : (L'.map fun z => V.ref z.1).length ≤ sizeLine := by rw [List.length_map, sizeLine_eq]; omega
    have J : Inv X pins σ (upd H1 q (.lst (L'.map fun z => V.ref z.1))) s' :=
      I2.call' (ch := []) o' (Un.laid k' hp hn) (I2.hok.laid k' hp ⟨hlen, out.toList, n, by rw [hout]; exact vals_of_refs L', hgq⟩) (by rw [g1]; exact I2.bare) (fun _ z => nomatch z)
    have rp : ∀ L' : List (Addr × List Int), (∀ z ∈ L', z ∈ ks) → RpAll X.K m1 H1 (L'.map fun z => V.ref z.1) ((L'.map (·.2)).map rowT) := fun L' => by
      induction L' with
      | nil => intro _; exact .nil
      | cons z L' ih => intro hs; exact .cons (.tup (hk z (hs z List.mem_cons_self)) (rpAll_ints _)) (ih fun y hy => hs y (List.mem_cons_of_mem _ hy))
    rw [← ems] at f
    exact ⟨.ref q, _, J, rfl, f.lst ok (rp L' hsub) q hn⟩
end
end Pl

set_option Elab.async false
set_option linter.all false
set_option autoImplicit false
set_option maxRecDepth 100000
/-! PB1: is this expression that code? -/
namespace Pl
open PySem PySem.Spec PyProof.Rows L2

structure Ck where
  N : List Str
  fns : List Str
  cs : List Str
  bis : List Str
  xs : List Str

def visB (sc : Scope) (x : Str) : Bool := match sc.names.lookup x with
  | some .local => true
  | some .cell => true
  | some .free => true
  | _ => false
def glB (sc : Scope) (x : Str) : Bool := match sc.names.lookup x with
  | some .globalImplicit => true
  | _ => false
def okNm (x : Str) : Bool := !(x == ("__debug__" : Str)) && !(x == ("__classdict__" : Str)) && !decide (x = ("__name__" : Str))
def biNm : Bi → Str
  | .len => "len"
  | .int => "int"
  | .abs => "abs"
  | .max => "max"
  | .min => "min"
  | .list => "list"
  | .tuple => "tuple"
  | .all => "all"
  | .any => "any"
  | .sorted => "sorted"
  | .sum => "sum"
def meNm : Me → Str
  | .append => "append"
  | .extend => "extend"
  | .remove => "remove"
  | .pop => "pop"
def tyNm (t : Ty) : Str := Str.ofString t.nm
def opOf : Bop → Operator
  | .add => .Add
  | .sub => .Sub
  | .mul => .Mult
  | .fdiv => .FloorDiv
  | .mod => .Mod
def cmpOf : Cop → CmpOp
  | .eq => .Eq
  | .ne => .NotEq
  | .lt => .Lt
  | .le => .LtE
  | .gt => .Gt
  | .ge => .GtE
  | .is_ => .Is
  | .isn => .IsNot
  | .in_ => .In
  | .nin => .NotIn
def noSet : Expr → Bool
  | .Set .. => false
  | _ => true
def noSlice : Expr → Bool
  | .Slice .. => false
  | _ => true
def nmB (k : Ck) (sc : Scope) (fnx : Str → Bool) (i : Nat) (x : Str) : Bool := decide (k.N[i]? = some x) && match sc.names.lookup x with
  | some .local => true
  | some .cell => fnx x
  | _ => false
def isNms (k : Ck) (sc : Scope) (fnx : Str → Bool) : List Nat → List Expr → Bool
  | [], [] => true
  | i :: is, .Name x _ :: es => nmB k sc fnx i x && isNms k sc fnx is es
  | _, _ => false
def isTg (k : Ck) (sc : Scope) (fnx : Str → Bool) (ts : List Nat) (tup : Bool) (tg : Expr) : Bool := match tup, tg with
  | false, .Name x _ => match ts with
    | [i] => nmB k sc fnx i x
    | _ => false
  | true, .Tuple es _ _ => isNms k sc fnx ts es
  | _, _ => false
def ownOf (k : Ck) (vs : List Nat) : List (Str × Nat) := vs.map fun i => (k.N.getD i default, i)
def celB (scope : Scope) (x : Str) : Bool := scope.names.lookup x == some .cell
def isCon : D → Const → Bool
  | .int i, .int j => decide (i = j)
  | .bool i, .bool j => decide (i = j)
  | .str i, .str j => decide (i = j)
  | .none, .none => true
  | _, _ => false

mutual
def isE (k : Ck) : Ex → Scope → Expr → Bool
  | .var i, sc, e => match e with
    | .Name x _ => decide (k.N[i]? = some x) && visB sc x && okNm x
    | _ => false
  | .glob y, sc, e => match e with
    | .Name x _ => decide (x = y) && glB sc x && k.cs.contains x && okNm x
    | _ => false
  | .con d, sc, e => match e with
    | .Constant c _ _ => isCon d c
    | _ => false
  | .bin o a b, sc, e => match e with
    | .BinOp x op y _ => decide (op = opOf o) && isE k a sc x && isE k b sc y
    | _ => false
  | .neg a, sc, e => match e with
    | .UnaryOp .USub x _ => isE k a sc x
    | _ => false
  | .cmp o a b, sc, e => match e with
    | .Compare x [op] [y] _ => decide (op = cmpOf o) && isE k a sc x && isE k b sc y && noSet y
    | _ => false
  | .cmp2 o o2 a b c, sc, e => match e with
    | .Compare x [op, op2] [y, z] _ => decide (op = cmpOf o) && decide (op2 = cmpOf o2) && isE k a sc x && isE k b sc y && isE k c sc z && noSet z
    | _ => false
  | .and a b, sc, e => match e with
    | .BoolOp .And (x :: y :: r) pos => isE k a sc x && match r with
      | [] => isE k b sc y
      | z :: r => isE k b sc (.BoolOp .And (y :: z :: r) pos)
    | _ => false
  | .or a b, sc, e => match e with
    | .BoolOp .Or (x :: y :: r) pos => isE k a sc x && match r with
      | [] => isE k b sc y
      | z :: r => isE k b sc (.BoolOp .Or (y :: z :: r) pos)
    | _ => false
  | .not a, sc, e => match e with
    | .UnaryOp .Not x _ => isE k a sc x
    | _ => false
  | .ite c a b, sc, e => match e with
    | .IfExp x y z _ => isE k c sc x && isE k a sc y && isE k b sc z
    | _ => false
  | .call f es, sc, e => match e with
    | .Call (.Name x _) as [] _ => decide (x = f) && glB sc x && k.fns.contains x && okNm x && isEs k es sc as
    | _ => false
  | .bi f es, sc, e => match e with
    | .Call (.Name x _) (a :: as) [] _ => decide (x = biNm f) && glB sc x && k.bis.contains x && isEs k es sc (a :: as)
    | _ => false
  | .sset c, sc, e => match e with
    | .Call (.Name x _) [.Call (.Name y _) [a] [] _] [] _ => decide (x = "sorted") && decide (y = "set") && glB sc x && glB sc y && k.bis.contains x && k.bis.contains y && isE k c sc a
    | _ => false
  | .met m c es, sc, e => match e with
    | .Call (.Attribute (.Name x p) n apos) as [] pos => decide (n = meNm m) && isE k c sc (.Name x p) && isEs k es sc as && decide (as.length < 30) && (apos.endLine == pos.line)
    | _ => false
  | .idx a b, sc, e => match e with
    | .Subscript x y _ => isE k a sc x && isE k b sc y && noSlice y
    | _ => false
  | .slL a b, sc, e => match e with
    | .Subscript x (.Slice (some y) none none _) _ => isE k a sc x && isE k b sc y
    | _ => false
  | .slH a b, sc, e => match e with
    | .Subscript x (.Slice none (some y) none _) _ => isE k a sc x && isE k b sc y
    | _ => false
  | .slB a b c, sc, e => match e with
    | .Subscript x (.Slice (some y) (some z) none _) _ => isE k a sc x && isE k b sc y && isE k c sc z
    | _ => false
  | .rev a, sc, e => match e with
    | .Subscript x (.Slice none none (some (.UnaryOp .USub (.Constant (.int i) _ _) _)) _) _ => decide (i = 1) && isE k a sc x
    | _ => false
  | .tup es, sc, e => match e with
    | .Tuple as _ _ => isEs k es sc as
    | _ => false
  | .lst es, sc, e => match e with
    | .List as _ => isEs k es sc as
    | _ => false
  | .mls es, sc, e => match e with
    | .List as _ => isEs k es sc as
    | _ => false
  | .mli a, sc, e => match e with
    | .Call (.Name x _) [y] [] _ => decide (x = "list") && glB sc x && k.bis.contains x && isE k a sc y
    | _ => false
  | .dic kvs, sc, e => match e with
    | .Dict ks vs _ => isDic kvs ks vs && decide (kvs.length ≤ 1)
    | _ => false
  | .isi c t, sc, e => match e with
    | .Call (.Name x _) [a, .Name y _] [] _ => decide (x = "isinstance") && decide (y = tyNm t) && decide (t ≠ .none) && glB sc x && glB sc y && k.bis.contains x && k.bis.contains y && isE k c sc a
    | _ => false
  | .lc vs ts tup it cs c, sc, e => match e with
    | .ListComp elt [⟨tg, iter, ifs, 0⟩] scope _ => isE k it sc iter && noSet iter && blkC k.N sc scope (ownOf k vs) && ts.all (fun t => vs.contains t) && isTg k (relS scope sc) (celB scope) ts tup tg &&
        isEs k cs (relS scope sc) ifs && decide (ifs.length ≤ 1) && isE k c (relS scope sc) elt
    | _ => false
  | .lcr vs t lo hi cs c, sc, e => match e with
    | .ListComp elt [⟨.Name tx _, .Call (.Name r _) as [] _, ifs, 0⟩] scope _ => decide (r = "range") && glB sc r && k.bis.contains r && (match as with
          | [a] => isEs k lo sc [] && isE k hi sc a
          | [a, b] => isEs k lo sc [a] && isE k hi sc b
          | _ => false) && blkC k.N sc scope (ownOf k vs) && vs.contains t && nmB k (relS scope sc) (celB scope) t tx && isEs k cs (relS scope sc) ifs && decide (ifs.length ≤ 1) && isE k c (relS scope sc) elt
    | _ => false
  | .frz a, sc, e => isE k a sc e
  | .inx c a, sc, e => match e with
    | .Call (.Attribute (.Name x p) n apos) [y] [] pos => decide (n = "index") && isE k c sc (.Name x p) && isE k a sc y && (apos.endLine == pos.line)
    | _ => false
  | .mdc, sc, e => match e with
    | .Dict [] [] _ => true
    | _ => false
  | .mdd a, sc, e => match e with
    | .Call (.Name x _) [y] [] _ => decide (x = "dict") && glB sc x && k.bis.contains x && isE k a sc y
    | _ => false
  | .dgt c a, sc, e => match e with
    | .Call (.Attribute (.Name x p) n apos) [y] [] pos => decide (n = "get") && isE k c sc (.Name x p) && isE k a sc y && (apos.endLine == pos.line)
    | _ => false
  | .lc2 vs ts tup it ts1 tup1 it1 c, sc, e => match e with
    | .ListComp elt [⟨tg, iter, [], 0⟩, ⟨tg1, iter1, [], 0⟩] scope _ => isE k it sc iter && noSet iter && blkC k.N sc scope (ownOf k vs) && ts.all (fun t => vs.contains t) && isTg k (relS scope sc) (celB scope) ts tup tg &&
        isE k it1 (relS scope sc) iter1 && noSet iter1 && ts1.all (fun t => vs.contains t) && isTg k (relS scope sc) (celB scope) ts1 tup1 tg1 && isE k c (relS scope sc) elt
    | _ => false
def isEs (k : Ck) : List Ex → Scope → List Expr → Bool
  | [], _, [] => true
  | c :: cs, sc, e :: es => isE k c sc e && isEs k cs sc es
  | _, _, _ => false
end
end Pl

set_option Elab.async false
set_option linter.all false
set_option autoImplicit false
set_option maxRecDepth 100000
/-! PB2: an expression that is that code is evaluated as the evaluator says. -/
namespace Pl
open PySem PySem.Spec PyProof.Rows L2

structure CtxE (k : Ck) (X : Cx) (E : XK) (cl : CallF) (g : Str → Option D) (lv : Nat) : Prop where
  N : X.N = k.N
  calm : X.calm = true
  nd : X.N.Nodup
  room : Room lv X.A
  units : X.A.units + 260 < cLine
  fns : ∀ f ∈ k.fns, FnAt X cl lv f
  cons : ∀ x ∈ k.cs, ∃ d v u, g x = some d ∧ X.mg x = some u ∧ RelV v u ∧ ∀ (m : Map) H, MutOk m H → Rp X.K m H v d
  bis : ∀ x ∈ k.bis, X.mg x = none
  tk : Tk X E
  xcs : ∀ c ∈ k.xs, XcAt X.K X.mg c
  xms : ∀ c ∈ k.xs, ∀ y ∈ k.xs, XmAt X.K c y

def Plain (e : Expr) : Prop := ∀ (env : Env) whole, isTrue e env whole = (do let v ← whole; standAt e.pos; holding [v] (truthy v))
/-- sound -/
structure Snd (X : Cx) (E : XK) (cl : CallF) (g : Str → Option D) (c : Ex) (e : Expr) : Prop where
  pe : PE X e (tE X.K E cl g c)
  pt : PT X e (tT X.K E cl g c)
  pw : ∀ op vs pos, e = .BoolOp op vs pos → PW X e (tT X.K E cl g c)
  ns : noStar e = true
theorem Snd.plain {X : Cx} {E : XK} {cl : CallF} {g : Str → Option D} {c : Ex} {e : Expr} (h : PE X e (tE X.K E cl g c)) (p : ∀ whole, isTrue e X.env whole = (do let v ← whole; standAt e.pos; holding [v] (truthy v))) (nb : ∀ op vs pos, e ≠ .BoolOp op vs pos) (ns : noStar e = true) : Snd X E cl g c e :=
  ⟨h, t_val h p, fun op vs pos q => absurd q (nb op vs pos), ns⟩

theorem vis_of {sc : Scope} {x : Str} (h : visB sc x = true) : Vis sc x := by
  unfold visB at h
  split at h
  · next e => exact .inl e
  · next e => exact .inr (.inl e)
  · next e => exact .inr (.inr e)
  · cases h
theorem gl_of {X : Cx} {x : Str} (h : glB X.env.scope x = true) : Gl X x := by
  unfold glB at h
  split at h
  · next e => exact e
  · cases h
theorem ok_of {x : Str} (h : okNm x = true) : (x == ("__debug__" : Str)) = false ∧ (x == ("__classdict__" : Str)) = false ∧ x ≠ "__name__" := by
  unfold okNm at h
  rw [Bool.and_eq_true, Bool.and_eq_true] at h
  obtain ⟨⟨h1, h2⟩, h3⟩ := h
  exact ⟨by simpa using h1, by simpa using h2, by simpa using h3⟩
theorem con_rp {K : PySem.W.Frag} {d : D} {c : Const} (h : isCon d c = true) : ∃ v, (∀ {X : Cx} {j : Nat} {pos : Pos}, PE X (.Constant c j pos) (tC v)) ∧ ∀ (m : Map) H, Rp K m H v d := by
  cases d <;> cases c <;> first | (cases h; done) | skip
  · exact ⟨.non, pe_non, fun _ _ => .non⟩
  · cases of_decide_eq_true h; exact ⟨.bl _, pe_bl, fun _ _ => .bl _⟩
  · cases of_decide_eq_true h; exact ⟨.int _, pe_int, fun _ _ => .int _⟩
  · cases of_decide_eq_true h; exact ⟨.str _, pe_str, fun _ _ => .str _⟩
theorem op_of {X : Cx} (o : Bop) : OpR X (binaryOp (opOf o)) (rB X.K o) := by
  cases o
  · exact op_add3
  · exact op_sub3
  · exact op_mul3
  · exact op_fdiv3
  · exact op_mod3
theorem cop_of {X : Cx} (hu : X.A.units + 260 < cLine) (o : Cop) : OpR X (compareOp (cmpOf o)) (rC X.K o) := by
  cases o
  · exact op_eq3 hu
  · exact op_ne3 hu
  · exact op_lt3 hu
  · exact op_le3
  · exact op_gt3
  · exact op_ge3
  · exact op_is3
  · exact op_isn3
  · exact op_in3 hu
  · exact op_nin3 hu
theorem marks_of {op : CmpOp} {e : Expr} (h : noSet e = true) : behindInMarks op e = false := by
  cases e <;> first | rfl | (cases h)
theorem folded_of {e : Expr} {env : Env} (h : noSet e = true) : ∀ x, foldedSetIterable e env x = pure x := by
  cases e <;> first | (intro _; rfl) | (cases h)
theorem plainIx_of {e : Expr} (h : noSlice e = true) : PlainIx e := by
  cases e <;> first | (intro _ _; rfl) | (cases h)
theorem mem_of {x : Str} {l : List Str} (h : l.contains x = true) : x ∈ l := by simpa using h

section
variable {k : Ck} {X : Cx} {E : XK} {cl : CallF} {g : Str → Option D} {lv : Nat}
theorem pt_ifExp {c a b : Expr} {tc ta tb : TT} {pos : Pos} (hc : PT X c tc) (ha : PT X a ta) (hb : PT X b tb) : PT X (.IfExp c a b pos) (fun σ H Q => tc σ H fun q H1 => if q = true then ta σ H1 Q else tb σ H1 Q) := by
  refine ⟨fun pins s σ H Q I h => ?_⟩
  show wpAny _ _ (do if ← isTrue c X.env (eval c X.env) then isTrue a X.env (eval a X.env) else isTrue b X.env (eval b X.env)) _ _ s
  refine wpAny_bind (thn (hc.run pins s σ H _ I h) fun d s1 ⟨H1, I1, q1⟩ => ?_)
  cases d with
  | true => exact ha.run pins s1 σ H1 Q I1 q1
  | false => exact hb.run pins s1 σ H1 Q I1 q1
theorem t_ite {c a b : Expr} {cc ca cb : Ex} {pos : Pos} (hc : PT X c (tT X.K E cl g cc)) (ha : PT X a (tT X.K E cl g ca)) (hb : PT X b (tT X.K E cl g cb)) : PT X (.IfExp c a b pos) (tT X.K E cl g (.ite cc ca cb)) :=
  (pt_ifExp hc ha hb).imp fun σ H Q ⟨ρ, S, m, hE, hS, h⟩ => by
    have h' : PostB X.K E (((ev cl g cc ρ S).bind asB).bind fun x S1 => (if x = true then ev cl g ca ρ S1 else ev cl g cb ρ S1).bind asB) m H Q := by
      simp only [ev] at h
      cases q : (ev cl g cc ρ S).bind asB with
      | bad => rw [q] at h; exact h
      | exn x S1 => rw [q] at h; exact h
      | ok x S1 => rw [q] at h; exact h
    refine ⟨ρ, S, m, hE, hS, (asB_tst h').mono fun q H1 ⟨S1, m1, st1, hS1, h1⟩ => ?_⟩
    cases q with
    | true => exact ⟨ρ, S1, m1, hE.stp st1 hS.mut, hS1, h1⟩
    | false => exact ⟨ρ, S1, m1, hE.stp st1 hS.mut, hS1, h1⟩

theorem CtxE.blk (h : CtxE k X E cl g lv) (s : Shared) (H : Hp) (scope : Scope) (cenv : Env) (fp : List Addr) : CtxE k (X.blk s H scope cenv fp) EN cl g lv :=
  ⟨h.N, h.calm, h.nd, h.room, h.units, fun f hf => ⟨(h.fns f hf).ex⟩, h.cons, h.bis, Tk.none, h.xcs, h.xms⟩
theorem nm_of (hN : X.N = k.N) {fnx : Str → Bool} (hf : ∀ x, fnx x = true → X.fn x = true) {i : Nat} {x : Str} (h : nmB k X.env.scope fnx i x = true) : Nm X i x := by
  unfold nmB at h
  rw [Bool.and_eq_true] at h
  obtain ⟨h1, h2⟩ := h
  refine ⟨by rw [hN]; exact of_decide_eq_true h1, ?_, ?_⟩
  · split at h2
    · next e => exact .inl e
    · next e => exact .inr e
    · cases h2
  · split at h2
    · next e => exact .inr e
    · exact .inl (hf x h2)
    · cases h2
theorem nms_of (hN : X.N = k.N) {fnx : Str → Bool} (hf : ∀ x, fnx x = true → X.fn x = true) : ∀ {is : List Nat} {es : List Expr}, isNms k X.env.scope fnx is es = true → NmAll X is es
  | [], [], _ => .nil
  | [], _ :: _, h => by simp [isNms] at h
  | i :: is, [], h => by simp [isNms] at h
  | i :: is, e :: es, h => by
    cases e <;> first | (simp [isNms] at h; done) | skip
    simp only [isNms, Bool.and_eq_true] at h
    exact .cons (nm_of hN hf h.1) (nms_of hN hf h.2)
theorem own_snd {vs : List Nat} : (ownOf k vs).map (·.2) = vs := by
  unfold ownOf
  rw [List.map_map]
  exact List.map_id vs
def tgOf (K : PySem.W.Frag) (ts : List Nat) (tup : Bool) : TG := match tup with
  | false => gName (ts.headD 0)
  | true => gTup K ts.length (gNames ts)
/-- the target of a for or a comprehension -/
theorem tg_of (hc : X.calm = true) (hd : X.N.Nodup) (hN : X.N = k.N) {fnx : Str → Bool} (hf : ∀ x, fnx x = true → X.fn x = true) {ts : List Nat} {tup : Bool} {tg : Expr} (h : isTg k X.env.scope fnx ts tup tg = true) :
    PG X tg (tgOf X.K ts tup) ∧ GOk X.K ts tup (tgOf X.K ts tup) := by
  cases tup with
  | false =>
    cases tg <;> first | (simp [isTg] at h; done) | skip
    match ts, h with
    | [], h => simp [isTg] at h
    | [i], h => exact ⟨pg_nm hd (nm_of hN hf h), gok_one⟩
    | _ :: _ :: _, h => simp [isTg] at h
  | true =>
    cases tg <;> first | (simp [isTg] at h; done) | skip
    exact ⟨pg_tups hc hd (nms_of hN hf h), gok_tup⟩
end
/-- what the parts of a comprehension give -/
abbrev SE (k : Ck) (cl : CallF) (g : Str → Option D) (lv : Nat) (c : Ex) : Prop := ∀ (X : Cx) (E : XK) (sc : Scope) (e : Expr), CtxE k X E cl g lv → X.env.scope = sc → isE k c sc e = true → Snd X E cl g c e
abbrev SEs (k : Ck) (cl : CallF) (g : Str → Option D) (lv : Nat) (cs : List Ex) : Prop := ∀ (X : Cx) (E : XK) (sc : Scope) (es : List Expr), CtxE k X E cl g lv → X.env.scope = sc → isEs k cs sc es = true → PA X es (tA X.K E cl g cs) ∧ (∀ e ∈ es, noStar e = true) ∧ ∀ (c : Ex) (e : Expr), cs = [c] → es = [e] → PT X e (tT X.K E cl g c) ∧ PE X e (tE X.K E cl g c)
section
variable {k : Ck} {X : Cx} {E : XK} {cl : CallF} {g : Str → Option D} {lv : Nat}
theorem conds_of {cs : List Ex} {ifs : List Expr} {sc : Scope} (ih : SEs k cl g lv cs) (C : CtxE k X E cl g lv) (hs : X.env.scope = sc) (h : isEs k cs sc ifs = true) (hl : ifs.length ≤ 1) : PTs X ifs (tC3 X.K E cl g cs) := by
  have q := (ih X E sc ifs C hs h).2.2
  match cs, ifs, h, hl with
  | [], [], _, _ => exact c_nil
  | [c], [e], _, _ => exact c_one (q c e rfl rfl).1
  | [], _ :: _, h, _ => simp [isEs] at h
  | _ :: _, [], h, _ => simp [isEs] at h
  | _ :: _ :: _, [e], h, _ => simp [isEs] at h
  | _, _ :: _ :: _, _, hl => simp at hl
structure LcH (k : Ck) (X : Cx) (E : XK) (cl : CallF) (g : Str → Option D) (vs ts : List Nat) (tup : Bool) (it : Ex) (cs : List Ex) (c : Ex) (elt tg iter : Expr) (ifs : List Expr) (scope : Scope) : Prop where
  hi : PE X iter (tE X.K E cl g it)
  ok : BlkOk X.N X.env.scope scope (ownOf k vs)
  hts : ∀ t ∈ ts, t ∈ (ownOf k vs).map (·.2)
  ex : ∃ gt : TG, (∀ (s : Shared) (H : Hp) (C : Addr) (cl' : List (Str × Addr)) (fp : List Addr), PG (X.blk s H scope (compEnvC scope cl' C X.env) fp) tg gt) ∧ GOk X.K ts tup gt
  ht : ∀ (s : Shared) (H : Hp) (C : Addr) (cl' : List (Str × Addr)) (fp : List Addr), PTs (X.blk s H scope (compEnvC scope cl' C X.env) fp) ifs (tC3 X.K EN cl g cs)
  he : ∀ (s : Shared) (H : Hp) (C : Addr) (cl' : List (Str × Addr)) (fp : List Addr), PE (X.blk s H scope (compEnvC scope cl' C X.env) fp) elt (tE X.K EN cl g c)
  hs : ∀ x, foldedSetIterable iter X.env x = pure x
theorem lc_hyp {vs ts : List Nat} {tup : Bool} {it c : Ex} {cs : List Ex} {sc : Scope} {e : Expr} (C : CtxE k X E cl g lv) (hsc : X.env.scope = sc) (h : isE k (.lc vs ts tup it cs c) sc e = true) (h1 : SE k cl g lv it) (h2 : SEs k cl g lv cs) (h3 : SE k cl g lv c) :
    ∃ elt tg iter ifs scope pos, e = .ListComp elt [⟨tg, iter, ifs, 0⟩] scope pos ∧ LcH k X E cl g vs ts tup it cs c elt tg iter ifs scope := by
  simp only [isE] at h
  split at h
  case h_2 => cases h
  next elt tg iter ifs scope pos =>
  simp only [Bool.and_eq_true] at h
  obtain ⟨⟨⟨⟨⟨⟨⟨a1, a2⟩, a3⟩, a4⟩, a5⟩, a6⟩, a7⟩, a8⟩ := h
  subst hsc
  refine ⟨elt, tg, iter, ifs, scope, pos, rfl, (h1 X E _ iter C rfl a1).pe, by rw [C.N]; exact blkOk_by a3, fun t ht => ?_, ⟨tgOf X.K ts tup, fun s H D cl' fp => ?_, ?_⟩, fun s H D cl' fp => ?_, fun s H D cl' fp => ?_, folded_of a2⟩
  · rw [own_snd]
    rw [List.all_eq_true] at a4
    simpa using a4 t ht
  · exact (tg_of (X := X.blk s H scope (compEnvC scope cl' D X.env) fp) C.calm C.nd C.N (fnx := celB scope) (fun x hx => hx) a5).1
  · cases tup with
    | false =>
      cases tg <;> first | (simp [isTg] at a5; done) | skip
      match ts, a5 with
      | [], h => simp [isTg] at h
      | [i], h => exact gok_one
      | _ :: _ :: _, h => simp [isTg] at h
    | true => exact gok_tup
  · exact conds_of h2 (C.blk s H scope _ fp) rfl a6 (of_decide_eq_true a7)
  · exact (h3 _ _ _ elt (C.blk s H scope (compEnvC scope cl' D X.env) fp) rfl a8).pe
structure LrH (k : Ck) (X : Cx) (E : XK) (cl : CallF) (g : Str → Option D) (vs : List Nat) (t : Nat) (lo : List Ex) (hi : Ex) (cs : List Ex) (c : Ex) (elt tg iter : Expr) (ifs : List Expr) (scope : Scope) : Prop where
  hi : PI X tg iter (iR X.K E cl g lo hi)
  ok : BlkOk X.N X.env.scope scope (ownOf k vs)
  hts : t ∈ (ownOf k vs).map (·.2)
  hg : ∀ (s : Shared) (H : Hp) (C : Addr) (cl' : List (Str × Addr)) (fp : List Addr), PG (X.blk s H scope (compEnvC scope cl' C X.env) fp) tg (gName t)
  ht : ∀ (s : Shared) (H : Hp) (C : Addr) (cl' : List (Str × Addr)) (fp : List Addr), PTs (X.blk s H scope (compEnvC scope cl' C X.env) fp) ifs (tC3 X.K EN cl g cs)
  he : ∀ (s : Shared) (H : Hp) (C : Addr) (cl' : List (Str × Addr)) (fp : List Addr), PE (X.blk s H scope (compEnvC scope cl' C X.env) fp) elt (tE X.K EN cl g c)
  hs : ∀ x, foldedSetIterable iter X.env x = pure x
/-- range(..) as it is walked -/
theorem rng_hyp {lo : List Ex} {hi : Ex} {sc : Scope} {as : List Expr} {r : Str} {p pos : Pos} {tg : Expr} (C : CtxE k X E cl g lv) (hsc : X.env.scope = sc) (h1 : SEs k cl g lv lo) (h2 : SE k cl g lv hi) (hr : r = "range") (hg : glB sc r = true) (hb : k.bis.contains r = true)
    (h : (match as with
          | [a] => isEs k lo sc [] && isE k hi sc a
          | [a, b] => isEs k lo sc [a] && isE k hi sc b
          | _ => false) = true) : PI X tg (.Call (.Name r p) as [] pos) (iR X.K E cl g lo hi) := by
  subst hsc hr
  have hm := C.bis _ (mem_of hb)
  split at h
  · next a =>
    rw [Bool.and_eq_true] at h
    match lo, h.1 with
    | [], _ => exact pi_r1 (gl_of hg) hm (h2 X E _ a C rfl h.2).pe (h2 X E _ a C rfl h.2).ns
    | _ :: _, h => simp [isEs] at h
  · next a b =>
    rw [Bool.and_eq_true] at h
    match lo, h1, h.1 with
    | [], _, h => simp [isEs] at h
    | [c], h1, h' =>
      have q := h1 X E _ [a] C rfl h'
      exact pi_r2 (gl_of hg) hm (q.2.2 c a rfl rfl).2 (h2 X E _ b C rfl h.2).pe (q.2.1 a List.mem_cons_self) (h2 X E _ b C rfl h.2).ns
    | _ :: _ :: _, _, h => simp [isEs] at h
  · cases h
theorem lr_hyp {vs : List Nat} {t : Nat} {lo : List Ex} {hi c : Ex} {cs : List Ex} {sc : Scope} {e : Expr} (C : CtxE k X E cl g lv) (hsc : X.env.scope = sc) (h : isE k (.lcr vs t lo hi cs c) sc e = true) (h0 : SEs k cl g lv lo) (h1 : SE k cl g lv hi) (h2 : SEs k cl g lv cs) (h3 : SE k cl g lv c) :
    ∃ elt tg iter ifs scope pos, e = .ListComp elt [⟨tg, iter, ifs, 0⟩] scope pos ∧ LrH k X E cl g vs t lo hi cs c elt tg iter ifs scope := by
  simp only [isE] at h
  split at h
  case h_2 => cases h
  next elt tx tp r rp as pp ifs scope pos =>
  simp only [Bool.and_eq_true] at h
  obtain ⟨⟨⟨⟨⟨⟨⟨⟨⟨a1, a2⟩, a3⟩, a4⟩, a5⟩, a6⟩, a7⟩, a8⟩, a9⟩, a10⟩ := h
  subst hsc
  refine ⟨elt, _, _, ifs, scope, pos, rfl, rng_hyp C rfl h0 h1 (of_decide_eq_true a1) a2 a3 a4, by rw [C.N]; exact blkOk_by a5, ?_, fun s H D cl' fp => ?_, fun s H D cl' fp => ?_, fun s H D cl' fp => ?_, folded_of rfl⟩
  · rw [own_snd]; simpa using a6
  · exact pg_nm (X := X.blk s H scope (compEnvC scope cl' D X.env) fp) C.nd (nm_of (X := X.blk s H scope (compEnvC scope cl' D X.env) fp) C.N (fnx := celB scope) (fun x hx => hx) a7)
  · exact conds_of h2 (C.blk s H scope _ fp) rfl a8 (of_decide_eq_true a9)
  · exact (h3 _ _ _ elt (C.blk s H scope (compEnvC scope cl' D X.env) fp) rfl a10).pe
structure L2H (k : Ck) (X : Cx) (E : XK) (cl : CallF) (g : Str → Option D) (vs ts : List Nat) (tup : Bool) (it : Ex) (ts1 : List Nat) (tup1 : Bool) (it1 c : Ex) (elt tg iter tg1 iter1 : Expr) (scope : Scope) : Prop where
  hi : PE X iter (tE X.K E cl g it)
  ok : BlkOk X.N X.env.scope scope (ownOf k vs)
  hts : ∀ t ∈ ts, t ∈ (ownOf k vs).map (·.2)
  hts1 : ∀ t ∈ ts1, t ∈ (ownOf k vs).map (·.2)
  ex : ∃ gt : TG, (∀ (s : Shared) (H : Hp) (C : Addr) (cl' : List (Str × Addr)) (fp : List Addr), PG (X.blk s H scope (compEnvC scope cl' C X.env) fp) tg gt) ∧ GOk X.K ts tup gt
  ex1 : ∃ gt : TG, (∀ (s : Shared) (H : Hp) (C : Addr) (cl' : List (Str × Addr)) (fp : List Addr), PG (X.blk s H scope (compEnvC scope cl' C X.env) fp) tg1 gt) ∧ GOk X.K ts1 tup1 gt
  hi1 : ∀ (s : Shared) (H : Hp) (C : Addr) (cl' : List (Str × Addr)) (fp : List Addr), PE (X.blk s H scope (compEnvC scope cl' C X.env) fp) iter1 (tE X.K EN cl g it1)
  he : ∀ (s : Shared) (H : Hp) (C : Addr) (cl' : List (Str × Addr)) (fp : List Addr), PE (X.blk s H scope (compEnvC scope cl' C X.env) fp) elt (tE X.K EN cl g c)
  hs : ∀ x, foldedSetIterable iter X.env x = pure x
  hs1 : ∀ env x, foldedSetIterable iter1 env x = pure x
theorem tgs_ok {ts : List Nat} {tup : Bool} {tg : Expr} {scope : Scope} {sc : Scope} (C : CtxE k X E cl g lv) (hsc : X.env.scope = sc) (h : isTg k (relS scope sc) (celB scope) ts tup tg = true) :
    ∃ gt : TG, (∀ (s : Shared) (H : Hp) (C : Addr) (cl' : List (Str × Addr)) (fp : List Addr), PG (X.blk s H scope (compEnvC scope cl' C X.env) fp) tg gt) ∧ GOk X.K ts tup gt := by
  subst hsc
  refine ⟨tgOf X.K ts tup, fun s H D cl' fp => (tg_of (X := X.blk s H scope (compEnvC scope cl' D X.env) fp) C.calm C.nd C.N (fnx := celB scope) (fun x hx => hx) h).1, ?_⟩
  cases tup with
  | false =>
    cases tg <;> first | (simp [isTg] at h; done) | skip
    match ts, h with
    | [], h => simp [isTg] at h
    | [i], h => exact gok_one
    | _ :: _ :: _, h => simp [isTg] at h
  | true => exact gok_tup
theorem l2_hyp {vs ts ts1 : List Nat} {tup tup1 : Bool} {it it1 c : Ex} {sc : Scope} {e : Expr} (C : CtxE k X E cl g lv) (hsc : X.env.scope = sc) (h : isE k (.lc2 vs ts tup it ts1 tup1 it1 c) sc e = true) (h1 : SE k cl g lv it) (h2 : SE k cl g lv it1) (h3 : SE k cl g lv c) :
    ∃ elt tg iter tg1 iter1 scope pos, e = .ListComp elt [⟨tg, iter, [], 0⟩, ⟨tg1, iter1, [], 0⟩] scope pos ∧ L2H k X E cl g vs ts tup it ts1 tup1 it1 c elt tg iter tg1 iter1 scope := by
  simp only [isE] at h
  split at h
  case h_2 => cases h
  next elt tg iter tg1 iter1 scope pos =>
  simp only [Bool.and_eq_true] at h
  obtain ⟨⟨⟨⟨⟨⟨⟨⟨⟨a1, a2⟩, a3⟩, a4⟩, a5⟩, a6⟩, a7⟩, a8⟩, a9⟩, a10⟩ := h
  subst hsc
  refine ⟨elt, tg, iter, tg1, iter1, scope, pos, rfl, (h1 X E _ iter C rfl a1).pe, by rw [C.N]; exact blkOk_by a3, fun t ht => ?_, fun t ht => ?_, tgs_ok C rfl a5, tgs_ok C rfl a9, fun s H D cl' fp => ?_, fun s H D cl' fp => ?_, folded_of a2, fun env => folded_of a7⟩
  · rw [own_snd]
    rw [List.all_eq_true] at a4
    simpa using a4 t ht
  · rw [own_snd]
    rw [List.all_eq_true] at a8
    simpa using a8 t ht
  · exact (h2 _ _ _ iter1 (C.blk s H scope (compEnvC scope cl' D X.env) fp) rfl a6).pe
  · exact (h3 _ _ _ elt (C.blk s H scope (compEnvC scope cl' D X.env) fp) rfl a10).pe
end
end Pl

set_option Elab.async false
set_option linter.all false
set_option autoImplicit false
set_option maxRecDepth 100000
/-! PB3: soundness of the checker for expressions. -/
namespace Pl
open PySem PySem.Spec PyProof.Rows L2

theorem boot_bi : ∀ f : Bi, (∃ id : String, bootBuiltins (biNm f) = some (.builtin id) ∧ f ≠ .int ∧ f ≠ .list ∧ f ≠ .tuple) ∨ (∃ id : String, bootBuiltins (biNm f) = some (.type id) ∧ (f = .int ∨ f = .list ∨ f = .tuple)) := by
  intro f
  cases f
  · exact .inl ⟨"len", PySem.boot_len, by decide, by decide, by decide⟩
  · exact .inr ⟨"int", PyProof.Rows.boot_int, .inl rfl⟩
  · exact .inl ⟨"abs", PyProof.Rows.boot_abs, by decide, by decide, by decide⟩
  · exact .inl ⟨"max", PyProof.Rows.boot_max, by decide, by decide, by decide⟩
  · exact .inl ⟨"min", PyProof.Rows.boot_min, by decide, by decide, by decide⟩
  · exact .inr ⟨"list", PyProof.Rows.boot_list, .inr (.inl rfl)⟩
  · exact .inr ⟨"tuple", PyProof.Rows.boot_tuple, .inr (.inr rfl)⟩
  · exact .inl ⟨"all", PyProof.Rows.boot_all, by decide, by decide, by decide⟩
  · exact .inl ⟨"any", PyProof.Rows.boot_any, by decide, by decide, by decide⟩
  · exact .inl ⟨"sorted", PyProof.Rows.boot_sorted, by decide, by decide, by decide⟩
  · exact .inl ⟨"sum", PyProof.Rows.boot_sum, by decide, by decide, by decide⟩
theorem biNm_ok : ∀ f : Bi, biNm f ≠ ("__name__" : Str) ∧ (biNm f == ("__debug__" : Str)) = false := by
  intro f
  cases f <;> exact ⟨by decide, by decide⟩
theorem tyNm_ok : ∀ t : Ty, tyNm t ≠ ("__name__" : Str) ∧ (tyNm t == ("__debug__" : Str)) = false := by
  intro f
  cases f <;> exact ⟨by decide, by decide⟩
theorem boot_ty : ∀ t : Ty, t ≠ .none → bootBuiltins (tyNm t) = some (.type t.nm) := by
  intro t h
  cases t
  · exact absurd rfl h
  · exact PyProof.Rows.boot_bool
  · exact PyProof.Rows.boot_int
  · exact PyProof.Rows.boot_str
  · exact PyProof.Rows.boot_list
  · exact PyProof.Rows.boot_tuple
  · exact PyProof.Rows.boot_dict

section
variable {k : Ck} {X : Cx} {E : XK} {cl : CallF} {g : Str → Option D} {lv : Nat}
theorem e_biAny {f : Bi} {a : Expr} {es : List Expr} {ces : List Ex} {p pos : Pos} (C : CtxE k X E cl g lv) (hg : Gl X (biNm f)) (hm : X.mg (biNm f) = none) (ha : PA X (a :: es) (tA X.K E cl g ces)) (hs : ∀ e ∈ a :: es, noStar e = true) :
    PE X (.Call (.Name (biNm f) p) (a :: es) [] pos) (tE X.K E cl g (.bi f ces)) := by
  obtain ⟨n1, n2⟩ := biNm_ok f
  cases f
  · exact e_biB cr_len3 hg hm PySem.boot_len ha n1 n2 hs
  · exact e_biT cr_int3 hg hm PyProof.Rows.boot_int ha n1 n2 hs
  · exact e_biB cr_abs3 hg hm PyProof.Rows.boot_abs ha n1 n2 hs
  · exact e_biB (cr_max3 C.calm) hg hm PyProof.Rows.boot_max ha n1 n2 hs
  · exact e_biB (cr_min3 C.calm) hg hm PyProof.Rows.boot_min ha n1 n2 hs
  · exact e_biT cr_list3 hg hm PyProof.Rows.boot_list ha n1 n2 hs
  · exact e_biT cr_tuple3 hg hm PyProof.Rows.boot_tuple ha n1 n2 hs
  · exact e_biB (cr_all3 C.calm) hg hm PyProof.Rows.boot_all ha n1 n2 hs
  · exact e_biB (cr_any3 C.calm) hg hm PyProof.Rows.boot_any ha n1 n2 hs
  · exact e_biB (cr_sorted3 C.units) hg hm PyProof.Rows.boot_sorted ha n1 n2 hs
  · exact e_biB (cr_sum3 C.calm) hg hm PyProof.Rows.boot_sum ha n1 n2 hs
theorem e_metAny {f : Me} {x : Str} {p apos pos : Pos} {c : Ex} {es : List Expr} {ces : List Ex} (C : CtxE k X E cl g lv) (hc : PE X (.Name x p) (tE X.K E cl g c)) (ha : PA X es (tA X.K E cl g ces)) (hs : ∀ e ∈ es, noStar e = true) (hl : es.length < 30) (hline : (apos.endLine == pos.line) = true)
    (hlen : es = [] → ces = []) : PE X (.Call (.Attribute (.Name x p) (meNm f) apos) es [] pos) (tE X.K E cl g (.met f c ces)) := by
  cases es with
  | nil =>
    rw [hlen rfl]
    cases f
    · exact e_met0 PySem.F.slot_list_append PySem.F.type_list_append mt_append3 hc rfl hline
    · exact e_met0 PySem.F.slot_list_extend PySem.F.type_list_extend mt_extend3 hc rfl hline
    · exact e_met0 PySem.F.slot_list_remove PySem.F.type_list_remove (mt_remove3 C.units) hc rfl hline
    · exact e_met0 PySem.F.slot_list_pop PySem.F.type_list_pop mt_pop3 hc rfl hline
  | cons a es =>
    cases f
    · exact e_met PySem.F.slot_list_append PySem.F.type_list_append mt_append3 hc ha rfl hs hl hline
    · exact e_met PySem.F.slot_list_extend PySem.F.type_list_extend mt_extend3 hc ha rfl hs hl hline
    · exact e_met PySem.F.slot_list_remove PySem.F.type_list_remove (mt_remove3 C.units) hc ha rfl hs hl hline
    · exact e_met PySem.F.slot_list_pop PySem.F.type_list_pop mt_pop3 hc ha rfl hs hl hline
end
/-- what is given up is no bool -/
theorem frz_tst {a : Ex} {ρ : Rho} {S : Store} {m : Map} {H : Hp} {K : PySem.W.Frag} {E : XK} {cl : CallF} {g : Str → Option D} {Q : Bool → Hp → Prop} (w : PostB K E ((ev cl g (.frz a) ρ S).bind asB) m H Q) : PostB K E ((ev cl g a ρ S).bind asB) m H Q := by
  simp only [ev] at w
  cases q : ev cl g a ρ S with
  | bad => rw [q] at w; exact w
  | exn x S1 => rw [q] at w; exact w
  | ok x S1 =>
    rw [q] at w
    cases x with
    | p d => exact w.elim
    | s d => exact w.elim
    | r n =>
      cases q2 : S1[n]? with
      | none => simp only [Res.bind, q2] at w; exact w.elim
      | some c =>
        cases c <;> (simp only [Res.bind, q2] at w; exact w.elim)
theorem isEs_nil {k : Ck} {cs : List Ex} {sc : Scope} (h : isEs k cs sc [] = true) : cs = [] := by
  cases cs with
  | nil => rfl
  | cons _ _ => simp [isEs] at h

section
variable (k : Ck) (cl : CallF) (g : Str → Option D) (lv : Nat)
mutual
theorem sE : ∀ c : Ex, SE k cl g lv c
  | .var i, X, E, sc, e, C, hsc, h => by
    simp only [isE] at h
    split at h
    case h_2 => cases h
    simp only [Bool.and_eq_true] at h
    obtain ⟨⟨h1, h2⟩, h3⟩ := h
    subst hsc
    exact .plain (e_var (by rw [C.N]; exact of_decide_eq_true h1) (vis_of h2) (ok_of h3).1 (ok_of h3).2.1) (fun _ => rfl) (fun _ _ _ q => by cases q) rfl
  | .glob y, X, E, sc, e, C, hsc, h => by
    simp only [isE] at h
    split at h
    case h_2 => cases h
    simp only [Bool.and_eq_true] at h
    obtain ⟨⟨⟨h1, h2⟩, h3⟩, h4⟩ := h
    subst hsc
    cases of_decide_eq_true h1
    obtain ⟨d, v, u, e1, e2, r1, r2⟩ := C.cons _ (mem_of h3)
    exact .plain (e_glob (pe_glob (gl_of h2) e2 r1 (ok_of h4).1) e1 r2) (fun _ => rfl) (fun _ _ _ q => by cases q) rfl
  | .con d, X, E, sc, e, C, hsc, h => by
    simp only [isE] at h
    split at h
    case h_2 => cases h
    obtain ⟨v, h1, h2⟩ := con_rp (K := X.K) h
    exact .plain (e_con h1 h2) (fun _ => rfl) (fun _ _ _ q => by cases q) rfl
  | .bin o a b, X, E, sc, e, C, hsc, h => by
    simp only [isE] at h
    split at h
    case h_2 => cases h
    simp only [Bool.and_eq_true] at h
    obtain ⟨⟨h1, h2⟩, h3⟩ := h
    have e1 := of_decide_eq_true h1
    subst e1
    exact .plain (e_bin (op_of o) (sE a X E sc _ C hsc h2).pe (sE b X E sc _ C hsc h3).pe) (fun _ => rfl) (fun _ _ _ q => by cases q) rfl
  | .neg a, X, E, sc, e, C, hsc, h => by
    simp only [isE] at h
    split at h
    case h_2 => cases h
    exact .plain (e_neg (sE a X E sc _ C hsc h).pe) (fun _ => rfl) (fun _ _ _ q => by cases q) rfl
  | .cmp o a b, X, E, sc, e, C, hsc, h => by
    simp only [isE] at h
    split at h
    case h_2 => cases h
    simp only [Bool.and_eq_true] at h
    obtain ⟨⟨⟨h1, h2⟩, h3⟩, h4⟩ := h
    have e1 := of_decide_eq_true h1
    subst e1
    have ha := (sE a X E sc _ C hsc h2).pe
    have hb := (sE b X E sc _ C hsc h3).pe
    exact ⟨e_cmp (cop_of C.units o) ha hb (marks_of h4), t_cmp (cop_of C.units o) ha hb (marks_of h4), fun _ _ _ q => (by cases q), rfl⟩
  | .cmp2 o p a b c, X, E, sc, e, C, hsc, h => by
    simp only [isE] at h
    split at h
    case h_2 => cases h
    simp only [Bool.and_eq_true] at h
    obtain ⟨⟨⟨⟨⟨h1, h2⟩, h3⟩, h4⟩, h5⟩, h6⟩ := h
    have e1 := of_decide_eq_true h1
    have e2 := of_decide_eq_true h2
    subst e1 e2
    have ha := (sE a X E sc _ C hsc h3).pe
    have hb := (sE b X E sc _ C hsc h4).pe
    have hc := (sE c X E sc _ C hsc h5).pe
    exact ⟨e_chain (cop_of C.units o) (cop_of C.units p) ha hb hc (marks_of h6), t_chain (cop_of C.units o) (cop_of C.units p) ha hb hc (marks_of h6), fun _ _ _ q => (by cases q), rfl⟩
  | .and a b, X, E, sc, e, C, hsc, h => by
    simp only [isE] at h
    split at h
    case h_2 => cases h
    next x y r pos =>
    rw [Bool.and_eq_true] at h
    obtain ⟨h1, h2⟩ := h
    have ha := sE a X E sc _ C hsc h1
    have key : PE X (.BoolOp .And (y :: r) pos) (tE X.K E cl g b) ∧ PW X (.BoolOp .And (y :: r) pos) (tT X.K E cl g b) := by
      split at h2
      · have hb := sE b X E sc _ C hsc h2
        exact ⟨pe_one hb.pe, pw_and1 hb.pt⟩
      · have hb := sE b X E sc _ C hsc h2
        exact ⟨hb.pe, hb.pw _ _ _ rfl⟩
    have w := w_and (pos := pos) ha.pt key.2
    exact ⟨e_and ha.pe key.1, w.pt, fun op vs ps q => by cases q; exact w, rfl⟩
  | .or a b, X, E, sc, e, C, hsc, h => by
    simp only [isE] at h
    split at h
    case h_2 => cases h
    next x y r pos =>
    rw [Bool.and_eq_true] at h
    obtain ⟨h1, h2⟩ := h
    have ha := sE a X E sc _ C hsc h1
    have key : PE X (.BoolOp .Or (y :: r) pos) (tE X.K E cl g b) ∧ PW X (.BoolOp .Or (y :: r) pos) (tT X.K E cl g b) := by
      split at h2
      · have hb := sE b X E sc _ C hsc h2
        exact ⟨pe_one hb.pe, pw_or1 hb.pt⟩
      · have hb := sE b X E sc _ C hsc h2
        exact ⟨hb.pe, hb.pw _ _ _ rfl⟩
    have w := w_or (pos := pos) ha.pt key.2
    exact ⟨e_or ha.pe key.1, w.pt, fun op vs ps q => by cases q; exact w, rfl⟩
  | .not a, X, E, sc, e, C, hsc, h => by
    simp only [isE] at h
    split at h
    case h_2 => cases h
    have ha := sE a X E sc _ C hsc h
    exact ⟨e_not ha.pe, t_not ha.pt, fun _ _ _ q => (by cases q), rfl⟩
  | .ite c a b, X, E, sc, e, C, hsc, h => by
    simp only [isE] at h
    split at h
    case h_2 => cases h
    simp only [Bool.and_eq_true] at h
    obtain ⟨⟨h1, h2⟩, h3⟩ := h
    have hc := sE c X E sc _ C hsc h1
    have ha := sE a X E sc _ C hsc h2
    have hb := sE b X E sc _ C hsc h3
    exact ⟨e_ite hc.pt ha.pe hb.pe, t_ite hc.pt ha.pt hb.pt, fun _ _ _ q => (by cases q), rfl⟩
  | .call f es, X, E, sc, e, C, hsc, h => by
    simp only [isE] at h
    split at h
    case h_2 => cases h
    next x p as pos =>
    simp only [Bool.and_eq_true] at h
    obtain ⟨⟨⟨⟨h1, h2⟩, h3⟩, h4⟩, h5⟩ := h
    have e1 := of_decide_eq_true h1
    subst e1
    obtain ⟨q1, q2, q3⟩ := sEs es X E sc as C hsc h5
    subst hsc
    refine .plain ?_ (fun _ => rfl) (fun _ _ _ q => by cases q) rfl
    cases as with
    | nil =>
      rw [isEs_nil h5]
      exact e_call0 C.tk (C.fns _ (mem_of h3)) C.room (gl_of h2) (ok_of h4).1
    | cons a as => exact e_call C.tk (C.fns _ (mem_of h3)) C.room (gl_of h2) q1 (ok_of h4).1 (star_cons (q2 a List.mem_cons_self)) (star_any fun e he => q2 e (List.mem_cons_of_mem _ he))
  | .bi f es, X, E, sc, e, C, hsc, h => by
    simp only [isE] at h
    split at h
    case h_2 => cases h
    simp only [Bool.and_eq_true] at h
    obtain ⟨⟨⟨h1, h2⟩, h3⟩, h4⟩ := h
    have e1 := of_decide_eq_true h1
    subst e1
    obtain ⟨q1, q2, q3⟩ := sEs es X E sc _ C hsc h4
    subst hsc
    exact .plain (e_biAny C (gl_of h2) (C.bis _ (mem_of h3)) q1 q2) (fun _ => rfl) (fun _ _ _ q => by cases q) rfl
  | .sset c, X, E, sc, e, C, hsc, h => by
    simp only [isE] at h
    split at h
    case h_2 => cases h
    simp only [Bool.and_eq_true] at h
    obtain ⟨⟨⟨⟨⟨⟨h1, h2⟩, h3⟩, h4⟩, h5⟩, h6⟩, h7⟩ := h
    have e1 := of_decide_eq_true h1
    have e2 := of_decide_eq_true h2
    subst e1 e2
    have ha := sE c X E sc _ C hsc h7
    subst hsc
    exact .plain (e_sset C.calm C.units (gl_of h3) (C.bis _ (mem_of h5)) (gl_of h4) (C.bis _ (mem_of h6)) ha.pe ha.ns) (fun _ => rfl) (fun _ _ _ q => by cases q) rfl
  | .met m c es, X, E, sc, e, C, hsc, h => by
    simp only [isE] at h
    split at h
    case h_2 => cases h
    simp only [Bool.and_eq_true] at h
    obtain ⟨⟨⟨⟨h1, h2⟩, h3⟩, h4⟩, h5⟩ := h
    have e1 := of_decide_eq_true h1
    subst e1
    have hc := sE c X E sc _ C hsc h2
    obtain ⟨q1, q2, q3⟩ := sEs es X E sc _ C hsc h3
    exact .plain (e_metAny C hc.pe q1 q2 (of_decide_eq_true h4) h5 fun z => by rw [z] at h3; exact isEs_nil h3) (fun _ => rfl) (fun _ _ _ q => by cases q) rfl
  | .idx a b, X, E, sc, e, C, hsc, h => by
    simp only [isE] at h
    split at h
    case h_2 => cases h
    simp only [Bool.and_eq_true] at h
    obtain ⟨⟨h1, h2⟩, h3⟩ := h
    exact .plain (e_idx C.units (sE a X E sc _ C hsc h1).pe (sE b X E sc _ C hsc h2).pe (plainIx_of h3)) (fun _ => rfl) (fun _ _ _ q => by cases q) rfl
  | .slL a b, X, E, sc, e, C, hsc, h => by
    simp only [isE] at h
    split at h
    case h_2 => cases h
    rw [Bool.and_eq_true] at h
    exact .plain (e_slL (sE a X E sc _ C hsc h.1).pe (sE b X E sc _ C hsc h.2).pe) (fun _ => rfl) (fun _ _ _ q => by cases q) rfl
  | .slH a b, X, E, sc, e, C, hsc, h => by
    simp only [isE] at h
    split at h
    case h_2 => cases h
    rw [Bool.and_eq_true] at h
    exact .plain (e_slH (sE a X E sc _ C hsc h.1).pe (sE b X E sc _ C hsc h.2).pe) (fun _ => rfl) (fun _ _ _ q => by cases q) rfl
  | .slB a b c, X, E, sc, e, C, hsc, h => by
    simp only [isE] at h
    split at h
    case h_2 => cases h
    simp only [Bool.and_eq_true] at h
    exact .plain (e_slB (sE a X E sc _ C hsc h.1.1).pe (sE b X E sc _ C hsc h.1.2).pe (sE c X E sc _ C hsc h.2).pe) (fun _ => rfl) (fun _ _ _ q => by cases q) rfl
  | .rev a, X, E, sc, e, C, hsc, h => by
    simp only [isE] at h
    split at h
    case h_2 => cases h
    rw [Bool.and_eq_true] at h
    have e1 := of_decide_eq_true h.1
    subst e1
    exact .plain (e_rev (sE a X E sc _ C hsc h.2).pe) (fun _ => rfl) (fun _ _ _ q => by cases q) rfl
  | .tup es, X, E, sc, e, C, hsc, h => by
    simp only [isE] at h
    split at h
    case h_2 => cases h
    exact .plain (e_tup (sEs es X E sc _ C hsc h).1) (fun _ => rfl) (fun _ _ _ q => by cases q) rfl
  | .lst es, X, E, sc, e, C, hsc, h => by
    simp only [isE] at h
    split at h
    case h_2 => cases h
    exact .plain (e_lst (sEs es X E sc _ C hsc h).1) (fun _ => rfl) (fun _ _ _ q => by cases q) rfl
  | .mls es, X, E, sc, e, C, hsc, h => by
    simp only [isE] at h
    split at h
    case h_2 => cases h
    exact .plain (e_mls (sEs es X E sc _ C hsc h).1) (fun _ => rfl) (fun _ _ _ q => by cases q) rfl
  | .mli a, X, E, sc, e, C, hsc, h => by
    simp only [isE] at h
    split at h
    case h_2 => cases h
    simp only [Bool.and_eq_true] at h
    obtain ⟨⟨⟨h1, h2⟩, h3⟩, h4⟩ := h
    have e1 := of_decide_eq_true h1
    subst e1
    have ha := sE a X E sc _ C hsc h4
    subst hsc
    exact .plain (e_mli (gl_of h2) (C.bis _ (mem_of h3)) ha.pe ha.ns) (fun _ => rfl) (fun _ _ _ q => by cases q) rfl
  | .dic kvs, X, E, sc, e, C, hsc, h => by
    simp only [isE] at h
    split at h
    case h_2 => cases h
    rw [Bool.and_eq_true] at h
    exact .plain (e_dic h.1 (of_decide_eq_true h.2)) (fun _ => rfl) (fun _ _ _ q => by cases q) rfl
  | .isi c t, X, E, sc, e, C, hsc, h => by
    simp only [isE] at h
    split at h
    case h_2 => cases h
    simp only [Bool.and_eq_true] at h
    obtain ⟨⟨⟨⟨⟨⟨⟨h1, h2⟩, h3⟩, h4⟩, h5⟩, h6⟩, h7⟩, h8⟩ := h
    have e1 := of_decide_eq_true h1
    have e2 := of_decide_eq_true h2
    have e3 := of_decide_eq_true h3
    subst e1 e2
    have hc := sE c X E sc _ C hsc h8
    subst hsc
    exact .plain (e_isi e3 (gl_of h4) (C.bis _ (mem_of h6)) (gl_of h5) (C.bis _ (mem_of h7)) (boot_ty t e3) (tyNm_ok t).1 (tyNm_ok t).2 hc.pe hc.ns) (fun _ => rfl) (fun _ _ _ q => by cases q) rfl
  | .lc vs ts tup it cs c, X, E, sc, e, C, hsc, h => by
    obtain ⟨elt, tg, iter, ifs, scope, pos, rfl, L⟩ := lc_hyp C hsc h (sE it) (sEs cs) (sE c)
    obtain ⟨gt, hg, G⟩ := L.ex
    have q := (e_lc (pos := pos) C.calm C.nd L.hi L.ok L.hts hg G L.ht L.he L.hs).1
    rw [own_snd] at q
    exact .plain q (fun _ => rfl) (fun _ _ _ q => by cases q) rfl
  | .lcr vs t lo hi cs c, X, E, sc, e, C, hsc, h => by
    obtain ⟨elt, tg, iter, ifs, scope, pos, rfl, L⟩ := lr_hyp C hsc h (sEs lo) (sE hi) (sEs cs) (sE c)
    have q := (e_lcr (pos := pos) C.calm C.nd L.hi L.ok L.hts L.hg L.ht L.he L.hs).1
    rw [own_snd] at q
    exact .plain q (fun _ => rfl) (fun _ _ _ q => by cases q) rfl
  | .frz a, X, E, sc, e, C, hsc, h => by
    simp only [isE] at h
    have ha := sE a X E sc e C hsc h
    refine ⟨e_frz ha.pe, ?_, fun op vs ps q => ?_, ha.ns⟩
    · exact ha.pt.imp fun σ H Q ⟨ρ, S, m, hE, hS, w⟩ => ⟨ρ, S, m, hE, hS, frz_tst w⟩
    · exact (ha.pw op vs ps q).imp fun σ H Q ⟨ρ, S, m, hE, hS, w⟩ => ⟨ρ, S, m, hE, hS, frz_tst w⟩
  | .inx c a, X, E, sc, e, C, hsc, h => by
    simp only [isE] at h
    split at h
    case h_2 => cases h
    simp only [Bool.and_eq_true] at h
    obtain ⟨⟨⟨h1, h2⟩, h3⟩, h4⟩ := h
    have e1 := of_decide_eq_true h1
    subst e1
    have ha := sE a X E sc _ C hsc h3
    exact .plain (e_inx C.units (sE c X E sc _ C hsc h2).pe ha.pe rfl ha.ns h4) (fun _ => rfl) (fun _ _ _ q => by cases q) rfl
  | .mdc, X, E, sc, e, C, hsc, h => by
    simp only [isE] at h
    split at h
    case h_2 => cases h
    exact .plain e_mdc (fun _ => rfl) (fun _ _ _ q => by cases q) rfl
  | .mdd a, X, E, sc, e, C, hsc, h => by
    simp only [isE] at h
    split at h
    case h_2 => cases h
    simp only [Bool.and_eq_true] at h
    obtain ⟨⟨⟨h1, h2⟩, h3⟩, h4⟩ := h
    have e1 := of_decide_eq_true h1
    subst e1
    have ha := sE a X E sc _ C hsc h4
    subst hsc
    exact .plain (e_mdd (gl_of h2) (C.bis _ (mem_of h3)) ha.pe ha.ns) (fun _ => rfl) (fun _ _ _ q => by cases q) rfl
  | .dgt c a, X, E, sc, e, C, hsc, h => by
    simp only [isE] at h
    split at h
    case h_2 => cases h
    simp only [Bool.and_eq_true] at h
    obtain ⟨⟨⟨h1, h2⟩, h3⟩, h4⟩ := h
    have e1 := of_decide_eq_true h1
    subst e1
    have ha := sE a X E sc _ C hsc h3
    exact .plain (e_dgt C.units (sE c X E sc _ C hsc h2).pe ha.pe rfl ha.ns h4) (fun _ => rfl) (fun _ _ _ q => by cases q) rfl
  | .lc2 vs ts tup it ts1 tup1 it1 c, X, E, sc, e, C, hsc, h => by
    obtain ⟨elt, tg, iter, tg1, iter1, scope, pos, rfl, L⟩ := l2_hyp C hsc h (sE it) (sE it1) (sE c)
    obtain ⟨gt, hg, G⟩ := L.ex
    obtain ⟨gt1, hg1, G1⟩ := L.ex1
    have q := (e_lc2 (pos := pos) C.calm C.nd L.hi L.ok L.hts L.hts1 hg G L.hi1 hg1 G1 L.he L.hs L.hs1).1
    rw [own_snd] at q
    exact .plain q (fun _ => rfl) (fun _ _ _ q => by cases q) rfl
theorem sEs : ∀ cs : List Ex, SEs k cl g lv cs
  | [], X, E, sc, es, C, hsc, h => by
    cases es with
    | nil => exact ⟨a_nil, fun e he => by simp at he, fun c e q => by simp at q⟩
    | cons _ _ => simp [isEs] at h
  | c :: cs, X, E, sc, es, C, hsc, h => by
    cases es with
    | nil => simp [isEs] at h
    | cons e es =>
      simp only [isEs, Bool.and_eq_true] at h
      have hc := sE c X E sc e C hsc h.1
      obtain ⟨q1, q2, q3⟩ := sEs cs X E sc es C hsc h.2
      refine ⟨a_cons hc.pe q1 (star_cons hc.ns), fun x hx => ?_, fun c' e' z1 z2 => ?_⟩
      · rcases List.mem_cons.mp hx with rfl | hx
        · exact hc.ns
        · exact q2 x hx
      · injection z1 with z1 _
        injection z2 with z2 _
        subst z1 z2
        exact ⟨hc.pt, hc.pe⟩
end
end
end Pl

set_option Elab.async false
set_option linter.all false
set_option autoImplicit false
set_option maxRecDepth 100000
/-! PB4: statements: the checker and its soundness. -/
namespace Pl
open PySem PySem.Spec PyProof.Rows L2

def notComp : Expr → Bool
  | .ListComp .. => false
  | .SetComp .. => false
  | .DictComp .. => false
  | _ => true
def notTuple : Expr → Bool
  | .Tuple .. => false
  | _ => true
def allFn : Str → Bool := fun _ => true
def locB (sc : Scope) (x : Str) : Bool := match sc.names.lookup x with
  | some .local => true
  | _ => false
/-- name = [..]: is it stored within the comprehension? -/
def swLc (sc : Scope) (y : Str) (py pos : Pos) (scope : Scope) : Bool := locB sc y && py.line == pos.line && !(scope.names.any fun (n, k) => n == y && (k == .local || k == .cell))
def swOf (sc : Scope) (y : Str) (py : Pos) : Expr → Bool
  | .ListComp _ _ scope pos => swLc sc y py pos scope
  | _ => false
def isLcx : Ex → Bool
  | .lc .. => true
  | .lcr .. => true
  | .lc2 .. => true
  | _ => false
def asgOk (c : Ex) (v : Expr) : Bool := match v with
  | .ListComp .. => isLcx c
  | _ => notComp v
/-- a, b = x, y: stored from the right -/
def par2B (k : Ck) (sc : Scope) (is : List Nat) (ts vs : List Expr) : Bool := match is, ts, vs with
  | [i, j], [.Name x px, .Name y py], [a, b] => decide (k.N[i]? = some x) && decide (k.N[j]? = some y) && decide (i ≠ j) && locB sc x && locB sc y && (py.line == px.line) && decide (x ≠ y) && !([a, b].all (foldedForSure 8)) && !([a, b].all (constantsAlone 8))
  | _, _, _ => false
def par3B (k : Ck) (sc : Scope) (is : List Nat) (ts vs : List Expr) : Bool := match is, ts, vs with
  | [i, j, l], [.Name x px, .Name y py, .Name z pz], [a, b, c] => decide (k.N[i]? = some x) && decide (k.N[j]? = some y) && decide (k.N[l]? = some z) && decide (i ≠ j) && decide (i ≠ l) && decide (j ≠ l) && locB sc x && locB sc y && locB sc z && (py.line == px.line) && (pz.line == px.line) && decide (x ≠ y) && decide (x ≠ z) && decide (y ≠ z) && !([a, b, c].all (foldedForSure 8)) && !([a, b, c].all (constantsAlone 8))
  | _, _, _ => false
/-- .. not so -/
def parNB (sc : Scope) (ts vs : List Expr) : Bool := (ts.any fun t => match t with
    | .Name x _ => !locB sc x
    | _ => true) || decide (4 ≤ ts.length)

mutual
def isS (k : Ck) : Sm → Scope → Stmt → Bool
  | .asg i c, sc, s => match s with
    | .Assign [.Name x p] v pos => nmB k sc allFn i x && isE k c sc v && asgOk c v
    | _ => false
  | .asgs is c, sc, s => match s with
    | .Assign [.Tuple es _ _] v _ => isNms k sc allFn is es && isE k c sc v && notComp v && notTuple v
    | _ => false
  | .par is cs, sc, s => match s with
    | .Assign [.Tuple ts _ _] (.Tuple vs _ _) _ => isEs k cs sc vs && (par2B k sc is ts vs || par3B k sc is ts vs || (parNB sc ts vs && isNms k sc allFn is ts && decide (is.length ≤ 100)))
    | _ => false
  | .setix o i c, sc, s => match s with
    | .Assign [.Subscript a b _] v _ => isE k c sc v && isE k o sc a && isE k i sc b && noSlice b && notComp v
    | _ => false
  | .swap o i o2 i2 c c2, sc, s => match s with
    | .Assign [.Tuple [.Subscript a b _, .Subscript a2 b2 _] _ _] (.Tuple [v, v2] _ _) _ => isEs k [c, c2] sc [v, v2] && isE k o sc a && isE k i sc b && isE k o2 sc a2 && isE k i2 sc b2 && noSlice b && noSlice b2
    | _ => false
  | .exp c, sc, s => match s with
    | .Expr v _ => isE k c sc v && notComp v
    | _ => false
  | .ret c, sc, s => match s with
    | .Return (some v) _ => isE k c sc v
    | _ => false
  | .retN, sc, s => match s with
    | .Return none _ => true
    | _ => false
  | .ite c a b, sc, s => match s with
    | .If t x y _ => isE k c sc t && isSs k a sc x && isSs k b sc y
    | _ => false
  | .whl c a, sc, s => match s with
    | .While t x [] _ => isE k c sc t && isSs k a sc x
    | _ => false
  | .for_ ts tup it a, sc, s => match s with
    | .For tg i x [] _ => isTg k sc allFn ts tup tg && isE k it sc i && noSet i && isSs k a sc x
    | _ => false
  | .forr t lo hi a, sc, s => match s with
    | .For (.Name tx _) (.Call (.Name r _) as [] _) x [] _ => decide (r = "range") && glB sc r && k.bis.contains r && (match as with
          | [a] => isEs k lo sc [] && isE k hi sc a
          | [a, b] => isEs k lo sc [a] && isE k hi sc b
          | _ => false) && nmB k sc allFn t tx && isSs k a sc x
    | _ => false
  | .brk, sc, s => match s with
    | .Break _ => true
    | _ => false
  | .cont, sc, s => match s with
    | .Continue _ => true
    | _ => false
  | .pass, sc, s => match s with
    | .Pass _ => true
    | _ => false
  | .raise c e, sc, s => match s with
    | .Raise (some (.Call (.Name x _) [a] [] _)) none _ => decide (x = c) && glB sc x && k.xs.contains x && okNm x && isE k e sc a
    | _ => false
  | .try_ b hs kn, sc, s => match s with
    | .Try a (h :: hds) [] [] _ => isSs k b sc a && isHds (fun c => glB sc c && k.xs.contains c && okNm c) hs (h :: hds) && kn.all (fun c => k.xs.contains c)
    | _ => false
def isSs (k : Ck) : List Sm → Scope → List Stmt → Bool
  | [], _, [] => true
  | c :: cs, sc, s :: ss => isS k c sc s && isSs k cs sc ss
  | _, _, _ => false
end

theorem sw_no {e : Expr} {t : Option Expr} {l : Nat} {env : Env} (h : notComp e = true) : swapsWith e t l env = pure false := by
  cases e <;> first | rfl | (cases h)
theorem sw_lc {elt : Expr} {gs : List Comprehension} {scope : Scope} {pos py : Pos} {y : Str} {l : Nat} {env : Env} (hk : env.scope.kind = .function) : swapsWith (.ListComp elt gs scope pos) (some (.Name y py)) l env = pure (swLc env.scope y py pos scope) := by
  have hb : env.blockKind = .function := by unfold Env.blockKind; rw [hk]; rfl
  have hl : (env.kindOf y == some .local) = locB env.scope y := by
    unfold Env.kindOf locB
    cases env.scope.names.lookup y with
    | none => rfl
    | some q => cases q <;> rfl
  unfold swapsWith swLc
  simp only [hb, hl, Expr.pos]
  rfl
theorem loc_of {sc : Scope} {x : Str} (h : locB sc x = true) : sc.names.lookup x = some .local := by
  unfold locB at h
  split at h
  · next e => exact e
  · cases h
theorem swst_tup {es : List Expr} {k : Nat} {p : Pos} {e : Expr} {env : Env} (h : notTuple e = true) : swappedStores [.Tuple es k p] e env = pure none := by
  cases e <;> first | rfl | (cases h)
theorem swst2 {x y : Str} {px py pt pt2 : Pos} {a b : Expr} {kt k2 : Nat} {env : Env} (hk : env.scope.kind = .function) (hx : env.scope.names.lookup x = some .local) (hy : env.scope.names.lookup y = some .local) (hl : (py.line == px.line) = true) (hne : x ≠ y)
    (ha : noStar a = true) (hb : noStar b = true) (hf : ([a, b].all (foldedForSure 8)) = false) (hc : ([a, b].all (constantsAlone 8)) = false) : swappedStores [.Tuple [.Name x px, .Name y py] kt pt] (.Tuple [a, b] k2 pt2) env = pure (some [x, y]) := by
  have hb' : env.blockKind = .function := by unfold Env.blockKind; rw [hk]; rfl
  have kx : env.kindOf x = some .local := hx
  have ky : env.kindOf y = some .local := hy
  have hl' : py.line = px.line := by simpa using hl
  have hd : [x, y].eraseDups = [x, y] := by simp [List.eraseDups_cons, Ne.symm hne]
  unfold swappedStores
  simp only
  split
  · next h => exfalso; simp [hb'] at h
  split
  · next h =>
    exfalso
    obtain ⟨e, he, hh⟩ := List.any_eq_true.mp h
    have : noStar e = true := by
      rcases List.mem_cons.mp he with rfl | he
      · exact ha
      · rw [List.mem_singleton.mp he]; exact hb
    cases e <;> first | (simp at hh; done) | (cases this)
  split
  · next h => exfalso; simp [kx, ky, Expr.pos, hl', hd] at h
  rw [hf, hc]
  simp [kx, ky, Expr.pos, hl']
theorem swst3 {x y z : Str} {px py pz pt pt2 : Pos} {a b c : Expr} {kt k2 : Nat} {env : Env} (hk : env.scope.kind = .function) (hx : env.scope.names.lookup x = some .local) (hy : env.scope.names.lookup y = some .local) (hz : env.scope.names.lookup z = some .local) (hl : (py.line == px.line) = true) (hl2 : (pz.line == px.line) = true) (hxy : x ≠ y) (hxz : x ≠ z) (hyz : y ≠ z)
    (ha : noStar a = true) (hb : noStar b = true) (hcc : noStar c = true) (hf : ([a, b, c].all (foldedForSure 8)) = false) (hc : ([a, b, c].all (constantsAlone 8)) = false) : swappedStores [.Tuple [.Name x px, .Name y py, .Name z pz] kt pt] (.Tuple [a, b, c] k2 pt2) env = pure (some [x, y, z]) := by
  have hb' : env.blockKind = .function := by unfold Env.blockKind; rw [hk]; rfl
  have kx : env.kindOf x = some .local := hx
  have ky : env.kindOf y = some .local := hy
  have kz : env.kindOf z = some .local := hz
  have hl' : py.line = px.line := by simpa using hl
  have hl2' : pz.line = px.line := by simpa using hl2
  have hd : [x, y, z].eraseDups = [x, y, z] := by simp [List.eraseDups_cons, Ne.symm hxy, Ne.symm hxz, Ne.symm hyz]
  unfold swappedStores
  simp only
  split
  · next h => exfalso; simp [hb'] at h
  split
  · next h =>
    exfalso
    obtain ⟨e, he, hh⟩ := List.any_eq_true.mp h
    have : noStar e = true := by
      rcases List.mem_cons.mp he with rfl | he
      · exact ha
      · rcases List.mem_cons.mp he with rfl | he
        · exact hb
        · rw [List.mem_singleton.mp he]; exact hcc
    cases e <;> first | (simp at hh; done) | (cases this)
  split
  · next h => exfalso; simp [kx, ky, kz, Expr.pos, hl', hl2', hd] at h
  rw [hf, hc]
  simp [kx, ky, kz, Expr.pos, hl', hl2']
theorem fm_len {α β : Type} {f : α → Option β} : ∀ {l : List α}, (∃ a ∈ l, f a = none) → (l.filterMap f).length < l.length
  | [], h => by obtain ⟨a, ha, _⟩ := h; cases ha
  | x :: l, h => by
    rw [List.filterMap_cons]
    have hle : (l.filterMap f).length ≤ l.length := List.length_filterMap_le f l
    cases q : f x with
    | none => simp only [List.length_cons]; omega
    | some y =>
      obtain ⟨a, ha, e⟩ := h
      rcases List.mem_cons.mp ha with rfl | ha
      · rw [q] at e; cases e
      · have := fm_len (f := f) ⟨a, ha, e⟩
        simp only [List.length_cons]; omega
theorem swstN {ts vs : List Expr} {pt pt2 : Pos} {kt k2 : Nat} {env : Env} (h : parNB env.scope ts vs = true) (hs : ∀ e ∈ vs, noStar e = true) : swappedStores [.Tuple ts kt pt] (.Tuple vs k2 pt2) env = pure none := by
  unfold swappedStores
  simp only
  split
  · rfl
  next hc =>
  split
  · rfl
  split
  · rfl
  next hn =>
  exfalso
  simp only [Bool.or_eq_true, not_or, bne_iff_ne, Decidable.not_not] at hn
  rw [parNB, Bool.or_eq_true] at h
  rcases h with h | h
  · rw [List.any_eq_true] at h
    obtain ⟨t, ht, e⟩ := h
    refine Nat.ne_of_lt (fm_len ⟨t, ht, ?_⟩) hn.1
    cases t <;> first | rfl | skip
    next x p =>
    simp only [Bool.not_eq_true'] at e
    have : (env.kindOf x == some .local) = false := by
      unfold Env.kindOf
      unfold locB at e
      cases q : env.scope.names.lookup x with
      | none => rfl
      | some w => rw [q] at e; cases w <;> first | rfl | (cases e)
    simp [this]
  · have h4 := of_decide_eq_true h
    simp only [Bool.or_eq_true, not_or] at hc
    have := hc.1.1
    simp at this
    omega

structure CtxS (k : Ck) (X : Cx) (E : XK) (cl : CallF) (g : Str → Option D) (lv : Nat) : Prop extends CtxE k X E cl g lv where
  pass : PassesOwn (model X.prog X.w) X.A X.env X.xe
  fn : ∀ x, X.fn x = true
  kind : X.env.scope.kind = .function
  stk : X.stack = X.env :: X.outer
  frm : X.env.frame = some X.env.locals

abbrev SS (k : Ck) (cl : CallF) (g : Str → Option D) (lv : Nat) (c : Sm) : Prop := ∀ (X : Cx) (E : XK) (sc : Scope) (s : Stmt), CtxS k X E cl g lv → X.env.scope = sc → isS k c sc s = true → PS X s (tS X.K E cl g c)
abbrev SSs (k : Ck) (cl : CallF) (g : Str → Option D) (lv : Nat) (c : List Sm) : Prop := ∀ (X : Cx) (E : XK) (sc : Scope) (s : List Stmt), CtxS k X E cl g lv → X.env.scope = sc → isSs k c sc s = true → PSs X s (tSs X.K E cl g c)
theorem assign_sub {o i : Expr} {p : Pos} {env : Env} (h : noSlice i = true) : ∀ v, assign (.Subscript o i p) env v = (do
      let ov ← holding [v] (eval o env)
      let iv ← holding [v, ov] (eval i env)
      standAt p
      holding [v, ov, iv] (setItem ov iv v)
      release [v, ov, iv] []) := by
  cases i <;> first | (intro _; rfl) | (cases h)

section
variable {k : Ck} {X : Cx} {E : XK} {cl : CallF} {g : Str → Option D} {lv : Nat}
theorem s_asgLc {i : Nat} {c : Ex} {x : Str} {p pos : Pos} {v : Expr} (C : CtxS k X E cl g lv) (hx : nmB k X.env.scope allFn i x = true) (h : isE k c X.env.scope v = true) (hv : ∃ elt gs scope vp, v = .ListComp elt gs scope vp) (hc : isLcx c = true) :
    PS X (.Assign [.Name x p] v pos) (tS X.K E cl g (.asg i c)) := by
  have nm := nm_of (X := X) C.N (fun y _ => C.fn y) hx
  obtain ⟨elt, gs, scope, vp, rfl⟩ := hv
  by_cases hsw : swLc X.env.scope x p vp scope = true
  · have hl : X.env.scope.names.lookup x = some .local := by
      unfold swLc at hsw
      rw [Bool.and_eq_true, Bool.and_eq_true] at hsw
      exact loc_of hsw.1.1
    have hst : swapsWith (.ListComp elt gs scope vp) (some (.Name x p)) pos.line X.env = pure true := by rw [sw_lc C.kind, hsw]
    cases c <;> first | (cases hc; done) | skip
    · next vs ts tup it cs ce =>
      obtain ⟨elt', tg, iter, ifs, scope', pos', e, L⟩ := lc_hyp C.toCtxE rfl h (sE k cl g lv it) (sEs k cl g lv cs) (sE k cl g lv ce)
      cases e
      obtain ⟨gt, hg, G⟩ := L.ex
      have q := (e_lc (pos := vp) C.calm C.nd L.hi L.ok L.hts hg G L.ht L.he L.hs).2
      rw [own_snd] at q
      have w := ps_setLc (spos := pos) C.calm C.nd nm.at_ hl hst (pi_dyn L.hi) L.ok hg L.ht L.he L.hs
      rw [own_snd] at w
      exact w.imp fun D σ H h => asg_imp q h
    · next vs t lo hi cs ce =>
      obtain ⟨elt', tg, iter, ifs, scope', pos', e, L⟩ := lr_hyp C.toCtxE rfl h (sEs k cl g lv lo) (sE k cl g lv hi) (sEs k cl g lv cs) (sE k cl g lv ce)
      cases e
      have q := (e_lcr (pos := vp) C.calm C.nd L.hi L.ok L.hts L.hg L.ht L.he L.hs).2
      rw [own_snd] at q
      have w := ps_setLc (spos := pos) C.calm C.nd nm.at_ hl hst L.hi L.ok L.hg L.ht L.he L.hs
      rw [own_snd] at w
      exact w.imp fun D σ H h => asg_imp q h
    · next vs ts tup it ts1 tup1 it1 ce =>
      obtain ⟨elt', tg, iter, tg1, iter1, scope', pos', e, L⟩ := l2_hyp C.toCtxE rfl h (sE k cl g lv it) (sE k cl g lv it1) (sE k cl g lv ce)
      cases e
      obtain ⟨gt, hg, G⟩ := L.ex
      obtain ⟨gt1, hg1, G1⟩ := L.ex1
      have q := (e_lc2 (pos := vp) C.calm C.nd L.hi L.ok L.hts L.hts1 hg G L.hi1 hg1 G1 L.he L.hs L.hs1).2
      rw [own_snd] at q
      have w := ps_setLc2 (wi := iDyn X.K (tE X.K E cl g it)) (wi1 := iDyn X.K (tE X.K EN cl g it1)) (g := gt) (g1 := gt1) (te := tE X.K EN cl g ce) (tt := tC3 X.K EN cl g []) (tt1 := tC3 X.K EN cl g []) (spos := pos) C.calm C.nd nm.at_ hl hst (pi_dyn L.hi) L.ok L.hts1 hg (fun _ _ _ _ _ => c_nil) (fun s H C cl' fp => pi_dyn (L.hi1 s H C cl' fp)) hg1 (fun _ _ _ _ _ => c_nil) L.he L.hs L.hs1
      rw [own_snd] at w
      exact w.imp fun D σ H h => asg_imp q h
  · exact s_asg C.nd nm (sE k cl g lv c X E _ _ C.toCtxE rfl h).pe (by rw [sw_lc C.kind, Bool.not_eq_true _ |>.mp hsw])
theorem pars_of {is : List Nat} {cs : List Ex} {ts vs : List Expr} {kt k2 : Nat} {pt pt2 pos : Pos} (C : CtxS k X E cl g lv) (h1 : isEs k cs X.env.scope vs = true)
    (h2 : (par2B k X.env.scope is ts vs || par3B k X.env.scope is ts vs || (parNB X.env.scope ts vs && isNms k X.env.scope allFn is ts && decide (is.length ≤ 100))) = true) : PS X (.Assign [.Tuple ts kt pt] (.Tuple vs k2 pt2) pos) (tS X.K E cl g (.par is cs)) := by
  obtain ⟨q1, q2, q3⟩ := sEs k cl g lv cs X E _ vs C.toCtxE rfl h1
  rw [Bool.or_eq_true, Bool.or_eq_true] at h2
  rcases h2 with (h2 | h2) | h2
  · unfold par2B at h2
    split at h2
    case h_2 => cases h2
    simp only [Bool.and_eq_true] at h2
    obtain ⟨⟨⟨⟨⟨⟨⟨⟨a1, a2⟩, a3⟩, a4⟩, a5⟩, a6⟩, a7⟩, a8⟩, a9⟩ := h2
    refine s_par2 C.calm C.nd (by rw [C.N]; exact of_decide_eq_true a1) (by rw [C.N]; exact of_decide_eq_true a2) (of_decide_eq_true a3) (loc_of a4) (loc_of a5) q1
      (swst2 C.kind (loc_of a4) (loc_of a5) a6 (of_decide_eq_true a7) (q2 _ List.mem_cons_self) (q2 _ (List.mem_cons_of_mem _ List.mem_cons_self)) ((Bool.not_eq_true' _).mp a8) ((Bool.not_eq_true' _).mp a9)) rfl
  · unfold par3B at h2
    split at h2
    case h_2 => cases h2
    simp only [Bool.and_eq_true] at h2
    obtain ⟨⟨⟨⟨⟨⟨⟨⟨⟨⟨⟨⟨⟨⟨⟨a1, a2⟩, a3⟩, a4⟩, a5⟩, a6⟩, a7⟩, a8⟩, a9⟩, a10⟩, a11⟩, a12⟩, a13⟩, a14⟩, a15⟩, a16⟩ := h2
    refine s_par3 C.calm C.nd (by rw [C.N]; exact of_decide_eq_true a1) (by rw [C.N]; exact of_decide_eq_true a2) (by rw [C.N]; exact of_decide_eq_true a3) (of_decide_eq_true a4) (of_decide_eq_true a5) (of_decide_eq_true a6) (loc_of a7) (loc_of a8) (loc_of a9) q1
      (swst3 C.kind (loc_of a7) (loc_of a8) (loc_of a9) a10 a11 (of_decide_eq_true a12) (of_decide_eq_true a13) (of_decide_eq_true a14) (q2 _ List.mem_cons_self) (q2 _ (List.mem_cons_of_mem _ List.mem_cons_self)) (q2 _ (List.mem_cons_of_mem _ (List.mem_cons_of_mem _ List.mem_cons_self))) ((Bool.not_eq_true' _).mp a15) ((Bool.not_eq_true' _).mp a16)) rfl
  · simp only [Bool.and_eq_true] at h2
    obtain ⟨⟨b1, b2⟩, b3⟩ := h2
    exact s_par C.calm C.nd (nms_of (X := X) C.N (fun y _ => C.fn y) b2) q1 rfl (swstN b1 q2) (Nat.le_trans (of_decide_eq_true b3) (by rw [sizeLine_eq]; decide))
end
section
variable (k : Ck) (cl : CallF) (g : Str → Option D) (lv : Nat)
mutual
theorem sS : ∀ c : Sm, SS k cl g lv c
  | .asg i c, X, E, sc, s, C, hsc, h => by
    simp only [isS] at h
    split at h
    case h_2 => cases h
    next x p v pos =>
    simp only [Bool.and_eq_true] at h
    obtain ⟨⟨h1, h2⟩, h3⟩ := h
    subst hsc
    have nm := nm_of (X := X) C.N (fun y _ => C.fn y) h1
    unfold asgOk at h3
    split at h3
    · exact s_asgLc C h1 h2 ⟨_, _, _, _, rfl⟩ h3
    · exact s_asg C.nd nm (sE k cl g lv c X E _ v C.toCtxE rfl h2).pe (sw_no h3)
  | .asgs is c, X, E, sc, s, C, hsc, h => by
    simp only [isS] at h
    split at h
    case h_2 => cases h
    simp only [Bool.and_eq_true] at h
    obtain ⟨⟨⟨h1, h2⟩, h3⟩, h4⟩ := h
    subst hsc
    exact s_asgs C.calm C.nd (nms_of (X := X) C.N (fun y _ => C.fn y) h1) (sE k cl g lv c X E _ _ C.toCtxE rfl h2).pe (sw_no h3) (swst_tup h4)
  | .par is cs, X, E, sc, s, C, hsc, h => by
    simp only [isS] at h
    split at h
    case h_2 => cases h
    rw [Bool.and_eq_true] at h
    subst hsc
    exact pars_of C h.1 h.2
  | .setix o i c, X, E, sc, s, C, hsc, h => by
    simp only [isS] at h
    split at h
    case h_2 => cases h
    simp only [Bool.and_eq_true] at h
    obtain ⟨⟨⟨⟨h1, h2⟩, h3⟩, h4⟩, h5⟩ := h
    exact s_setix C.units (sE k cl g lv c X E sc _ C.toCtxE hsc h1).pe (sE k cl g lv o X E sc _ C.toCtxE hsc h2).pe (sE k cl g lv i X E sc _ C.toCtxE hsc h3).pe (assign_sub h4) (by unfold swapsWithSole; exact sw_no h5) rfl
  | .swap o i o2 i2 c c2, X, E, sc, s, C, hsc, h => by
    simp only [isS] at h
    split at h
    case h_2 => cases h
    rw [Bool.and_eq_true, Bool.and_eq_true, Bool.and_eq_true, Bool.and_eq_true, Bool.and_eq_true, Bool.and_eq_true] at h
    obtain ⟨⟨⟨⟨⟨⟨h1, h2⟩, h3⟩, h4⟩, h5⟩, h6⟩, h7⟩ := h
    obtain ⟨q1, q2, _⟩ := sEs k cl g lv [c, c2] X E sc _ C.toCtxE hsc h1
    exact s_swap C.units C.calm q1 (sE k cl g lv o X E sc _ C.toCtxE hsc h2).pe (sE k cl g lv i X E sc _ C.toCtxE hsc h3).pe (sE k cl g lv o2 X E sc _ C.toCtxE hsc h4).pe (sE k cl g lv i2 X E sc _ C.toCtxE hsc h5).pe (assign_sub h6) (assign_sub h7) (by unfold swapsWithSole; rfl) (swstN rfl q2)
  | .exp c, X, E, sc, s, C, hsc, h => by
    simp only [isS] at h
    split at h
    case h_2 => cases h
    rw [Bool.and_eq_true] at h
    exact s_exp (sE k cl g lv c X E sc _ C.toCtxE hsc h.1).pe (sw_no h.2)
  | .ret c, X, E, sc, s, C, hsc, h => by
    simp only [isS] at h
    split at h
    case h_2 => cases h
    exact s_ret (sE k cl g lv c X E sc _ C.toCtxE hsc h).pe
  | .retN, X, E, sc, s, C, hsc, h => by
    simp only [isS] at h
    split at h
    case h_2 => cases h
    exact s_retN
  | .ite c a b, X, E, sc, s, C, hsc, h => by
    simp only [isS] at h
    split at h
    case h_2 => cases h
    simp only [Bool.and_eq_true] at h
    obtain ⟨⟨h1, h2⟩, h3⟩ := h
    exact s_ite (sE k cl g lv c X E sc _ C.toCtxE hsc h1).pt (sSs a X E sc _ C hsc h2) (sSs b X E sc _ C hsc h3)
  | .whl c a, X, E, sc, s, C, hsc, h => by
    simp only [isS] at h
    split at h
    case h_2 => cases h
    rw [Bool.and_eq_true] at h
    exact s_whl C.pass (sE k cl g lv c X E sc _ C.toCtxE hsc h.1).pt (sSs a X E sc _ C hsc h.2)
  | .for_ ts tup it a, X, E, sc, s, C, hsc, h => by
    simp only [isS] at h
    split at h
    case h_2 => cases h
    simp only [Bool.and_eq_true] at h
    obtain ⟨⟨⟨h1, h2⟩, h3⟩, h4⟩ := h
    have hi := (sE k cl g lv it X E sc _ C.toCtxE hsc h2).pe
    have hb := sSs a X E sc _ C hsc h4
    subst hsc
    obtain ⟨t1, t2⟩ := tg_of (X := X) C.calm C.nd C.N (fun y _ => C.fn y) h1
    exact s_for C.pass C.calm hi t1 t2 hb (folded_of h3)
  | .forr t lo hi a, X, E, sc, s, C, hsc, h => by
    simp only [isS] at h
    split at h
    case h_2 => cases h
    simp only [Bool.and_eq_true] at h
    obtain ⟨⟨⟨⟨⟨h1, h2⟩, h3⟩, h4⟩, h5⟩, h6⟩ := h
    have hb := sSs a X E sc _ C hsc h6
    subst hsc
    exact s_forr C.pass C.calm (rng_hyp C.toCtxE rfl (sEs k cl g lv lo) (sE k cl g lv hi) (of_decide_eq_true h1) h2 h3 h4) (pg_nm C.nd (nm_of (X := X) C.N (fun y _ => C.fn y) h5)) hb (folded_of rfl)
  | .brk, X, E, sc, s, C, hsc, h => by
    simp only [isS] at h
    split at h
    case h_2 => cases h
    exact s_brk
  | .cont, X, E, sc, s, C, hsc, h => by
    simp only [isS] at h
    split at h
    case h_2 => cases h
    exact s_cont
  | .pass, X, E, sc, s, C, hsc, h => by
    simp only [isS] at h
    split at h
    case h_2 => cases h
    exact s_pass
  | .raise c e, X, E, sc, s, C, hsc, h => by
    simp only [isS] at h
    split at h
    case h_2 => cases h
    simp only [Bool.and_eq_true] at h
    obtain ⟨⟨⟨⟨h1, h2⟩, h3⟩, h4⟩, h5⟩ := h
    have e1 := of_decide_eq_true h1
    subst e1
    have ha := sE k cl g lv e X E sc _ C.toCtxE hsc h5
    subst hsc
    exact s_raise C.calm C.tk (C.xcs _ (mem_of h3)) (gl_of h2) (ok_of h4).1 ha.pe ha.ns
  | .try_ b hs kn, X, E, sc, s, C, hsc, h => by
    simp only [isS] at h
    split at h
    case h_2 => cases h
    simp only [Bool.and_eq_true] at h
    obtain ⟨⟨h1, h2⟩, h3⟩ := h
    subst hsc
    refine s_try C.stk C.frm C.tk (fun E' pn xe tk ps => sSs b (X.tr pn xe) E' _ _ ⟨⟨C.N, C.calm, C.nd, C.room, C.units, fun f hf => ⟨(C.fns f hf).ex⟩, C.cons, C.bis, tk, C.xcs, C.xms⟩, ps, C.fn, C.kind, C.stk, C.frm⟩ rfl h1) h2 (fun c hc => ?_) (fun c hc y hy => ?_)
    · simp only [Bool.and_eq_true] at hc
      exact ⟨gl_of hc.1.1, (ok_of hc.2).1, C.xcs _ (mem_of hc.1.2)⟩
    · simp only [Bool.and_eq_true] at hy
      rw [List.all_eq_true] at h3
      exact C.xms _ (mem_of (h3 c hc)) _ (mem_of hy.1.2)
theorem sSs : ∀ c : List Sm, SSs k cl g lv c
  | [], X, E, sc, s, C, hsc, h => by
    cases s with
    | nil => exact ss_nil
    | cons _ _ => simp [isSs] at h
  | c :: cs, X, E, sc, s, C, hsc, h => by
    cases s with
    | nil => simp [isSs] at h
    | cons s ss =>
      simp only [isSs, Bool.and_eq_true] at h
      exact ss_cons (sS c X E sc s C hsc h.1) (sSs cs X E sc ss C hsc h.2)
end
end
end Pl

set_option Elab.async false
set_option linter.all false
set_option autoImplicit false
set_option maxRecDepth 100000
/-! PB5: a def keeps the evaluator's promise; the whole program. -/
namespace Pl
open PySem PySem.Spec PyProof.Rows L2

section
variable {K : PySem.W.Frag} {m m' : Map} {H H' : Hp}
/-- the cells behind n are forgotten, perhaps one is kept -/
theorem take_stp {n : Nat} {t : List (Option Addr)} (st : Stp m H m' H') (hn : m.m.length = n) (ht : ∀ a, some a ∈ t → some a ∈ m'.m) : Stp m H ⟨m'.m.take n ++ t, m'.r⟩ H' := by
  refine ⟨st.keep, ?_, fun i a hi e => ?_, fun a ha => ?_, st.res⟩
  · have := st.len
    simp only [List.length_append, List.length_take]; omega
  · have hl : i < (m'.m.take n).length := by
      have := st.len
      rw [List.length_take]; omega
    rw [List.getElem?_append_left hl, List.getElem?_take_of_lt (by omega)] at e
    exact st.old i a hi e
  · rcases List.mem_append.mp ha with h | h
    · exact st.new a (List.mem_of_mem_take h)
    · exact st.new a (ht a h)
theorem back_stp {n : Nat} {t : List (Option Addr)} (hn : n ≤ m'.m.length) (ht : ∀ a, some a ∈ t → some a ∈ m'.m) : ∀ a, Map.has ⟨m'.m.take n ++ t, m'.r⟩ a → m'.has a := fun a ha => by
  rcases ha with h | h
  · rcases List.mem_append.mp h with h | h
    · exact .inl (List.mem_of_mem_take h)
    · exact .inl (ht a h)
  · exact .inr h
mutual
/-- fewer addresses that may change -/
theorem Rp.less {m1 : Map} (hl : ∀ a, m1.has a → m'.has a) : ∀ (d : D) (v : V), Rp K m' H v d → Rp K m1 H v d
  | .none, _, h => by cases h; exact .non
  | .bool b, _, h => by cases h; exact .bl b
  | .int i, _, h => by cases h; exact .int i
  | .str x, _, h => by cases h; exact .str x
  | .list ds, _, h => by
    cases h with
    | lst h1 h2 => exact .lst ⟨h1.1, fun z => h1.2 (hl _ z)⟩ (RpAll.less hl ds _ h2)
  | .tuple ds, _, h => by
    cases h with
    | tup h1 h2 => exact .tup h1 (RpAll.less hl ds _ h2)
  | .dict es, _, h => by
    cases h with
    | dic h1 h2 h3 => exact .dic h1 (fun z => h2 (hl _ z)) h3
theorem RpAll.less {m1 : Map} (hl : ∀ a, m1.has a → m'.has a) : ∀ (ds : List D) (vs : List V), RpAll K m' H vs ds → RpAll K m1 H vs ds
  | [], _, h => by cases h; exact .nil
  | d :: ds, _, h => by
    cases h with
    | cons h1 h2 => exact .cons (Rp.less hl d _ h1) (RpAll.less hl ds _ h2)
end
theorem CellOk.less {m1 : Map} (hl : ∀ a, m1.has a → m'.has a) {a : Addr} {c : Cell} (h : CellOk K m' H a c) : CellOk K m1 H a c := by
  cases c with
  | lst ds => obtain ⟨xs, e, r⟩ := h; exact ⟨xs, e, RpAll.less hl ds xs r⟩
  | dct _ => exact h
  | dead => exact h.elim
theorem RS.cut {S : Store} {n : Nat} (h : RS K m' H S) (hn : n ≤ m'.m.length) : RS K ⟨m'.m.take n ++ [], m'.r⟩ H (S.take n) := by
  have hl := back_stp (m' := m') (n := n) (t := []) hn (fun _ z => nomatch z)
  simp only [List.append_nil] at hl ⊢
  have get : ∀ {i : Nat} {a : Addr}, (m'.m.take n)[i]? = some (some a) → i < n ∧ m'.m[i]? = some (some a) := fun {i a} e => by
    rw [List.getElem?_take] at e
    split at e
    · next q => exact ⟨q, e⟩
    · cases e
  refine ⟨?_, fun i j a e1 e2 => h.inj i j a (get e1).2 (get e2).2, fun i a e => ?_, fun i ds e hd => ?_, fun a ha => ⟨fun z => (h.res a ha).1 (List.mem_of_mem_take z), (h.res a ha).2⟩⟩
  · have := h.len
    rw [List.length_take, List.length_take]; omega
  · obtain ⟨hi, e⟩ := get e
    obtain ⟨c, e1, hc⟩ := h.cell i a e
    exact ⟨c, by rw [List.getElem?_take_of_lt hi]; exact e1, hc.less hl⟩
  · rw [List.getElem?_take] at e
    split at e
    · next q =>
      obtain ⟨a, ea⟩ := h.liveC i ds e hd
      exact ⟨a, by rw [List.getElem?_take_of_lt q]; exact ea⟩
    · cases e
theorem RS.cut1 {S : Store} {n k : Nat} {c : Cell} {o : Option Addr} (h : RS K m' H S) (hn : n ≤ m'.m.length) (hk : n ≤ k) (ec : S[k]? = some c) (eo : m'.m[k]? = some o) : RS K ⟨m'.m.take n ++ [o], m'.r⟩ H (S.take n ++ [c]) := by
  have hl := back_stp (m' := m') (n := n) (t := [o]) hn (fun a z => by
    rw [List.mem_singleton] at z
    subst z
    exact List.mem_of_getElem? eo)
  have lm : (m'.m.take n).length = n := by rw [List.length_take]; omega
  have lS : (S.take n).length = n := by have := h.len; rw [List.length_take]; omega
  have get : ∀ {i : Nat} {a : Addr}, (m'.m.take n ++ [o])[i]? = some (some a) → (i < n ∧ m'.m[i]? = some (some a)) ∨ (i = n ∧ o = some a) := fun {i a} e => by
    by_cases hi : i < n
    · rw [List.getElem?_append_left (by omega), List.getElem?_take_of_lt hi] at e
      exact .inl ⟨hi, e⟩
    · rw [List.getElem?_append_right (by omega), lm] at e
      by_cases hz : i = n
      · subst hz
        simp at e
        exact .inr ⟨rfl, e⟩
      · rw [List.getElem?_eq_none (by simp; omega)] at e; cases e
  have low : ∀ {i : Nat}, i < n → (S.take n ++ [c])[i]? = S[i]? := fun {i} hi => by
    rw [List.getElem?_append_left (by omega), List.getElem?_take_of_lt hi]
  have top : (S.take n ++ [c])[n]? = some c := by
    rw [List.getElem?_append_right (by omega), lS]
    simp
  refine ⟨by rw [List.length_append, List.length_append, lm, lS]; rfl, fun i j a e1 e2 => ?_, fun i a e => ?_, fun i ds e hd => ?_, fun a ha => ⟨fun z => ?_, (h.res a ha).2⟩⟩
  · rcases get e1 with ⟨h1, q1⟩ | ⟨h1, q1⟩ <;> rcases get e2 with ⟨h2, q2⟩ | ⟨h2, q2⟩
    · exact h.inj i j a q1 q2
    · subst q2
      have := h.inj i k a q1 eo
      omega
    · subst q1
      have := h.inj j k a q2 eo
      omega
    · omega
  · rcases get e with ⟨hi, q⟩ | ⟨hi, q⟩
    · obtain ⟨c', e1, hc⟩ := h.cell i a q
      exact ⟨c', by rw [low hi]; exact e1, hc.less hl⟩
    · subst q hi
      obtain ⟨c', e1, hc⟩ := h.cell k a eo
      rw [ec] at e1; cases e1
      exact ⟨c, top, hc.less hl⟩
  · by_cases hi : i < n
    · rw [low hi] at e
      obtain ⟨a, ea⟩ := h.liveC i ds e hd
      exact ⟨a, by rw [List.getElem?_append_left (by omega), List.getElem?_take_of_lt hi]; exact ea⟩
    · by_cases hz : i = n
      · subst hz
        rw [top] at e; cases e
        obtain ⟨a, ea⟩ := h.liveC k _ ec hd
        rw [eo] at ea; cases ea
        exact ⟨a, by rw [List.getElem?_append_right (by omega), lm]; simp⟩
      · rw [List.getElem?_eq_none (by rw [List.length_append, lS]; simp; omega)] at e; cases e
  · rcases List.mem_append.mp z with z | z
    · exact (h.res a ha).1 (List.mem_of_mem_take z)
    · rw [List.mem_singleton] at z
      exact (h.res a ha).1 (List.mem_of_getElem? (by rw [eo, ← z]))
theorem fin_post {E : XK} {v : Vl} {S S1 : Store} {x : V} {Q : VK} (hS : RS K m H S) (st : Stp m H m' H') (hS1 : RS K m' H' S1) (r : RV K m' H' x v) (h : PostV K E (finish S.length v S1) m H Q) : Q x H' := by
  have hn : S.length ≤ m'.m.length := by have := st.len; have := hS.len; omega
  have st0 := take_stp (t := []) st hS.len (fun _ z => nomatch z)
  have hl := back_stp (m' := m') (n := S.length) (t := []) hn (fun _ z => nomatch z)
  cases v with
  | p d => exact h x H' _ st0 (hS1.cut hn) (Rp.less hl d x r)
  | s ns =>
    refine h x H' _ st0 (hS1.cut hn) ?_
    obtain ⟨a, e, w⟩ := r
    refine ⟨a, e, ?_⟩
    rcases w with ⟨w1, w2⟩ | w
    · exact .inl ⟨w1, fun z => w2 (hl _ z)⟩
    · exact .inr w
  | r k =>
    simp only [finish] at h
    split at h
    · next hk =>
      refine h x H' _ st0 (hS1.cut hn) ⟨?_, fun a e => r.2 a ?_⟩
      · simp only [List.append_nil, List.length_take]; omega
      · simp only [List.append_nil] at e
        rw [List.getElem?_take_of_lt hk] at e
        exact e
    · next hk =>
      cases ec : S1[k]? with
      | none => simp only [ec] at h; exact h.elim
      | some c =>
        simp only [ec] at h
        have hk2 : k < m'.m.length := r.1
        have eo : m'.m[k]? = some m'.m[k] := List.getElem?_eq_getElem hk2
        have ht : ∀ a, some a ∈ [m'.m[k]] → some a ∈ m'.m := fun a z => by
          rw [List.mem_singleton] at z
          rw [z]
          exact List.getElem_mem hk2
        refine h x H' _ (take_stp st hS.len ht) (hS1.cut1 hn (by omega) ec eo) ⟨?_, fun a e => r.2 a ?_⟩
        · simp only [List.length_append, List.length_take, List.length_singleton]; omega
        · have lm : (m'.m.take S.length).length = S.length := by rw [List.length_take]; omega
          simp only at e
          rw [List.getElem?_append_right (by omega), lm] at e
          simp at e
          rw [eo, e]
end

theorem XnIs.less {K : PySem.W.Frag} {m' m1 : Map} {H : Hp} (hl : ∀ a, m1.has a → m'.has a) {cls : Value} {d : Option Addr} {x : Xn} (h : XnIs K m' H cls d x) : XnIs K m1 H cls d x := by
  cases x with
  | plain c => exact h
  | own c w p =>
    obtain ⟨C, dx, vw, vp, h1, h2, h3, h4, h5, h6⟩ := h
    exact ⟨C, dx, vw, vp, h1, h2, h3, h4, Rp.less hl _ _ h5, Rp.less hl _ _ h6⟩
theorem cut_finish {n k : Nat} {v : Vl} {S : Store} : (finish n v S).cut k = finish n v S := by
  unfold finish
  cases v with
  | p d => rfl
  | s ns => rfl
  | r j =>
    simp only
    split
    · rfl
    · split <;> rfl
section
variable {P : Program} {w : World} {K : PySem.W.Frag} {mg : Str → Option Value} {base : Heap}
structure ConAt (K : PySem.W.Frag) (mg : Str → Option Value) (g : Str → Option D) (x : Str) : Prop where
  ex : ∃ d v u, g x = some d ∧ mg x = some u ∧ RelV v u ∧ ∀ (m : Map) H, MutOk m H → Rp K m H v d
structure FnIs (P : Program) (w : World) (K : PySem.W.Frag) (mg : Str → Option Value) (base : Heap) (cl : CallF) (lv : Nat) (x : Str) : Prop where
  ex : ∃ (fa : Addr) (fd : FuncData) (ps : List Str), mg x = some (.ref fa) ∧ PySem.W.keepIn K (.ref fa) = true ∧ Binds K fd ps [] ∧ FnOk P w K mg base (L2.CX P w) lv fa fd ps (spF K cl x)
theorem re_start {N : List Str} {slots : Nat} {m : Map} {H : Hp} (hN : N.length = slots) {vs : List V} {xs : List Vl} (r : RVs K m H vs xs) (hl : xs.length ≤ slots) : RE K m H (xs.map some ++ List.replicate (slots - xs.length) none) (L2.start N vs) := by
  have e := r.length
  refine ⟨?_, fun i v q => ?_⟩
  · unfold L2.start
    simp only [List.length_append, List.length_map, List.length_replicate]
    omega
  · by_cases hi : i < xs.length
    · rw [List.getElem?_append_left (by simpa using hi), List.getElem?_map] at q
      cases q2 : xs[i]? with
      | none => rw [q2] at q; cases q
      | some z =>
        rw [q2] at q
        have ez : z = v := by simpa using q
        subst ez
        have : ∀ {vs : List V} {xs : List Vl} {i : Nat} {z : Vl}, RVs K m H vs xs → xs[i]? = some z → ∃ y, vs[i]? = some y ∧ RV K m H y z := fun {vs xs} => by
          intro i z r
          induction r generalizing i with
          | nil => intro q; simp at q
          | cons h t ih =>
            intro q
            cases i with
            | zero => simp at q; subst q; exact ⟨_, rfl, h⟩
            | succ i => simpa using ih (by simpa using q)
        obtain ⟨y, e1, r1⟩ := this r q2
        refine ⟨y, ?_, r1⟩
        unfold L2.start
        rw [List.getElem?_append_left (by simp; omega), List.getElem?_map, e1]
        rfl
    · rw [List.getElem?_append_right (by simpa using hi)] at q
      rw [List.getElem?_replicate] at q
      split at q <;> cases q
def scB (N ps : List Str) (sc : Scope) : Bool :=
  sc.names.all (fun y => !decide (y.2 = .free)) && (decide N.Nodup && (decide (N.take ps.length = ps) && (decide (sc.kind = .function) && (!sc.isCoroutine && !sc.isGenerator) &&
    ps.all fun x => match sc.names.lookup x with
      | some .local => true
      | some .cell => true
      | _ => false)))
theorem sc_by {N ps : List Str} {sc : Scope} (h : scB N ps sc = true) : FnScope N ps sc := by
  unfold scB at h
  simp only [Bool.and_eq_true, Bool.not_eq_true', decide_eq_true_eq, List.all_eq_true, decide_eq_false_iff_not] at h
  obtain ⟨h7, h4, h5, ⟨h1, h2, h3⟩, h6⟩ := h
  refine ⟨h1, h2, h3, h4, h5, fun x hx => ?_, h7⟩
  have q := h6 x hx
  split at q
  · next e => exact .inl e
  · next e => exact .inr e
  · cases q
/-- all that is looked at in a def's text -/
def dcB (k : Ck) (ps : List Str) (fn : Fn) (st : Stmt) : Bool := scB k.N ps (defScope st) && decide (ps.length = fn.params) && decide (k.N.length = fn.slots) && decide (fn.params ≤ fn.slots) && isSs k fn.body (defScope st) (defBody st)
theorem fn_ok {k : Ck} {cl cl' : CallF} {g : Str → Option D} {fn : Fn} {st : Stmt} {ps : List Str} {f : Addr} {fd : FuncData} {qual x0 : Str} {lv : Nat} (F : L2.Fun K x0 qual st f fd) (hc : dcB k ps fn st = true) (hlv : 4 ≤ lv)
    (fns : ∀ x ∈ k.fns, FnIs P w K mg base cl lv x) (cons : ∀ x ∈ k.cs, ConAt K mg g x) (bis : ∀ x ∈ k.bis, mg x = none) (xcs : ∀ c ∈ k.xs, XcAt K mg c) (xms : ∀ c ∈ k.xs, ∀ y ∈ k.xs, XmAt K c y)
    (hcl : ∀ vs S, cl' fn.name vs S = runFn cl g fn vs S) : FnOk P w K mg base (L2.CX P w) (lv + 1) f fd ps (spF K cl' fn.name) := by
  unfold dcB at hc
  simp only [Bool.and_eq_true, decide_eq_true_eq] at hc
  obtain ⟨⟨⟨⟨h1, h2⟩, h3⟩, h4⟩, h5⟩ := hc
  have Sc := sc_by h1
  refine F.okX Sc (fun vs H Q E h => ?_) (fun cdv A outer s H vs Q E hr h => ?_)
  · obtain ⟨xs, S, m, hS, r, h⟩ := h
    rw [hcl] at h
    unfold runFn at h
    split at h
    · next e => rw [r.length, e, h2]
    · exact h.elim
  · obtain ⟨xs, S, m, hS, r, h⟩ := h
    rw [hcl] at h
    unfold runFn at h
    split at h
    case isFalse => exact h.elim
    next e =>
    refine ⟨_, sSs k cl g lv fn.body _ E _ _ ⟨⟨rfl, rfl, Sc.nd, hr, ?_, fun x hx => ⟨(fns x hx).ex⟩, fun x hx => (cons x hx).ex, bis, takes_of rfl rfl rfl rfl, xcs, xms⟩, passes_of rfl, fun _ => rfl, Sc.kind, rfl, rfl⟩ rfl h5, ?_⟩
    · have := hr.un
      show (A.deeper _).units + 260 < cLine
      omega
    · refine ⟨_, S, m, re_start h3 r (by omega), hS, ?_⟩
      have hcut : ∀ {fl : Fl} {S1 : Store}, evSs cl g fn.body (xs.map some ++ List.replicate (fn.slots - xs.length) none) S = .ok fl S1 → PostV K E (match fl with
          | .nx _ => finish S.length (.p .none) S1
          | .rt v => finish S.length v S1
          | _ => .bad) m H Q := fun {fl S1} q => by
        rw [q] at h
        cases fl with
        | nx ρ =>
          have h2 : PostV K E ((finish S.length (.p .none) S1).cut S.length) m H Q := h
          rw [cut_finish] at h2
          exact h2
        | rt v =>
          have h2 : PostV K E ((finish S.length v S1).cut S.length) m H Q := h
          rw [cut_finish] at h2
          exact h2
        | bk ρ => exact h
        | ct ρ => exact h
      cases q : evSs cl g fn.body (xs.map some ++ List.replicate (fn.slots - xs.length) none) S with
      | bad => rw [q] at h; exact h.elim
      | exn x S1 =>
        rw [q] at h
        intro cls d H' m' st hS' xi
        have hn : S.length ≤ m'.m.length := by have := st.len; have := hS.len; omega
        have st0 := take_stp (t := []) st hS.len (fun _ z => nomatch z)
        have hl := back_stp (m' := m') (n := S.length) (t := []) hn (fun _ z => nomatch z)
        exact h cls d H' _ st0 (hS'.cut hn) (xi.less hl)
      | ok fl S1 =>
        have h' := hcut q
        cases fl with
        | nx ρ => exact fun σ' H' m' st hS' _ => fin_post (v := .p .none) (x := .non) hS st hS' Rp.non h'
        | rt v => exact fun x H' m' st hS' rv => fin_post hS st hS' rv h'
        | bk ρ => exact h'.elim
        | ct ρ => exact h'.elim
/-- a def of the program stands in the module -/
structure DefAt (K : PySem.W.Frag) (mg : Str → Option Value) (k : Ck) (fn : Fn) : Prop where
  ex : ∃ (x0 : Str) (N ps : List Str) (qual : Str) (st : Stmt) (f : Addr) (fd : FuncData), L2.Fun K x0 qual st f fd ∧ mg fn.name = some (.ref f) ∧ Binds K fd ps [] ∧ dcB { k with N := N } ps fn st = true
theorem def_mk {h : Heap} {k : Ck} {N ps : List Str} {fn : Fn} {st : Stmt} {x z : Str} {f : Addr} {oc : Value} {od an : Option Addr} {osl : Array (Option Value)} {kV doc pm cdv ct : Value} (X : K.In h) (G : h.Ns mainGlobals mg)
    (a : PySem.W.nsIn K mainGlobals z = some (some (.ref f)))
    (l : K.lookup f = some ⟨oc, od, .func (PySem.W.fnOf x x (defArgs st) (defBody st) (defScope st) .none kV doc pm an cdv ct), osl⟩)
    (c : PySem.W.codeIn K cdv x = true) (kp : PySem.W.keepIn K (.ref f) = true) (hn : fn.name = z)
    (hb : ∀ (kV doc pm : Value) (an : Option Addr) (cdv ct : Value) (us : List Value), us.length = ps.length → bindArgs (PySem.W.fnOf x x (defArgs st) (defBody st) (defScope st) .none kV doc pm an cdv ct) ⟨us, []⟩ = pure (ps.zip us))
    (hd : dcB { k with N := N } ps fn st = true) : DefAt K mg k fn := by
  subst hn
  have F := fun_mk l c kp
  exact ⟨x, N, ps, _, st, f, _, F, PySem.W.mg_of X G a, F.binds hb, hd⟩
theorem prog_ok {k : Ck} {pr : Prog} (ds : ∀ fn ∈ pr.fns, DefAt K mg k fn) (hf : ∀ x ∈ k.fns, ∃ fn, pr.fns.find? (fun y => y.name == x) = some fn) (hn : ∀ fn ∈ pr.fns, pr.fns.find? (fun y => y.name == fn.name) = some fn)
    (cons : ∀ x ∈ k.cs, ConAt K mg pr.consts x) (bis : ∀ x ∈ k.bis, mg x = none) (xcs : ∀ c ∈ k.xs, XcAt K mg c) (xms : ∀ c ∈ k.xs, ∀ y ∈ k.xs, XmAt K c y) : ∀ n, ∀ fn ∈ pr.fns, FnIs P w K mg base (pr.call n) (n + 5) fn.name
  | 0, fn, hfn => by
    obtain ⟨x0, N, ps, qual, st, f, fd, F, e1, b, hc⟩ := (ds fn hfn).ex
    have Sc : FnScope N ps (defScope st) := by
      unfold dcB at hc
      simp only [Bool.and_eq_true, decide_eq_true_eq] at hc
      exact sc_by hc.1.1.1.1
    refine ⟨f, fd, ps, e1, F.kp, b, F.okX Sc (fun vs H Q E h => ?_) (fun cdv A outer s H vs Q E hr h => ?_)⟩
    · obtain ⟨xs, S, m, hS, r, h⟩ := h
      exact h.elim
    · obtain ⟨xs, S, m, hS, r, h⟩ := h
      exact h.elim
  | n + 1, fn, hfn => by
    obtain ⟨x0, N, ps, qual, st, f, fd, F, e1, b, hc⟩ := (ds fn hfn).ex
    refine ⟨f, fd, ps, e1, F.kp, b, fn_ok (k := { k with N := N }) (cl := pr.call n) (g := pr.consts) (lv := n + 5) F hc (by omega) (fun x hx => ?_) cons bis xcs xms (fun vs S => ?_)⟩
    · obtain ⟨fn', e⟩ := hf x hx
      have hm := List.mem_of_find?_eq_some e
      have hx : fn'.name = x := by simpa using List.find?_some e
      have := prog_ok ds hf hn cons bis xcs xms n fn' hm
      rw [hx] at this
      exact this
    · show Prog.call pr (n + 1) fn.name vs S = _
      unfold Prog.call
      rw [hn fn hfn]
theorem find_nodup : ∀ {l : List Fn}, (l.map (·.name)).Nodup → ∀ fn ∈ l, l.find? (fun y => y.name == fn.name) = some fn
  | [], _, _, h => nomatch h
  | x :: l, hn, fn, h => by
    rw [List.map_cons, List.nodup_cons] at hn
    rcases List.mem_cons.mp h with rfl | h
    · simp
    · have : (x.name == fn.name) = false := by
        rw [beq_eq_false_iff_ne]
        exact fun e => hn.1 (e ▸ List.mem_map_of_mem h)
      rw [List.find?_cons, this]
      exact find_nodup hn.2 fn h
theorem con_int {h : Heap} {g : Str → Option D} {x : Str} {i : Int} {o : Tok} (X : K.In h) (G : h.Ns mainGlobals mg) (a : PySem.W.nsIn K mainGlobals x = some (some (.int i o))) (e : g x = some (.int i)) : ConAt K mg g x :=
  ⟨_, .int i, _, e, PySem.W.mg_of X G a, ⟨o, rfl⟩, fun _ _ _ => .int i⟩
theorem con_str {h : Heap} {g : Str → Option D} {x y : Str} {o : Tok} (X : K.In h) (G : h.Ns mainGlobals mg) (a : PySem.W.nsIn K mainGlobals x = some (some (.str y o))) (e : g x = some (.str y)) : ConAt K mg g x :=
  ⟨_, .str y, _, e, PySem.W.mg_of X G a, ⟨o, rfl⟩, fun _ _ _ => .str y⟩
/-- the items of a tuple of the module -/
def scal : Value → Option (V × D)
  | .none => some (.non, .none)
  | .bool b => some (.bl b, .bool b)
  | .int i _ => some (.int i, .int i)
  | .str x _ => some (.str x, .str x)
  | _ => none
def scals : List Value → Option (List V × List D)
  | [] => some ([], [])
  | u :: us => match scal u, scals us with
    | some (v, d), some (vs, ds) => some (v :: vs, d :: ds)
    | _, _ => none
theorem scals_ok {m : Map} {H : Hp} : ∀ {us : List Value} {vs : List V} {ds : List D}, scals us = some (vs, ds) → Vals vs us ∧ RpAll K m H vs ds
  | [], _, _, h => by simp [scals] at h; obtain ⟨rfl, rfl⟩ := h; exact ⟨.nil, .nil⟩
  | u :: us, vs, ds, h => by
    simp only [scals] at h
    split at h
    · next v d vs' ds' e1 e2 =>
      obtain ⟨q1, q2⟩ := scals_ok (m := m) (H := H) e2
      cases h
      unfold scal at e1
      split at e1 <;> (cases e1)
      · exact ⟨.cons rfl q1, .cons .non q2⟩
      · exact ⟨.cons rfl q1, .cons (.bl _) q2⟩
      · exact ⟨.cons ⟨_, rfl⟩ q1, .cons (.int _) q2⟩
      · exact ⟨.cons ⟨_, rfl⟩ q1, .cons (.str _) q2⟩
    · cases h
theorem con_tup {h : Heap} {g : Str → Option D} {x : Str} {t : Addr} {od : Option Addr} {its : Array Value} {n : Nat} {sl : Array (Option Value)} {vs : List V} {ds : List D} (X : K.In h) (G : h.Ns mainGlobals mg) (a : PySem.W.nsIn K mainGlobals x = some (some (.ref t)))
    (l : K.lookup t = some ⟨.type "tuple", od, .seq its n, sl⟩) (q : scals its.toList = some (vs, ds)) (hs : its.size ≤ sizeLine) (e : g x = some (.tuple ds)) : ConAt K mg g x :=
  ⟨_, .ref t, _, e, PySem.W.mg_of X G a, rfl, fun m H _ => .tup (.inr ⟨_, its, n, l, rfl, rfl, hs, (scals_ok (K := K) (m := m) (H := H) q).1⟩) (scals_ok q).2⟩
/-- a tuple of one empty tuple -/
theorem con_tup0 {h : Heap} {g : Str → Option D} {x : Str} {t t1 : Addr} {od od1 : Option Addr} {its : Array Value} {n n1 : Nat} {sl sl1 : Array (Option Value)} (X : K.In h) (G : h.Ns mainGlobals mg) (a : PySem.W.nsIn K mainGlobals x = some (some (.ref t)))
    (l : K.lookup t = some ⟨.type "tuple", od, .seq its n, sl⟩) (l1 : K.lookup t1 = some ⟨.type "tuple", od1, .seq #[] n1, sl1⟩) (q : its = #[.ref t1]) (e : g x = some (.tuple [.tuple []])) : ConAt K mg g x := by
  subst q
  refine ⟨_, .ref t, _, e, PySem.W.mg_of X G a, rfl, fun m H _ => .tup (xs := [.ref t1]) (.inr ⟨_, #[.ref t1], n, l, rfl, rfl, by rw [sizeLine_eq]; show 1 ≤ 16777216; decide, .cons rfl .nil⟩) (.cons (.tup (xs := []) (.inr ⟨_, #[], n1, l1, rfl, rfl, by rw [sizeLine_eq]; decide, .nil⟩) .nil) .nil)⟩
/-- the law's def -/
theorem law_mk {h : Heap} {pr : Prog} {k : Ck} {N : List Str} {fn : Fn} {st : Stmt} {f fa : Addr} {oc : Value} {od an : Option Addr} {osl : Array (Option Value)} {kV doc pm cdv ct : Value} {y : Str} (n : Nat) (X : K.In h) (G : h.Ns mainGlobals mg) (hfa : mg "law" = some (.ref fa))
    (ds : ∀ fn ∈ pr.fns, DefAt K mg k fn) (hf : ∀ x ∈ k.fns, ∃ fn, pr.fns.find? (fun y => y.name == x) = some fn) (hnm : ∀ fn ∈ pr.fns, pr.fns.find? (fun y => y.name == fn.name) = some fn)
    (cons : ∀ x ∈ k.cs, ConAt K mg pr.consts x) (bis : ∀ x ∈ k.bis, mg x = none) (xcs : ∀ c ∈ k.xs, XcAt K mg c) (xms : ∀ c ∈ k.xs, ∀ y ∈ k.xs, XmAt K c y)
    (a : PySem.W.nsIn K mainGlobals "law" = some (some (.ref f)))
    (l : K.lookup f = some ⟨oc, od, .func (PySem.W.fnOf "law" "law" (defArgs st) (defBody st) (defScope st) .none kV doc pm an cdv ct), osl⟩)
    (c : PySem.W.codeIn K cdv "law" = true) (kp : PySem.W.keepIn K (.ref f) = true) (hn : fn.name = "law") (hm : fn ∈ pr.fns)
    (hb : ∀ (kV doc pm : Value) (an : Option Addr) (cdv ct : Value) (s : Shared) (v : Value), BindsTo s (PySem.W.fnOf "law" "law" (defArgs st) (defBody st) (defScope st) .none kV doc pm an cdv ct) ⟨[v], []⟩ [(y, v)])
    (hd : dcB { k with N := N } [y] fn st = true) :
    ∃ fd : FuncData, (∀ (s : Shared) (v : Value), BindsTo s fd ⟨[v], []⟩ [(y, v)]) ∧ ∀ base : Heap, K.In base → base.Ns mainGlobals mg → FnOk P w K mg base (L2.CX P w) (n + 6) fa fd [y] (spF K (pr.call (n + 1)) "law") := by
  have e := hfa.symm.trans (PySem.W.mg_of X G a)
  cases e
  have F := fun_mk l c kp
  refine ⟨_, hb kV doc pm an cdv ct, fun base _ _ => ?_⟩
  rw [show spF K (pr.call (n + 1)) "law" = spF K (pr.call (n + 1)) fn.name from by rw [hn]]
  refine fn_ok (k := { k with N := N }) (cl := pr.call n) (g := pr.consts) (lv := n + 5) F hd (by omega) (fun x hx => ?_) cons bis xcs xms (fun vs S => ?_)
  · obtain ⟨fn', e⟩ := hf x hx
    have hm := List.mem_of_find?_eq_some e
    have hx : fn'.name = x := by simpa using List.find?_some e
    have := prog_ok (P := P) (w := w) (base := base) ds hf hnm cons bis xcs xms n fn' hm
    rw [hx] at this
    exact this
  · show Prog.call pr (n + 1) fn.name vs S = _
    unfold Prog.call
    rw [hnm fn hm]
theorem law_sp {H : Hp} {a : Addr} {ns : List Int} {cl : CallF} {S' : Store} {E : XK} (hS : SqL K H a (ns.map V.int)) (h : cl "law" [.s ns] [] = .ok (.p (.bool true)) S') : spF K cl "law" [.ref a] H (fun v _ => v = .bl true) E := by
  refine ⟨[.s ns], [], ⟨[], []⟩, ⟨rfl, fun i j a e => by simp at e, fun i a e => by simp at e, fun i ds e => by simp at e, fun a z => nomatch z⟩, .cons ⟨a, rfl, ?_⟩ .nil, ?_⟩
  · rcases hS with h | h
    · exact .inl ⟨h, fun z => by rcases z with z | z <;> cases z⟩
    · exact .inr h
  · rw [h]
    intro x H' m' st rs r
    cases r
    rfl
end
end Pl

set_option Elab.async false
set_option linter.all false
set_option autoImplicit false
set_option maxRecDepth 100000
/-! PB6: the evaluator, as simp unfolds it. -/
namespace Pl
open PySem L2

/-- the def of that code stands in the program -/
structure Has (P : Prog) (fn : Fn) : Prop where
  fnd : P.fns.find? (fun y => y.name == fn.name) = some fn
theorem Has.call {P : Prog} {fn : Fn} (h : Has P fn) (n : Nat) (vs : List Vl) (S : Store) : P.call (n + 1) fn.name vs S = runFn (P.call n) P.consts fn vs S := by
  show Prog.call P (n + 1) fn.name vs S = _
  unfold Prog.call
  rw [h.fnd]

@[simp] theorem bind_ok {α β : Type} {a : α} {S : Store} {f : α → Store → Res β} : (Res.ok a S).bind f = f a S := rfl
@[simp] theorem bind_bad {α β : Type} {f : α → Store → Res β} : (Res.bad : Res α).bind f = .bad := rfl
@[simp] theorem bind_ite {α β : Type} {c : Prop} [Decidable c] {x y : Res α} {f : α → Store → Res β} : (if c then x else y).bind f = if c then x.bind f else y.bind f := by split <;> rfl
@[simp] theorem bind_exn {α β : Type} {x : Xn} {S : Store} {f : α → Store → Res β} : (Res.exn x S : Res α).bind f = .exn x S := rfl
@[simp] theorem noX_ok {α : Type} {a : α} {S : Store} : (Res.ok a S).noX = .ok a S := rfl
@[simp] theorem noX_bad {α : Type} : (Res.bad : Res α).noX = .bad := rfl
@[simp] theorem cut_ok {α : Type} {a : α} {S : Store} {n : Nat} : (Res.ok a S).cut n = .ok a S := rfl
@[simp] theorem cut_bad {α : Type} {n : Nat} : (Res.bad : Res α).cut n = .bad := rfl
@[simp] theorem cut_exn {α : Type} {x : Xn} {S : Store} {n : Nat} : (Res.exn x S : Res α).cut n = .exn x (S.take n) := rfl
@[simp] theorem cut_ite {α : Type} {c : Prop} [Decidable c] {x y : Res α} {n : Nat} : (if c then x else y).cut n = if c then x.cut n else y.cut n := by split <;> rfl
@[simp] theorem cut_fin {n k : Nat} {v : Vl} {S : Store} : (finish n v S).cut k = finish n v S := cut_finish
@[simp] theorem pOpt_some {d : D} {S : Store} : pOpt (some d) S = .ok (.p d) S := rfl
@[simp] theorem bOpt_some {b : Bool} {S : Store} : bOpt (some b) S = .ok (.p (.bool b)) S := rfl
@[simp] theorem rd_p {d : D} {S : Store} : rd S (.p d) = some d := rfl
@[simp] theorem rd_s {ns : List Int} {S : Store} : rd S (.s ns) = some (.list (ns.map .int)) := rfl
@[simp] theorem asB_b {b : Bool} {S : Store} : asB (.p (.bool b)) S = .ok b S := rfl
@[simp] theorem finish_p {n : Nat} {d : D} {S : Store} : finish n (.p d) S = .ok (.p d) (S.take n) := rfl
theorem run_of {cl : CallF} {g : Str → Option D} {fn : Fn} {vs : List Vl} {S S' : Store} {v : Vl} (hl : vs.length = fn.params) (h : ((evSs cl g fn.body (vs.map some ++ List.replicate (fn.slots - vs.length) none) S).bind fun f S1 => match f with
      | .nx _ => finish S.length (.p .none) S1
      | .rt v => finish S.length v S1
      | _ => .bad) = .ok v S') : runFn cl g fn vs S = .ok v S' := by
  unfold runFn
  rw [if_pos hl]
  exact congrArg (Res.cut S.length) h
@[simp] theorem run_def {cl : CallF} {g : Str → Option D} {nm : Str} {np sl : Nat} {b : List Sm} {vs : List Vl} {S : Store} : runFn cl g ⟨nm, np, sl, b⟩ vs S =
    if vs.length = np then ((evSs cl g b (vs.map some ++ List.replicate (sl - vs.length) none) S).bind fun f S1 => match f with
      | .nx _ => finish S.length (.p .none) S1
      | .rt v => finish S.length v S1
      | _ => .bad).cut S.length
    else .bad := rfl
@[simp] theorem qev_1 : type_of% (@ev.eq_1) := @ev.eq_1
@[simp] theorem qev_2 : type_of% (@ev.eq_2) := @ev.eq_2
@[simp] theorem qev_3 : type_of% (@ev.eq_3) := @ev.eq_3
@[simp] theorem qev_4 : type_of% (@ev.eq_4) := @ev.eq_4
@[simp] theorem qev_5 : type_of% (@ev.eq_5) := @ev.eq_5
@[simp] theorem qev_6 : type_of% (@ev.eq_6) := @ev.eq_6
@[simp] theorem qev_7 : type_of% (@ev.eq_7) := @ev.eq_7
@[simp] theorem qev_8 : type_of% (@ev.eq_8) := @ev.eq_8
@[simp] theorem qev_9 : type_of% (@ev.eq_9) := @ev.eq_9
@[simp] theorem qev_10 : type_of% (@ev.eq_10) := @ev.eq_10
@[simp] theorem qev_11 : type_of% (@ev.eq_11) := @ev.eq_11
@[simp] theorem qev_12 : type_of% (@ev.eq_12) := @ev.eq_12
@[simp] theorem qev_13 : type_of% (@ev.eq_13) := @ev.eq_13
@[simp] theorem qev_14 : type_of% (@ev.eq_14) := @ev.eq_14
@[simp] theorem qev_15 : type_of% (@ev.eq_15) := @ev.eq_15
@[simp] theorem qev_16 : type_of% (@ev.eq_16) := @ev.eq_16
@[simp] theorem qev_17 : type_of% (@ev.eq_17) := @ev.eq_17
@[simp] theorem qev_18 : type_of% (@ev.eq_18) := @ev.eq_18
@[simp] theorem qev_19 : type_of% (@ev.eq_19) := @ev.eq_19
@[simp] theorem qev_20 : type_of% (@ev.eq_20) := @ev.eq_20
@[simp] theorem qev_21 : type_of% (@ev.eq_21) := @ev.eq_21
@[simp] theorem qev_22 : type_of% (@ev.eq_22) := @ev.eq_22
@[simp] theorem qev_23 : type_of% (@ev.eq_23) := @ev.eq_23
@[simp] theorem qev_24 : type_of% (@ev.eq_24) := @ev.eq_24
@[simp] theorem qev_25 : type_of% (@ev.eq_25) := @ev.eq_25
@[simp] theorem qev_26 : type_of% (@ev.eq_26) := @ev.eq_26
@[simp] theorem qev_27 : type_of% (@ev.eq_27) := @ev.eq_27
@[simp] theorem qev_28 : type_of% (@ev.eq_28) := @ev.eq_28
@[simp] theorem qev_29 : type_of% (@ev.eq_29) := @ev.eq_29
@[simp] theorem qev_30 : type_of% (@ev.eq_30) := @ev.eq_30
@[simp] theorem qev_31 : type_of% (@ev.eq_31) := @ev.eq_31
@[simp] theorem qev_32 : type_of% (@ev.eq_32) := @ev.eq_32
@[simp] theorem qev_33 : type_of% (@ev.eq_33) := @ev.eq_33
@[simp] theorem qev_34 : type_of% (@ev.eq_34) := @ev.eq_34
@[simp] theorem qevs_1 : type_of% (@evs.eq_1) := @evs.eq_1
@[simp] theorem qevs_2 : type_of% (@evs.eq_2) := @evs.eq_2
@[simp] theorem qevc_1 : type_of% (@evc.eq_1) := @evc.eq_1
@[simp] theorem qevc_2 : type_of% (@evc.eq_2) := @evc.eq_2
@[simp] theorem qevS_1 : type_of% (@evS.eq_1) := @evS.eq_1
@[simp] theorem qevS_2 : type_of% (@evS.eq_2) := @evS.eq_2
@[simp] theorem qevS_3 : type_of% (@evS.eq_3) := @evS.eq_3
@[simp] theorem qevS_4 : type_of% (@evS.eq_4) := @evS.eq_4
@[simp] theorem qevS_5 : type_of% (@evS.eq_5) := @evS.eq_5
@[simp] theorem qevS_6 : type_of% (@evS.eq_6) := @evS.eq_6
@[simp] theorem qevS_7 : type_of% (@evS.eq_7) := @evS.eq_7
@[simp] theorem qevS_8 : type_of% (@evS.eq_8) := @evS.eq_8
@[simp] theorem qevS_9 : type_of% (@evS.eq_9) := @evS.eq_9
@[simp] theorem qevS_10 : type_of% (@evS.eq_10) := @evS.eq_10
@[simp] theorem qevS_11 : type_of% (@evS.eq_11) := @evS.eq_11
@[simp] theorem qevS_12 : type_of% (@evS.eq_12) := @evS.eq_12
@[simp] theorem qevS_13 : type_of% (@evS.eq_13) := @evS.eq_13
@[simp] theorem qevS_14 : type_of% (@evS.eq_14) := @evS.eq_14
@[simp] theorem qevS_15 : type_of% (@evS.eq_15) := @evS.eq_15
@[simp] theorem qevS_16 : type_of% (@evS.eq_16) := @evS.eq_16
@[simp] theorem qevS_17 : type_of% (@evS.eq_17) := @evS.eq_17
@[simp] theorem qevSs_1 : type_of% (@evSs.eq_1) := @evSs.eq_1
@[simp] theorem qevSs_2 : type_of% (@evSs.eq_2) := @evSs.eq_2
@[simp] theorem qrdAll_1 : type_of% (@rdAll.eq_1) := @rdAll.eq_1
@[simp] theorem qrdAll_2 : type_of% (@rdAll.eq_2) := @rdAll.eq_2
@[simp] theorem qpureAll_1 : type_of% (@pureAll.eq_1) := @pureAll.eq_1
@[simp] theorem qpureAll_2 : type_of% (@pureAll.eq_2) := @pureAll.eq_2
@[simp] theorem qboolsOf_1 : type_of% (@boolsOf.eq_1) := @boolsOf.eq_1
@[simp] theorem qboolsOf_2 : type_of% (@boolsOf.eq_2) := @boolsOf.eq_2
@[simp] theorem qintsOf_1 : type_of% (@intsOf.eq_1) := @intsOf.eq_1
@[simp] theorem qintsOf_2 : type_of% (@intsOf.eq_2) := @intsOf.eq_2
@[simp] theorem qisiD_1 : type_of% (@isiD.eq_1) := @isiD.eq_1
@[simp] theorem qisiT_1 : type_of% (@isiT.eq_1) := @isiT.eq_1
@[simp] theorem qtyOf_1 : type_of% (@tyOf.eq_1) := @tyOf.eq_1
@[simp] theorem qtyOf_2 : type_of% (@tyOf.eq_2) := @tyOf.eq_2
@[simp] theorem qtyOf_3 : type_of% (@tyOf.eq_3) := @tyOf.eq_3
@[simp] theorem qtyOf_4 : type_of% (@tyOf.eq_4) := @tyOf.eq_4
@[simp] theorem qtyOf_5 : type_of% (@tyOf.eq_5) := @tyOf.eq_5
@[simp] theorem qtyOf_6 : type_of% (@tyOf.eq_6) := @tyOf.eq_6
@[simp] theorem qtyOf_7 : type_of% (@tyOf.eq_7) := @tyOf.eq_7
@[simp] theorem qisNon_1 : type_of% (@isNon.eq_1) := @isNon.eq_1
@[simp] theorem qcmpD_1 : type_of% (@cmpD.eq_1) := @cmpD.eq_1
@[simp] theorem qcmpD_2 : type_of% (@cmpD.eq_2) := @cmpD.eq_2
@[simp] theorem qcmpD_3 : type_of% (@cmpD.eq_3) := @cmpD.eq_3
@[simp] theorem qcmpD_4 : type_of% (@cmpD.eq_4) := @cmpD.eq_4
@[simp] theorem qcmpD_5 : type_of% (@cmpD.eq_5) := @cmpD.eq_5
@[simp] theorem qcmpD_6 : type_of% (@cmpD.eq_6) := @cmpD.eq_6
@[simp] theorem qcmpD_7 : type_of% (@cmpD.eq_7) := @cmpD.eq_7
@[simp] theorem qcmpD_8 : type_of% (@cmpD.eq_8) := @cmpD.eq_8
@[simp] theorem qcmpD_9 : type_of% (@cmpD.eq_9) := @cmpD.eq_9
@[simp] theorem qcmpD_10 : type_of% (@cmpD.eq_10) := @cmpD.eq_10
@[simp] theorem qcmpD_11 : type_of% (@cmpD.eq_11) := @cmpD.eq_11
@[simp] theorem qcmpD_12 : type_of% (@cmpD.eq_12) := @cmpD.eq_12
@[simp] theorem qcmpD_13 : type_of% (@cmpD.eq_13) := @cmpD.eq_13
@[simp] theorem qcmpD_14 : type_of% (@cmpD.eq_14) := @cmpD.eq_14
@[simp] theorem qcmpD_15 : type_of% (@cmpD.eq_15) := @cmpD.eq_15
@[simp] theorem qcmpD_16 : type_of% (@cmpD.eq_16) := @cmpD.eq_16
@[simp] theorem qcmpD_17 : type_of% (@cmpD.eq_17) := @cmpD.eq_17
@[simp] theorem qbiD_1 : type_of% (@biD.eq_1) := @biD.eq_1
@[simp] theorem qbiD_2 : type_of% (@biD.eq_2) := @biD.eq_2
@[simp] theorem qbiD_3 : type_of% (@biD.eq_3) := @biD.eq_3
@[simp] theorem qbiD_4 : type_of% (@biD.eq_4) := @biD.eq_4
@[simp] theorem qbiD_5 : type_of% (@biD.eq_5) := @biD.eq_5
@[simp] theorem qbiD_6 : type_of% (@biD.eq_6) := @biD.eq_6
@[simp] theorem qbiD_7 : type_of% (@biD.eq_7) := @biD.eq_7
@[simp] theorem qbiD_8 : type_of% (@biD.eq_8) := @biD.eq_8
@[simp] theorem qbiD_9 : type_of% (@biD.eq_9) := @biD.eq_9
@[simp] theorem qbiD_10 : type_of% (@biD.eq_10) := @biD.eq_10
@[simp] theorem qbiD_11 : type_of% (@biD.eq_11) := @biD.eq_11
@[simp] theorem qbiD_12 : type_of% (@biD.eq_12) := @biD.eq_12
@[simp] theorem qbiD_13 : type_of% (@biD.eq_13) := @biD.eq_13
@[simp] theorem qbiD_14 : type_of% (@biD.eq_14) := @biD.eq_14
@[simp] theorem qbiD_15 : type_of% (@biD.eq_15) := @biD.eq_15
@[simp] theorem qbiD_16 : type_of% (@biD.eq_16) := @biD.eq_16
@[simp] theorem qidxD_1 : type_of% (@idxD.eq_1) := @idxD.eq_1
@[simp] theorem qidxD_2 : type_of% (@idxD.eq_2) := @idxD.eq_2
@[simp] theorem qidxD_3 : type_of% (@idxD.eq_3) := @idxD.eq_3
@[simp] theorem qbinD_1 : type_of% (@binD.eq_1) := @binD.eq_1
@[simp] theorem qbinD_2 : type_of% (@binD.eq_2) := @binD.eq_2
@[simp] theorem qbinD_3 : type_of% (@binD.eq_3) := @binD.eq_3
@[simp] theorem qbinD_4 : type_of% (@binD.eq_4) := @binD.eq_4
@[simp] theorem qbinD_5 : type_of% (@binD.eq_5) := @binD.eq_5
@[simp] theorem qbinD_6 : type_of% (@binD.eq_6) := @binD.eq_6
@[simp] theorem qbinD_7 : type_of% (@binD.eq_7) := @binD.eq_7
@[simp] theorem qbinD_8 : type_of% (@binD.eq_8) := @binD.eq_8
@[simp] theorem qbinD_9 : type_of% (@binD.eq_9) := @binD.eq_9
@[simp] theorem qitemsOf_1 : type_of% (@itemsOf.eq_1) := @itemsOf.eq_1
@[simp] theorem qitemsOf_2 : type_of% (@itemsOf.eq_2) := @itemsOf.eq_2
@[simp] theorem qbindT_1 : type_of% (@bindT.eq_1) := @bindT.eq_1
@[simp] theorem qsetTs_1 : type_of% (@setTs.eq_1) := @setTs.eq_1
@[simp] theorem qsetV_1 : type_of% (@setV.eq_1) := @setV.eq_1
@[simp] theorem qwipeR_1 : type_of% (@wipeR.eq_1) := @wipeR.eq_1
@[simp] theorem qwipeR_2 : type_of% (@wipeR.eq_2) := @wipeR.eq_2
@[simp] theorem qmetV_1 : type_of% (@metV.eq_1) := @metV.eq_1
@[simp] theorem qmetC_1 : type_of% (@metC.eq_1) := @metC.eq_1
@[simp] theorem qmetC_2 : type_of% (@metC.eq_2) := @metC.eq_2
@[simp] theorem qmetC_3 : type_of% (@metC.eq_3) := @metC.eq_3
@[simp] theorem qmetC_4 : type_of% (@metC.eq_4) := @metC.eq_4
@[simp] theorem qisLst_1 : type_of% (@isLst.eq_1) := @isLst.eq_1
@[simp] theorem qgetD_1 : type_of% (@getD'.eq_1) := @getD'.eq_1
@[simp] theorem qkeyOf_1 : type_of% (@keyOf.eq_1) := @keyOf.eq_1
@[simp] theorem qkeyOf_2 : type_of% (@keyOf.eq_2) := @keyOf.eq_2
@[simp] theorem qintOf_1 : type_of% (@intOf.eq_1) := @intOf.eq_1
@[simp] theorem qbindT_t {ρ : Rho} {ts : List Nat} {ds : List D} : bindT ρ ts true (.tuple ds) = if ds.length = ts.length then some (setTs ρ ts ds) else none := rfl
@[simp] theorem setV_nil {ρ : Rho} {vs : List Vl} : setV ρ [] vs = ρ := by cases vs <;> rfl
@[simp] theorem setTs_nil {ρ : Rho} {vs : List D} : setTs ρ [] vs = ρ := by cases vs <;> rfl
@[simp] theorem qputR {d : D} {n : Nat} {k : D} {S : Store} : putR (.p d) (.r n) (.p k) S = match S[n]? with
    | some (.lst xs) => match k with
      | .int k => match L2.ixN xs.length k with
        | some j => .ok () (S.set n (.lst (xs.set j d)))
        | none => .bad
      | _ => .bad
    | some (.dct es) => match keyOf k with
      | some k => if scD d && decide (es.length < sizeLine) then .ok () (S.set n (.dct (putD es k d))) else .bad
      | none => .bad
    | _ => .bad := rfl
@[simp] theorem qssetD_l {xs : List D} : ssetD (.list xs) = match intsOf xs with
    | some ns => if ns.length < 64 then some (.list ((setI ns).map .int)) else none
    | none => match rowsI xs with
      | some rs => if rs.length < 64 then some (.list ((setR rs).map rowT)) else none
      | none => none := rfl
@[simp] theorem qssetD_t {xs : List D} : ssetD (.tuple xs) = match intsOf xs with
    | some ns => if ns.length < 64 then some (.list ((setI ns).map .int)) else none
    | none => none := rfl
end Pl

set_option Elab.async false
set_option linter.all false
set_option autoImplicit false
set_option maxRecDepth 100000
/-! PB7: the program's exception classes. -/
namespace Pl
open PySem PySem.Spec PyProof.Rows L2
theorem xc_mk {K : PySem.W.Frag} {mg : Str → Option Value} {h : Heap} {c : Str} {C : Addr} (X : K.In h) (G : h.Ns mainGlobals mg) (a : PySem.W.nsIn K mainGlobals c = some (some (.ref C))) (e : PySem.W.excIn K C [.type "ValueError", .type "Exception", .type "BaseException", .type "object"] "ValueError.__new__" = true)
    (p : PySem.W.keepIn K (.ref C) = true) (s : PySem.W.subIn K (.ref C) (.type "BaseException") = some true) (t : PySem.W.typeIn K (.ref C) = some (.type "type")) : XcAt K mg c := ⟨C, a, PySem.W.mg_of X G a, e, p, s, t⟩
theorem xm_mk {K : PySem.W.Frag} {c y : Str} {C D : Addr} (a : PySem.W.nsIn K mainGlobals c = some (some (.ref C))) (b : PySem.W.nsIn K mainGlobals y = some (some (.ref D)))
    (s : PySem.W.subIn K (.ref D) (.type "BaseException") = some true) (i : PySem.W.isClsIn K D = true) (t : PySem.W.typeIn K (.ref D) = some (.type "type")) (q : PySem.W.subIn K (.ref C) (.ref D) = some (decide (c = y))) : XmAt K c y := by
  intro C' D' e1 e2
  rw [a] at e1
  rw [b] at e2
  cases e1
  cases e2
  have w1 : (PySem.W.subIn K (.ref D) (.type "BaseException") == some true) = true := by rw [s]; rfl
  have w2 : ((PySem.W.clsIn K D).isSome && PySem.W.typeIn K (.ref D) == some (.type "type")) = true := by
    rw [show (PySem.W.clsIn K D).isSome = true from i, t]; rfl
  show (if (PySem.W.subIn K (.ref D) (.type "BaseException") == some true) = true then (if ((PySem.W.clsIn K D).isSome && PySem.W.typeIn K (.ref D) == some (.type "type")) = true then PySem.W.subIn K (.ref C) (.ref D) else none) else none) = _
  rw [if_pos w1, if_pos w2]
  exact q
/-- the law, from its def's promise and its value -/
theorem walkX {l : PySem.W.OpenLaw} {q : Program} {loose : List Str} {XP : (Str → Option Value) → Heap → Prop} {YP : World → Heap → Prop} {d : DefRec} {K : Params → PySem.W.Frag} {x : Str} (cl : CallF) (m : Nat) (a1 : l.most = some 63) (a2 : d.params.defaults = []) (a3 : Room m callerA)
    (a4 : ∀ (w : World) (h : Heap), YP w h → (K w.params).In h) (main : ∀ ns : List Int, ns.length ≤ 63 → ∃ S, cl "law" [.s ns] [] = .ok (.p (.bool true)) S)
    (F : ∀ (w : World) (mg : Str → Option Value) (fa : Addr) (h : Heap), (K w.params).In h → h.Ns mainGlobals mg → mg d.name = some (.ref fa) → ∃ fd : FuncData, (∀ (s : Shared) (u : Value), BindsTo s fd ⟨[u], []⟩ [(x, u)]) ∧
      ∀ base : Heap, (K w.params).In base → base.Ns mainGlobals mg → FnOk l.prog w (K w.params) mg base (L2.CX l.prog w) m fa fd [x] (spF (K w.params) cl "law")) : PySem.W.WalkO q loose XP YP l.row.toRowW d [] (fun f vs => PySem.call f vs) :=
  L2.walk_of (K := K) (CX := fun w => L2.CX l.prog w) (sp := fun w => spF (K w.params) cl "law") a1 (by decide) a2 a3 a4 F (fun w H a ns h1 h2 h3 => let ⟨_, e⟩ := main ns h1; law_sp h3 e) fun w H s e s' z => by
    obtain ⟨_, _, _, _, _, _, _, _, _, _, _, _, z⟩ := z
    exact z
end Pl

set_option Elab.async false
set_option linter.all false
set_option autoImplicit false
set_option maxRecDepth 100000
/-! The codes of the defs that many laws share (printed by gen.py). -/
namespace Lw
open PySem Pl
/-- is_whole -/
def cisUwhole : Fn := ⟨"is_whole", 1, 1, [
  .ret (.and (.isi (.var 0) .int) (.not (.isi (.var 0) .bool)))]⟩
/-- is_from -/
def cisUfrom : Fn := ⟨"is_from", 3, 3, [
  .ret (.and (.call "is_whole" [(.var 0)]) (.cmp2 .le .le (.var 1) (.var 0) (.var 2)))]⟩
/-- has_shape -/
def chasUshape : Fn := ⟨"has_shape", 2, 2, [
  .ite (.or (.not (.isi (.var 0) .tuple)) (.or (.cmp .eq (.bi .len [(.var 0)]) (.con (.int 0))) (.not (.isi (.idx (.var 0) (.con (.int 0))) .str)))) [.ret (.con (.bool false))] [],
  .ite (.cmp .eq (.idx (.var 0) (.con (.int 0))) (.con (.str "letter"))) [.ret (.and (.cmp .eq (.bi .len [(.var 0)]) (.con (.int 2))) (.call "is_from" [(.idx (.var 0) (.con (.int 1))), (.con (.int 0)), (.bin .sub (.glob "LETTERS") (.con (.int 1)))]))] [],
  .ite (.cmp .eq (.idx (.var 0) (.con (.int 0))) (.con (.str "false"))) [.ret (.cmp .eq (.bi .len [(.var 0)]) (.con (.int 1)))] [],
  .ite (.or (.cmp .nin (.idx (.var 0) (.con (.int 0))) (.glob "PAIRS")) (.or (.cmp .ne (.bi .len [(.var 0)]) (.con (.int 3))) (.cmp .eq (.var 1) (.con (.int 0))))) [.ret (.con (.bool false))] [],
  .ret (.and (.call "has_shape" [(.idx (.var 0) (.con (.int 1))), (.bin .sub (.var 1) (.con (.int 1)))]) (.call "has_shape" [(.idx (.var 0) (.con (.int 2))), (.bin .sub (.var 1) (.con (.int 1)))]))]⟩
/-- knots -/
def cknots : Fn := ⟨"knots", 1, 1, [
  .ret (.ite (.cmp .in_ (.idx (.var 0) (.con (.int 0))) (.glob "PAIRS")) (.bin .add (.bin .add (.con (.int 1)) (.call "knots" [(.idx (.var 0) (.con (.int 1)))])) (.call "knots" [(.idx (.var 0) (.con (.int 2)))])) (.con (.int 1)))]⟩
/-- is_formula -/
def cisUformula : Fn := ⟨"is_formula", 1, 1, [
  .ret (.and (.call "has_shape" [(.var 0), (.glob "DEEPEST")]) (.cmp .le (.call "knots" [(.var 0)]) (.glob "MOST_KNOTS")))]⟩
/-- contrary -/
def ccontrary : Fn := ⟨"contrary", 1, 1, [
  .ret (.tup [(.con (.str "if")), (.var 0), (.glob "FALSE")])]⟩
/-- letters_in -/
def clettersUin : Fn := ⟨"letters_in", 1, 1, [
  .ite (.cmp .eq (.idx (.var 0) (.con (.int 0))) (.con (.str "letter"))) [.ret (.lst [(.idx (.var 0) (.con (.int 1)))])] [],
  .ite (.cmp .eq (.idx (.var 0) (.con (.int 0))) (.con (.str "false"))) [.ret (.lst [])] [],
  .ret (.sset (.bin .add (.call "letters_in" [(.idx (.var 0) (.con (.int 1)))]) (.call "letters_in" [(.idx (.var 0) (.con (.int 2)))])))]⟩
/-- parts -/
def cparts : Fn := ⟨"parts", 1, 4, [
  .asg 1 (.mls []),
  .asg 2 (.mls [(.var 0)]),
  .whl (.cmp .gt (.bi .len [(.var 2)]) (.con (.int 0))) [.asg 3 (.met .pop (.var 2) []), .ite (.cmp .in_ (.var 3) (.var 1)) [.exp (.met .remove (.var 1) [(.var 3)])] [], .exp (.met .append (.var 1) [(.var 3)]), .ite (.cmp .in_ (.idx (.var 3) (.con (.int 0))) (.glob "PAIRS")) [.exp (.met .extend (.var 2) [(.lst [(.idx (.var 3) (.con (.int 1))), (.idx (.var 3) (.con (.int 2)))])])] []],
  .ret (.rev (.var 1))]⟩
/-- joined_value -/
def cjoinedUvalue : Fn := ⟨"joined_value", 3, 3, [
  .ite (.cmp .eq (.var 0) (.con (.str "and"))) [.ret (.bi .min [(.var 1), (.var 2)])] [],
  .ret (.ite (.cmp .eq (.var 0) (.con (.str "or"))) (.bi .max [(.var 1), (.var 2)]) (.bi .max [(.bin .sub (.con (.int 1)) (.var 1)), (.var 2)]))]⟩
/-- value_of -/
def cvalueUof : Fn := ⟨"value_of", 2, 2, [
  .ite (.cmp .eq (.idx (.var 0) (.con (.int 0))) (.con (.str "letter"))) [.ret (.idx (.var 1) (.idx (.var 0) (.con (.int 1))))] [],
  .ite (.cmp .eq (.idx (.var 0) (.con (.int 0))) (.con (.str "false"))) [.ret (.con (.int 0))] [],
  .ret (.call "joined_value" [(.idx (.var 0) (.con (.int 0))), (.call "value_of" [(.idx (.var 0) (.con (.int 1))), (.var 1)]), (.call "value_of" [(.idx (.var 0) (.con (.int 2))), (.var 1)])])]⟩
/-- rows_of -/
def crowsUof : Fn := ⟨"rows_of", 1, 4, [
  .asg 1 (.lst [(.bin .mul (.tup [(.con (.int 0))]) (.glob "LETTERS"))]),
  .for_ [2] false (.rev (.bi .sorted [(.var 0)])) [.asg 1 (.bin .add (.var 1) (.lc [3] [3] false (.var 1) [] (.bin .add (.bin .add (.slH (.var 3) (.var 2)) (.tup [(.con (.int 1))])) (.slL (.var 3) (.bin .add (.var 2) (.con (.int 1)))))))],
  .ret (.bi .sorted [(.var 1)])]⟩
/-- against -/
def cagainst : Fn := ⟨"against", 1, 2, [
  .for_ [1] false (.call "rows_of" [(.call "letters_in" [(.var 0)])]) [.ite (.cmp .eq (.call "value_of" [(.var 0), (.var 1)]) (.con (.int 0))) [.ret (.var 1)] []],
  .ret (.con .none)]⟩
/-- is_theorem -/
def cisUtheorem : Fn := ⟨"is_theorem", 1, 1, [
  .ret (.cmp .is_ (.call "against" [(.var 0)]) (.con .none))]⟩
/-- are_equal -/
def careUequal : Fn := ⟨"are_equal", 2, 3, [
  .ret (.bi .all [(.lc [2] [2] false (.call "rows_of" [(.lst [(.con (.int 0)), (.con (.int 1)), (.con (.int 2)), (.con (.int 3))])]) [] (.cmp .eq (.call "value_of" [(.var 0), (.var 2)]) (.call "value_of" [(.var 1), (.var 2)])))])]⟩
/-- put_for -/
def cputUfor : Fn := ⟨"put_for", 2, 2, [
  .ite (.cmp .eq (.idx (.var 0) (.con (.int 0))) (.con (.str "letter"))) [.ret (.idx (.var 1) (.idx (.var 0) (.con (.int 1))))] [],
  .ite (.cmp .eq (.idx (.var 0) (.con (.int 0))) (.con (.str "false"))) [.ret (.var 0)] [],
  .ret (.tup [(.idx (.var 0) (.con (.int 0))), (.call "put_for" [(.idx (.var 0) (.con (.int 1))), (.var 1)]), (.call "put_for" [(.idx (.var 0) (.con (.int 2))), (.var 1)])])]⟩
/-- _law_is_integer -/
def cUlawUisUinteger : Fn := ⟨"_law_is_integer", 1, 1, [
  .ret (.and (.isi (.var 0) .int) (.not (.isi (.var 0) .bool)))]⟩
/-- _law_same -/
def cUlawUsame : Fn := ⟨"_law_same", 2, 3, [
  .ite (.or (.isi (.var 1) .tuple) (.isi (.var 1) .list)) [.ite (.or (.cmp .ne (.isi (.var 1) .tuple) (.isi (.var 0) .tuple)) (.or (.cmp .ne (.isi (.var 1) .list) (.isi (.var 0) .list)) (.cmp .ne (.bi .len [(.var 0)]) (.bi .len [(.var 1)])))) [.ret (.con (.bool false))] [], .ret (.cmp .eq (.bi .len [(.lcr [2] 2 [] (.bi .len [(.var 1)]) [(.not (.call "_law_same" [(.idx (.var 0) (.var 2)), (.idx (.var 1) (.var 2))]))] (.var 2))]) (.con (.int 0)))] [],
  .ite (.cmp .is_ (.var 1) (.con .none)) [.ret (.cmp .is_ (.var 0) (.con .none))] [],
  .ite (.or (.isi (.var 1) .bool) (.isi (.var 0) .bool)) [.ret (.and (.isi (.var 1) .bool) (.and (.isi (.var 0) .bool) (.cmp .eq (.var 0) (.var 1))))] [],
  .ite (.isi (.var 1) .int) [.ret (.and (.isi (.var 0) .int) (.cmp .eq (.var 0) (.var 1)))] [],
  .ret (.and (.isi (.var 0) .str) (.and (.isi (.var 1) .str) (.cmp .eq (.var 0) (.var 1))))]⟩
/-- _law_pool -/
def cUlawUpool : Fn := ⟨"_law_pool", 1, 3, [
  .asg 1 (.con (.int 7)),
  .for_ [2] false (.slH (.var 0) (.con (.int 63))) [.asg 1 (.bin .mod (.bi .int [(.bin .add (.bin .mul (.var 1) (.con (.int 31))) (.var 2))]) (.con (.int 1000003)))],
  .ret (.mls [(.bi .list [(.var 0)]), (.con (.int 0)), (.con (.int 0)), (.con (.int 0)), (.var 1)])]⟩
/-- _law_spread -/
def cUlawUspread : Fn := ⟨"_law_spread", 1, 4, [
  .asg 1 (.bin .mod (.bi .int [(.var 0)]) (.con (.int 2147483647))),
  .asg 2 (.con (.int 1)),
  .forr 3 [] (.con (.int 4)) [.asg 1 (.bin .mod (.bi .int [(.bin .add (.bin .add (.bin .mul (.var 1) (.con (.int 48271))) (.con (.int 12345))) (.var 3))]) (.con (.int 2147483647))), .asg 2 (.bin .add (.bin .mul (.var 2) (.con (.int 2147483647))) (.var 1))],
  .ret (.var 2)]⟩
/-- _law_draw -/
def cUlawUdraw : Fn := ⟨"_law_draw", 2, 5, [
  .ite (.and (.cmp .le (.idx (.var 0) (.con (.int 2))) (.con (.int 0))) (.cmp .lt (.idx (.var 0) (.con (.int 1))) (.bi .len [(.idx (.var 0) (.con (.int 0)))]))) [.asg 3 (.idx (.idx (.var 0) (.con (.int 0))) (.idx (.var 0) (.con (.int 1)))), .setix (.var 0) (.con (.int 1)) (.bin .add (.idx (.var 0) (.con (.int 1))) (.con (.int 1))), .setix (.var 0) (.con (.int 2)) (.var 3), .ite (.cmp .lt (.var 3) (.con (.int 1000000000000000000))) [.setix (.var 0) (.con (.int 2)) (.call "_law_spread" [(.var 3)])] []] [],
  .setix (.var 0) (.con (.int 3)) (.bin .add (.idx (.var 0) (.con (.int 3))) (.con (.int 1))),
  .ite (.cmp .le (.idx (.var 0) (.con (.int 2))) (.con (.int 0))) [.asg 4 (.bin .mod (.bi .int [(.bin .add (.bin .add (.bin .mul (.idx (.var 0) (.con (.int 4))) (.con (.int 48271))) (.bin .mul (.idx (.var 0) (.con (.int 3))) (.con (.int 69621)))) (.con (.int 1)))]) (.con (.int 2147483647))), .asg 4 (.bin .mod (.bi .int [(.bin .add (.bin .mul (.var 4) (.con (.int 16807))) (.idx (.var 0) (.con (.int 3))))]) (.con (.int 2147483629))), .ret (.bin .mod (.bin .fdiv (.var 4) (.con (.int 5))) (.var 1))] [],
  .asg 2 (.bin .mod (.bi .int [(.idx (.var 0) (.con (.int 2)))]) (.var 1)),
  .setix (.var 0) (.con (.int 2)) (.bin .fdiv (.idx (.var 0) (.con (.int 2))) (.var 1)),
  .ret (.var 2)]⟩
/-- _law_pick -/
def cUlawUpick : Fn := ⟨"_law_pick", 2, 2, [
  .ret (.idx (.var 1) (.call "_law_draw" [(.var 0), (.bi .len [(.var 1)])]))]⟩
/-- _law_bent -/
def cUlawUbent : Fn := ⟨"_law_bent", 2, 6, [
  .ite (.and (.isi (.var 1) .tuple) (.and (.cmp .gt (.bi .len [(.var 1)]) (.con (.int 0))) (.cmp .gt (.call "_law_draw" [(.var 0), (.con (.int 4))]) (.con (.int 0))))) [.asg 3 (.call "_law_draw" [(.var 0), (.bi .len [(.var 1)])]), .ret (.bin .add (.bin .add (.slH (.var 1) (.var 3)) (.tup [(.call "_law_bent" [(.var 0), (.idx (.var 1) (.var 3))])])) (.slL (.var 1) (.bin .add (.var 3) (.con (.int 1)))))] [],
  .asg 2 (.call "_law_draw" [(.var 0), (.con (.int 9))]),
  .ite (.cmp .eq (.var 2) (.con (.int 0))) [.ret (.idx (.tup [(.con (.str "x")), (.con (.bool true)), (.tup []), (.con (.int 0)), (.neg (.con (.int 1))), (.con .none), (.con (.bool false)), (.lst []), (.con (.str "in")), (.con (.int 1))]) (.call "_law_draw" [(.var 0), (.con (.int 10))]))] [],
  .ite (.call "_law_is_integer" [(.var 1)]) [.ret (.bin .add (.var 1) (.idx (.tup [(.con (.int 1)), (.neg (.con (.int 1))), (.con (.int 2)), (.con (.int 0))]) (.call "_law_draw" [(.var 0), (.con (.int 4))])))] [],
  .ite (.isi (.var 1) .str) [.ret (.idx (.tup [(.bin .add (.var 1) (.con (.str "a"))), (.slL (.var 1) (.con (.int 1))), (.bin .add (.var 1) (.con (.str "A"))), (.bin .add (.var 1) (.con (.str " "))), (.slH (.var 1) (.con (.int 1)))]) (.call "_law_draw" [(.var 0), (.con (.int 5))]))] [],
  .ite (.or (.not (.isi (.var 1) .tuple)) (.cmp .eq (.bi .len [(.var 1)]) (.con (.int 0)))) [.ret (.ite (.cmp .lt (.var 2) (.con (.int 5))) (.tup [(.var 1), (.con (.int 0))]) (.tup []))] [],
  .asg 3 (.call "_law_draw" [(.var 0), (.bi .len [(.var 1)])]),
  .ite (.cmp .lt (.var 2) (.con (.int 3))) [.ret (.bin .add (.slH (.var 1) (.var 3)) (.slL (.var 1) (.bin .add (.var 3) (.con (.int 1)))))] [],
  .ite (.cmp .lt (.var 2) (.con (.int 5))) [.ret (.bin .add (.bin .add (.slH (.var 1) (.var 3)) (.tup [(.idx (.var 1) (.var 3))])) (.slL (.var 1) (.var 3)))] [],
  .ite (.cmp .eq (.var 2) (.con (.int 5))) [.ret (.bi .list [(.var 1)])] [],
  .asg 4 (.call "_law_draw" [(.var 0), (.bi .len [(.var 1)])]),
  .asg 5 (.mli (.var 1)),
  .setix (.var 5) (.var 3) (.idx (.var 1) (.var 4)),
  .setix (.var 5) (.var 4) (.idx (.var 1) (.var 3)),
  .ret (.bi .tuple [(.var 5)])]⟩
/-- _law_booled -/
def cUlawUbooled : Fn := ⟨"_law_booled", 1, 2, [
  .ite (.isi (.var 0) .tuple) [.ret (.bi .tuple [(.lc [1] [1] false (.var 0) [] (.call "_law_booled" [(.var 1)]))])] [],
  .ret (.ite (.and (.call "_law_is_integer" [(.var 0)]) (.cmp .in_ (.var 0) (.tup [(.con (.int 0)), (.con (.int 1))]))) (.cmp .eq (.var 0) (.con (.int 1))) (.var 0))]⟩
/-- _law_listed -/
def cUlawUlisted : Fn := ⟨"_law_listed", 2, 3, [
  .ite (.not (.isi (.var 0) .tuple)) [.ret (.var 0)] [],
  .ite (.cmp .eq (.var 1) (.con (.int 0))) [.ret (.bi .list [(.var 0)])] [],
  .ret (.bi .tuple [(.lc [2] [2] false (.var 0) [] (.call "_law_listed" [(.var 2), (.bin .sub (.var 1) (.con (.int 1)))]))])]⟩
/-- _law_odd_values -/
def cUlawUoddUvalues : Fn := ⟨"_law_odd_values", 0, 2, [
  .asg 0 (.tup []),
  .forr 1 [] (.con (.int 90)) [.asg 0 (.tup [(.var 0)])],
  .ret (.lst [(.var 0), (.tup [(.con (.str "plan")), (.var 0), (.var 0)]), (.con .none), (.con (.int 0)), (.con (.int 1)), (.con (.bool true)), (.con (.bool false)), (.con (.str "")), (.con (.str "x")), (.tup []), (.lst []), (.dic []), (.tup [(.tup [])]), (.tup [(.tup []), (.tup [])]), (.tup [(.con (.int 0))]), (.tup [(.con (.int 1)), (.con (.int 2))]), (.tup [(.con (.str "x"))]), (.tup [(.lst [])]), (.dic [("a", 1)]), (.tup [(.con .none)]), (.tup [(.tup [(.tup [])])]), (.neg (.con (.int 1)))])]⟩
/-- _law_is_number -/
def cUlawUisUnumber : Fn := ⟨"_law_is_number", 3, 3, [
  .ret (.and (.call "_law_is_integer" [(.var 0)]) (.and (.cmp .le (.var 1) (.var 0)) (.cmp .le (.var 0) (.var 2))))]⟩
/-- _law_not -/
def cUlawUnot : Fn := ⟨"_law_not", 1, 1, [
  .ret (.tup [(.con (.str "if")), (.var 0), (.tup [(.con (.str "false"))])])]⟩
/-- _law_shape -/
def cUlawUshape : Fn := ⟨"_law_shape", 2, 2, [
  .ite (.or (.not (.isi (.var 0) .tuple)) (.or (.cmp .eq (.bi .len [(.var 0)]) (.con (.int 0))) (.not (.isi (.idx (.var 0) (.con (.int 0))) .str)))) [.ret (.con (.bool false))] [],
  .ite (.cmp .eq (.idx (.var 0) (.con (.int 0))) (.con (.str "letter"))) [.ret (.and (.cmp .eq (.bi .len [(.var 0)]) (.con (.int 2))) (.call "_law_is_number" [(.idx (.var 0) (.con (.int 1))), (.con (.int 0)), (.con (.int 3))]))] [],
  .ite (.cmp .eq (.idx (.var 0) (.con (.int 0))) (.con (.str "false"))) [.ret (.cmp .eq (.bi .len [(.var 0)]) (.con (.int 1)))] [],
  .ite (.or (.cmp .nin (.idx (.var 0) (.con (.int 0))) (.tup [(.con (.str "if")), (.con (.str "and")), (.con (.str "or"))])) (.or (.cmp .ne (.bi .len [(.var 0)]) (.con (.int 3))) (.cmp .eq (.var 1) (.con (.int 0))))) [.ret (.con (.bool false))] [],
  .ret (.and (.call "_law_shape" [(.idx (.var 0) (.con (.int 1))), (.bin .sub (.var 1) (.con (.int 1)))]) (.call "_law_shape" [(.idx (.var 0) (.con (.int 2))), (.bin .sub (.var 1) (.con (.int 1)))]))]⟩
/-- _law_knots -/
def cUlawUknots : Fn := ⟨"_law_knots", 1, 1, [
  .ret (.ite (.cmp .eq (.bi .len [(.var 0)]) (.con (.int 3))) (.bin .add (.bin .add (.con (.int 1)) (.call "_law_knots" [(.idx (.var 0) (.con (.int 1)))])) (.call "_law_knots" [(.idx (.var 0) (.con (.int 2)))])) (.con (.int 1)))]⟩
/-- _law_is_formula -/
def cUlawUisUformula : Fn := ⟨"_law_is_formula", 1, 1, [
  .ret (.and (.call "_law_shape" [(.var 0), (.con (.int 8))]) (.cmp .le (.call "_law_knots" [(.var 0)]) (.con (.int 24))))]⟩
/-- _law_letters -/
def cUlawUletters : Fn := ⟨"_law_letters", 1, 1, [
  .ite (.cmp .eq (.idx (.var 0) (.con (.int 0))) (.con (.str "letter"))) [.ret (.lst [(.idx (.var 0) (.con (.int 1)))])] [],
  .ret (.ite (.cmp .eq (.bi .len [(.var 0)]) (.con (.int 3))) (.sset (.bin .add (.call "_law_letters" [(.idx (.var 0) (.con (.int 1)))]) (.call "_law_letters" [(.idx (.var 0) (.con (.int 2)))]))) (.lst []))]⟩
/-- _law_value -/
def cUlawUvalue : Fn := ⟨"_law_value", 2, 4, [
  .ite (.cmp .eq (.idx (.var 0) (.con (.int 0))) (.con (.str "letter"))) [.ret (.idx (.var 1) (.idx (.var 0) (.con (.int 1))))] [],
  .ite (.cmp .eq (.idx (.var 0) (.con (.int 0))) (.con (.str "false"))) [.ret (.con (.int 0))] [],
  .par [2, 3] [(.call "_law_value" [(.idx (.var 0) (.con (.int 1))), (.var 1)]), (.call "_law_value" [(.idx (.var 0) (.con (.int 2))), (.var 1)])],
  .ite (.cmp .eq (.idx (.var 0) (.con (.int 0))) (.con (.str "if"))) [.ret (.bi .int [(.or (.cmp .eq (.var 2) (.con (.int 0))) (.cmp .eq (.var 3) (.con (.int 1))))])] [],
  .ret (.ite (.cmp .eq (.idx (.var 0) (.con (.int 0))) (.con (.str "and"))) (.bi .int [(.and (.cmp .eq (.var 2) (.con (.int 1))) (.cmp .eq (.var 3) (.con (.int 1))))]) (.bi .int [(.or (.cmp .eq (.var 2) (.con (.int 1))) (.cmp .eq (.var 3) (.con (.int 1))))]))]⟩
/-- _law_rows -/
def cUlawUrows : Fn := ⟨"_law_rows", 1, 5, [
  .asg 1 (.mls []),
  .forr 2 [] (.con (.int 16)) [.asg 3 (.bi .tuple [(.lcr [4] 4 [] (.con (.int 4)) [] (.bin .mod (.bi .int [(.bin .fdiv (.var 2) (.idx (.tup [(.con (.int 8)), (.con (.int 4)), (.con (.int 2)), (.con (.int 1))]) (.var 4)))]) (.con (.int 2))))]), .ite (.cmp .eq (.bi .len [(.lcr [4] 4 [] (.con (.int 4)) [(.and (.cmp .eq (.idx (.var 3) (.var 4)) (.con (.int 1))) (.cmp .nin (.var 4) (.var 0)))] (.var 4))]) (.con (.int 0))) [.exp (.met .append (.var 1) [(.var 3)])] []],
  .ret (.frz (.var 1))]⟩
/-- _law_true -/
def cUlawUtrue : Fn := ⟨"_law_true", 1, 2, [
  .ret (.cmp .eq (.bi .len [(.lc [1] [1] false (.call "_law_rows" [(.call "_law_letters" [(.var 0)])]) [(.cmp .eq (.call "_law_value" [(.var 0), (.var 1)]) (.con (.int 0)))] (.var 1))]) (.con (.int 0)))]⟩
/-- _law_parts -/
def cUlawUparts : Fn := ⟨"_law_parts", 1, 3, [
  .ite (.cmp .lt (.bi .len [(.var 0)]) (.con (.int 3))) [.ret (.lst [(.var 0)])] [],
  .asg 1 (.mls []),
  .for_ [2] false (.bin .add (.bin .add (.call "_law_parts" [(.idx (.var 0) (.con (.int 1)))]) (.call "_law_parts" [(.idx (.var 0) (.con (.int 2)))])) (.lst [(.var 0)])) [.ite (.cmp .nin (.var 2) (.var 1)) [.exp (.met .append (.var 1) [(.var 2)])] []],
  .ret (.frz (.var 1))]⟩
/-- _law_some -/
def cUlawUsome : Fn := ⟨"_law_some", 3, 3, [
  .ite (.or (.cmp .eq (.var 1) (.con (.int 0))) (.cmp .eq (.call "_law_draw" [(.var 0), (.con (.int 5))]) (.con (.int 0)))) [.ret (.ite (.cmp .gt (.call "_law_draw" [(.var 0), (.con (.int 9))]) (.con (.int 0))) (.tup [(.con (.str "letter")), (.call "_law_draw" [(.var 0), (.var 2)])]) (.tup [(.con (.str "false"))]))] [],
  .ret (.tup [(.idx (.tup [(.con (.str "if")), (.con (.str "if")), (.con (.str "and")), (.con (.str "or"))]) (.call "_law_draw" [(.var 0), (.con (.int 4))])), (.call "_law_some" [(.var 0), (.bin .sub (.var 1) (.con (.int 1))), (.var 2)]), (.call "_law_some" [(.var 0), (.bin .sub (.var 1) (.con (.int 1))), (.var 2)])])]⟩
/-- _law_formula -/
def cUlawUformula : Fn := ⟨"_law_formula", 1, 1, [
  .ret (.call "_law_some" [(.var 0), (.call "_law_draw" [(.var 0), (.con (.int 4))]), (.bin .add (.con (.int 1)) (.call "_law_draw" [(.var 0), (.con (.int 3))]))])]⟩
/-- _law_swapped -/
def cUlawUswapped : Fn := ⟨"_law_swapped", 2, 5, [
  .ite (.or (.not (.isi (.var 1) .tuple)) (.cmp .eq (.bi .len [(.var 1)]) (.con (.int 0)))) [.ret (.var 1)] [],
  .asg 2 (.call "_law_draw" [(.var 0), (.bi .len [(.var 1)])]),
  .ite (.and (.isi (.idx (.var 1) (.var 2)) .tuple) (.cmp .gt (.call "_law_draw" [(.var 0), (.con (.int 4))]) (.con (.int 0)))) [.ret (.bin .add (.bin .add (.slH (.var 1) (.var 2)) (.tup [(.call "_law_swapped" [(.var 0), (.idx (.var 1) (.var 2))])])) (.slL (.var 1) (.bin .add (.var 2) (.con (.int 1)))))] [],
  .asg 3 (.call "_law_draw" [(.var 0), (.bi .len [(.var 1)])]),
  .asg 4 (.mli (.var 1)),
  .swap (.var 4) (.var 2) (.var 4) (.var 3) (.idx (.var 4) (.var 3)) (.idx (.var 4) (.var 2)),
  .ret (.bi .tuple [(.var 4)])]⟩
/-- _law_changed -/
def cUlawUchanged : Fn := ⟨"_law_changed", 3, 4, [
  .ite (.or (.not (.isi (.var 1) .tuple)) (.or (.cmp .eq (.bi .len [(.var 1)]) (.con (.int 0))) (.cmp .eq (.call "_law_draw" [(.var 0), (.con (.int 6))]) (.con (.int 0))))) [.ret (.call "_law_pick" [(.var 0), (.var 2)])] [],
  .asg 3 (.call "_law_draw" [(.var 0), (.bi .len [(.var 1)])]),
  .ret (.bin .add (.bin .add (.slH (.var 1) (.var 3)) (.tup [(.call "_law_changed" [(.var 0), (.idx (.var 1) (.var 3)), (.var 2)])])) (.slL (.var 1) (.bin .add (.var 3) (.con (.int 1)))))]⟩
/-- _law_bends -/
def cUlawUbends : Fn := ⟨"_law_bends", 2, 5, [
  .asg 2 (.lst [(.tup [(.con (.str "letter")), (.con (.int 0))]), (.tup [(.con (.str "letter")), (.con (.int 1))]), (.tup [(.con (.str "false"))]), (.tup [(.con (.str "letter")), (.con (.int 4))]), (.tup [(.con (.str "if")), (.tup [(.con (.str "letter")), (.con (.int 0))]), (.tup [(.con (.str "letter")), (.con (.int 1))])]), (.tup [(.con (.str "axiom")), (.tup [(.con (.str "letter")), (.con (.int 0))])]), (.tup [(.con (.str "assume")), (.tup [(.con (.str "letter")), (.con (.int 0))])]), (.tup [])]),
  .asg 2 (.bin .add (.var 2) (.lst [(.con (.int 0)), (.con (.int 1)), (.con (.int 2)), (.neg (.con (.int 1))), (.con (.str "if")), (.con (.str "cut")), (.con .none), (.con (.bool true)), (.tup [(.con (.str "shut")), (.tup [(.con (.str "letter")), (.con (.int 0))])])])),
  .asg 3 (.lst [(.bi .list [(.var 1)]), (.slL (.var 1) (.con (.int 1))), (.slH (.var 1) (.neg (.con (.int 1)))), (.bin .add (.var 1) (.slL (.var 1) (.neg (.con (.int 1))))), (.tup [(.var 1)]), (.call "_law_listed" [(.var 1), (.con (.int 1))]), (.call "_law_listed" [(.var 1), (.con (.int 2))]), (.call "_law_booled" [(.var 1)]), (.tup [])]),
  .asg 3 (.bin .add (.bin .add (.var 3) (.lcr [4] 4 [] (.con (.int 14)) [] (.call "_law_changed" [(.var 0), (.var 1), (.var 2)]))) (.lcr [4] 4 [] (.con (.int 8)) [] (.call "_law_swapped" [(.var 0), (.var 1)]))),
  .ret (.bin .add (.var 3) (.lcr [4] 4 [] (.con (.int 6)) [] (.call "_law_bent" [(.var 0), (.var 1)])))]⟩
/-- _law_put -/
def cUlawUput : Fn := ⟨"_law_put", 2, 2, [
  .ite (.cmp .eq (.idx (.var 0) (.con (.int 0))) (.con (.str "letter"))) [.ret (.idx (.var 1) (.idx (.var 0) (.con (.int 1))))] [],
  .ret (.ite (.cmp .eq (.bi .len [(.var 0)]) (.con (.int 3))) (.tup [(.idx (.var 0) (.con (.int 0))), (.call "_law_put" [(.idx (.var 0) (.con (.int 1))), (.var 1)]), (.call "_law_put" [(.idx (.var 0) (.con (.int 2))), (.var 1)])]) (.var 0))]⟩
/-- _law_four -/
def cUlawUfour : Fn := ⟨"_law_four", 1, 2, [
  .ret (.bi .tuple [(.lcr [1] 1 [] (.con (.int 4)) [] (.call "_law_some" [(.var 0), (.call "_law_draw" [(.var 0), (.con (.int 2))]), (.con (.int 3))]))])]⟩
end Lw

set_option Elab.async false
set_option linter.all false
set_option autoImplicit false
set_option maxRecDepth 100000
/-! PL1: what the shared defs do: the pool and its draws, data that are the same. -/
namespace Lw
open PySem Pl L2

/-! ### places in lists -/
theorem atI_lt {α : Type} {xs : List α} {i : Int} (h0 : 0 ≤ i) (h1 : i < xs.length) : ∃ x, atI xs i = some x ∧ xs[i.toNat]? = some x := by
  have hl : i.toNat < xs.length := by omega
  refine ⟨xs[i.toNat], ?_, List.getElem?_eq_getElem hl⟩
  have := atI_nat (xs := xs) (j := i.toNat) (v := xs[i.toNat]) (List.getElem?_eq_getElem hl)
  rwa [Int.toNat_of_nonneg h0] at this
theorem atI_0 {α : Type} {x : α} {xs : List α} : atI (x :: xs) 0 = some x := atI_nat (j := 0) rfl
theorem atI_1 {α : Type} {x y : α} {xs : List α} : atI (x :: y :: xs) 1 = some y := atI_nat (j := 1) rfl
theorem atI_2 {α : Type} {x y z : α} {xs : List α} : atI (x :: y :: z :: xs) 2 = some z := atI_nat (j := 2) rfl
theorem atI_3 {α : Type} {x y z u : α} {xs : List α} : atI (x :: y :: z :: u :: xs) 3 = some u := atI_nat (j := 3) rfl
theorem atI_4 {α : Type} {x y z u v : α} {xs : List α} : atI (x :: y :: z :: u :: v :: xs) 4 = some v := atI_nat (j := 4) rfl
theorem ix5_1 : ixN 5 1 = some 1 := rfl
theorem ix5_2 : ixN 5 2 = some 2 := rfl
theorem ix5_3 : ixN 5 3 = some 3 := rfl

theorem evSs_append {cl : CallF} {g : Str → Option D} : ∀ {a b : List Sm} {ρ : Rho} {S : Store}, evSs cl g (a ++ b) ρ S = (evSs cl g a ρ S).bind fun f S1 => match f with
    | .nx ρ1 => evSs cl g b ρ1 S1
    | f => .ok f S1
  | [], b, ρ, S => by simp
  | x :: a, b, ρ, S => by
    rw [List.cons_append]
    simp only [evSs]
    cases evS cl g x ρ S with
    | bad => rfl
    | exn x S1 => rfl
    | ok f S1 => cases f <;> first | rfl | exact evSs_append

/-! ### the pool -/
def pool (xs : List Int) (a b c d : Int) : Cell := .lst [.list (xs.map .int), .int a, .int b, .int c, .int d]
inductive IsPool : Cell → Prop
  | mk (xs : List Int) (a b c d : Int) : 0 ≤ a → IsPool (pool xs a b c d)
section
variable {P : Prog}
theorem e_spread (h : Has P cUlawUspread) (n : Nat) (i : Int) (S : Store) : ∃ j, P.call (n + 1) "_law_spread" [.p (.int i)] S = .ok (.p (.int j)) S := by
  rw [show ("_law_spread" : Str) = cUlawUspread.name from rfl, h.call]
  simp [cUlawUspread, rangeD, rngOk, forR, small, List.range_succ]
theorem e_draw (h : Has P cUlawUdraw) (hs : Has P cUlawUspread) {n : Nat} (hn : 2 ≤ n) {c : Cell} (T : Store) (hc : IsPool c) {m : Int} (h0 : 0 < m) (h1 : m < 1073741824) :
    ∃ v c', P.call n "_law_draw" [.r 0, .p (.int m)] (c :: T) = .ok (.p (.int v)) (c' :: T) ∧ IsPool c' ∧ 0 ≤ v ∧ v < m := by
  obtain ⟨n, rfl⟩ : ∃ m, n = m + 2 := ⟨n - 2, by omega⟩
  cases hc with
  | mk xs a b c d ha =>
    rw [show ("_law_draw" : Str) = cUlawUdraw.name from rfl, h.call]
    have tail : ∀ (a b : Int) (y : Option Vl), 0 ≤ a → ∃ v c', (evSs (P.call (n + 1)) P.consts (cUlawUdraw.body.drop 1) [some (.r 0), some (.p (.int m)), none, y, none] (pool xs a b c d :: T)).bind (fun f S1 => match f with
      | .nx _ => finish (T.length + 1) (.p .none) S1
      | .rt v => finish (T.length + 1) v S1
      | _ => .bad) = .ok (.p (.int v)) (c' :: T) ∧ IsPool c' ∧ 0 ≤ v ∧ v < m := by
      intro a b y ha
      by_cases hb : b ≤ 0
      · refine ⟨((d * 48271 + (c + 1) * 69621 + 1) % 2147483647 * 16807 + (c + 1)) % 2147483629 / 5 % m, _, by (simp [cUlawUdraw, pool, rd, atI_0, atI_1, atI_2, atI_3, atI_4, ix5_3, ix5_2, small, hb, h0]), IsPool.mk xs a b (c + 1) d ha, Int.emod_nonneg _ (by omega), Int.emod_lt_of_pos _ h0⟩
      · refine ⟨b % m, _, by simp [cUlawUdraw, pool, rd, atI_0, atI_1, atI_2, atI_3, atI_4, ix5_3, ix5_2, small, hb, h0, h1], IsPool.mk xs a (b / m) (c + 1) d ha, Int.emod_nonneg _ (by omega), Int.emod_lt_of_pos _ h0⟩
    have first : ∃ a' b' y, 0 ≤ a' ∧ evSs (P.call (n + 1)) P.consts (cUlawUdraw.body.take 1) [some (.r 0), some (.p (.int m)), none, none, none] (pool xs a b c d :: T) = .ok (.nx [some (.r 0), some (.p (.int m)), none, y, none]) (pool xs a' b' c d :: T) := by
      by_cases hb : b ≤ 0
      · by_cases hl : a < xs.length
        · obtain ⟨x, e1, e2⟩ := atI_lt (xs := xs.map PyData.int) (i := a) ha (by simpa using hl)
          rw [List.getElem?_map] at e2
          obtain ⟨i, _, rfl⟩ := Option.map_eq_some_iff.mp e2
          by_cases hi : i < 1000000000000000000
          · obtain ⟨j, ej⟩ := e_spread hs n i (pool xs (a + 1) i c d :: T)
            refine ⟨a + 1, j, some (.p (.int i)), by omega, ?_⟩
            simp only [pool] at ej ⊢
            simp [cUlawUdraw, rd, atI_0, atI_1, atI_2, atI_3, atI_4, ix5_3, ix5_2, ix5_1, small, hb, hl, e1, hi, ej]
          · refine ⟨a + 1, i, some (.p (.int i)), by omega, ?_⟩
            simp [cUlawUdraw, pool, rd, atI_0, atI_1, atI_2, atI_3, atI_4, ix5_3, ix5_2, ix5_1, small, hb, hl, e1, hi]
        · exact ⟨a, b, none, ha, by simp [cUlawUdraw, pool, rd, atI_0, atI_1, atI_2, atI_3, atI_4, ix5_3, ix5_2, small, hb, hl]⟩
      · exact ⟨a, b, none, ha, by simp [cUlawUdraw, pool, rd, atI_0, atI_1, atI_2, atI_3, atI_4, ix5_3, ix5_2, small, hb]⟩
    obtain ⟨a', b', y, ha', e⟩ := first
    obtain ⟨v, c', q, r⟩ := tail a' b' y ha'
    refine ⟨v, c', run_of rfl ?_, r⟩
    rw [← q]
    show (evSs (P.call (n + 1)) P.consts (cUlawUdraw.body.take 1 ++ cUlawUdraw.body.drop 1) [some (.r 0), some (.p (.int m)), none, none, none] _).bind _ = _
    rw [evSs_append, e]
    rfl
end
end Lw

set_option Elab.async false
set_option linter.all false
set_option autoImplicit false
set_option maxRecDepth 100000
/-! PL2: formulas. -/
namespace Lw
open PySem PySem.Spec Pl L2

/-! ### what is the same -/
theorem ofStr_inj {a b : String} : Str.ofString a = Str.ofString b ↔ a = b := by
  refine ⟨fun h => ?_, fun h => by rw [h]⟩
  rw [Str.ofString_eq_toList, Str.ofString_eq_toList] at h
  have h1 : a.toList.map Char.toNat = b.toList.map Char.toNat := by simpa using h
  have h2 : a.toList = b.toList := by
    have inj : ∀ c d : Char, c.toNat = d.toNat → c = d := fun c d e => Char.ext (UInt32.toNat_inj.mp e)
    have : ∀ l m : List Char, l.map Char.toNat = m.map Char.toNat → l = m := fun l => by
      induction l with
      | nil => intro m e; cases m with
        | nil => rfl
        | cons _ _ => simp at e
      | cons c l ih => intro m e; cases m with
        | nil => simp at e
        | cons d m =>
          simp only [List.map_cons, List.cons.injEq] at e
          rw [inj c d e.1, ih m e.2]
    exact this _ _ h1
  exact String.ext h2
@[simp] theorem okLen_eq {n : Nat} : okLen n = decide (n ≤ 16777216) := by unfold okLen; rw [sizeLine_eq]
@[simp] theorem cmpOk_int {i : Int} : cmpOk (.int i) = true := rfl
@[simp] theorem cmpOk_str {x : Str} : cmpOk (.str x) = true := rfl
@[simp] theorem cmpOk_bool {b : Bool} : cmpOk (.bool b) = true := rfl
@[simp] theorem eqv_int {i j : Int} : PyData.eqv (.int i) (.int j) = decide (i = j) := by simp [PyData.eqv]; rfl
@[simp] theorem eqv_str {i j : Str} : PyData.eqv (.str i) (.str j) = decide (i = j) := by simp [PyData.eqv]; rfl
@[simp] theorem eqv_bool {i j : Bool} : PyData.eqv (.bool i) (.bool j) = decide (i = j) := by cases i <;> cases j <;> rfl

/-! ### formulas -/
inductive Con | i | a | o
  deriving DecidableEq
def Con.s : Con → Str
  | .i => "if"
  | .a => "and"
  | .o => "or"
inductive Fm where
  | lt (i : Nat)
  | ff
  | bi (c : Con) (a b : Fm)
  deriving DecidableEq
def Fm.d : Fm → D
  | .lt i => .tuple [.str "letter", .int i]
  | .ff => .tuple [.str "false"]
  | .bi c a b => .tuple [.str c.s, a.d, b.d]
def Fm.ht : Fm → Nat
  | .lt _ => 0
  | .ff => 0
  | .bi _ a b => max a.ht b.ht + 1
def Fm.in_ (k : Nat) : Fm → Prop
  | .lt i => i < k
  | .ff => True
  | .bi _ a b => a.in_ k ∧ b.in_ k
theorem Fm.in_.mono {k l : Nat} (h : k ≤ l) : ∀ {f : Fm}, f.in_ k → f.in_ l
  | .lt i, q => Nat.lt_of_lt_of_le (show i < k from q) h
  | .ff, _ => trivial
  | .bi _ a b, q => ⟨Fm.in_.mono h q.1, Fm.in_.mono h q.2⟩
section
variable {P : Prog} (hd : Has P cUlawUdraw) (hs : Has P cUlawUspread)
include hd hs
theorem e_some (h : Has P cUlawUsome) {l : Nat} (h1 : 0 < l) (h2 : l ≤ 4) : ∀ (k n : Nat) (c : Cell) (T : Store), k + 4 ≤ n → IsPool c →
    ∃ (f : Fm) (c' : Cell), P.call n "_law_some" [.r 0, .p (.int k), .p (.int l)] (c :: T) = .ok (.p f.d) (c' :: T) ∧ IsPool c' ∧ f.in_ l ∧ f.ht ≤ k := by
  intro k
  induction k with
  | zero =>
    intro n c T hn hc
    obtain ⟨n, rfl⟩ : ∃ m, n = m + 1 := ⟨n - 1, by omega⟩
    rw [show ("_law_some" : Str) = cUlawUsome.name from rfl, h.call]
    obtain ⟨v, c1, e1, hc1, b1, b2⟩ := e_draw hd hs (n := n) (by omega) T hc (m := 9) (by omega) (by omega)
    by_cases hv : 0 < v
    · obtain ⟨w, c2, e2, hc2, b3, b4⟩ := e_draw hd hs (n := n) (by omega) T hc1 (m := (l : Int)) (by omega) (by omega)
      refine ⟨.lt w.toNat, c2, ?_, hc2, ?_, Nat.zero_le _⟩
      · simp [cUlawUsome, e1, e2, hv, Fm.d, Int.toNat_of_nonneg b3]
      · show w.toNat < l
        omega
    · refine ⟨.ff, c1, ?_, hc1, trivial, Nat.zero_le _⟩
      simp [cUlawUsome, e1, hv, Fm.d]
  | succ k ih =>
    intro n c T hn hc
    obtain ⟨n, rfl⟩ : ∃ m, n = m + 1 := ⟨n - 1, by omega⟩
    rw [show ("_law_some" : Str) = cUlawUsome.name from rfl, h.call]
    obtain ⟨u, c0, e0, hc0, b01, b02⟩ := e_draw hd hs (n := n) (by omega) T hc (m := 5) (by omega) (by omega)
    have hk : ¬ ((k : Int) + 1 = 0) := by omega
    have hk1 : (k : Int) + 1 - 1 = k := by omega
    by_cases hu : u = 0
    · obtain ⟨v, c1, e1, hc1, b1, b2⟩ := e_draw hd hs (n := n) (by omega) T hc0 (m := 9) (by omega) (by omega)
      by_cases hv : 0 < v
      · obtain ⟨w, c2, e2, hc2, b3, b4⟩ := e_draw hd hs (n := n) (by omega) T hc1 (m := (l : Int)) (by omega) (by omega)
        refine ⟨.lt w.toNat, c2, ?_, hc2, ?_, Nat.zero_le _⟩
        · simp [cUlawUsome, e0, hu, hk, e1, e2, hv, Fm.d, Int.toNat_of_nonneg b3]
        · show w.toNat < l
          omega
      · refine ⟨.ff, c1, ?_, hc1, trivial, Nat.zero_le _⟩
        simp [cUlawUsome, e0, hu, hk, e1, hv, Fm.d]
    · obtain ⟨w, c2, e2, hc2, b3, b4⟩ := e_draw hd hs (n := n) (by omega) T hc0 (m := 4) (by omega) (by omega)
      obtain ⟨f, c3, e3, hc3, i3, t3⟩ := ih n c2 T (by omega) hc2
      obtain ⟨g, c4, e4, hc4, i4, t4⟩ := ih n c3 T (by omega) hc3
      have fin : ∀ q : Con, max f.ht g.ht + 1 ≤ k + 1 := fun q => by omega
      have hw : w = 0 ∨ w = 1 ∨ w = 2 ∨ w = 3 := by omega
      rcases hw with rfl | rfl | rfl | rfl
      · exact ⟨.bi .i f g, c4, by simp [cUlawUsome, e0, hu, hk, hk1, e2, e3, e4, atI_0, Fm.d, Con.s], hc4, ⟨i3, i4⟩, fin .i⟩
      · exact ⟨.bi .i f g, c4, by simp [cUlawUsome, e0, hu, hk, hk1, e2, e3, e4, atI_1, Fm.d, Con.s], hc4, ⟨i3, i4⟩, fin .i⟩
      · exact ⟨.bi .a f g, c4, by simp [cUlawUsome, e0, hu, hk, hk1, e2, e3, e4, atI_2, Fm.d, Con.s], hc4, ⟨i3, i4⟩, fin .i⟩
      · exact ⟨.bi .o f g, c4, by simp [cUlawUsome, e0, hu, hk, hk1, e2, e3, e4, atI_3, Fm.d, Con.s], hc4, ⟨i3, i4⟩, fin .i⟩
theorem e_formula (h : Has P cUlawUsome) (h' : Has P cUlawUformula) {n : Nat} (hn : 9 ≤ n) {c : Cell} (T : Store) (hc : IsPool c) :
    ∃ (f : Fm) (c' : Cell), P.call n "_law_formula" [.r 0] (c :: T) = .ok (.p f.d) (c' :: T) ∧ IsPool c' ∧ f.in_ 4 ∧ f.ht ≤ 3 := by
  obtain ⟨n, rfl⟩ : ∃ m, n = m + 1 := ⟨n - 1, by omega⟩
  rw [show ("_law_formula" : Str) = cUlawUformula.name from rfl, h'.call]
  obtain ⟨u, c0, e0, hc0, b1, b2⟩ := e_draw hd hs (n := n) (by omega) T hc (m := 4) (by omega) (by omega)
  obtain ⟨v, c1, e1, hc1, b3, b4⟩ := e_draw hd hs (n := n) (by omega) T hc0 (m := 3) (by omega) (by omega)
  obtain ⟨f, c2, e2, hc2, i2, t2⟩ := e_some hd hs h (l := 1 + v.toNat) (by omega) (by omega) u.toNat n c1 T (by omega) hc1
  rw [Int.toNat_of_nonneg b1, show ((1 + v.toNat : Nat) : Int) = 1 + v by omega] at e2
  exact ⟨f, c2, by simp [cUlawUformula, e0, e1, e2], hc2, i2.mono (by omega), by omega⟩
end
end Lw

set_option Elab.async false
set_option linter.all false
set_option autoImplicit false
set_option maxRecDepth 100000
set_option maxHeartbeats 0
/-! PL3: shapes, knots, letters, values. -/
namespace Lw
open PySem PySem.Spec Pl L2

theorem pred {n k : Nat} (h : k + 1 ≤ n) : ∃ m, n = m + 1 ∧ k ≤ m := ⟨n - 1, by omega, by omega⟩
def isInt : D → Bool
  | .int _ => true
  | _ => false
def inR (a b : Int) : D → Bool
  | .int i => decide (a ≤ i) && decide (i ≤ b)
  | _ => false
def isPair (x : Str) : Bool := decide (x = "if") || (decide (x = "and") || decide (x = "or"))
def one1 : List D → Bool
  | [a] => inR 0 3 a
  | _ => false
def two2 : Option (D → Bool) → List D → Bool
  | some f, [a, b] => f a && f b
  | _, _ => false
def shpS (sub : Option (D → Bool)) : D → Bool
  | .tuple (.str x :: r) => if x = "letter" then one1 r else if x = "false" then r.isEmpty else if isPair x = true then two2 sub r else false
  | _ => false
def shp : Nat → D → Bool
  | 0 => shpS none
  | k + 1 => shpS (some (shp k))
/-- what a program keeps of its names -/
structure Gs (P : Prog) : Prop where
  letters : P.consts "LETTERS" = some (.int 4)
  deepest : P.consts "DEEPEST" = some (.int 8)
  most : P.consts "MOST_KNOTS" = some (.int 24)
  pairs : P.consts "PAIRS" = some (.tuple [.str "if", .str "and", .str "or"])
  false_ : P.consts "FALSE" = some (.tuple [.str "false"])
section
variable {P : Prog}
theorem e_isUwhole (h : Has P cisUwhole) {n : Nat} (hn : 1 ≤ n) (v : D) (S : Store) : P.call n "is_whole" [.p v] S = .ok (.p (.bool (isInt v))) S := by
  obtain ⟨n, rfl, hm⟩ := pred hn
  rw [show ("is_whole" : Str) = cisUwhole.name from rfl, h.call]
  cases v <;> simp [cisUwhole, isInt]
theorem e_isUfrom (h0 : Has P cisUwhole) (h : Has P cisUfrom) {n : Nat} (hn : 2 ≤ n) (v : D) (a b : Int) (S : Store) : P.call n "is_from" [.p v, .p (.int a), .p (.int b)] S = .ok (.p (.bool (inR a b v))) S := by
  obtain ⟨n, rfl, hm⟩ := pred hn
  rw [show ("is_from" : Str) = cisUfrom.name from rfl, h.call]
  have e := e_isUwhole h0 hm v S
  cases v <;> simp [cisUfrom, isInt, inR, e]
  next i => by_cases hi : a ≤ i <;> simp [hi]
theorem e_lint (h : Has P cUlawUisUinteger) {n : Nat} (hn : 1 ≤ n) (v : D) (S : Store) : P.call n "_law_is_integer" [.p v] S = .ok (.p (.bool (isInt v))) S := by
  obtain ⟨n, rfl, hm⟩ := pred hn
  rw [show ("_law_is_integer" : Str) = cUlawUisUinteger.name from rfl, h.call]
  cases v <;> simp [cUlawUisUinteger, isInt]
theorem e_lnum (h0 : Has P cUlawUisUinteger) (h : Has P cUlawUisUnumber) {n : Nat} (hn : 2 ≤ n) (v : D) (a b : Int) (S : Store) : P.call n "_law_is_number" [.p v, .p (.int a), .p (.int b)] S = .ok (.p (.bool (inR a b v))) S := by
  obtain ⟨n, rfl, hm⟩ := pred hn
  rw [show ("_law_is_number" : Str) = cUlawUisUnumber.name from rfl, h.call]
  have e := e_lint h0 hm v S
  cases v <;> simp [cUlawUisUnumber, isInt, inR, e]
  next i => by_cases hi : a ≤ i <;> simp [hi]
theorem ok3 {a b c : Str} : cmpOk (.tuple [.str a, .str b, .str c]) = true := rfl
theorem len_big {α : Type} {a b : α} {r : List α} : ¬ (((r.length : Int) + 1 + 1 + 1) = 2) := by omega
theorem e_shapeS (g : Gs P) (h0 : Has P cisUwhole) (h1 : Has P cisUfrom) (h : Has P chasUshape) {n : Nat} (hn : 2 ≤ n) (k : Int) (sub : Option (D → Bool))
    (hs : (k = 0 ∧ sub = none) ∨ (k ≠ 0 ∧ ∃ f, sub = some f ∧ ∀ v S, P.call n "has_shape" [.p v, .p (.int (k - 1))] S = .ok (.p (.bool (f v))) S)) (v : D) (S : Store) : P.call (n + 1) "has_shape" [.p v, .p (.int k)] S = .ok (.p (.bool (shpS sub v))) S := by
  rw [show ("has_shape" : Str) = chasUshape.name from rfl, h.call]
  cases v with
  | tuple ds =>
    cases ds with
    | nil => simp [chasUshape, shpS]
    | cons d r =>
      cases d with
      | str x =>
        have n1 : ¬ ((r.length : Int) + 1 = 0) := by omega
        by_cases hx : x = "letter"
        · match r with
          | [] => simp [chasUshape, shpS, hx, atI_0, one1]
          | [a] => simp [chasUshape, shpS, hx, atI_0, atI_1, g.letters, e_isUfrom h0 h1 hn, one1]
          | a :: b :: r => 
            have : ¬ ((r.length : Int) + 1 + 1 + 1 = 2) := by omega
            have n1 : ¬ ((r.length : Int) + 1 + 1 + 1 = 0) := by omega
            simp [chasUshape, shpS, hx, atI_0, one1, this, n1]
        · by_cases hy : x = "false"
          · match r with
            | [] => simp [chasUshape, shpS, hx, hy, atI_0, ofStr_inj]
            | a :: r =>
              have : ¬ ((r.length : Int) + 1 + 1 = 1) := by omega
              have n1 : ¬ ((r.length : Int) + 1 + 1 = 0) := by omega
              simp [chasUshape, shpS, hx, hy, atI_0, ofStr_inj, this, n1]
          · by_cases hz : isPair x = true
            · have hz' := hz
              simp only [isPair, Bool.or_eq_true, decide_eq_true_eq] at hz'
              have ne : (decide ((Str.ofString "if") = x) || (decide ((Str.ofString "and") = x) || decide ((Str.ofString "or") = x))) = true := by
                rcases hz' with e | e | e <;> simp [e]
              match r with
              | [a, b] =>
                rcases hs with ⟨rfl, rfl⟩ | ⟨hk, f, rfl, hf⟩
                · simp [chasUshape, shpS, hx, hy, hz, atI_0, g.pairs, two2, ok3, ne]
                · simp [chasUshape, shpS, hx, hy, hz, atI_0, atI_1, atI_2, g.pairs, two2, ok3, hk, ne, hf]
                  cases f a <;> simp
              | [] => simp [chasUshape, shpS, hx, hy, hz, atI_0, g.pairs, two2, ok3, ne]
              | [a] => simp [chasUshape, shpS, hx, hy, hz, atI_0, g.pairs, two2, ok3, ne]
              | a :: b :: c :: r =>
                have : ¬ ((r.length : Int) + 1 + 1 + 1 + 1 = 3) := by omega
                have n1 : ¬ ((r.length : Int) + 1 + 1 + 1 + 1 = 0) := by omega
                simp [chasUshape, shpS, hx, hy, hz, atI_0, g.pairs, two2, ok3, ne, this, n1]
            · have hz' := hz
              simp only [isPair, Bool.or_eq_true, decide_eq_true_eq, not_or] at hz'
              have ne : (decide ((Str.ofString "if") = x) || (decide ((Str.ofString "and") = x) || decide ((Str.ofString "or") = x))) = false := by
                simp [Ne.symm hz'.1, Ne.symm hz'.2.1, Ne.symm hz'.2.2]
              simp [chasUshape, shpS, hx, hy, hz, atI_0, g.pairs, ok3, ne, n1]
      | _ =>
        have n1 : ¬ ((r.length : Int) + 1 = 0) := by omega
        simp [chasUshape, shpS, atI_0, n1]
  | _ => simp [chasUshape, shpS]
theorem e_lshapeS (h0 : Has P cUlawUisUinteger) (h1 : Has P cUlawUisUnumber) (h : Has P cUlawUshape) {n : Nat} (hn : 2 ≤ n) (k : Int) (sub : Option (D → Bool))
    (hs : (k = 0 ∧ sub = none) ∨ (k ≠ 0 ∧ ∃ f, sub = some f ∧ ∀ v S, P.call n "_law_shape" [.p v, .p (.int (k - 1))] S = .ok (.p (.bool (f v))) S)) (v : D) (S : Store) : P.call (n + 1) "_law_shape" [.p v, .p (.int k)] S = .ok (.p (.bool (shpS sub v))) S := by
  rw [show ("_law_shape" : Str) = cUlawUshape.name from rfl, h.call]
  cases v with
  | tuple ds =>
    cases ds with
    | nil => simp [cUlawUshape, shpS]
    | cons d r =>
      cases d with
      | str x =>
        have n1 : ¬ ((r.length : Int) + 1 = 0) := by omega
        by_cases hx : x = "letter"
        · match r with
          | [] => simp [cUlawUshape, shpS, hx, atI_0, one1]
          | [a] => simp [cUlawUshape, shpS, hx, atI_0, atI_1, e_lnum h0 h1 hn, one1]
          | a :: b :: r => 
            have : ¬ ((r.length : Int) + 1 + 1 + 1 = 2) := by omega
            have n1 : ¬ ((r.length : Int) + 1 + 1 + 1 = 0) := by omega
            simp [cUlawUshape, shpS, hx, atI_0, one1, this, n1]
        · by_cases hy : x = "false"
          · match r with
            | [] => simp [cUlawUshape, shpS, hx, hy, atI_0, ofStr_inj]
            | a :: r =>
              have : ¬ ((r.length : Int) + 1 + 1 = 1) := by omega
              have n1 : ¬ ((r.length : Int) + 1 + 1 = 0) := by omega
              simp [cUlawUshape, shpS, hx, hy, atI_0, ofStr_inj, this, n1]
          · by_cases hz : isPair x = true
            · have hz' := hz
              simp only [isPair, Bool.or_eq_true, decide_eq_true_eq] at hz'
              have ne : (decide ((Str.ofString "if") = x) || (decide ((Str.ofString "and") = x) || decide ((Str.ofString "or") = x))) = true := by
                rcases hz' with e | e | e <;> simp [e]
              match r with
              | [a, b] =>
                rcases hs with ⟨rfl, rfl⟩ | ⟨hk, f, rfl, hf⟩
                · simp [cUlawUshape, shpS, hx, hy, hz, atI_0, two2, ok3, ne]
                · simp [cUlawUshape, shpS, hx, hy, hz, atI_0, atI_1, atI_2, two2, ok3, hk, ne, hf]
                  cases f a <;> simp
              | [] => simp [cUlawUshape, shpS, hx, hy, hz, atI_0, two2, ok3, ne]
              | [a] => simp [cUlawUshape, shpS, hx, hy, hz, atI_0, two2, ok3, ne]
              | a :: b :: c :: r =>
                have : ¬ ((r.length : Int) + 1 + 1 + 1 + 1 = 3) := by omega
                have n1 : ¬ ((r.length : Int) + 1 + 1 + 1 + 1 = 0) := by omega
                simp [cUlawUshape, shpS, hx, hy, hz, atI_0, two2, ok3, ne, this, n1]
            · have hz' := hz
              simp only [isPair, Bool.or_eq_true, decide_eq_true_eq, not_or] at hz'
              have ne : (decide ((Str.ofString "if") = x) || (decide ((Str.ofString "and") = x) || decide ((Str.ofString "or") = x))) = false := by
                simp [Ne.symm hz'.1, Ne.symm hz'.2.1, Ne.symm hz'.2.2]
              simp [cUlawUshape, shpS, hx, hy, hz, atI_0, ok3, ne, n1]
      | _ =>
        have n1 : ¬ ((r.length : Int) + 1 = 0) := by omega
        simp [cUlawUshape, shpS, atI_0, n1]
  | _ => simp [cUlawUshape, shpS]
theorem e_shape (g : Gs P) (h0 : Has P cisUwhole) (h1 : Has P cisUfrom) (h : Has P chasUshape) : ∀ (k n : Nat), k + 3 ≤ n → ∀ (v : D) (S : Store), P.call n "has_shape" [.p v, .p (.int k)] S = .ok (.p (.bool (shp k v))) S
  | 0, n, hn, v, S => by
    obtain ⟨n, rfl, hm⟩ := pred hn
    exact e_shapeS g h0 h1 h hm 0 none (.inl ⟨rfl, rfl⟩) v S
  | k + 1, n, hn, v, S => by
    obtain ⟨n, rfl, hm⟩ := pred (k := k + 3) (by omega)
    refine e_shapeS g h0 h1 h (by omega) ((k + 1 : Nat) : Int) (some (shp k)) (.inr ⟨by omega, _, rfl, fun v S => ?_⟩) v S
    rw [show (((k + 1 : Nat) : Int) - 1) = k by omega]
    exact e_shape g h0 h1 h k n (by omega) v S
theorem e_lshape (h0 : Has P cUlawUisUinteger) (h1 : Has P cUlawUisUnumber) (h : Has P cUlawUshape) : ∀ (k n : Nat), k + 3 ≤ n → ∀ (v : D) (S : Store), P.call n "_law_shape" [.p v, .p (.int k)] S = .ok (.p (.bool (shp k v))) S
  | 0, n, hn, v, S => by
    obtain ⟨n, rfl, hm⟩ := pred hn
    exact e_lshapeS h0 h1 h hm 0 none (.inl ⟨rfl, rfl⟩) v S
  | k + 1, n, hn, v, S => by
    obtain ⟨n, rfl, hm⟩ := pred (k := k + 3) (by omega)
    refine e_lshapeS h0 h1 h (by omega) ((k + 1 : Nat) : Int) (some (shp k)) (.inr ⟨by omega, _, rfl, fun v S => ?_⟩) v S
    rw [show (((k + 1 : Nat) : Int) - 1) = k by omega]
    exact e_lshape h0 h1 h k n (by omega) v S
/-- what has the shape is a formula -/
theorem shp_fm : ∀ (k : Nat) (v : D), shp k v = true → ∃ f : Fm, v = f.d ∧ f.in_ 4 ∧ f.ht ≤ k := by
  have atom : ∀ (sub : Option (D → Bool)) (k : Nat) (v : D), (∀ r, two2 sub r = true → ∃ a b : Fm, r = [a.d, b.d] ∧ (a.in_ 4 ∧ b.in_ 4) ∧ max a.ht b.ht + 1 ≤ k) → shpS sub v = true → ∃ f : Fm, v = f.d ∧ f.in_ 4 ∧ f.ht ≤ k := by
    intro sub k v h2 h
    unfold shpS at h
    split at h
    case h_2 => cases h
    next x r =>
    split at h
    · next hx =>
      subst hx
      unfold one1 at h
      split at h
      case h_2 => cases h
      unfold inR at h
      split at h
      case h_2 => cases h
      · next i =>
        simp only [Bool.and_eq_true, decide_eq_true_eq] at h
        exact ⟨.lt i.toNat, by simp [Fm.d, Int.toNat_of_nonneg h.1], show i.toNat < 4 by omega, Nat.zero_le _⟩
    · split at h
      · next hx =>
        subst hx
        cases r with
        | nil => exact ⟨.ff, rfl, trivial, Nat.zero_le _⟩
        | cons _ _ => simp at h
      · split at h
        · next hz =>
          obtain ⟨a, b, rfl, h3, h4⟩ := h2 r h
          simp only [isPair, Bool.or_eq_true, decide_eq_true_eq] at hz
          rcases hz with rfl | rfl | rfl
          · exact ⟨.bi .i a b, rfl, h3, h4⟩
          · exact ⟨.bi .a a b, rfl, h3, h4⟩
          · exact ⟨.bi .o a b, rfl, h3, h4⟩
        · cases h
  intro k
  induction k with
  | zero => exact fun v h => atom none 0 v (fun r q => by simp [two2] at q) h
  | succ k ih => exact fun v h => atom (some (shp k)) (k + 1) v (fun r q => by
      unfold two2 at q
      split at q
      case h_2 => cases q
      · next f' a b e1 =>
        cases e1
        simp only [Bool.and_eq_true] at q
        obtain ⟨x, rfl, x1, x2⟩ := ih a q.1
        obtain ⟨y, rfl, y1, y2⟩ := ih b q.2
        exact ⟨x, y, rfl, ⟨x1, y1⟩, by omega⟩) h

end
end Lw

set_option Elab.async false
set_option linter.all false
set_option autoImplicit false
set_option maxRecDepth 100000
set_option maxHeartbeats 0
/-! PL4: knots, letters, values, putting in. -/
namespace Lw
open PySem PySem.Spec Pl L2
section
variable {P : Prog}
/-! ### knots -/
def Fm.kn : Fm → Int
  | .lt _ => 1
  | .ff => 1
  | .bi _ a b => 1 + a.kn + b.kn
theorem e_knots (g : Gs P) (h : Has P cknots) : ∀ (f : Fm) (n : Nat), f.ht + 1 ≤ n → ∀ S, P.call n "knots" [.p f.d] S = .ok (.p (.int f.kn)) S
  | .lt i, n, hn, S => by
    obtain ⟨n, rfl, hm⟩ := pred hn
    rw [show ("knots" : Str) = cknots.name from rfl, h.call]
    simp [cknots, Fm.d, atI_0, g.pairs, ok3, ofStr_inj, Fm.kn]
  | .ff, n, hn, S => by
    obtain ⟨n, rfl, hm⟩ := pred hn
    rw [show ("knots" : Str) = cknots.name from rfl, h.call]
    simp [cknots, Fm.d, atI_0, g.pairs, ok3, ofStr_inj, Fm.kn]
  | .bi q a b, n, hn, S => by
    obtain ⟨n, rfl, hm⟩ := pred hn
    rw [show ("knots" : Str) = cknots.name from rfl, h.call]
    have ha := e_knots g h a n (by simp only [Fm.ht] at hm; omega)
    have hb := e_knots g h b n (by simp only [Fm.ht] at hm; omega)
    cases q <;> simp [cknots, Fm.d, Con.s, atI_0, atI_1, atI_2, g.pairs, ok3, ofStr_inj, Fm.kn, ha, hb]
theorem e_lknots (h : Has P cUlawUknots) : ∀ (f : Fm) (n : Nat), f.ht + 1 ≤ n → ∀ S, P.call n "_law_knots" [.p f.d] S = .ok (.p (.int f.kn)) S
  | .lt i, n, hn, S => by
    obtain ⟨n, rfl, hm⟩ := pred hn
    rw [show ("_law_knots" : Str) = cUlawUknots.name from rfl, h.call]
    simp [cUlawUknots, Fm.d, Fm.kn]
  | .ff, n, hn, S => by
    obtain ⟨n, rfl, hm⟩ := pred hn
    rw [show ("_law_knots" : Str) = cUlawUknots.name from rfl, h.call]
    simp [cUlawUknots, Fm.d, Fm.kn]
  | .bi q a b, n, hn, S => by
    obtain ⟨n, rfl, hm⟩ := pred hn
    rw [show ("_law_knots" : Str) = cUlawUknots.name from rfl, h.call]
    have ha := e_lknots h a n (by simp only [Fm.ht] at hm; omega)
    have hb := e_lknots h b n (by simp only [Fm.ht] at hm; omega)
    simp [cUlawUknots, Fm.d, atI_1, atI_2, Fm.kn, ha, hb]
theorem e_isform (g : Gs P) (h0 : Has P cisUwhole) (h1 : Has P cisUfrom) (h : Has P chasUshape) (hk : Has P cknots) (h2 : Has P cisUformula) (l0 : Has P cUlawUisUinteger) (l1 : Has P cUlawUisUnumber) (l : Has P cUlawUshape) (lk : Has P cUlawUknots) (l2 : Has P cUlawUisUformula)
    {n : Nat} (hn : 12 ≤ n) (v : D) (S : Store) : ∃ b, P.call n "is_formula" [.p v] S = .ok (.p (.bool b)) S ∧ P.call n "_law_is_formula" [.p v] S = .ok (.p (.bool b)) S := by
  obtain ⟨n, rfl, hm⟩ := pred (k := 11) hn
  rw [show ("is_formula" : Str) = cisUformula.name from rfl, h2.call, show ("_law_is_formula" : Str) = cUlawUisUformula.name from rfl, l2.call]
  have e1 : P.call n "has_shape" [.p v, .p (.int 8)] S = .ok (.p (.bool (shp 8 v))) S := e_shape g h0 h1 h 8 n hm v S
  have e2 : P.call n "_law_shape" [.p v, .p (.int 8)] S = .ok (.p (.bool (shp 8 v))) S := e_lshape l0 l1 l 8 n hm v S
  cases q : shp 8 v with
  | false => exact ⟨false, by simp [cisUformula, g.deepest, e1, q], by simp [cUlawUisUformula, e2, q]⟩
  | true =>
    obtain ⟨f, rfl, f1, f2⟩ := shp_fm 8 v q
    have k1 := e_knots g hk f n (by omega) S
    have k2 := e_lknots lk f n (by omega) S
    exact ⟨decide (f.kn ≤ 24), by simp [cisUformula, g.deepest, g.most, e1, q, k1], by simp [cUlawUisUformula, e2, q, k2]⟩

/-! ### letters -/
def Fm.ls : Fm → List Int
  | .lt i => [(i : Int)]
  | .ff => []
  | .bi _ a b => setI (a.ls ++ b.ls)
def subs4 : List (List Int) := [[], [0], [1], [2], [3], [0, 1], [0, 2], [0, 3], [1, 2], [1, 3], [2, 3], [0, 1, 2], [0, 1, 3], [0, 2, 3], [1, 2, 3], [0, 1, 2, 3]]
theorem subs_set : ∀ a ∈ subs4, ∀ b ∈ subs4, setI (a ++ b) ∈ subs4 := by decide
theorem subs_len : ∀ a ∈ subs4, a.length ≤ 4 := by decide
theorem Fm.ls_subs : ∀ {f : Fm}, f.in_ 4 → f.ls ∈ subs4
  | .lt i, h => by
    have h : i < 4 := h
    match i, h with
    | 0, _ => decide
    | 1, _ => decide
    | 2, _ => decide
    | 3, _ => decide
  | .ff, _ => by decide
  | .bi _ a b, h => subs_set _ (Fm.ls_subs h.1) _ (Fm.ls_subs h.2)
theorem intsOf_map : ∀ ns : List Int, intsOf (ns.map .int) = some ns
  | [] => rfl
  | n :: ns => by rw [List.map_cons]; simp only [intsOf, intsOf_map ns]; rfl
def intL (ns : List Int) : D := .list (ns.map .int)
theorem e_letters (h : Has P clettersUin) : ∀ (f : Fm) (n : Nat), f.in_ 4 → f.ht + 1 ≤ n → ∀ S, P.call n "letters_in" [.p f.d] S = .ok (.p (intL f.ls)) S
  | .lt i, n, hf, hn, S => by
    obtain ⟨n, rfl, hm⟩ := pred hn
    rw [show ("letters_in" : Str) = clettersUin.name from rfl, h.call]
    simp [clettersUin, Fm.d, atI_0, atI_1, ofStr_inj, Fm.ls, intL]
  | .ff, n, hf, hn, S => by
    obtain ⟨n, rfl, hm⟩ := pred hn
    rw [show ("letters_in" : Str) = clettersUin.name from rfl, h.call]
    simp [clettersUin, Fm.d, atI_0, ofStr_inj, Fm.ls, intL]
  | .bi q a b, n, hf, hn, S => by
    obtain ⟨n, rfl, hm⟩ := pred hn
    rw [show ("letters_in" : Str) = clettersUin.name from rfl, h.call]
    have ha := e_letters h a n hf.1 (by simp only [Fm.ht] at hm; omega)
    have hb := e_letters h b n hf.2 (by simp only [Fm.ht] at hm; omega)
    have la := subs_len _ (Fm.ls_subs hf.1)
    have lb := subs_len _ (Fm.ls_subs hf.2)
    have l1 : a.ls.length + b.ls.length ≤ 16777216 := by omega
    have l2 : a.ls.length + b.ls.length < 64 := by omega
    have e := intsOf_map (a.ls ++ b.ls)
    rw [List.map_append] at e
    cases q <;> simp [clettersUin, Fm.d, Con.s, atI_0, atI_1, atI_2, ofStr_inj, Fm.ls, ha, hb, intL, l1, l2, e]
theorem e_lletters (h : Has P cUlawUletters) : ∀ (f : Fm) (n : Nat), f.in_ 4 → f.ht + 1 ≤ n → ∀ S, P.call n "_law_letters" [.p f.d] S = .ok (.p (intL f.ls)) S
  | .lt i, n, hf, hn, S => by
    obtain ⟨n, rfl, hm⟩ := pred hn
    rw [show ("_law_letters" : Str) = cUlawUletters.name from rfl, h.call]
    simp [cUlawUletters, Fm.d, atI_0, atI_1, ofStr_inj, Fm.ls, intL]
  | .ff, n, hf, hn, S => by
    obtain ⟨n, rfl, hm⟩ := pred hn
    rw [show ("_law_letters" : Str) = cUlawUletters.name from rfl, h.call]
    simp [cUlawUletters, Fm.d, atI_0, ofStr_inj, Fm.ls, intL]
  | .bi q a b, n, hf, hn, S => by
    obtain ⟨n, rfl, hm⟩ := pred hn
    rw [show ("_law_letters" : Str) = cUlawUletters.name from rfl, h.call]
    have ha := e_lletters h a n hf.1 (by simp only [Fm.ht] at hm; omega)
    have hb := e_lletters h b n hf.2 (by simp only [Fm.ht] at hm; omega)
    have la := subs_len _ (Fm.ls_subs hf.1)
    have lb := subs_len _ (Fm.ls_subs hf.2)
    have l1 : a.ls.length + b.ls.length ≤ 16777216 := by omega
    have l2 : a.ls.length + b.ls.length < 64 := by omega
    have e := intsOf_map (a.ls ++ b.ls)
    rw [List.map_append] at e
    cases q <;> simp [cUlawUletters, Fm.d, Con.s, atI_0, atI_1, atI_2, ofStr_inj, Fm.ls, ha, hb, intL, l1, l2, e]

/-! ### values -/
def bi (b : Bool) : Int := if b then 1 else 0
def rowD (r : List Bool) : D := .tuple (r.map fun b => .int (bi b))
def Con.val : Con → Bool → Bool → Bool
  | .i, x, y => !x || y
  | .a, x, y => x && y
  | .o, x, y => x || y
def Fm.val (r : List Bool) : Fm → Bool
  | .lt i => r.getD i false
  | .ff => false
  | .bi q a b => q.val (a.val r) (b.val r)
theorem row_at {r : List Bool} {i : Nat} (h : i < r.length) : atI (r.map fun b => PyData.int (bi b)) (i : Int) = some (.int (bi (r.getD i false))) := by
  refine atI_nat ?_
  rw [List.getElem?_map, List.getElem?_eq_getElem h]
  simp [h]
theorem e_joined (h : Has P cjoinedUvalue) {n : Nat} (hn : 1 ≤ n) (q : Con) (a b : Bool) (S : Store) : P.call n "joined_value" [.p (.str q.s), .p (.int (bi a)), .p (.int (bi b))] S = .ok (.p (.int (bi (q.val a b)))) S := by
  obtain ⟨n, rfl, hm⟩ := pred hn
  rw [show ("joined_value" : Str) = cjoinedUvalue.name from rfl, h.call]
  cases q <;> cases a <;> cases b <;> simp [cjoinedUvalue, Con.s, ofStr_inj, bi, Con.val]
theorem e_value (hj : Has P cjoinedUvalue) (h : Has P cvalueUof) {r : List Bool} (hr : r.length = 4) : ∀ (f : Fm) (n : Nat), f.in_ 4 → f.ht + 2 ≤ n → ∀ S, P.call n "value_of" [.p f.d, .p (rowD r)] S = .ok (.p (.int (bi (f.val r)))) S
  | .lt i, n, hf, hn, S => by
    obtain ⟨n, rfl, hm⟩ := pred hn
    rw [show ("value_of" : Str) = cvalueUof.name from rfl, h.call]
    have e := row_at (r := r) (i := i) (by rw [hr]; exact hf)
    simp [cvalueUof, Fm.d, atI_0, atI_1, ofStr_inj, Fm.val, rowD, e]
  | .ff, n, hf, hn, S => by
    obtain ⟨n, rfl, hm⟩ := pred hn
    rw [show ("value_of" : Str) = cvalueUof.name from rfl, h.call]
    simp [cvalueUof, Fm.d, atI_0, ofStr_inj, Fm.val, bi]
  | .bi q a b, n, hf, hn, S => by
    obtain ⟨n, rfl, hm⟩ := pred hn
    rw [show ("value_of" : Str) = cvalueUof.name from rfl, h.call]
    have ha := e_value hj h hr a n hf.1 (by simp only [Fm.ht] at hm; omega)
    have hb := e_value hj h hr b n hf.2 (by simp only [Fm.ht] at hm; omega)
    have hc := e_joined hj (n := n) (by omega) q (a.val r) (b.val r)
    cases q <;> simp [Con.s] at hc <;> simp [cvalueUof, Fm.d, Con.s, atI_0, atI_1, atI_2, ofStr_inj, Fm.val, ha, hb, hc]
theorem e_lvalue (h : Has P cUlawUvalue) {r : List Bool} (hr : r.length = 4) : ∀ (f : Fm) (n : Nat), f.in_ 4 → f.ht + 1 ≤ n → ∀ S, P.call n "_law_value" [.p f.d, .p (rowD r)] S = .ok (.p (.int (bi (f.val r)))) S
  | .lt i, n, hf, hn, S => by
    obtain ⟨n, rfl, hm⟩ := pred hn
    rw [show ("_law_value" : Str) = cUlawUvalue.name from rfl, h.call]
    have e := row_at (r := r) (i := i) (by rw [hr]; exact hf)
    simp [cUlawUvalue, Fm.d, atI_0, atI_1, ofStr_inj, Fm.val, rowD, e]
  | .ff, n, hf, hn, S => by
    obtain ⟨n, rfl, hm⟩ := pred hn
    rw [show ("_law_value" : Str) = cUlawUvalue.name from rfl, h.call]
    simp [cUlawUvalue, Fm.d, atI_0, ofStr_inj, Fm.val, bi]
  | .bi q a b, n, hf, hn, S => by
    obtain ⟨n, rfl, hm⟩ := pred hn
    rw [show ("_law_value" : Str) = cUlawUvalue.name from rfl, h.call]
    have ha := e_lvalue h hr a n hf.1 (by simp only [Fm.ht] at hm; omega)
    have hb := e_lvalue h hr b n hf.2 (by simp only [Fm.ht] at hm; omega)
    cases q <;> cases ea : a.val r <;> cases eb : b.val r <;> simp [cUlawUvalue, Fm.d, Con.s, atI_0, atI_1, atI_2, ofStr_inj, Fm.val, ha, hb, ea, eb, bi, Con.val]
end
end Lw

set_option Elab.async false
set_option linter.all false
set_option autoImplicit false
set_option maxRecDepth 100000
set_option maxHeartbeats 0
/-! PL5: what holds of a result; loops and comprehensions; data that are the same; formulas put in. -/
namespace Lw
open PySem PySem.Spec Pl L2

def sat {α : Type} (r : Res α) (Q : α → Store → Prop) : Prop := match r with
  | .ok a S => Q a S
  | _ => False
section
variable {α β : Type}
@[simp] theorem sat_ok {a : α} {S : Store} {Q : α → Store → Prop} : sat (.ok a S) Q = Q a S := rfl
@[simp] theorem sat_bind {r : Res α} {f : α → Store → Res β} {Q : β → Store → Prop} : sat (r.bind f) Q = sat r fun a S => sat (f a S) Q := by cases r <;> rfl
@[simp] theorem sat_cut {r : Res α} {n : Nat} {Q : α → Store → Prop} : sat (r.cut n) Q = sat r Q := by cases r <;> rfl
@[simp] theorem sat_noX {r : Res α} {Q : α → Store → Prop} : sat r.noX Q = sat r Q := by cases r <;> rfl
theorem sat_eq {r : Res α} {a : α} {S : Store} : r = .ok a S ↔ sat r fun b S' => b = a ∧ S' = S := by
  cases r with
  | ok b S' => simp
  | bad => simp [sat]
  | exn x S' => simp [sat]
theorem sat_mono {r : Res α} {Q Q' : α → Store → Prop} (h : sat r Q) (k : ∀ a S, Q a S → Q' a S) : sat r Q' := by
  cases r with
  | ok b S' => exact k _ _ h
  | bad => exact h
  | exn x S' => exact h
theorem sat_of {r : Res α} {a : α} {S : Store} {Q : α → Store → Prop} (h : r = .ok a S) (q : Q a S) : sat r Q := by rw [h]; exact q
theorem sat_ite {c : Prop} [Decidable c] {x y : Res α} {Q : α → Store → Prop} : sat (if c then x else y) Q = if c then sat x Q else sat y Q := by split <;> rfl
end
/-- a def's run, by what holds of its body -/
theorem run_sat {cl : CallF} {g : Str → Option D} {fn : Fn} {vs : List Vl} {S : Store} {Q : Vl → Store → Prop} (hl : vs.length = fn.params) (h : sat ((evSs cl g fn.body (vs.map some ++ List.replicate (fn.slots - vs.length) none) S).bind fun f S1 => match f with
      | .nx _ => Pl.finish S.length (.p .none) S1
      | .rt v => Pl.finish S.length v S1
      | _ => .bad) Q) : ∃ v S', runFn cl g fn vs S = .ok v S' ∧ Q v S' := by
  unfold runFn
  rw [if_pos hl]
  generalize hr : ((evSs cl g fn.body (vs.map some ++ List.replicate (fn.slots - vs.length) none) S).bind fun f S1 => match f with
      | .nx _ => Pl.finish S.length (.p .none) S1
      | .rt v => Pl.finish S.length v S1
      | _ => .bad) = r at h
  cases r with
  | bad => exact h.elim
  | exn x S' => exact h.elim
  | ok v S' => exact ⟨v, S', rfl, h⟩
/-- a comprehension's turns -/
theorem map_sat {f : D → Store → Res (Option D)} {R : Store → Prop} {T : D → Prop} : ∀ {xs : List D} {S : Store} {Q : List D → Store → Prop}, (∀ d ∈ xs, ∀ S, R S → sat (f d S) fun o S' => R S' ∧ ∀ r, o = some r → T r) → R S →
    (∀ rs S', R S' → (∀ r ∈ rs, T r) → rs.length ≤ xs.length → Q rs S') → sat (mapR f xs S) Q
  | [], S, Q, _, h0, hQ => hQ [] S h0 (fun _ z => nomatch z) (Nat.le_refl _)
  | x :: xs, S, Q, h, h0, hQ => by
    simp only [mapR, sat_bind]
    refine sat_mono (h x List.mem_cons_self S h0) fun o S1 ⟨h1, t1⟩ => ?_
    refine map_sat (R := R) (T := T) (fun d hd => h d (List.mem_cons_of_mem _ hd)) h1 fun rs S2 h2 t2 hl => ?_
    cases o with
    | none => exact hQ rs S2 h2 t2 (Nat.le_succ_of_le hl)
    | some r => exact hQ (r :: rs) S2 h2 (List.forall_mem_cons.mpr ⟨t1 r rfl, t2⟩) (Nat.succ_le_succ hl)
/-- the same where each turn keeps the store and is known -/
theorem map_det {f : D → Store → Res (Option D)} (g : D → Option D) : ∀ {xs : List D} {S : Store}, (∀ d ∈ xs, f d S = .ok (g d) S) → mapR f xs S = .ok (xs.filterMap g) S
  | [], S, _ => rfl
  | x :: xs, S, h => by
    have e := map_det g (xs := xs) (S := S) fun d hd => h d (List.mem_cons_of_mem _ hd)
    simp only [mapR, h x List.mem_cons_self, e, bind_ok, List.filterMap_cons]
    cases g x <;> rfl
/-- a loop's turns -/
theorem for_sat {b : D → Rho → Store → Res Fl} (R : List D → Rho → Store → Prop) : ∀ {pre xs : List D} {ρ : Rho} {S : Store} {Q : Fl → Store → Prop}, R pre ρ S →
    (∀ pre x ρ S, R pre ρ S → sat (b x ρ S) fun f S' => match f with
      | .nx ρ' => R (pre ++ [x]) ρ' S'
      | .ct ρ' => R (pre ++ [x]) ρ' S'
      | .bk ρ' => Q (.nx ρ') S'
      | .rt v => Q (.rt v) S') → (∀ ρ S, R (pre ++ xs) ρ S → Q (.nx ρ) S) → sat (forR b xs ρ S) Q
  | pre, [], ρ, S, Q, h0, _, hQ => by
    simp only [forR, sat_ok]
    exact hQ ρ S (by simpa using h0)
  | pre, x :: xs, ρ, S, Q, h0, h, hQ => by
    simp only [forR, sat_bind]
    refine sat_mono (h pre x ρ S h0) fun f S1 h1 => ?_
    cases f with
    | nx ρ1 => exact for_sat R h1 h fun ρ S z => hQ ρ S (by simpa using z)
    | ct ρ1 => exact for_sat R h1 h fun ρ S z => hQ ρ S (by simpa using z)
    | bk ρ1 => exact h1
    | rt v => exact h1
theorem rangeD_mem {l n : Int} {d : D} (h : d ∈ rangeD l n) : ∃ i : Int, d = .int i ∧ l ≤ i ∧ i < n := by
  unfold rangeD at h
  obtain ⟨k, hk, rfl⟩ := List.mem_map.mp h
  rw [List.mem_range] at hk
  exact ⟨l + k, rfl, by omega, by omega⟩
theorem rangeD_len {l n : Int} : (rangeD l n).length = (n - l).toNat := by simp [rangeD]

theorem rng0 : rngOk 0 = true := by decide
theorem rng_ok {i : Int} (h0 : 0 ≤ i) (h1 : i ≤ 1000) : rngOk i = true := by
  unfold rngOk
  exact Nat.ble_eq_true_of_le (by omega)

/-! ### the same -/
theorem depth_mem {x : D} : ∀ {xs : List D}, x ∈ xs → x.depth ≤ PyData.depthAll xs
  | y :: ys, h => by
    rw [PyData.depthAll]
    rcases List.mem_cons.mp h with rfl | h
    · omega
    · have := depth_mem h; omega
theorem plain_mem {x : D} : ∀ {xs : List D}, PyData.plainAll xs = true → x ∈ xs → x.plain = true
  | y :: ys, p, h => by
    rw [PyData.plainAll, Bool.and_eq_true] at p
    rcases List.mem_cons.mp h with rfl | h
    · exact p.1
    · exact plain_mem p.2 h
theorem atI_mem {xs : List D} {i : Int} (h0 : 0 ≤ i) (h1 : i < xs.length) : ∃ x ∈ xs, atI xs i = some x := by
  obtain ⟨x, e1, e2⟩ := atI_lt h0 h1
  exact ⟨x, List.mem_of_getElem? e2, e1⟩
mutual
/-- plain data, no list too long for a range -/
def fine : D → Bool
  | .list xs => decide (xs.length ≤ 1000) && fineAll xs
  | .tuple xs => decide (xs.length ≤ 1000) && fineAll xs
  | .dict _ => false
  | _ => true
def fineAll : List D → Bool
  | [] => true
  | x :: xs => fine x && fineAll xs
end
theorem fine_mem {x : D} : ∀ {xs : List D}, fineAll xs = true → x ∈ xs → fine x = true
  | y :: ys, p, h => by
    rw [fineAll, Bool.and_eq_true] at p
    rcases List.mem_cons.mp h with rfl | h
    · exact p.1
    · exact fine_mem p.2 h
section
variable {P : Prog}
theorem e_same (h : Has P cUlawUsame) : ∀ (n : Nat) (d : D) (S : Store), fine d = true → d.depth + 1 ≤ n → P.call n "_law_same" [.p d, .p d] S = .ok (.p (.bool true)) S := by
  intro n
  induction n with
  | zero => intro d S _ hn; omega
  | succ n ih =>
    intro d S hf hn
    rw [show ("_law_same" : Str) = cUlawUsame.name from rfl, h.call]
    cases d with
    | none => simp [cUlawUsame]
    | bool b => simp [cUlawUsame]
    | int i => simp [cUlawUsame]
    | str x => simp [cUlawUsame]
    | dict es => simp [fine] at hf
    | list xs =>
      rw [fine, Bool.and_eq_true, decide_eq_true_eq] at hf
      rw [PyData.depth] at hn
      have hr : rngOk (xs.length : Int) = true := rng_ok (by omega) (by omega)
      simp [cUlawUsame, hr, rng0]
      rw [map_det (fun _ => none) fun d hd => ?_]
      · rw [List.filterMap_eq_nil_iff.mpr fun _ _ => rfl]; simp
      · obtain ⟨i, rfl, i0, i1⟩ := rangeD_mem hd
        obtain ⟨x, hx, ex⟩ := atI_mem i0 i1
        have e := ih x S (fine_mem hf.2 hx) (by have := depth_mem hx; omega)
        simp [ex, e]
    | tuple xs =>
      rw [fine, Bool.and_eq_true, decide_eq_true_eq] at hf
      rw [PyData.depth] at hn
      have hr : rngOk (xs.length : Int) = true := rng_ok (by omega) (by omega)
      simp [cUlawUsame, hr, rng0]
      rw [map_det (fun _ => none) fun d hd => ?_]
      · rw [List.filterMap_eq_nil_iff.mpr fun _ _ => rfl]; simp
      · obtain ⟨i, rfl, i0, i1⟩ := rangeD_mem hd
        obtain ⟨x, hx, ex⟩ := atI_mem i0 i1
        have e := ih x S (fine_mem hf.2 hx) (by have := depth_mem hx; omega)
        simp [ex, e]
end
end Lw

set_option Elab.async false
set_option linter.all false
set_option autoImplicit false
set_option maxRecDepth 100000
set_option maxHeartbeats 0
/-! PL6: contraries, formulas put in, rows. -/
namespace Lw
open PySem PySem.Spec Pl L2

/-- a loop's turns, over a list that is known -/
theorem for_satL {b : D → Rho → Store → Res Fl} {all : List D} (R : List D → Rho → Store → Prop) {Q : Fl → Store → Prop}
    (h : ∀ pre x post, all = pre ++ x :: post → ∀ ρ S, R pre ρ S → sat (b x ρ S) fun f S' => match f with
      | .nx ρ' => R (pre ++ [x]) ρ' S'
      | .ct ρ' => R (pre ++ [x]) ρ' S'
      | .bk ρ' => Q (.nx ρ') S'
      | .rt v => Q (.rt v) S') (hQ : ∀ ρ S, R all ρ S → Q (.nx ρ) S) : ∀ {pre xs : List D} {ρ : Rho} {S : Store}, all = pre ++ xs → R pre ρ S → sat (forR b xs ρ S) Q
  | pre, [], ρ, S, e, h0 => by
    simp only [forR, sat_ok]
    exact hQ ρ S (by rw [e]; simpa using h0)
  | pre, x :: xs, ρ, S, e, h0 => by
    simp only [forR, sat_bind]
    refine sat_mono (h pre x xs e ρ S h0) fun f S1 h1 => ?_
    cases f with
    | nx ρ1 => exact for_satL R h hQ (by simpa using e) h1
    | ct ρ1 => exact for_satL R h hQ (by simpa using e) h1
    | bk ρ1 => exact h1
    | rt v => exact h1
section
variable {P : Prog}
theorem e_contrary (g : Gs P) (h : Has P ccontrary) {n : Nat} (hn : 1 ≤ n) (f : Fm) (S : Store) : P.call n "contrary" [.p f.d] S = .ok (.p (Fm.bi .i f .ff).d) S := by
  obtain ⟨n, rfl, hm⟩ := pred hn
  rw [show ("contrary" : Str) = ccontrary.name from rfl, h.call]
  simp [ccontrary, g.false_, Fm.d, Con.s]
theorem e_lnot (h : Has P cUlawUnot) {n : Nat} (hn : 1 ≤ n) (f : Fm) (S : Store) : P.call n "_law_not" [.p f.d] S = .ok (.p (Fm.bi .i f .ff).d) S := by
  obtain ⟨n, rfl, hm⟩ := pred hn
  rw [show ("_law_not" : Str) = cUlawUnot.name from rfl, h.call]
  simp [cUlawUnot, Fm.d, Con.s]

/-! ### formulas put in -/
def Fm.put (fs : List Fm) : Fm → Fm
  | .lt i => fs.getD i .ff
  | .ff => .ff
  | .bi q a b => .bi q (a.put fs) (b.put fs)
def fmsD (fs : List Fm) : D := .tuple (fs.map Fm.d)
theorem fms_at {fs : List Fm} {i : Nat} (h : i < fs.length) : atI (fs.map Fm.d) (i : Int) = some (fs.getD i .ff).d := by
  refine atI_nat ?_
  rw [List.getElem?_map, List.getElem?_eq_getElem h]
  simp [h]
theorem e_put (h : Has P cputUfor) {fs : List Fm} (hr : fs.length = 4) : ∀ (f : Fm) (n : Nat), f.in_ 4 → f.ht + 1 ≤ n → ∀ S, P.call n "put_for" [.p f.d, .p (fmsD fs)] S = .ok (.p (f.put fs).d) S
  | .lt i, n, hf, hn, S => by
    obtain ⟨n, rfl, hm⟩ := pred hn
    rw [show ("put_for" : Str) = cputUfor.name from rfl, h.call]
    have e := fms_at (fs := fs) (i := i) (by rw [hr]; exact hf)
    simp [cputUfor, Fm.d, atI_0, atI_1, ofStr_inj, Fm.put, fmsD, e]
  | .ff, n, hf, hn, S => by
    obtain ⟨n, rfl, hm⟩ := pred hn
    rw [show ("put_for" : Str) = cputUfor.name from rfl, h.call]
    simp [cputUfor, Fm.d, atI_0, ofStr_inj, Fm.put]
  | .bi q a b, n, hf, hn, S => by
    obtain ⟨n, rfl, hm⟩ := pred hn
    rw [show ("put_for" : Str) = cputUfor.name from rfl, h.call]
    have ha := e_put h hr a n hf.1 (by simp only [Fm.ht] at hm; omega)
    have hb := e_put h hr b n hf.2 (by simp only [Fm.ht] at hm; omega)
    cases q <;> simp [cputUfor, Fm.d, Con.s, atI_0, atI_1, atI_2, ofStr_inj, Fm.put, ha, hb]
theorem e_lput (h : Has P cUlawUput) {fs : List Fm} (hr : fs.length = 4) : ∀ (f : Fm) (n : Nat), f.in_ 4 → f.ht + 1 ≤ n → ∀ S, P.call n "_law_put" [.p f.d, .p (fmsD fs)] S = .ok (.p (f.put fs).d) S
  | .lt i, n, hf, hn, S => by
    obtain ⟨n, rfl, hm⟩ := pred hn
    rw [show ("_law_put" : Str) = cUlawUput.name from rfl, h.call]
    have e := fms_at (fs := fs) (i := i) (by rw [hr]; exact hf)
    simp [cUlawUput, Fm.d, atI_0, atI_1, ofStr_inj, Fm.put, fmsD, e]
  | .ff, n, hf, hn, S => by
    obtain ⟨n, rfl, hm⟩ := pred hn
    rw [show ("_law_put" : Str) = cUlawUput.name from rfl, h.call]
    simp [cUlawUput, Fm.d, atI_0, ofStr_inj, Fm.put]
  | .bi q a b, n, hf, hn, S => by
    obtain ⟨n, rfl, hm⟩ := pred hn
    rw [show ("_law_put" : Str) = cUlawUput.name from rfl, h.call]
    have ha := e_lput h hr a n hf.1 (by simp only [Fm.ht] at hm; omega)
    have hb := e_lput h hr b n hf.2 (by simp only [Fm.ht] at hm; omega)
    cases q <;> simp [cUlawUput, Fm.d, Con.s, atI_0, atI_1, atI_2, ofStr_inj, Fm.put, ha, hb]
theorem put_val {fs : List Fm} {r : List Bool} (hr : fs.length = 4) : ∀ {f : Fm}, f.in_ 4 → (f.put fs).val r = f.val (fs.map (Fm.val r))
  | .lt i, h => by
    have h : i < fs.length := by rw [hr]; exact h
    simp [Fm.put, Fm.val, h]
  | .ff, _ => rfl
  | .bi q a b, h => by simp [Fm.put, Fm.val, put_val hr h.1, put_val hr h.2]
theorem put_in {fs : List Fm} (hr : fs.length = 4) (hi : ∀ f ∈ fs, f.in_ 4) : ∀ {f : Fm}, f.in_ 4 → (f.put fs).in_ 4
  | .lt i, h => by
    have h : i < fs.length := by rw [hr]; exact h
    simp only [Fm.put, List.getD_eq_getElem?_getD, List.getElem?_eq_getElem h, Option.getD_some]
    exact hi _ (List.getElem_mem h)
  | .ff, _ => trivial
  | .bi q a b, h => ⟨put_in hr hi h.1, put_in hr hi h.2⟩
theorem put_ht {fs : List Fm} {k : Nat} (hi : ∀ f ∈ fs, f.ht ≤ k) : ∀ {f : Fm}, (f.put fs).ht ≤ f.ht + k
  | .lt i => by
    simp only [Fm.put]
    by_cases h : i < fs.length
    · simp only [List.getD_eq_getElem?_getD, List.getElem?_eq_getElem h, Option.getD_some]
      have := hi _ (List.getElem_mem h)
      omega
    · simp [List.getD_eq_getElem?_getD, List.getElem?_eq_none (Nat.le_of_not_lt h), Fm.ht]
  | .ff => Nat.zero_le _
  | .bi q a b => by
    have h1 := put_ht hi (f := a)
    have h2 := put_ht hi (f := b)
    simp only [Fm.put, Fm.ht]
    omega

/-! ### rows -/
def all16 : List (List Bool) := (List.range 16).map fun n => [n / 8 % 2 == 1, n / 4 % 2 == 1, n / 2 % 2 == 1, n % 2 == 1]
def okRow (ls : List Int) (r : List Bool) : Bool := (List.range 4).all fun k => !(r.getD k false) || ls.contains (k : Int)
def rws (ls : List Int) : List (List Bool) := all16.filter (okRow ls)
def rowsD (rs : List (List Bool)) : D := .list (rs.map rowD)
theorem rws_len (ls : List Int) : ∀ r ∈ rws ls, r.length = 4 := by
  intro r hr
  have h : r ∈ all16 := (List.mem_filter.mp hr).1
  have : ∀ r ∈ all16, r.length = 4 := by decide
  exact this r h
theorem rws_few (ls : List Int) : (rws ls).length ≤ 16 := List.length_filter_le _ _
def set1 (k : Nat) (r : List Bool) : List Bool := r.take k ++ [true] ++ r.drop (k + 1)
def grow (fd : List (List Bool)) (k : Int) : List (List Bool) := fd ++ fd.map (set1 k.toNat)
theorem grow_rws : ∀ ls ∈ subs4, ls.reverse.foldl grow [[false, false, false, false]] = rws ls := by decide +kernel
theorem ls_sorted : ∀ ls ∈ subs4, sortOk (ls.map .int) = true ∧ (ls.map PyData.int).Pairwise (fun a b => PySem.W.dataLe false id a b = true) ∧ ∀ k ∈ ls, 0 ≤ k ∧ k < 4 := by decide +kernel
theorem rows_sorted : ∀ ls ∈ subs4, sortOk ((rws ls).map rowD) = true ∧ ((rws ls).map rowD).Pairwise (fun a b => PySem.W.dataLe false id a b = true) := by decide +kernel
theorem cut_take {r : List D} {k : Nat} (h : k ≤ r.length) : cutD r none (some (k : Int)) = r.take k := by
  unfold cutD
  rw [HT.sIx_none, HT.sIx_nat]
  simp [Nat.min_eq_left h]
theorem cut_drop {r : List D} {k : Nat} (h : k ≤ r.length) : cutD r (some (k : Int)) none = r.drop k := by
  unfold cutD
  rw [HT.sIx_none, HT.sIx_nat, Nat.min_eq_left h]
  exact List.take_of_length_le (by simp)
def rowI (b : Bool) : D := .int (bi b)
theorem set1_row {r : List Bool} {k : Nat} : (r.map rowI).take k ++ [.int 1] ++ (r.map rowI).drop (k + 1) = (set1 k r).map rowI := by
  unfold set1
  rw [List.map_append, List.map_append, List.map_take, List.map_drop]
  rfl
theorem e_rows (g : Gs P) (h : Has P crowsUof) {n : Nat} (hn : 1 ≤ n) {ls : List Int} (hl : ls ∈ subs4) (S : Store) : P.call n "rows_of" [.p (intL ls)] S = .ok (.p (rowsD (rws ls))) S := by
  obtain ⟨n, rfl, hm⟩ := pred hn
  rw [show ("rows_of" : Str) = crowsUof.name from rfl, h.call]
  obtain ⟨s1, s2, s3⟩ := ls_sorted ls hl
  obtain ⟨s4, s5⟩ := rows_sorted ls hl
  have m1 := List.mergeSort_of_pairwise s2
  have m2 := List.mergeSort_of_pairwise s5
  simp [crowsUof, intL, g.letters, s1, m1]
  rw [sat_eq]
  simp only [sat_cut, sat_bind]
  refine for_satL (fun pre ρ S' => S' = S ∧ ∃ y ks, pre = (ks : List Int).map PyData.int ∧ (ks.foldl grow [[false, false, false, false]]).length = 2 ^ ks.length ∧ (∀ r ∈ ks.foldl grow [[false, false, false, false]], r.length = 4) ∧
    ρ = [some (.p (.list (ls.map .int))), some (.p (rowsD (ks.foldl grow [[false, false, false, false]]))), y, none]) (all := (ls.map PyData.int).reverse) (pre := []) ?_ ?_ rfl ⟨rfl, _, [], rfl, rfl, by decide, rfl⟩
  · intro pre x post e ρ S' ⟨e1, y, ks, e2, e3, e4, e5⟩
    subst e1 e5 e2
    rw [← List.map_reverse] at e
    obtain ⟨l1, l2, e6, e7, e8⟩ := List.map_eq_append_iff.mp e
    obtain ⟨k, l3, rfl, e9, e10⟩ := List.map_eq_cons_iff.mp e8
    have inj : ∀ a b : List Int, a.map PyData.int = b.map PyData.int → a = b := fun a b q => List.map_inj_right (fun x y z => PyData.int.inj z) |>.mp q
    have e11 := inj _ _ e7
    subst e11 e9
    have hk : k ∈ ls := by
      rw [← List.mem_reverse, e6]
      simp
    obtain ⟨k0, k1⟩ := s3 k hk
    have hlen : l1.length + 1 ≤ 4 := by
      have := congrArg List.length e6
      have h4 := subs_len ls hl
      simp at this
      omega
    have hp : 2 ^ l1.length ≤ 8 := Nat.le_trans (Nat.pow_le_pow_right (by decide) (show l1.length ≤ 3 by omega)) (by decide)
    generalize hfd : l1.foldl grow [[false, false, false, false]] = fd at e3 e4
    simp only [bindT, rowsD]
    simp
    rw [map_det (fun d => match d with | .tuple r => some (.tuple (r.take k.toNat ++ [.int 1] ++ r.drop (k.toNat + 1))) | _ => none) fun d hd => ?_]
    · have e12 : List.filterMap (fun d => match d with | .tuple r => some (.tuple (r.take k.toNat ++ [.int 1] ++ r.drop (k.toNat + 1))) | _ => none) (fd.map rowD) = (fd.map (set1 k.toNat)).map rowD := by
        rw [List.filterMap_map, ← List.filterMap_eq_map, ← List.filterMap_eq_map, List.filterMap_filterMap]
        refine congrArg (fun q => List.filterMap q fd) (funext fun r => ?_)
        show some (PyData.tuple ((r.map rowI).take _ ++ [.int 1] ++ (r.map rowI).drop _)) = some (PyData.tuple ((set1 _ r).map rowI))
        rw [set1_row]
      rw [e12]
      have z1 : fd.length ≤ 16777216 := by omega
      have z2 : fd.length + fd.length ≤ 16777216 := by omega
      simp [z1, z2]
      refine ⟨_, l1 ++ [k], by simp, ?_, ?_, ?_, rfl⟩
      · rw [List.foldl_append, hfd]
        simp [grow, e3, Nat.pow_succ]
        omega
      · rw [List.foldl_append, hfd]
        simp only [List.foldl_cons, List.foldl_nil, grow]
        intro r hr
        rcases List.mem_append.mp hr with hr | hr
        · exact e4 r hr
        · obtain ⟨r', hr', rfl⟩ := List.mem_map.mp hr
          have := e4 r' hr'
          simp [set1]
          omega
      · rw [List.foldl_append, hfd]
        simp [grow]
    · obtain ⟨r, hr, rfl⟩ := List.mem_map.mp hd
      have h4 := e4 r hr
      have hl4 : (r.map rowI).length = 4 := by rw [List.length_map, h4]
      have q1 : cutD (r.map rowI) none (some k) = (r.map rowI).take k.toNat := by
        rw [← cut_take (r := r.map rowI) (k := k.toNat) (by omega), Int.toNat_of_nonneg k0]
      have q2 : cutD (r.map rowI) (some (k + 1)) none = (r.map rowI).drop (k.toNat + 1) := by
        rw [← cut_drop (r := r.map rowI) (k := k.toNat + 1) (by omega), show ((k.toNat + 1 : Nat) : Int) = k + 1 by omega]
      have z3 : ((r.map rowI).take k.toNat).length + 1 ≤ 16777216 := by rw [List.length_take]; omega
      have z4 : ((r.map rowI).take k.toNat).length + 1 + ((r.map rowI).drop (k.toNat + 1)).length ≤ 16777216 := by rw [List.length_take, List.length_drop]; omega
      show _ = Res.ok (some (PyData.tuple ((r.map rowI).take k.toNat ++ [.int 1] ++ (r.map rowI).drop (k.toNat + 1)))) S'
      rw [show rowD r = .tuple (r.map rowI) from rfl]
      simp only [slD, q1, q2, pOpt_some, bind_ok, rd_p, qbinD_3, okLen_eq, List.length_append, List.length_singleton]
      rw [if_pos (by rw [decide_eq_true_eq]; omega)]
      simp only [pOpt_some, bind_ok, rd_p, qbinD_3, okLen_eq, List.length_append, List.length_singleton]
      rw [if_pos (by rw [decide_eq_true_eq]; omega)]
      rfl
  · intro ρ S' ⟨e1, y, ks, e2, e3, e4, e5⟩
    subst e1 e5
    have inj : ∀ a b : List Int, a.map PyData.int = b.map PyData.int → a = b := fun a b q => List.map_inj_right (fun x y z => PyData.int.inj z) |>.mp q
    rw [← List.map_reverse] at e2
    have := inj _ _ e2
    subst this
    rw [grow_rws ls hl]
    simp [rowsD, s4, m2]
end
end Lw

set_option Elab.async false
set_option linter.all false
set_option autoImplicit false
set_option maxRecDepth 100000
set_option maxHeartbeats 0
/-! PL7: rows against a formula; the rows as the law makes them. -/
namespace Lw
open PySem PySem.Spec Pl L2

theorem map_detM {α : Type} {f : D → Store → Res (Option D)} (h : α → D) (g : α → Option D) : ∀ {xs : List α} {S : Store}, (∀ a ∈ xs, f (h a) S = .ok (g a) S) → mapR f (xs.map h) S = .ok (xs.filterMap g) S
  | [], S, _ => rfl
  | x :: xs, S, hx => by
    have e := map_detM h g (xs := xs) (S := S) fun d hd => hx d (List.mem_cons_of_mem _ hd)
    simp only [List.map_cons, mapR, hx x List.mem_cons_self, e, bind_ok, List.filterMap_cons]
    cases g x <;> rfl
def firstBad (f : Fm) : Option (List Bool) := (rws f.ls).find? fun r => !f.val r
def optD : Option (List Bool) → D
  | some r => rowD r
  | none => .none
def thm (f : Fm) : Bool := (rws f.ls).all f.val
theorem bi_eq {b : Bool} : (bi b = 0) ↔ b = false := by cases b <;> simp [bi]
theorem set_last {α : Type} {S : List α} {c d : α} : (S ++ [c]).set S.length d = S ++ [d] := by
  rw [List.set_append_right _ _ (Nat.le_refl _), Nat.sub_self]
  rfl
section
variable {P : Prog}
theorem e_against (g : Gs P) (hl : Has P clettersUin) (hr : Has P crowsUof) (hj : Has P cjoinedUvalue) (hv : Has P cvalueUof) (h : Has P cagainst) {n : Nat} (f : Fm) (hf : f.in_ 4) (hn : f.ht + 3 ≤ n) (S : Store) :
    P.call n "against" [.p f.d] S = .ok (.p (optD (firstBad f))) S := by
  obtain ⟨n, rfl, hm⟩ := pred (k := f.ht + 2) hn
  rw [show ("against" : Str) = cagainst.name from rfl, h.call]
  have e1 := e_letters hl f n hf (by omega) S
  have e2 := e_rows g hr (n := n) (by omega) (Fm.ls_subs hf) S
  simp [cagainst, e1, e2, rowsD]
  rw [sat_eq]
  simp only [sat_cut, sat_bind]
  refine for_satL (fun pre ρ S' => S' = S ∧ ∃ y rs, pre = (rs : List (List Bool)).map rowD ∧ (∀ r ∈ rs, f.val r = true) ∧ ρ = [some (.p f.d), y]) (all := (rws f.ls).map rowD) (pre := []) ?_ ?_ rfl ⟨rfl, _, [], rfl, (fun _ z => nomatch z), rfl⟩
  · intro pre x post e ρ S' ⟨q1, y, rs, q2, q3, q4⟩
    subst q1 q4 q2
    obtain ⟨l1, l2, e6, e7, e8⟩ := List.map_eq_append_iff.mp e
    obtain ⟨r, l3, rfl, rfl, rfl⟩ := List.map_eq_cons_iff.mp e8
    have hr4 : r.length = 4 := rws_len f.ls r (by rw [e6]; simp)
    have ev := e_value hj hv hr4 f n hf (by omega) S'
    have inj : l1 = rs := by
      refine List.map_inj_right (fun x y z => ?_) |>.mp e7
      have z := PyData.tuple.inj z
      refine List.map_inj_right (fun a b w => ?_) |>.mp z
      cases a <;> cases b <;> first | rfl | (simp [bi] at w)
    subst inj
    cases hv : f.val r with
    | true =>
      simp [bindT, ev, hv, bi]
      exact ⟨_, l1 ++ [r], by simp, fun r' h' => by
        rcases List.mem_append.mp h' with h' | h'
        · exact q3 r' h'
        · rw [List.mem_singleton.mp h']; exact hv, rfl⟩
    | false =>
      simp [bindT, ev, hv, bi]
      have : firstBad f = some r := by
        unfold firstBad
        rw [e6, List.find?_append, List.find?_eq_none.mpr fun r' h' => by simp [q3 r' h']]
        simp [hv]
      rw [this]
      rfl
  · intro ρ S' ⟨q1, y, rs, q2, q3, q4⟩
    subst q1 q4
    have : firstBad f = none := by
      unfold firstBad
      rw [List.find?_eq_none]
      intro r hr
      have : rowD r ∈ rs.map rowD := by rw [← q2]; exact List.mem_map_of_mem hr
      obtain ⟨r', hr', e⟩ := List.mem_map.mp this
      have : r' = r := by
        have z := PyData.tuple.inj e
        refine List.map_inj_right (fun a b w => ?_) |>.mp z
        cases a <;> cases b <;> first | rfl | (simp [bi] at w)
      rw [← this]
      simp [q3 r' hr']
    rw [this]
    simp [optD]
theorem thm_bad (f : Fm) : thm f = (firstBad f).isNone := by
  unfold thm firstBad
  cases h : (rws f.ls).find? fun r => !f.val r with
  | none =>
    rw [List.find?_eq_none] at h
    simpa using h
  | some r =>
    have h1 := List.find?_some h
    have h2 := List.mem_of_find?_eq_some h
    simp only [Option.isNone_some]
    rw [List.all_eq_false]
    exact ⟨r, h2, by simpa using h1⟩
theorem e_theorem (g : Gs P) (hl : Has P clettersUin) (hr : Has P crowsUof) (hj : Has P cjoinedUvalue) (hv : Has P cvalueUof) (ha : Has P cagainst) (h : Has P cisUtheorem) {n : Nat} (f : Fm) (hf : f.in_ 4) (hn : f.ht + 4 ≤ n) (S : Store) :
    P.call n "is_theorem" [.p f.d] S = .ok (.p (.bool (thm f))) S := by
  obtain ⟨n, rfl, hm⟩ := pred (k := f.ht + 3) hn
  rw [show ("is_theorem" : Str) = cisUtheorem.name from rfl, h.call]
  have e1 := e_against g hl hr hj hv ha f hf hm S
  rw [thm_bad]
  cases q : firstBad f <;> simp [cisUtheorem, e1, q, optD, rowD, Pl.isNon]
/-! ### as the law makes them -/
theorem cmpOk_ints : ∀ ns : List Int, cmpOk (.list (ns.map .int)) = true := fun ns => by
  have h1 : PyData.plainAll (ns.map .int) = true := by
    induction ns with
    | nil => rfl
    | cons n ns ih => simp [PyData.plainAll, PyData.plain, ih]
  have h2 : PyData.depthAll (ns.map .int) = 0 := by
    induction ns with
    | nil => rfl
    | cons n ns ih =>
      have h3 : PyData.plainAll (ns.map .int) = true := by simpa [PyData.plainAll, PyData.plain] using h1
      simp [PyData.depthAll, PyData.depth, ih h3]
  simp [cmpOk, PyData.plain, PyData.depth, h1, h2]
theorem any_ints {ns : List Int} {i : Int} : (ns.map PyData.int).any (fun y => PyData.eqv y (.int i)) = ns.contains i := by
  induction ns with
  | nil => rfl
  | cons n ns ih =>
    rw [List.map_cons, List.any_cons, ih, List.contains_cons, eqv_int]
    congr 1
    by_cases h : n = i
    · simp [h]
    · simp [h, Ne.symm h]
theorem bit {x : Nat} : ((x : Int) % 2) = bi (x % 2 == 1) := by
  rcases Nat.mod_two_eq_zero_or_one x with h | h
  · rw [h]; simp [bi]; omega
  · rw [h]; simp [bi]; omega
theorem all16_at : ∀ m < 16, all16[m]? = some [m / 8 % 2 == 1, m / 4 % 2 == 1, m / 2 % 2 == 1, m % 2 == 1] := by decide
theorem bad_row {r : List Bool} (ls : List Int) : (List.filterMap (fun d => match d with | PyData.int k => if r.getD k.toNat false && !ls.contains k then some d else none | _ => none) (rangeD 0 4)) = [] ↔ okRow ls r = true := by
  rw [List.filterMap_eq_nil_iff, okRow, List.all_eq_true]
  constructor
  · intro h k hk
    have hk4 : k < 4 := List.mem_range.mp hk
    have := h (.int (k : Int)) (by
      unfold rangeD
      exact List.mem_map.mpr ⟨k, by simpa using hk, by simp⟩)
    cases q1 : r.getD k false <;> cases q2 : ls.contains (k : Int) <;> simp_all
  · intro h d hd
    obtain ⟨i, rfl, i0, i1⟩ := rangeD_mem hd
    have := h i.toNat (List.mem_range.mpr (by omega))
    rw [Int.toNat_of_nonneg i0] at this
    cases q1 : r.getD i.toNat false <;> cases q2 : ls.contains i <;> simp_all
theorem e_lrows (h : Has P cUlawUrows) {n : Nat} (hn : 1 ≤ n) (ls : List Int) (S : Store) : P.call n "_law_rows" [.p (intL ls)] S = .ok (.p (rowsD (rws ls))) S := by
  obtain ⟨n, rfl, hm⟩ := pred hn
  rw [show ("_law_rows" : Str) = cUlawUrows.name from rfl, h.call]
  simp [cUlawUrows, intL, rng0, show rngOk 16 = true from by decide]
  rw [sat_eq]
  simp only [sat_cut, sat_bind]
  refine for_satL (fun pre ρ S' => ∃ y2 y3, ρ = [some (.p (.list (ls.map .int))), some (.r S.length), y2, y3, none] ∧ S' = S ++ [.lst (((all16.take pre.length).filter (okRow ls)).map rowD)]) (all := rangeD 0 16) (pre := []) ?_ ?_ rfl ⟨_, _, rfl, rfl⟩
  · intro pre x post e ρ S' ⟨y2, y3, q1, q2⟩
    subst q1 q2
    have hlen : pre.length < 16 := by
      have := congrArg List.length e
      rw [rangeD_len] at this
      simp at this
      omega
    have hx : x = .int (pre.length : Int) := by
      have h1 : (rangeD 0 16)[pre.length]? = some x := by rw [e]; simp
      unfold rangeD at h1
      rw [List.getElem?_map, List.getElem?_range (by simpa using hlen)] at h1
      simpa using h1.symm
    subst hx
    have hpl : (pre ++ [PyData.int (pre.length : Int)]).length = pre.length + 1 := by simp
    simp only [hpl]
    generalize pre.length = m at hlen
    obtain ⟨r, hr, hr4, b0, b1, b2, b3⟩ : ∃ r, all16[m]? = some r ∧ r.length = 4 ∧ ((m : Int) / 8 % 2 = bi (r.getD 0 false)) ∧ ((m : Int) / 4 % 2 = bi (r.getD 1 false)) ∧ ((m : Int) / 2 % 2 = bi (r.getD 2 false)) ∧ ((m : Int) % 2 = bi (r.getD 3 false)) :=
      ⟨_, all16_at m hlen, rfl, bit (x := m / 8), bit (x := m / 4), bit (x := m / 2), bit (x := m)⟩
    have r4 : rngOk 4 = true := by decide
    simp [rng0, r4]
    rw [map_det (fun d => match d with | .int k => some (.int (bi (r.getD k.toNat false))) | _ => none) fun d hd => ?_]
    · have e1 : List.filterMap (fun d => match d with | PyData.int k => some (PyData.int (bi (r.getD k.toNat false))) | _ => none) (rangeD 0 4) = r.map rowI := by
        match r, hr4 with
        | [x0, x1, x2, x3], _ => rfl
      rw [e1]
      simp [hr4, rng0, r4]
      rw [map_det (fun d => match d with | .int k => if r.getD k.toNat false && !ls.contains k then some d else none | _ => none) fun d hd => ?_]
      · have e2 := bad_row (r := r) ls
        have e3 := List.length_filterMap_le (fun d => match d with | PyData.int k => if r.getD k.toNat false && !ls.contains k then some d else none | _ => none) (rangeD 0 4)
        rw [rangeD_len] at e3
        generalize List.filterMap (fun d => match d with | PyData.int k => if r.getD k.toNat false && !ls.contains k then some d else none | _ => none) (rangeD 0 4) = bad at e2 e3
        have e4 : bad.length ≤ 16777216 := Nat.le_trans e3 (by decide)
        have e5 : (all16.take (m + 1)).filter (okRow ls) = (all16.take m).filter (okRow ls) ++ if okRow ls r = true then [r] else [] := by
          rw [List.take_add_one, hr, List.filter_append]
          cases q : okRow ls r <;> simp [q]
        have e6 : ((all16.take m).filter (okRow ls)).length < sizeLine := by
          refine Nat.lt_of_le_of_lt (List.length_filter_le _ _) ?_
          rw [List.length_take, sizeLine_eq]
          omega
        by_cases hz : bad = []
        · have ok := e2.mp hz
          simp only [ok, if_true] at e5
          subst hz
          simp [e5, set_last, e6]
          rfl
        · have ok : ¬ okRow ls r = true := fun z => hz (e2.mpr z)
          simp only [ok, if_false, List.append_nil] at e5
          have e7 : ¬ bad.length = 0 := fun z => hz (List.length_eq_zero_iff.mp z)
          simp [e4, e5, e7, hz]
      · obtain ⟨i, rfl, i0, i1⟩ := rangeD_mem hd
        obtain ⟨k, rfl⟩ : ∃ k : Nat, i = k := ⟨i.toNat, (Int.toNat_of_nonneg i0).symm⟩
        have e2 := row_at (r := r) (i := k) (by omega)
        have e3 : atI (r.map rowI) (k : Int) = some (.int (bi (r.getD k false))) := e2
        have e4 : ls.any ((fun y => PyData.eqv y (PyData.int (k : Int))) ∘ PyData.int) = ls.contains (k : Int) := by rw [← any_ints, List.any_map]
        have e5 := cmpOk_ints ls
        simp only [qidxD_1, e3]
        by_cases hmem : (k : Int) ∈ ls <;> cases hx : r.getD k false <;> (have hx' := hx; rw [List.getD_eq_getElem?_getD] at hx'; simp [bi, e4, e5, hmem, hx'])
    · obtain ⟨i, rfl, i0, i1⟩ := rangeD_mem hd
      have : i = 0 ∨ i = 1 ∨ i = 2 ∨ i = 3 := by omega
      rcases this with rfl | rfl | rfl | rfl
      · simp [atI_0, b0]
      · simp [atI_1, b1]
      · simp [atI_2, b2]
      · simp [atI_3, b3]
  · intro ρ S' ⟨y2, y3, q1, q2⟩
    subst q1 q2
    rw [rangeD_len]
    have : all16.take (16 - 0 : Int).toNat = all16 := by decide
    rw [this]
    simp [rws, rowsD, set_last]
end
end Lw

set_option Elab.async false
set_option linter.all false
set_option autoImplicit false
set_option maxRecDepth 100000
set_option maxHeartbeats 0
/-! PL8: true for all rows; equal; parts. -/
namespace Lw
open PySem PySem.Spec Pl L2

theorem filterMap_len {α : Type} {g : α → Option D} {p : α → Bool} : ∀ {xs : List α}, (∀ x ∈ xs, (g x = none) ↔ p x = true) → (decide ((((xs.filterMap g).length : Nat) : Int) = 0)) = xs.all p
  | [], _ => rfl
  | x :: xs, h => by
    have ih := filterMap_len (g := g) (p := p) (xs := xs) fun y hy => h y (List.mem_cons_of_mem _ hy)
    have h1 := h x List.mem_cons_self
    rw [List.filterMap_cons, List.all_cons]
    cases q : g x with
    | none => rw [h1.mp q, Bool.true_and]; exact ih
    | some y =>
      have : p x = false := by
        cases z : p x with
        | false => rfl
        | true => rw [h1.mpr z] at q; cases q
      rw [this, Bool.false_and]
      simp
      omega
section
variable {P : Prog}
theorem e_ltrue (hl : Has P cUlawUletters) (hr : Has P cUlawUrows) (hv : Has P cUlawUvalue) (h : Has P cUlawUtrue) {n : Nat} (f : Fm) (hf : f.in_ 4) (hn : f.ht + 3 ≤ n) (S : Store) :
    P.call n "_law_true" [.p f.d] S = .ok (.p (.bool (thm f))) S := by
  obtain ⟨n, rfl, hm⟩ := pred (k := f.ht + 2) hn
  rw [show ("_law_true" : Str) = cUlawUtrue.name from rfl, h.call]
  have e1 := e_lletters hl f n hf (by omega) S
  have e2 := e_lrows hr (n := n) (by omega) f.ls S
  simp [cUlawUtrue, e1, e2, rowsD]
  rw [map_detM rowD (fun r => if f.val r = true then none else some (rowD r)) fun r hr => ?_]
  · have z := filterMap_len (g := fun r => if f.val r = true then none else some (rowD r)) (p := f.val) (xs := rws f.ls) fun r _ => by cases f.val r <;> simp
    have z2 : (List.filterMap (fun r => if f.val r = true then none else some (rowD r)) (rws f.ls)).length ≤ 16777216 :=
      Nat.le_trans (List.length_filterMap_le _ _) (Nat.le_trans (rws_few _) (by decide))
    simp [z2]
    simpa [thm] using z
  · have h4 := rws_len f.ls r hr
    have ev := e_lvalue hv h4 f n hf (by omega) S
    cases q : f.val r <;> simp [bindT, ev, q, bi]
def same4 (f g : Fm) : Bool := (rws [0, 1, 2, 3]).all fun r => f.val r == g.val r
theorem boolsOf_map : ∀ bs : List Bool, boolsOf (bs.map .bool) = some bs
  | [] => rfl
  | n :: ns => by rw [List.map_cons]; simp only [boolsOf, boolsOf_map ns]; rfl
theorem e_equal (g : Gs P) (hr : Has P crowsUof) (hj : Has P cjoinedUvalue) (hv : Has P cvalueUof) (h : Has P careUequal) {n : Nat} (f k : Fm) (hf : f.in_ 4) (hk : k.in_ 4) (hn : f.ht + 3 ≤ n) (hn2 : k.ht + 3 ≤ n) (S : Store) :
    P.call n "are_equal" [.p f.d, .p k.d] S = .ok (.p (.bool (same4 f k))) S := by
  obtain ⟨n, rfl, hm⟩ := pred (k := f.ht + 2) hn
  rw [show ("are_equal" : Str) = careUequal.name from rfl, h.call]
  have e2 := e_rows g hr (n := n) (by omega) (ls := [0, 1, 2, 3]) (by decide) S
  simp only [intL, List.map_cons, List.map_nil] at e2
  simp [careUequal, e2, rowsD]
  rw [map_detM rowD (fun r => some (.bool (f.val r == k.val r))) fun r hr => ?_]
  · have z := boolsOf_map ((rws [0, 1, 2, 3]).map fun r => f.val r == k.val r)
    have z3 : (rws [0, 1, 2, 3]).filterMap (fun r => some (PyData.bool (f.val r == k.val r))) = ((rws [0, 1, 2, 3]).map fun r => f.val r == k.val r).map .bool := by
      rw [List.map_map]
      exact congrFun (List.filterMap_eq_map (f := fun r => PyData.bool (f.val r == k.val r))) (rws [0, 1, 2, 3])
    have z2 : (rws [0, 1, 2, 3]).length ≤ 16777216 := Nat.le_trans (rws_few _) (by decide)
    rw [z3]
    simp only [noX_ok, bind_ok, List.length_map, z2, if_true]
    simp only [qrdAll_2, qrdAll_1, rd_p, bind_ok, qbiD_13, z]
    simp [same4]
  · have h4 := rws_len _ r hr
    have ev := e_value hj hv h4 f n hf (by omega) S
    have ew := e_value hj hv h4 k n hk (by omega) S
    cases q : f.val r <;> cases q2 : k.val r <;> simp [bindT, ev, ew, q, q2, bi]
end
end Lw

set_option Elab.async false
set_option linter.all false
set_option autoImplicit false
set_option maxRecDepth 100000
set_option maxHeartbeats 0
/-! PL9: the parts of a formula. -/
namespace Lw
open PySem PySem.Spec Pl L2

/-- a while loop by a measure -/
theorem whl_sat {c : Rho → Store → Res Bool} {b : Rho → Store → Res Fl} {Q : Fl → Store → Prop} (R : Nat → Rho → Store → Prop)
    (h : ∀ k ρ S, R k ρ S → sat (c ρ S) fun v S1 => if v = true then sat (b ρ S1) (fun f S2 => match f with
      | .nx ρ' => ∃ k', k' < k ∧ R k' ρ' S2
      | .ct ρ' => ∃ k', k' < k ∧ R k' ρ' S2
      | .bk ρ' => Q (.nx ρ') S2
      | .rt v => Q (.rt v) S2) else Q (.nx ρ) S1) : ∀ (n k : Nat) (ρ : Rho) (S : Store), k < n → R k ρ S → sat (whlR c b n ρ S) Q
  | 0, k, ρ, S, hk, _ => absurd hk (Nat.not_lt_zero k)
  | n + 1, k, ρ, S, hk, h0 => by
    simp only [whlR, sat_bind]
    refine sat_mono (h k ρ S h0) fun v S1 h1 => ?_
    cases v with
    | false => simpa using h1
    | true =>
      simp only [if_true, sat_bind] at h1 ⊢
      refine sat_mono h1 fun f S2 h2 => ?_
      cases f with
      | nx ρ1 => obtain ⟨k', hk', h2⟩ := h2; exact whl_sat R h n k' ρ1 S2 (by omega) h2
      | ct ρ1 => obtain ⟨k', hk', h2⟩ := h2; exact whl_sat R h n k' ρ1 S2 (by omega) h2
      | bk ρ1 => exact h2
      | rt v => exact h2

/-! ### first occurrences -/
def firsts : List Fm → List Fm
  | [] => []
  | x :: l => x :: (firsts l).filter (fun y => decide (y ≠ x))
theorem mem_firsts {y : Fm} : ∀ {l : List Fm}, y ∈ firsts l ↔ y ∈ l
  | [] => Iff.rfl
  | x :: l => by
    rw [firsts, List.mem_cons, List.mem_cons, List.mem_filter, mem_firsts (l := l)]
    by_cases h : y = x <;> simp [h]
theorem nodup_firsts : ∀ l : List Fm, (firsts l).Nodup
  | [] => List.nodup_nil
  | x :: l => by
    rw [firsts, List.nodup_cons]
    exact ⟨by simp, (nodup_firsts l).filter _⟩
theorem firsts_append : ∀ a b : List Fm, firsts (a ++ b) = firsts a ++ (firsts b).filter (fun y => decide (y ∉ a))
  | [], b => by
    show firsts b = [] ++ (firsts b).filter _
    rw [List.nil_append, List.filter_eq_self.mpr fun y _ => by simp]
  | x :: a, b => by
    rw [List.cons_append, firsts, firsts_append a b, List.filter_append, firsts, List.cons_append, List.filter_filter]
    congr 2
    refine List.filter_congr fun y _ => ?_
    by_cases h : y = x <;> simp [h]
theorem firsts_id : ∀ {l : List Fm}, l.Nodup → firsts l = l
  | [], _ => rfl
  | x :: l, h => by
    rw [List.nodup_cons] at h
    rw [firsts, firsts_id h.2, List.filter_eq_self.mpr fun y hy => by
      rw [decide_eq_true_eq]
      exact fun e => h.1 (e ▸ hy)]
theorem firsts_two (a b c : List Fm) : firsts (firsts a ++ firsts b ++ c) = firsts (a ++ b ++ c) := by
  rw [firsts_append, firsts_append, firsts_append (a ++ b), firsts_append a, firsts_id (nodup_firsts a), firsts_id (nodup_firsts b)]
  congr 1
  · congr 1
    exact List.filter_congr fun y _ => by simp [mem_firsts]
  · exact List.filter_congr fun y _ => by simp [mem_firsts]
def ld (acc : List Fm) (x : Fm) : List Fm := if x ∈ acc then acc else acc ++ [x]
theorem fold_ld : ∀ (l acc : List Fm), l.foldl ld acc = acc ++ (firsts l).filter (fun y => decide (y ∉ acc))
  | [], acc => by simp [firsts]
  | x :: l, acc => by
    rw [List.foldl_cons, fold_ld l, firsts, ld]
    by_cases h : x ∈ acc
    · rw [if_pos h, List.filter_cons_of_neg (by simpa using h), List.filter_filter]
      congr 1
      refine List.filter_congr fun y _ => ?_
      by_cases e : y = x
      · subst e; simp [h]
      · simp [e]
    · rw [if_neg h, List.filter_cons_of_pos (by simpa using h), List.append_assoc, List.filter_filter, List.singleton_append]
      congr 2
      refine List.filter_congr fun y _ => ?_
      by_cases e : y = x <;> simp [e]
def kl (acc : List Fm) (x : Fm) : List Fm := acc.erase x ++ [x]
theorem fold_kl : ∀ l : List Fm, (l.reverse.foldl kl []).reverse = firsts l
  | [] => rfl
  | x :: l => by
    have ih := fold_kl l
    rw [List.reverse_cons, List.foldl_append, List.foldl_cons, List.foldl_nil, kl, List.reverse_append, firsts, ← ih]
    have nd : (l.reverse.foldl kl []).Nodup := by
      have z := nodup_firsts l
      rw [← ih] at z
      exact (List.pairwise_reverse.mp z).imp fun q => Ne.symm q
    rw [nd.erase_eq_filter, ← List.filter_reverse]
    simp only [List.reverse_cons, List.reverse_nil, List.nil_append, List.singleton_append, List.cons.injEq, true_and]
    exact List.filter_congr fun y _ => by by_cases e : y = x <;> simp [e]
def Fm.post : Fm → List Fm
  | .lt i => [.lt i]
  | .ff => [.ff]
  | .bi q a b => a.post ++ b.post ++ [.bi q a b]
def Fm.pre : Fm → List Fm
  | .lt i => [.lt i]
  | .ff => [.ff]
  | .bi q a b => .bi q a b :: (b.pre ++ a.pre)
theorem pre_post : ∀ f : Fm, f.post.reverse = f.pre
  | .lt i => rfl
  | .ff => rfl
  | .bi q a b => by
    rw [Fm.post, Fm.pre, List.reverse_append, List.reverse_append, pre_post a, pre_post b]
    rfl
def Fm.parts (f : Fm) : List Fm := firsts f.post
theorem post_len : ∀ f : Fm, f.post.length + 1 ≤ 2 ^ (f.ht + 1)
  | .lt i => by simp [Fm.post, Fm.ht]
  | .ff => by simp [Fm.post, Fm.ht]
  | .bi q a b => by
    have h1 := post_len a
    have h2 := post_len b
    have h3 : 2 ^ (a.ht + 1) ≤ 2 ^ (max a.ht b.ht + 1) := Nat.pow_le_pow_right (by decide) (by omega)
    have h4 : 2 ^ (b.ht + 1) ≤ 2 ^ (max a.ht b.ht + 1) := Nat.pow_le_pow_right (by decide) (by omega)
    simp only [Fm.post, Fm.ht, List.length_append, List.length_singleton]
    rw [Nat.pow_succ]
    omega
/-! ### data of formulas -/
theorem con_inj {a b : Con} : a.s = b.s ↔ a = b := by
  cases a <;> cases b <;> simp [Con.s, ofStr_inj]
theorem eqv_tup {xs ys : List D} : PyData.eqv (.tuple xs) (.tuple ys) = PyData.eqvAll xs ys := by rw [PyData.eqv]
theorem eqvA_nn : PyData.eqvAll [] [] = true := by rw [PyData.eqvAll]
theorem eqvA_nc {x : D} {xs : List D} : PyData.eqvAll [] (x :: xs) = false := by rw [PyData.eqvAll]
theorem eqvA_cn {x : D} {xs : List D} : PyData.eqvAll (x :: xs) [] = false := by rw [PyData.eqvAll]
theorem eqvA_cc {x y : D} {xs ys : List D} : PyData.eqvAll (x :: xs) (y :: ys) = (PyData.eqv x y && PyData.eqvAll xs ys) := by rw [PyData.eqvAll]
theorem con_ne1 {q : Con} : ¬ (Str.ofString "letter" = q.s) := by cases q <;> simp [Con.s, ofStr_inj]
theorem con_ne2 {q : Con} : ¬ (Str.ofString "false" = q.s) := by cases q <;> simp [Con.s, ofStr_inj]
theorem eqv_fm (a : Fm) : ∀ b : Fm, PyData.eqv a.d b.d = decide (a = b) := by
  induction a with
  | lt i => intro b; cases b <;> simp [Fm.d, eqv_tup, eqvA_nn, eqvA_nc, eqvA_cn, eqvA_cc, con_ne1, ofStr_inj] <;> try omega
  | ff => intro b; cases b <;> simp [Fm.d, eqv_tup, eqvA_nn, eqvA_nc, eqvA_cn, eqvA_cc, con_ne2, ofStr_inj]
  | bi q a b h1 h2 =>
    intro c
    cases c with
    | lt i => simp [Fm.d, eqv_tup, eqvA_nn, eqvA_nc, eqvA_cn, eqvA_cc, con_ne1, Ne.symm con_ne1, ofStr_inj]
    | ff => simp [Fm.d, eqv_tup, eqvA_nn, eqvA_nc, eqvA_cn, eqvA_cc, con_ne2, ofStr_inj]
    | bi p c e =>
      have z1 := h1 c
      have z2 := h2 e
      by_cases x1 : q = p <;> by_cases x2 : a = c <;> by_cases x3 : b = e <;> simp [x1, x2, x3] at z1 z2 <;> simp [Fm.d, eqv_tup, eqvA_nn, eqvA_cc, z1, z2, con_inj, x1, x2, x3]
theorem plain_fm : ∀ f : Fm, f.d.plain = true
  | .lt i => rfl
  | .ff => rfl
  | .bi q a b => by simp [Fm.d, PyData.plain, PyData.plainAll, plain_fm a, plain_fm b]
theorem depth_fm : ∀ f : Fm, f.d.depth = f.ht + 1
  | .lt i => rfl
  | .ff => rfl
  | .bi q a b => by simp [Fm.d, PyData.depth, PyData.depthAll, depth_fm a, depth_fm b, Fm.ht] <;> omega
theorem ok_fm {f : Fm} (h : f.ht ≤ 100) : cmpOk f.d = true := by
  simp [cmpOk, plain_fm, depth_fm]
  omega
theorem ok_fms : ∀ {fs : List Fm}, (∀ f ∈ fs, f.ht ≤ 100) → cmpOk (.list (fs.map Fm.d)) = true := fun {fs} h => by
  have h1 : PyData.plainAll (fs.map Fm.d) = true := by
    clear h
    induction fs with
    | nil => rfl
    | cons f fs ih => simp [PyData.plainAll, plain_fm, ih]
  have h2 : PyData.depthAll (fs.map Fm.d) ≤ 101 := by
    clear h1
    induction fs with
    | nil => simp [PyData.depthAll]
    | cons f fs ih =>
      have := ih fun g hg => h g (List.mem_cons_of_mem _ hg)
      have := h f List.mem_cons_self
      simp [PyData.depthAll, depth_fm]; omega
  simp [cmpOk, PyData.plain, PyData.depth, h1]
  omega
theorem any_fm {fs : List Fm} {f : Fm} : (fs.map Fm.d).any (fun y => PyData.eqv y f.d) = decide (f ∈ fs) := by
  induction fs with
  | nil => rfl
  | cons g fs ih =>
    rw [List.map_cons, List.any_cons, ih, eqv_fm]
    by_cases h : g = f
    · simp [h]
    · simp [h, Ne.symm h]
theorem place_fm {f : Fm} : ∀ {fs : List Fm}, f ∈ fs → ∃ j, PySem.SeqAt.dataPlace (fs.map Fm.d) f.d = some j ∧ (fs.map Fm.d).eraseIdx j = (fs.erase f).map Fm.d
  | g :: fs, h => by
    unfold PySem.SeqAt.dataPlace
    rw [List.map_cons, List.findIdx?_cons, eqv_fm]
    by_cases e : g = f
    · subst e
      exact ⟨0, by simp, by simp⟩
    · obtain ⟨j, e1, e2⟩ := place_fm (fs := fs) ((List.mem_cons.mp h).resolve_left (Ne.symm e))
      unfold PySem.SeqAt.dataPlace at e1
      refine ⟨j + 1, by simp [e, e1], ?_⟩
      rw [List.eraseIdx_cons_succ, e2, List.erase_cons_tail (by simpa using e), List.map_cons]
theorem get_a {S : Store} {a b : Cell} : (S ++ [a, b])[S.length]? = some a := by simp
theorem get_b {S : Store} {a b : Cell} : (S ++ [a, b])[S.length + 1]? = some b := by simp
theorem set_a {S : Store} {a b c : Cell} : (S ++ [a, b]).set S.length c = S ++ [c, b] := by
  rw [List.set_append_right _ _ (Nat.le_refl _), Nat.sub_self]
  rfl
theorem set_b {S : Store} {a b c : Cell} : (S ++ [a, b]).set (S.length + 1) c = S ++ [a, c] := by
  rw [List.set_append_right _ _ (Nat.le_succ _)]
  show S ++ [a, b].set (S.length + 1 - S.length) c = _
  rw [Nat.add_sub_cancel_left]
  rfl
theorem rd_a {S : Store} {xs : List D} {b : Cell} : rd (S ++ [.lst xs, b]) (.r S.length) = some (.list xs) := by simp [rd]
theorem rd_b {S : Store} {xs : List D} {b : Cell} : rd (S ++ [b, .lst xs]) (.r (S.length + 1)) = some (.list xs) := by simp [rd]
def Fm.hd : Fm → Str
  | .lt _ => "letter"
  | .ff => "false"
  | .bi q _ _ => q.s
theorem idx0 (f : Fm) : idxD f.d (.int 0) = some (.str f.hd) := by cases f <;> simp [Fm.d, Fm.hd, atI_0]
theorem idx1 (q : Con) (a b : Fm) : idxD (Fm.bi q a b).d (.int 1) = some a.d := by simp [Fm.d, atI_1]
theorem idx2 (q : Con) (a b : Fm) : idxD (Fm.bi q a b).d (.int 2) = some b.d := by simp [Fm.d, atI_2]
def Fm.isBi : Fm → Bool
  | .bi _ _ _ => true
  | _ => false
theorem in_pairs (f : Fm) : cmpD .in_ (.str f.hd) (.tuple [.str "if", .str "and", .str "or"]) = some f.isBi := by
  match f with
  | .lt _ => simp [Fm.hd, Fm.isBi, ok3, ofStr_inj]
  | .ff => simp [Fm.hd, Fm.isBi, ok3, ofStr_inj]
  | .bi q _ _ => cases q <;> simp [Fm.hd, Con.s, Fm.isBi, ok3, ofStr_inj]
theorem in_fms {f : Fm} {fs : List Fm} (h1 : f.ht ≤ 100) (h2 : ∀ f ∈ fs, f.ht ≤ 100) : cmpD .in_ f.d (.list (fs.map Fm.d)) = some (decide (f ∈ fs)) := by
  simp only [qcmpD_9, ok_fm h1, ok_fms h2, any_fm, Bool.and_self, if_true]
def PartsR (f : Fm) (S : Store) (k : Nat) (ρ : Rho) (S' : Store) : Prop := ∃ (st found : List Fm) (y : Option Vl), k = (st.flatMap Fm.pre).length ∧ (st.flatMap Fm.pre).foldl kl found = f.pre.foldl kl [] ∧ found.length + k ≤ 2048 ∧ (∀ x ∈ st, x.ht ≤ 10) ∧ (∀ x ∈ found, x.ht ≤ 10) ∧
    ρ = [some (.p f.d), some (.r S.length), some (.r (S.length + 1)), y] ∧ S' = S ++ [.lst (found.map Fm.d), .lst (st.reverse.map Fm.d)]
/-- what is on top is looked at -/
theorem parts_step {f x : Fm} {S : Store} {k : Nat} {st found st' : List Fm} {y : Option Vl} (q1 : k = ((x :: st).flatMap Fm.pre).length) (q2 : ((x :: st).flatMap Fm.pre).foldl kl found = f.pre.foldl kl []) (q3 : found.length + k ≤ 2048) (q4 : ∀ z ∈ x :: st, z.ht ≤ 10) (q5 : ∀ z ∈ found, z.ht ≤ 10)
    (h : (x :: st).flatMap Fm.pre = x :: st'.flatMap Fm.pre) (h4 : ∀ z ∈ st', z.ht ≤ 10) {S' : Store} (hS : S' = S ++ [.lst ((kl found x).map Fm.d), .lst (st'.reverse.map Fm.d)]) : ∃ k', k' < k ∧ PartsR f S k' [some (.p f.d), some (.r S.length), some (.r (S.length + 1)), y] S' := by
  rw [h, List.length_cons] at q1
  rw [h, List.foldl_cons] at q2
  refine ⟨_, ?_, st', kl found x, y, rfl, q2, ?_, h4, fun z hz => ?_, rfl, hS⟩
  · omega
  · have := List.length_erase_le (a := x) (l := found)
    simp only [kl, List.length_append, List.length_singleton]
    omega
  · rcases List.mem_append.mp hz with hz | hz
    · exact q5 z (List.mem_of_mem_erase hz)
    · rw [List.mem_singleton.mp hz]; exact q4 x List.mem_cons_self
section
variable {P : Prog}
theorem e_parts (g : Gs P) (h : Has P cparts) {n : Nat} (f : Fm) (hf : f.ht ≤ 10) (hn : 1 ≤ n) (S : Store) : P.call n "parts" [.p f.d] S = .ok (.p (.list (f.parts.map Fm.d))) S := by
  obtain ⟨n, rfl, hm⟩ := pred hn
  rw [show ("parts" : Str) = cparts.name from rfl, h.call]
  simp [cparts]
  rw [sat_eq]
  simp only [sat_cut, sat_bind]
  have hlen := post_len f
  have h11 : 2 ^ (f.ht + 1) ≤ 2048 := Nat.le_trans (Nat.pow_le_pow_right (by decide) (show f.ht + 1 ≤ 11 by omega)) (by decide)
  refine whl_sat (PartsR f S) ?_ whileFuel f.pre.length _ _ ?_ ⟨[f], [], none, by simp, by simp, ?_, by simpa using hf, by simp, rfl, by simp⟩
  · intro k ρ S' ⟨st, found, y, q1, q2, q3, q4, q5, q6, q7⟩
    subst q6 q7
    cases st with
    | nil =>
      simp [rd_b]
      have e : found = f.pre.foldl kl [] := by simpa using q2
      rw [← pre_post] at e
      have e2 := fold_kl f.post
      rw [← e] at e2
      simp [rd_a, ← List.map_reverse, e2, Fm.parts]
    | cons x st =>
      have hx := q4 x List.mem_cons_self
      have hfd : ∀ y ∈ found, y.ht ≤ 100 := fun y hy => by have := q5 y hy; omega
      have i1 := in_fms (f := x) (fs := found) (by omega) hfd
      have i2 := ok_fm (f := x) (by omega)
      have i3 := ok_fms hfd
      have z1 : found.length < sizeLine := by rw [sizeLine_eq]; omega
      have z2 : found.length - 1 < sizeLine := by omega
      have z3 : st.length ≤ 16777214 := by
        have : st.length ≤ (st.flatMap Fm.pre).length := by
          clear q1 q2 q3 q4
          induction st with
          | nil => simp
          | cons a st ih =>
            have : 1 ≤ a.pre.length := by cases a <;> simp [Fm.pre]
            simp only [List.flatMap_cons, List.length_append, List.length_cons]
            omega
        simp only [List.flatMap_cons, List.length_append] at q1
        omega
      simp only [List.reverse_cons, List.map_append, List.map_cons, List.map_nil]
      have hb := in_pairs x
      have klm : ∀ hmem : x ∈ found ∨ x ∉ found, (kl found x).map Fm.d = (found.erase x).map Fm.d ++ [x.d] := fun _ => by simp [kl]
      have hs : ∀ z ∈ st, z.ht ≤ 10 := fun z hz => q4 z (List.mem_cons_of_mem _ hz)
      by_cases hmem : x ∈ found
      · obtain ⟨j, j1, j2⟩ := place_fm hmem
        match x, hb with
        | .lt i, hb =>
          simp [rd_b, get_a, get_b, set_a, set_b, rd_a, i1, i2, i3, idx0, g.pairs, hb, hmem, j1, j2, z2, -qcmpD_9, Fm.isBi]
          exact parts_step q1 q2 q3 q4 q5 rfl hs (by rw [klm (.inl hmem)] <;> simp)
        | .ff, hb =>
          simp [rd_b, get_a, get_b, set_a, set_b, rd_a, i1, i2, i3, idx0, g.pairs, hb, hmem, j1, j2, z2, -qcmpD_9, Fm.isBi]
          exact parts_step q1 q2 q3 q4 q5 rfl hs (by rw [klm (.inl hmem)] <;> simp)
        | .bi q a b, hb =>
          simp [rd_b, get_a, get_b, set_a, set_b, rd_a, i1, i2, i3, idx0, idx1, idx2, g.pairs, hb, hmem, j1, j2, z2, z3, -qcmpD_9, Fm.isBi]
          exact parts_step (st' := b :: a :: st) q1 q2 q3 q4 q5 (by simp [Fm.pre]) (fun z hz => by
            simp only [Fm.ht] at hx
            rcases List.mem_cons.mp hz with rfl | hz
            · omega
            rcases List.mem_cons.mp hz with rfl | hz
            · omega
            · exact hs z hz) (by rw [klm (.inl hmem)] <;> simp)
      · have er : found.erase x = found := List.erase_of_not_mem hmem
        match x, hb with
        | .lt i, hb =>
          simp [rd_b, get_a, get_b, set_a, set_b, rd_a, i1, i2, i3, idx0, g.pairs, hb, hmem, z1, -qcmpD_9, Fm.isBi]
          exact parts_step q1 q2 q3 q4 q5 rfl hs (by rw [klm (.inr hmem), er] <;> simp)
        | .ff, hb =>
          simp [rd_b, get_a, get_b, set_a, set_b, rd_a, i1, i2, i3, idx0, g.pairs, hb, hmem, z1, -qcmpD_9, Fm.isBi]
          exact parts_step q1 q2 q3 q4 q5 rfl hs (by rw [klm (.inr hmem), er] <;> simp)
        | .bi q a b, hb =>
          simp [rd_b, get_a, get_b, set_a, set_b, rd_a, i1, i2, i3, idx0, idx1, idx2, g.pairs, hb, hmem, z1, z3, -qcmpD_9, Fm.isBi]
          exact parts_step (st' := b :: a :: st) q1 q2 q3 q4 q5 (by simp [Fm.pre]) (fun z hz => by
            simp only [Fm.ht] at hx
            rcases List.mem_cons.mp hz with rfl | hz
            · omega
            rcases List.mem_cons.mp hz with rfl | hz
            · omega
            · exact hs z hz) (by rw [klm (.inr hmem), er] <;> simp)
  · rw [← pre_post, List.length_reverse]
    unfold whileFuel
    omega
  · rw [← pre_post, List.length_reverse]
    simp
    omega
end
end Lw

set_option Elab.async false
set_option linter.all false
set_option autoImplicit false
set_option maxRecDepth 100000
set_option maxHeartbeats 0
/-! PLA: the parts as the law makes them; the pool; things that are bent. -/
namespace Lw
open PySem PySem.Spec Pl L2

theorem nin_fms {f : Fm} {fs : List Fm} (h1 : f.ht ≤ 100) (h2 : ∀ f ∈ fs, f.ht ≤ 100) : cmpD .nin f.d (.list (fs.map Fm.d)) = some (!decide (f ∈ fs)) := by
  simp only [qcmpD_12, ok_fm h1, ok_fms h2, any_fm, Bool.and_self, if_true]
theorem firsts_le : ∀ l : List Fm, (firsts l).length ≤ l.length
  | [] => Nat.le_refl _
  | x :: l => by
    rw [firsts, List.length_cons, List.length_cons]
    exact Nat.succ_le_succ (Nat.le_trans (List.length_filter_le _ _) (firsts_le l))
theorem parts_small {f : Fm} (h : f.ht ≤ 10) : f.parts.length ≤ 2048 := by
  have h1 := post_len f
  have h2 := firsts_le f.post
  have h3 : 2 ^ (f.ht + 1) ≤ 2048 := Nat.le_trans (Nat.pow_le_pow_right (by decide) (show f.ht + 1 ≤ 11 by omega)) (by decide)
  unfold Fm.parts
  omega
theorem post_ht {f g : Fm} (h : g ∈ f.post) : g.ht ≤ f.ht := by
  induction f with
  | lt i => rw [Fm.post, List.mem_singleton] at h; subst h; exact Nat.le_refl _
  | ff => rw [Fm.post, List.mem_singleton] at h; subst h; exact Nat.le_refl _
  | bi q a b ha hb =>
    simp only [Fm.post, List.mem_append, List.mem_singleton] at h
    rcases h with (h | h) | h
    · have := ha h; simp only [Fm.ht]; omega
    · have := hb h; simp only [Fm.ht]; omega
    · subst h; exact Nat.le_refl _
theorem d_inj {a b : Fm} (h : a.d = b.d) : a = b := by
  have h1 := eqv_fm a b
  rw [h, eqv_fm b b] at h1
  simpa using h1.symm
theorem map_d_inj {a b : List Fm} (h : a.map Fm.d = b.map Fm.d) : a = b := (List.map_inj_right fun _ _ e => d_inj e).mp h
theorem ld_len : ∀ (l acc : List Fm), (l.foldl ld acc).length ≤ acc.length + l.length
  | [], acc => by simp
  | x :: l, acc => by
    have := ld_len l (ld acc x)
    have : (ld acc x).length ≤ acc.length + 1 := by unfold ld; split <;> simp
    rw [List.foldl_cons, List.length_cons]
    omega
theorem ld_mem {g : Fm} : ∀ {l acc : List Fm}, g ∈ l.foldl ld acc → g ∈ acc ∨ g ∈ l := fun {l acc} h => by
  rw [fold_ld, List.mem_append, List.mem_filter, mem_firsts] at h
  rcases h with h | h
  · exact .inl h
  · exact .inr h.1
theorem ld_in {acc : List Fm} {x : Fm} (h : x ∈ acc) : ld acc x = acc := if_pos h
theorem ld_out {acc : List Fm} {x : Fm} (h : x ∉ acc) : ld acc x = acc ++ [x] := if_neg h
theorem get_l {S : Store} {a : Cell} : (S ++ [a])[S.length]? = some a := by simp
section
variable {P : Prog}
theorem e_lparts (h : Has P cUlawUparts) : ∀ (f : Fm) (n : Nat), f.ht ≤ 10 → f.ht + 1 ≤ n → ∀ S, P.call n "_law_parts" [.p f.d] S = .ok (.p (.list (f.parts.map Fm.d))) S
  | .lt i, n, hf, hn, S => by
    obtain ⟨n, rfl, hm⟩ := pred hn
    rw [show ("_law_parts" : Str) = cUlawUparts.name from rfl, h.call]
    simp [cUlawUparts, Fm.d, Fm.parts, Fm.post, firsts]
  | .ff, n, hf, hn, S => by
    obtain ⟨n, rfl, hm⟩ := pred hn
    rw [show ("_law_parts" : Str) = cUlawUparts.name from rfl, h.call]
    simp [cUlawUparts, Fm.d, Fm.parts, Fm.post, firsts]
  | .bi q a b, n, hf, hn, S => by
    obtain ⟨n, rfl, hm⟩ := pred hn
    rw [show ("_law_parts" : Str) = cUlawUparts.name from rfl, h.call]
    have ha2 : a.ht ≤ 10 := by simp only [Fm.ht] at hf; omega
    have hb2 : b.ht ≤ 10 := by simp only [Fm.ht] at hf; omega
    have ha := e_lparts h a n ha2 (by simp only [Fm.ht] at hm; omega)
    have hb := e_lparts h b n hb2 (by simp only [Fm.ht] at hm; omega)
    have la := parts_small ha2
    have lb := parts_small hb2
    have z1 : a.parts.length + b.parts.length ≤ 16777216 := by omega
    have z2 : a.parts.length + b.parts.length + 1 ≤ 16777216 := by omega
    have z3 : a.parts.length + b.parts.length ≤ 16777215 := by omega
    have hl : biD .len [(Fm.bi q a b).d] = some (.int 3) := by simp [Fm.d]
    simp [cUlawUparts, hl, idx1, idx2, ha, hb, z1, z2, z3, -qbiD_2]
    rw [sat_eq]
    simp only [sat_cut, sat_bind]
    have ht : ∀ g ∈ a.parts ++ b.parts ++ [Fm.bi q a b], g.ht ≤ 10 := fun g hg => by
      rcases List.mem_append.mp hg with hg | hg
      · rcases List.mem_append.mp hg with hg | hg
        · have := post_ht (mem_firsts.mp hg); omega
        · have := post_ht (mem_firsts.mp hg); omega
      · rw [List.mem_singleton.mp hg]; exact hf
    refine for_satL (fun pre ρ S' => ∃ y l, pre = (l : List Fm).map Fm.d ∧ S' = S ++ [.lst ((l.foldl ld []).map Fm.d)] ∧ ρ = [some (.p (Fm.bi q a b).d), some (.r S.length), y]) (all := (a.parts ++ b.parts ++ [Fm.bi q a b]).map Fm.d) (pre := []) ?_ ?_ (by simp) ⟨none, [], rfl, rfl, rfl⟩
    · intro pre x post e ρ S' ⟨y, l, q1, q2, q3⟩
      subst q1 q2 q3
      obtain ⟨l1, l2, e6, e7, e8⟩ := List.map_eq_append_iff.mp e
      obtain ⟨g, l3, rfl, rfl, rfl⟩ := List.map_eq_cons_iff.mp e8
      have e9 := map_d_inj e7
      subst e9
      have hg : g.ht ≤ 10 := ht g (by rw [e6]; simp)
      have h1 : ∀ x ∈ l1.foldl ld [], x.ht ≤ 100 := fun x hx => by
        rcases ld_mem hx with hx | hx
        · cases hx
        · have := ht x (by rw [e6]; simp [hx]); omega
      have h2 := nin_fms (f := g) (fs := l1.foldl ld []) (by omega) h1
      have h3 : (l1.foldl ld []).length < sizeLine := by
        have := ld_len l1 []
        have := congrArg List.length e6
        simp at this
        rw [sizeLine_eq]
        simp at *
        omega
      have h4 : (l1 ++ [g]).foldl ld [] = ld (l1.foldl ld []) g := by rw [List.foldl_append]; rfl
      simp only [bindT]
      by_cases hmem : g ∈ l1.foldl ld []
      · have h5 : ld (l1.foldl ld []) g = l1.foldl ld [] := ld_in hmem
        simp [rd, h2, hmem, -qcmpD_12]
        exact ⟨_, l1 ++ [g], by simp, by rw [h4, h5], rfl⟩
      · have h5 : ld (l1.foldl ld []) g = l1.foldl ld [] ++ [g] := ld_out hmem
        simp [rd, h2, hmem, h3, set_last, -qcmpD_12]
        exact ⟨_, l1 ++ [g], by simp, by rw [h4, h5]; simp, rfl⟩
    · intro ρ S' ⟨y, l, q1, q2, q3⟩
      subst q2 q3
      have e9 := map_d_inj q1
      subst e9
      have e10 : (a.parts ++ b.parts ++ [Fm.bi q a b]).foldl ld [] = (Fm.bi q a b).parts := by
        rw [fold_ld]
        have e11 := firsts_two a.post b.post [Fm.bi q a b]
        show [] ++ (firsts (firsts a.post ++ firsts b.post ++ [Fm.bi q a b])).filter _ = firsts (a.post ++ b.post ++ [Fm.bi q a b])
        rw [e11, List.nil_append, List.filter_eq_self.mpr fun _ _ => by simp]
      rw [e10]
      simp [set_last]
end
end Lw

set_option Elab.async false
set_option linter.all false
set_option autoImplicit false
set_option maxRecDepth 100000
set_option maxHeartbeats 0
/-! PLB: the pool is made; values are bent. -/
namespace Lw
open PySem PySem.Spec Pl L2

/-- data of bounded depth and width, no dict in it -/
def ncB : Nat → D → Bool
  | _, .none => true
  | _, .bool _ => true
  | _, .int _ => true
  | _, .str x => decide (x.length ≤ 4000)
  | 0, .list _ => false
  | 0, .tuple _ => false
  | k + 1, .list ds => decide (ds.length ≤ 4000) && ds.all (ncB k)
  | k + 1, .tuple ds => decide (ds.length ≤ 4000) && ds.all (ncB k)
  | _, .dict _ => false
def Nc (k : Nat) (d : D) : Prop := ncB k d = true
theorem Nc.non {k : Nat} : Nc k .none := by cases k <;> rfl
theorem Nc.bool {k : Nat} {b : Bool} : Nc k (.bool b) := by cases k <;> rfl
theorem Nc.int {k : Nat} {b : Int} : Nc k (.int b) := by cases k <;> rfl
theorem Nc.str {k : Nat} {x : Str} (h : x.length ≤ 4000) : Nc k (.str x) := by cases k <;> exact decide_eq_true h
theorem Nc.tup {k : Nat} {ds : List D} (h : ds.length ≤ 4000) (h2 : ∀ d ∈ ds, Nc k d) : Nc (k + 1) (.tuple ds) := by
  show (decide (ds.length ≤ 4000) && ds.all (ncB k)) = true
  rw [Bool.and_eq_true, List.all_eq_true]
  exact ⟨decide_eq_true h, h2⟩
theorem Nc.lst {k : Nat} {ds : List D} (h : ds.length ≤ 4000) (h2 : ∀ d ∈ ds, Nc k d) : Nc (k + 1) (.list ds) := by
  show (decide (ds.length ≤ 4000) && ds.all (ncB k)) = true
  rw [Bool.and_eq_true, List.all_eq_true]
  exact ⟨decide_eq_true h, h2⟩
theorem Nc.of_tup {k : Nat} {ds : List D} (h : Nc k (.tuple ds)) : ∃ j, k = j + 1 ∧ ds.length ≤ 4000 ∧ ∀ d ∈ ds, Nc j d := by
  cases k with
  | zero => exact absurd h (by simp [Nc, ncB])
  | succ k =>
    have h : (decide (ds.length ≤ 4000) && ds.all (ncB k)) = true := h
    rw [Bool.and_eq_true, List.all_eq_true] at h
    exact ⟨k, rfl, of_decide_eq_true h.1, h.2⟩
theorem Nc.of_lst {k : Nat} {ds : List D} (h : Nc k (.list ds)) : ∃ j, k = j + 1 ∧ ds.length ≤ 4000 ∧ ∀ d ∈ ds, Nc j d := by
  cases k with
  | zero => exact absurd h (by simp [Nc, ncB])
  | succ k =>
    have h : (decide (ds.length ≤ 4000) && ds.all (ncB k)) = true := h
    rw [Bool.and_eq_true, List.all_eq_true] at h
    exact ⟨k, rfl, of_decide_eq_true h.1, h.2⟩
theorem Nc.of_str {k : Nat} {x : Str} (h : Nc k (.str x)) : x.length ≤ 4000 := by cases k <;> exact of_decide_eq_true h
theorem Nc.mono : ∀ {k l : Nat} {d : D}, k ≤ l → Nc k d → Nc l d
  | _, _, .none, _, _ => .non
  | _, _, .bool _, _, _ => .bool
  | _, _, .int _, _, _ => .int
  | _, _, .str _, _, h => .str h.of_str
  | k, l, .list ds, hl, h => by
    obtain ⟨j, rfl, h1, h2⟩ := h.of_lst
    obtain ⟨l', rfl, hl'⟩ := pred hl
    exact .lst h1 fun d hd => Nc.mono hl' (h2 d hd)
  | k, l, .tuple ds, hl, h => by
    obtain ⟨j, rfl, h1, h2⟩ := h.of_tup
    obtain ⟨l', rfl, hl'⟩ := pred hl
    exact .tup h1 fun d hd => Nc.mono hl' (h2 d hd)
  | k, _, .dict _, _, h => absurd h (by cases k <;> simp [Nc, ncB])
mutual
theorem nc_plain : ∀ (d : D) (k : Nat), Nc k d → d.plain = true ∧ d.depth ≤ k
  | .none, _, _ => ⟨rfl, by simp [PyData.depth]⟩
  | .bool _, _, _ => ⟨rfl, by simp [PyData.depth]⟩
  | .int _, _, _ => ⟨rfl, by simp [PyData.depth]⟩
  | .str _, _, _ => ⟨rfl, by simp [PyData.depth]⟩
  | .list ds, k, h => by
    obtain ⟨j, rfl, h1, h2⟩ := h.of_lst
    obtain ⟨p, q⟩ := nc_plainA ds j h2
    exact ⟨by simpa [PyData.plain] using p, by simp [PyData.depth]; omega⟩
  | .tuple ds, k, h => by
    obtain ⟨j, rfl, h1, h2⟩ := h.of_tup
    obtain ⟨p, q⟩ := nc_plainA ds j h2
    exact ⟨by simpa [PyData.plain] using p, by simp [PyData.depth]; omega⟩
  | .dict _, k, h => absurd h (by cases k <;> simp [Nc, ncB])
theorem nc_plainA : ∀ (ds : List D) (k : Nat), (∀ d ∈ ds, Nc k d) → PyData.plainAll ds = true ∧ PyData.depthAll ds ≤ k
  | [], _, _ => ⟨rfl, by simp [PyData.depthAll]⟩
  | d :: ds, k, h => by
    obtain ⟨p, q⟩ := nc_plain d k (h d List.mem_cons_self)
    obtain ⟨p2, q2⟩ := nc_plainA ds k fun x hx => h x (List.mem_cons_of_mem _ hx)
    exact ⟨by simp [PyData.plainAll, p, p2], by simp [PyData.depthAll]; omega⟩
end
theorem Nc.ok {k : Nat} {d : D} (h : Nc k d) (hk : k ≤ 200) : cmpOk d = true := by
  obtain ⟨p, q⟩ := nc_plain d k h
  simp [cmpOk, p]
  omega
def PV (A : D → Prop) (S : Store) : Vl → Store → Prop := fun v S' => (∃ d, v = .p d ∧ A d) ∧ S' = S
def PC (A : D → Prop) (T : Store) : Vl → Store → Prop := fun v S' => (∃ d, v = .p d ∧ A d) ∧ ∃ c, S' = c :: T ∧ IsPool c
theorem PV.ex {A : D → Prop} {r : Res Vl} {S : Store} (h : sat r (PV A S)) : ∃ d, r = .ok (.p d) S ∧ A d := by
  cases r with
  | bad => exact h.elim
  | exn x S => exact h.elim
  | ok v S' => obtain ⟨⟨d, rfl, a⟩, rfl⟩ := h; exact ⟨d, rfl, a⟩
theorem PC.ex {A : D → Prop} {r : Res Vl} {T : Store} (h : sat r (PC A T)) : ∃ d c, r = .ok (.p d) (c :: T) ∧ IsPool c ∧ A d := by
  cases r with
  | bad => exact h.elim
  | exn x S => exact h.elim
  | ok v S' => obtain ⟨⟨d, rfl, a⟩, c, rfl, hc⟩ := h; exact ⟨d, c, rfl, hc, a⟩
theorem pv {A : D → Prop} {d : D} {S : Store} (a : A d) : PV A S (.p d) S := ⟨⟨d, rfl, a⟩, rfl⟩
theorem pc {A : D → Prop} {d : D} {T : Store} {c : Cell} (h : IsPool c) (a : A d) : PC A T (.p d) (c :: T) := ⟨⟨d, rfl, a⟩, c, rfl, h⟩
theorem cut_mem {xs : List D} {a b : Option Int} {d : D} (h : d ∈ cutD xs a b) : d ∈ xs := by
  unfold cutD at h
  exact List.mem_of_mem_drop (List.mem_of_mem_take h)
/-- data as in a formula, at most so deep -/
inductive Gd : Nat → D → Prop
  | str {k : Nat} (x : Str) : x.length ≤ 1000 → Gd k (.str x)
  | int {k : Nat} (i : Int) : Gd k (.int i)
  | tup {k : Nat} (ds : List D) : ds.length ≤ 1000 → (∀ d ∈ ds, Gd k d) → Gd (k + 1) (.tuple ds)
theorem Gd.mono {k l : Nat} (h : k ≤ l) {d : D} (g : Gd k d) : Gd l d := by
  induction g generalizing l with
  | str x hx => exact .str x hx
  | int i => exact .int i
  | tup ds h1 h2 ih =>
    obtain ⟨l, rfl, hl⟩ := pred h
    exact .tup ds h1 fun d hd => ih d hd hl
theorem Gd.nc {k : Nat} {d : D} (g : Gd k d) : Nc k d := by
  induction g with
  | str x hx => exact .str (by omega)
  | int i => exact .int
  | tup ds h1 h2 ih => exact .tup (by omega) ih
theorem gd_fm : ∀ f : Fm, Gd (f.ht + 1) f.d
  | .lt i => .tup _ (by simp) fun d hd => by
    simp at hd
    rcases hd with rfl | rfl
    · exact .str _ (by decide +kernel)
    · exact .int _
  | .ff => .tup _ (by simp) fun d hd => by
    simp at hd
    subst hd
    exact .str _ (by decide +kernel)
  | .bi q a b => .tup _ (by simp) fun d hd => by
    simp at hd
    rcases hd with rfl | rfl | rfl
    · exact .str _ (by cases q <;> decide +kernel)
    · exact (gd_fm a).mono (by simp only [Fm.ht]; omega)
    · exact (gd_fm b).mono (by simp only [Fm.ht]; omega)
theorem ok2 {a b : Int} : cmpOk (.tuple [.int a, .int b]) = true := rfl
section
variable {P : Prog}
theorem e_pool (h : Has P cUlawUpool) {n : Nat} (hn : 1 ≤ n) (ns : List Int) (hl : ns.length ≤ 63) : ∃ c, P.call n "_law_pool" [.s ns] [] = .ok (.r 0) [c] ∧ IsPool c := by
  obtain ⟨n, rfl, hm⟩ := pred hn
  rw [show ("_law_pool" : Str) = cUlawUpool.name from rfl, h.call]
  have hs : sat (runFn (P.call n) P.consts cUlawUpool [.s ns] []) fun v S' => v = .r 0 ∧ ∃ c, S' = [c] ∧ IsPool c := by
    simp [cUlawUpool, slD]
    refine for_satL (fun pre ρ S' => S' = [] ∧ ∃ i y, ρ = [some (.s ns), some (.p (.int i)), y]) (all := cutD (ns.map PyData.int) none (some 63)) (pre := []) ?_ ?_ rfl ⟨rfl, 7, _, rfl⟩
    · intro pre x post e ρ S' ⟨q1, i, y, q2⟩
      subst q1 q2
      have hx : x ∈ cutD (ns.map PyData.int) none (some 63) := by rw [e]; simp
      have hx2 : x ∈ ns.map PyData.int := by
        unfold cutD at hx
        exact List.mem_of_mem_drop (List.mem_of_mem_take hx)
      obtain ⟨j, _, rfl⟩ := List.mem_map.mp hx2
      simp [bindT, small]
    · intro ρ S' ⟨q1, i, y, q2⟩
      subst q1 q2
      simp [Pl.finish]
      exact .mk ns 0 0 0 i (Int.le_refl 0)
  cases q : runFn (P.call n) P.consts cUlawUpool [.s ns] [] with
  | bad => rw [q] at hs; exact hs.elim
  | exn x S' => rw [q] at hs; exact hs.elim
  | ok v S' =>
    rw [q] at hs
    obtain ⟨rfl, c, rfl, hc⟩ := hs
    exact ⟨c, rfl, hc⟩
theorem e_booled (hi : Has P cUlawUisUinteger) (h : Has P cUlawUbooled) : ∀ (k n : Nat) (d : D), Gd k d → k + 2 ≤ n → ∀ S, sat (P.call n "_law_booled" [.p d] S) (PV (Nc k) S) := by
  intro k n d g
  induction g generalizing n with
  | str x hx =>
    intro hn S
    obtain ⟨n, rfl, hm⟩ := pred (n := n) (k := 1) (by omega)
    rw [show ("_law_booled" : Str) = cUlawUbooled.name from rfl, h.call]
    have e := e_lint hi hm (.str x) S
    simp [cUlawUbooled, e, isInt]
    exact pv (.str (by omega))
  | int i =>
    intro hn S
    obtain ⟨n, rfl, hm⟩ := pred (n := n) (k := 1) (by omega)
    rw [show ("_law_booled" : Str) = cUlawUbooled.name from rfl, h.call]
    have e := e_lint hi hm (.int i) S
    by_cases hb : (0 = i ∨ 1 = i)
    · simp [cUlawUbooled, e, isInt, ok2, hb]
      exact pv .bool
    · simp [cUlawUbooled, e, isInt, ok2, hb]
      exact pv .int
  | @tup k ds h1 h2 ih =>
    intro hn S
    obtain ⟨n, rfl, hm⟩ := pred (n := n) (k := k + 2) (by omega)
    rw [show ("_law_booled" : Str) = cUlawUbooled.name from rfl, h.call]
    simp [cUlawUbooled]
    refine map_sat (R := fun S' => S' = S) (T := Nc k) (fun d hd S' hS => ?_) rfl fun rs S' hS ha hl => ?_
    · subst hS
      obtain ⟨d', e, a⟩ := PV.ex (ih d hd n hm S')
      simp [bindT, e, a]
    · subst hS
      have : rs.length ≤ 16777216 := by omega
      simp [this]
      exact pv (.tup (by omega) ha)
theorem e_listed (h : Has P cUlawUlisted) : ∀ (k n : Nat) (d : D), Gd k d → k + 2 ≤ n → ∀ (m : Int) S, sat (P.call n "_law_listed" [.p d, .p (.int m)] S) (PV (Nc k) S) := by
  intro k n d g
  induction g generalizing n with
  | str x hx =>
    intro hn m S
    obtain ⟨n, rfl, hm⟩ := pred (n := n) (k := 1) (by omega)
    rw [show ("_law_listed" : Str) = cUlawUlisted.name from rfl, h.call]
    simp [cUlawUlisted]
    exact pv (.str (by omega))
  | int i =>
    intro hn m S
    obtain ⟨n, rfl, hm⟩ := pred (n := n) (k := 1) (by omega)
    rw [show ("_law_listed" : Str) = cUlawUlisted.name from rfl, h.call]
    simp [cUlawUlisted]
    exact pv .int
  | @tup k ds h1 h2 ih =>
    intro hn m S
    obtain ⟨n, rfl, hm⟩ := pred (n := n) (k := k + 2) (by omega)
    rw [show ("_law_listed" : Str) = cUlawUlisted.name from rfl, h.call]
    by_cases hz : m = 0
    · simp [cUlawUlisted, hz]
      exact pv (.lst (by omega) fun d hd => (h2 d hd).nc)
    · simp [cUlawUlisted, hz]
      refine map_sat (R := fun S' => S' = S) (T := Nc k) (fun d hd S' hS => ?_) rfl fun rs S' hS ha hl => ?_
      · subst hS
        obtain ⟨d', e, a⟩ := PV.ex (ih d hd n hm (m - 1) S')
        simp [bindT, e, a]
      · subst hS
        have : rs.length ≤ 16777216 := by omega
        simp [this]
        exact pv (.tup (by omega) ha)
/-- what _law_odd_values tells -/
def oddL (d : D) : List D := [d, .tuple [.str "plan", d, d], .none, .int 0, .int 1, .bool true, .bool false, .str "", .str "x", .tuple [], .list [], .dict [], .tuple [.tuple []], .tuple [.tuple [], .tuple []], .tuple [.int 0], .tuple [.int 1, .int 2], .tuple [.str "x"], .tuple [.list []], .dict [(.str "a", .int 1)], .tuple [.none], .tuple [.tuple [.tuple []]], .int (-1)]
def Odd (d : D) : Prop := Nc 93 d ∨ ∃ es, d = .dict es
theorem nc_by {k : Nat} {d : D} (h : ncB k d = true) (hk : k ≤ 93) : Odd d := .inl (Nc.mono hk h)
theorem odd_ok {d : D} (h : Nc 91 d) : ∀ x ∈ oddL d, Odd x := by
  have r : ∀ x ∈ (oddL d).drop 2, Odd x := by
    have : (oddL d).drop 2 = (oddL .none).drop 2 := rfl
    rw [this]
    intro x hx
    have q : ((oddL .none).drop 2).all (fun x => ncB 5 x || (match x with | .dict _ => true | _ => false)) = true := by decide +kernel
    have q := List.all_eq_true.mp q x hx
    rw [Bool.or_eq_true] at q
    rcases q with q | q
    · exact nc_by q (by omega)
    · split at q
      · exact .inr ⟨_, rfl⟩
      · cases q
  have e : oddL d = d :: .tuple [.str "plan", d, d] :: (oddL d).drop 2 := rfl
  rw [e]
  refine List.forall_mem_cons.mpr ⟨.inl (Nc.mono (by omega) h), List.forall_mem_cons.mpr ⟨.inl (Nc.mono (k := 92) (by omega) (.tup (by simp) fun x hx => ?_)), r⟩⟩
  simp at hx
  rcases hx with rfl | rfl
  · exact .str (by decide +kernel)
  · exact h
theorem e_odd (h : Has P cUlawUoddUvalues) {n : Nat} (hn : 1 ≤ n) (S : Store) : ∃ xs, P.call n "_law_odd_values" [] S = .ok (.p (.list xs)) S ∧ xs.length ≤ 100 ∧ ∀ x ∈ xs, Odd x := by
  obtain ⟨n, rfl, hm⟩ := pred hn
  rw [show ("_law_odd_values" : Str) = cUlawUoddUvalues.name from rfl, h.call]
  have hs : sat (runFn (P.call n) P.consts cUlawUoddUvalues [] S) fun v S' => (∃ xs, v = .p (.list xs) ∧ xs.length ≤ 100 ∧ ∀ x ∈ xs, Odd x) ∧ S' = S := by
    simp [cUlawUoddUvalues, rng0, show rngOk 90 = true from rng_ok (by omega) (by omega)]
    have hl : (rangeD 0 90).length = 90 := rfl
    generalize rangeD 0 90 = xs at hl
    refine for_satL (fun pre ρ S' => S' = S ∧ ∃ d y, ρ = [some (.p d), y] ∧ Nc (pre.length + 1) d) (all := xs) (pre := []) ?_ ?_ rfl ⟨rfl, _, _, rfl, .tup (by simp) fun _ z => nomatch z⟩
    · intro pre x post e ρ S' ⟨q1, d, y, q2, q3⟩
      subst q1 q2
      simp
      exact .tup (by simp) fun z hz => by rw [List.mem_singleton.mp hz]; exact q3
    · intro ρ S' ⟨q1, d, y, q2, q3⟩
      subst q1 q2
      rw [hl] at q3
      exact ⟨⟨oddL d, rfl, Nat.le_of_ble_eq_true rfl, odd_ok q3⟩, List.take_length⟩
  cases q : runFn (P.call n) P.consts cUlawUoddUvalues [] S with
  | bad => rw [q] at hs; exact hs.elim
  | exn x S' => rw [q] at hs; exact hs.elim
  | ok v S' =>
    rw [q] at hs
    obtain ⟨⟨xs, rfl, hx⟩, rfl⟩ := hs
    exact ⟨xs, rfl, hx⟩
section
variable (hd : Has P cUlawUdraw) (hs : Has P cUlawUspread)
include hd hs
theorem e_pick (h : Has P cUlawUpick) {n : Nat} (hn : 3 ≤ n) {c : Cell} (T : Store) (hc : IsPool c) {xs : List D} (h0 : 0 < xs.length) (h1 : xs.length ≤ 1000) :
    ∃ x c', P.call n "_law_pick" [.r 0, .p (.list xs)] (c :: T) = .ok (.p x) (c' :: T) ∧ IsPool c' ∧ x ∈ xs := by
  obtain ⟨n, rfl, hm⟩ := pred (k := 2) hn
  rw [show ("_law_pick" : Str) = cUlawUpick.name from rfl, h.call]
  obtain ⟨v, c1, e1, hc1, b1, b2⟩ := e_draw hd hs (n := n) hm T hc (m := (xs.length : Int)) (by omega) (by omega)
  obtain ⟨x, hx, ex⟩ := atI_mem (xs := xs) b1 b2
  exact ⟨x, c1, by simp [cUlawUpick, e1, ex], hc1, hx⟩
end
end
end Lw

set_option Elab.async false
set_option linter.all false
set_option autoImplicit false
set_option maxRecDepth 100000
set_option maxHeartbeats 0
/-! PLC: four formulas; values that are changed. -/
namespace Lw
open PySem PySem.Spec Pl L2
section
variable {P : Prog} (hd : Has P cUlawUdraw) (hs : Has P cUlawUspread)
include hd hs
theorem e_four1 (hsome : Has P cUlawUsome) {n : Nat} (hn : 6 ≤ n) {c : Cell} (T : Store) (hc : IsPool c) :
    ∃ (i : Int) (f : Fm) (c1 c2 : Cell), P.call n "_law_draw" [.r 0, .p (.int 2)] (c :: T) = .ok (.p (.int i)) (c1 :: T) ∧ P.call n "_law_some" [.r 0, .p (.int i), .p (.int 3)] (c1 :: T) = .ok (.p f.d) (c2 :: T) ∧ IsPool c2 ∧ f.in_ 3 ∧ f.ht ≤ 1 := by
  obtain ⟨i, c1, e1, hc1, b1, b2⟩ := e_draw hd hs (n := n) (by omega) T hc (m := 2) (by omega) (by omega)
  obtain ⟨f, c2, e2, hc2, i2, t2⟩ := e_some hd hs hsome (l := 3) (by omega) (by omega) i.toNat n c1 T (by omega) hc1
  rw [Int.toNat_of_nonneg b1] at e2
  exact ⟨i, f, c1, c2, e1, e2, hc2, i2, by omega⟩
theorem e_four (hsome : Has P cUlawUsome) (h : Has P cUlawUfour) {n : Nat} (hn : 7 ≤ n) {c : Cell} (T : Store) (hc : IsPool c) :
    ∃ (fs : List Fm) (c' : Cell), P.call n "_law_four" [.r 0] (c :: T) = .ok (.p (fmsD fs)) (c' :: T) ∧ IsPool c' ∧ fs.length = 4 ∧ ∀ f ∈ fs, f.in_ 3 ∧ f.ht ≤ 1 := by
  obtain ⟨n, rfl, hm⟩ := pred (k := 6) hn
  rw [show ("_law_four" : Str) = cUlawUfour.name from rfl, h.call]
  obtain ⟨i1, f1, a1, c1, d1, e1, hc1, p1⟩ := e_four1 hd hs hsome hm T hc
  obtain ⟨i2, f2, a2, c2, d2, e2, hc2, p2⟩ := e_four1 hd hs hsome hm T hc1
  obtain ⟨i3, f3, a3, c3, d3, e3, hc3, p3⟩ := e_four1 hd hs hsome hm T hc2
  obtain ⟨i4, f4, a4, c4, d4, e4, hc4, p4⟩ := e_four1 hd hs hsome hm T hc3
  refine ⟨[f1, f2, f3, f4], c4, ?_, hc4, rfl, fun f hf => ?_⟩
  · simp [cUlawUfour, rng0, show rngOk 4 = true from by decide, show rangeD 0 4 = [.int 0, .int 1, .int 2, .int 3] from rfl, mapR, d1, d2, d3, d4, e1, e2, e3, e4, fmsD]
  · simp at hf
    rcases hf with rfl | rfl | rfl | rfl <;> assumption
theorem e_changed (hp : Has P cUlawUpick) (h : Has P cUlawUchanged) {xs : List D} (h0 : 0 < xs.length) (h1 : xs.length ≤ 1000) (h3 : ∀ x ∈ xs, Nc 3 x) : ∀ (k n : Nat) (d : D), Gd k d → k + 4 ≤ n → ∀ (c : Cell) (T : Store), IsPool c → sat (P.call n "_law_changed" [.r 0, .p d, .p (.list xs)] (c :: T)) (PC (Nc (k + 3)) T) := by
  intro k n d g
  induction g generalizing n with
  | str x hx =>
    intro hn c T hc
    obtain ⟨n, rfl, hm⟩ := pred (n := n) (k := 3) (by omega)
    rw [show ("_law_changed" : Str) = cUlawUchanged.name from rfl, h.call]
    obtain ⟨x, c1, e1, hc1, hx1⟩ := e_pick hd hs hp (n := n) (by omega) T hc h0 h1
    simp [cUlawUchanged, e1]
    exact pc hc1 (Nc.mono (by omega) (h3 x hx1))
  | int i =>
    intro hn c T hc
    obtain ⟨n, rfl, hm⟩ := pred (n := n) (k := 3) (by omega)
    rw [show ("_law_changed" : Str) = cUlawUchanged.name from rfl, h.call]
    obtain ⟨x, c1, e1, hc1, hx1⟩ := e_pick hd hs hp (n := n) (by omega) T hc h0 h1
    simp [cUlawUchanged, e1]
    exact pc hc1 (Nc.mono (by omega) (h3 x hx1))
  | @tup k ds q1 q2 ih =>
    intro hn c T hc
    obtain ⟨n, rfl, hm⟩ := pred (n := n) (k := k + 4) (by omega)
    rw [show ("_law_changed" : Str) = cUlawUchanged.name from rfl, h.call]
    cases ds with
    | nil =>
      obtain ⟨x, c1, e1, hc1, hx1⟩ := e_pick hd hs hp (n := n) (by omega) T hc h0 h1
      simp [cUlawUchanged, e1]
      exact pc hc1 (Nc.mono (by omega) (h3 x hx1))
    | cons y ys =>
      have nz : ¬ ((ys.length : Int) + 1 = 0) := by omega
      obtain ⟨u, c1, e1, hc1, b1, b2⟩ := e_draw hd hs (n := n) (by omega) T hc (m := 6) (by omega) (by omega)
      by_cases hu : u = 0
      · obtain ⟨x, c2, e2, hc2, hx2⟩ := e_pick hd hs hp (n := n) (by omega) T hc1 h0 h1
        simp [cUlawUchanged, nz, e1, hu, e2]
        exact pc hc2 (Nc.mono (by omega) (h3 x hx2))
      · have l1 : ys.length + 1 ≤ 1000 := by simpa using q1
        obtain ⟨v, c2, e2, hc2, b3, b4⟩ := e_draw hd hs (n := n) (by omega) T hc1 (m := (ys.length : Int) + 1) (by omega) (by omega)
        obtain ⟨z, hz, ez⟩ := atI_mem (xs := y :: ys) (i := v) b3 (by simpa using b4)
        obtain ⟨d', c3, e3, hc3, a3⟩ := PC.ex (ih z hz n hm c2 T hc2)
        have w1 : (cutD (y :: ys) none (some v)).length ≤ 1000 := by
          unfold cutD
          rw [List.length_take, List.length_drop]
          simp only [List.length_cons]
          omega
        have w2 : (cutD (y :: ys) (some (v + 1)) none).length ≤ 1000 := by
          unfold cutD
          rw [List.length_take, List.length_drop]
          simp only [List.length_cons]
          omega
        have w3 : (cutD (y :: ys) none (some v)).length ≤ 16777215 := by omega
        have w4 : (cutD (y :: ys) none (some v)).length + 1 + (cutD (y :: ys) (some (v + 1)) none).length ≤ 16777216 := by omega
        simp [cUlawUchanged, nz, e1, hu, e2, slD, ez, e3, w3, w4]
        refine pc hc3 (show Nc (k + 3 + 1) _ from .tup (by simp; omega) fun w hw => ?_)
        have sub : ∀ w ∈ y :: ys, Nc (k + 3) w := fun w hw => Nc.mono (by omega) (q2 w hw).nc
        rcases List.mem_append.mp hw with hw | hw
        · exact sub w (cut_mem hw)
        · rcases List.mem_cons.mp hw with rfl | hw
          · exact a3
          · exact sub w (cut_mem hw)
end
end Lw

set_option Elab.async false
set_option linter.all false
set_option autoImplicit false
set_option maxRecDepth 100000
set_option maxHeartbeats 0
/-! PLD: values that are swapped, bent. -/
namespace Lw
open PySem PySem.Spec Pl L2
theorem ixN_ok {n : Nat} {i : Int} (h0 : 0 ≤ i) (h1 : i < n) : ixN n i = some i.toNat := by
  unfold ixN
  rw [if_pos h0, if_pos h1]
theorem rd_l {c : Cell} {T : Store} {xs : List D} : rd (c :: (T ++ [.lst xs])) (.r (T.length + 1)) = some (.list xs) := by simp [rd]
theorem cut_len {xs : List D} {a b : Option Int} : (cutD xs a b).length ≤ xs.length := by
  unfold cutD
  rw [List.length_take, List.length_drop]
  omega
section
variable {P : Prog} (hd : Has P cUlawUdraw) (hs : Has P cUlawUspread)
include hd hs
theorem e_swapped (h : Has P cUlawUswapped) : ∀ (k n : Nat) (d : D), Gd k d → k + 3 ≤ n → ∀ (c : Cell) (T : Store), IsPool c → sat (P.call n "_law_swapped" [.r 0, .p d] (c :: T)) (PC (Nc k) T) := by
  intro k n d g
  induction g generalizing n with
  | str x hx =>
    intro hn c T hc
    obtain ⟨n, rfl, hm⟩ := pred (n := n) (k := 2) (by omega)
    rw [show ("_law_swapped" : Str) = cUlawUswapped.name from rfl, h.call]
    simp [cUlawUswapped]
    exact pc hc (.str (by omega))
  | int i =>
    intro hn c T hc
    obtain ⟨n, rfl, hm⟩ := pred (n := n) (k := 2) (by omega)
    rw [show ("_law_swapped" : Str) = cUlawUswapped.name from rfl, h.call]
    simp [cUlawUswapped]
    exact pc hc .int
  | @tup k ds q1 q2 ih =>
    intro hn c T hc
    obtain ⟨n, rfl, hm⟩ := pred (n := n) (k := k + 3) (by omega)
    rw [show ("_law_swapped" : Str) = cUlawUswapped.name from rfl, h.call]
    by_cases hz : ds = []
    · subst hz
      simp [cUlawUswapped]
      exact pc hc (.tup (by simp) fun _ z => nomatch z)
    · have l0 : 0 < ds.length := List.length_pos_iff.mpr hz
      have nz : ¬ ds.length = 0 := by omega
      obtain ⟨v, c2, e2, hc2, b3, b4⟩ := e_draw hd hs (n := n) (by omega) T hc (m := (ds.length : Int)) (by omega) (by omega)
      obtain ⟨z, hzm, ez⟩ := atI_mem (xs := ds) (i := v) b3 b4
      have w1 := cut_len (xs := ds) (a := none) (b := some v)
      have w2 := cut_len (xs := ds) (a := some (v + 1)) (b := none)
      have w3 : (cutD ds none (some v)).length ≤ 16777215 := by omega
      have w4 : (cutD ds none (some v)).length + 1 + (cutD ds (some (v + 1)) none).length ≤ 16777216 := by omega
      -- the end: two are exchanged
      have tail : ∀ (c3 : Cell), IsPool c3 → ∃ (o : Int) (c4 : Cell) (y : D), P.call n "_law_draw" [.r 0, .p (.int ds.length)] (c3 :: T) = .ok (.p (.int o)) (c4 :: T) ∧ IsPool c4 ∧ atI ds o = some y ∧ y ∈ ds ∧ ixN ds.length o = some o.toNat := fun c3 hc3 => by
        obtain ⟨o, c4, e4, hc4, b5, b6⟩ := e_draw hd hs (n := n) (by omega) T hc3 (m := (ds.length : Int)) (by omega) (by omega)
        obtain ⟨y, hy, ey⟩ := atI_mem (xs := ds) (i := o) b5 b6
        exact ⟨o, c4, y, e4, hc4, ey, hy, ixN_ok b5 b6⟩
      have iv := ixN_ok b3 b4
      have sub : ∀ w ∈ ds, Nc k w := fun w hw => (q2 w hw).nc
      by_cases ht : ∃ zs, z = .tuple zs
      · obtain ⟨zs, rfl⟩ := ht
        obtain ⟨u, c3, e3, hc3, b1, b2⟩ := e_draw hd hs (n := n) (by omega) T hc2 (m := 4) (by omega) (by omega)
        by_cases hu : 0 < u
        · obtain ⟨d', c4, e4, hc4, a4⟩ := PC.ex (ih _ hzm n hm c3 T hc3)
          simp [cUlawUswapped, nz, hz, e2, ez, e3, hu, e4, slD, w3, w4]
          refine pc hc4 (.tup (by simp; omega) fun w hw => ?_)
          rcases List.mem_append.mp hw with hw | hw
          · exact sub w (cut_mem hw)
          · rcases List.mem_cons.mp hw with rfl | hw
            · exact a4
            · exact sub w (cut_mem hw)
        · obtain ⟨o, c4, y, e4, hc4, ey, hy, io⟩ := tail c3 hc3
          simp [cUlawUswapped, nz, hz, e2, ez, e3, hu, e4, rd_l, ey, iv, io, set_last]
          refine pc hc4 (.tup (by simp; omega) fun w hw => ?_)
          rcases List.mem_or_eq_of_mem_set hw with hw | rfl
          · rcases List.mem_or_eq_of_mem_set hw with hw | rfl
            · exact sub w hw
            · exact sub _ hy
          · exact sub _ hzm
      · obtain ⟨o, c4, y, e4, hc4, ey, hy, io⟩ := tail c2 hc2
        have hn : isiD z .tuple = false := by
          cases z <;> first | rfl | exact absurd ⟨_, rfl⟩ ht
        simp [cUlawUswapped, nz, hz, e2, ez, hn, e4, rd_l, ey, iv, io, set_last, -qisiD_1]
        refine pc hc4 (.tup (by simp; omega) fun w hw => ?_)
        rcases List.mem_or_eq_of_mem_set hw with hw | rfl
        · rcases List.mem_or_eq_of_mem_set hw with hw | rfl
          · exact sub w hw
          · exact sub _ hy
        · exact sub _ hzm
end
end Lw

set_option Elab.async false
set_option linter.all false
set_option autoImplicit false
set_option maxRecDepth 100000
set_option maxHeartbeats 0
/-! PLE: values that are bent. -/
namespace Lw
open PySem PySem.Spec Pl L2
theorem cutS_len {x : Str} {a b : Option Int} : (L2.cutS x a b).length ≤ x.length := by
  unfold L2.cutS
  simp [Str.length]
  omega
def L10 : List D := [.str "x", .bool true, .tuple [], .int 0, .int (-1), .none, .bool false, .list [], .str "in", .int 1]
theorem l10_nc : ∀ x ∈ L10, ∀ k, Nc (k + 1) x := by
  intro x hx k
  have q : L10.all (ncB 1) = true := by decide +kernel
  exact Nc.mono (by omega) (List.all_eq_true.mp q x hx)
section
variable {P : Prog} (hd : Has P cUlawUdraw) (hs : Has P cUlawUspread)
include hd hs
theorem e_bent (hi : Has P cUlawUisUinteger) (h : Has P cUlawUbent) : ∀ (k n : Nat) (d : D), Gd k d → k + 3 ≤ n → ∀ (c : Cell) (T : Store), IsPool c → sat (P.call n "_law_bent" [.r 0, .p d] (c :: T)) (PC (Nc (k + 2)) T) := by
  intro k n d g
  induction g generalizing n with
  | str x hx =>
    intro hn c T hc
    obtain ⟨n, rfl, hm⟩ := pred (n := n) (k := 2) (by omega)
    rw [show ("_law_bent" : Str) = cUlawUbent.name from rfl, h.call]
    obtain ⟨t, c1, e1, hc1, b1, b2⟩ := e_draw hd hs (n := n) (by omega) T hc (m := 9) (by omega) (by omega)
    have en := fun S => e_lint hi (n := n) (by omega) (.str x) S
    by_cases ht : t = 0
    · obtain ⟨w, c2, e2, hc2, b3, b4⟩ := e_draw hd hs (n := n) (by omega) T hc1 (m := 10) (by omega) (by omega)
      obtain ⟨z, hz1, ez⟩ := atI_mem (xs := L10) (i := w) b3 b4
      unfold L10 at ez
      simp [cUlawUbent, e1, ht, e2, ez]
      exact pc hc2 (l10_nc z hz1 _)
    · obtain ⟨w, c2, e2, hc2, b3, b4⟩ := e_draw hd hs (n := n) (by omega) T hc1 (m := 5) (by omega) (by omega)
      have l1 : x.length ≤ 16777216 := by omega
      have l2 : ∀ y : String, (Str.ofString y).length = 1 → x.length + (Str.ofString y).length ≤ 16777216 := fun y hy => by omega
      have a1 := l2 "a" (by decide +kernel)
      have a2 := l2 "A" (by decide +kernel)
      have a3 := l2 " " (by decide +kernel)
      obtain ⟨z, hz1, ez⟩ := atI_mem (xs := [.str (x ++ Str.ofString "a"), .str (L2.cutS x (some 1) none), .str (x ++ Str.ofString "A"), .str (x ++ Str.ofString " "), .str (L2.cutS x none (some 1))]) (i := w) b3 b4
      simp [cUlawUbent, e1, ht, en, isInt, e2, slD, l1, a1, a2, a3, ez]
      refine pc hc2 ?_
      have la : ∀ y : String, (Str.ofString y).length = 1 → Nc (k + 2) (.str (x ++ Str.ofString y)) := fun y hy => .str (by rw [show (x ++ Str.ofString y).length = x.length + (Str.ofString y).length from by show (x.cps ++ (Str.ofString y).cps).size = _; simp [Str.length]]; omega)
      have lc : ∀ p q, Nc (k + 2) (.str (L2.cutS x p q)) := fun p q => .str (by have := cutS_len (x := x) (a := p) (b := q); omega)
      simp only [List.mem_cons, List.not_mem_nil, or_false] at hz1
      rcases hz1 with rfl | rfl | rfl | rfl | rfl
      · exact la _ (by decide +kernel)
      · exact lc _ _
      · exact la _ (by decide +kernel)
      · exact la _ (by decide +kernel)
      · exact lc _ _
  | int i =>
    intro hn c T hc
    obtain ⟨n, rfl, hm⟩ := pred (n := n) (k := 2) (by omega)
    rw [show ("_law_bent" : Str) = cUlawUbent.name from rfl, h.call]
    obtain ⟨t, c1, e1, hc1, b1, b2⟩ := e_draw hd hs (n := n) (by omega) T hc (m := 9) (by omega) (by omega)
    have en := fun S => e_lint hi (n := n) (by omega) (.int i) S
    by_cases ht : t = 0
    · obtain ⟨w, c2, e2, hc2, b3, b4⟩ := e_draw hd hs (n := n) (by omega) T hc1 (m := 10) (by omega) (by omega)
      obtain ⟨z, hz1, ez⟩ := atI_mem (xs := L10) (i := w) b3 b4
      unfold L10 at ez
      simp [cUlawUbent, e1, ht, e2, ez]
      exact pc hc2 (l10_nc z hz1 _)
    · obtain ⟨w, c2, e2, hc2, b3, b4⟩ := e_draw hd hs (n := n) (by omega) T hc1 (m := 4) (by omega) (by omega)
      have hw : w = 0 ∨ w = 1 ∨ w = 2 ∨ w = 3 := by omega
      rcases hw with rfl | rfl | rfl | rfl
      · simp [cUlawUbent, e1, ht, en, isInt, e2, atI_0]
        exact pc hc2 .int
      · simp [cUlawUbent, e1, ht, en, isInt, e2, atI_1]
        exact pc hc2 .int
      · simp [cUlawUbent, e1, ht, en, isInt, e2, atI_2]
        exact pc hc2 .int
      · simp [cUlawUbent, e1, ht, en, isInt, e2, atI_3]
        exact pc hc2 .int
  | @tup k ds q1 q2 ih =>
    intro hn c T hc
    obtain ⟨n, rfl, hm⟩ := pred (n := n) (k := k + 3) (by omega)
    rw [show ("_law_bent" : Str) = cUlawUbent.name from rfl, h.call]
    have en := fun S => e_lint hi (n := n) (by omega) (.tuple ds) S
    by_cases hz : ds = []
    · subst hz
      obtain ⟨t, c1, e1, hc1, b1, b2⟩ := e_draw hd hs (n := n) (by omega) T hc (m := 9) (by omega) (by omega)
      by_cases ht : t = 0
      · obtain ⟨w, c2, e2, hc2, b3, b4⟩ := e_draw hd hs (n := n) (by omega) T hc1 (m := 10) (by omega) (by omega)
        obtain ⟨z, hz1, ez⟩ := atI_mem (xs := L10) (i := w) b3 b4
        unfold L10 at ez
        simp [cUlawUbent, e1, ht, e2, ez]
        exact pc hc2 (l10_nc z hz1 _)
      · by_cases h5 : t < 5
        · simp [cUlawUbent, e1, ht, en, isInt, h5]
          refine pc hc1 (show Nc (k + 1 + 1 + 1) _ from .tup (by simp) fun w hw => ?_)
          simp at hw
          rcases hw with rfl | rfl
          · exact .tup (by simp) fun _ z => nomatch z
          · exact .int
        · simp [cUlawUbent, e1, ht, en, isInt, h5]
          exact pc hc1 (.tup (by simp) fun _ z => nomatch z)
    · have l0 : 0 < ds.length := List.length_pos_iff.mpr hz
      have nz : ¬ ds.length = 0 := by omega
      have sub : ∀ w ∈ ds, Nc (k + 2) w := fun w hw => Nc.mono (by omega) (q2 w hw).nc
      obtain ⟨u, c0, e0, hc0, u1, u2⟩ := e_draw hd hs (n := n) (by omega) T hc (m := 4) (by omega) (by omega)
      by_cases hu : 0 < u
      · obtain ⟨v, c2, e2, hc2, b3, b4⟩ := e_draw hd hs (n := n) (by omega) T hc0 (m := (ds.length : Int)) (by omega) (by omega)
        obtain ⟨z, hzm, ez⟩ := atI_mem (xs := ds) (i := v) b3 b4
        have w1 := cut_len (xs := ds) (a := none) (b := some v)
        have w2 := cut_len (xs := ds) (a := some (v + 1)) (b := none)
        have w3 : (cutD ds none (some v)).length ≤ 16777215 := by omega
        have w4 : (cutD ds none (some v)).length + 1 + (cutD ds (some (v + 1)) none).length ≤ 16777216 := by omega
        obtain ⟨d', c4, e4, hc4, a4⟩ := PC.ex (ih _ hzm n hm c2 T hc2)
        simp [cUlawUbent, l0, nz, hz, e0, hu, e2, ez, e4, slD, w3, w4]
        refine pc hc4 (show Nc (k + 2 + 1) _ from .tup (by simp; omega) fun w hw => ?_)
        rcases List.mem_append.mp hw with hw | hw
        · exact sub w (cut_mem hw)
        · rcases List.mem_cons.mp hw with rfl | hw
          · exact a4
          · exact sub w (cut_mem hw)
      · obtain ⟨t, c1, e1, hc1, b1, b2⟩ := e_draw hd hs (n := n) (by omega) T hc0 (m := 9) (by omega) (by omega)
        by_cases ht : t = 0
        · obtain ⟨w, c2, e2, hc2, b3, b4⟩ := e_draw hd hs (n := n) (by omega) T hc1 (m := 10) (by omega) (by omega)
          obtain ⟨z, hz1, ez⟩ := atI_mem (xs := L10) (i := w) b3 b4
          unfold L10 at ez
          simp [cUlawUbent, l0, nz, hz, e0, hu, e1, ht, e2, ez]
          exact pc hc2 (l10_nc z hz1 _)
        · obtain ⟨v, c2, e2, hc2, b3, b4⟩ := e_draw hd hs (n := n) (by omega) T hc1 (m := (ds.length : Int)) (by omega) (by omega)
          obtain ⟨z, hzm, ez⟩ := atI_mem (xs := ds) (i := v) b3 b4
          have w1 := cut_len (xs := ds) (a := none) (b := some v)
          have w2 := cut_len (xs := ds) (a := some (v + 1)) (b := none)
          have w5 := cut_len (xs := ds) (a := some v) (b := none)
          have w3 : (cutD ds none (some v)).length ≤ 16777215 := by omega
          have w4 : (cutD ds none (some v)).length + (cutD ds (some (v + 1)) none).length ≤ 16777216 := by omega
          have w6 : (cutD ds none (some v)).length + 1 + (cutD ds (some v) none).length ≤ 16777216 := by omega
          by_cases h3 : t < 3
          · simp [cUlawUbent, l0, nz, hz, e0, hu, e1, ht, en, isInt, e2, ez, h3, slD, w3, w4]
            refine pc hc2 (show Nc (k + 2 + 1) _ from .tup (by simp; omega) fun w hw => ?_)
            rcases List.mem_append.mp hw with hw | hw
            · exact sub w (cut_mem hw)
            · exact sub w (cut_mem hw)
          · by_cases h5 : t < 5
            · simp [cUlawUbent, l0, nz, hz, e0, hu, e1, ht, en, isInt, e2, ez, h3, h5, slD, w3, w6]
              refine pc hc2 (show Nc (k + 2 + 1) _ from .tup (by simp; omega) fun w hw => ?_)
              rcases List.mem_append.mp hw with hw | hw
              · exact sub w (cut_mem hw)
              · rcases List.mem_cons.mp hw with rfl | hw
                · exact sub _ hzm
                · exact sub w (cut_mem hw)
            · by_cases h6 : t = 5
              · simp [cUlawUbent, l0, nz, hz, e0, hu, e1, ht, en, isInt, e2, ez, h6]
                exact pc hc2 (show Nc (k + 2 + 1) _ from .lst (by omega) sub)
              · obtain ⟨o, c4, e4, hc4, b5, b6⟩ := e_draw hd hs (n := n) (by omega) T hc2 (m := (ds.length : Int)) (by omega) (by omega)
                obtain ⟨y, hy, ey⟩ := atI_mem (xs := ds) (i := o) b5 b6
                have iv := ixN_ok b3 b4
                have io := ixN_ok b5 b6
                simp [cUlawUbent, l0, nz, hz, e0, hu, e1, ht, en, isInt, e2, ez, h3, h5, h6, e4, ey, iv, io, set_last, rd_l]
                refine pc hc4 (show Nc (k + 2 + 1) _ from .tup (by simp; omega) fun w hw => ?_)
                rcases List.mem_or_eq_of_mem_set hw with hw | rfl
                · rcases List.mem_or_eq_of_mem_set hw with hw | rfl
                  · exact sub w hw
                  · exact sub _ hy
                · exact sub _ hzm
end
end Lw

set_option Elab.async false
set_option linter.all false
set_option autoImplicit false
set_option maxRecDepth 100000
set_option maxHeartbeats 0
/-! PLF: the bent ones together. -/
namespace Lw
open PySem PySem.Spec Pl L2
def things1 : List D := [(Fm.lt 0).d, (Fm.lt 1).d, Fm.ff.d, (Fm.lt 4).d, (Fm.bi .i (.lt 0) (.lt 1)).d, .tuple [.str "axiom", (Fm.lt 0).d], .tuple [.str "assume", (Fm.lt 0).d], .tuple []]
def things2 : List D := [.int 0, .int 1, .int 2, .int (-1), .str "if", .str "cut", .none, .bool true, .tuple [.str "shut", (Fm.lt 0).d]]
theorem things_nc : ∀ x ∈ things1 ++ things2, Nc 3 x := by
  intro x hx
  have q : (things1 ++ things2).all (ncB 3) = true := by decide +kernel
  exact List.all_eq_true.mp q x hx
theorem bends_1 {cl : CallF} {g : Str → Option D} {x y : Option Vl} {S : Store} : evSs cl g (cUlawUbends.body.take 2) [x, y, none, none, none] S = .ok (.nx [x, y, some (.p (.list (things1 ++ things2))), none, none]) S := rfl
section
variable {P : Prog}
theorem bends_2 (hi : Has P cUlawUisUinteger) (hb : Has P cUlawUbooled) (hl : Has P cUlawUlisted) {k n : Nat} {ds : List D} (hk : Gd k (.tuple ds)) (hn : k + 2 ≤ n) {x z : Option Vl} {S : Store} :
    ∃ L : List D, L.length = 9 ∧ (∀ x ∈ L, Nc (k + 3) x) ∧ evSs (P.call n) P.consts ((cUlawUbends.body.drop 2).take 1) [x, some (.p (.tuple ds)), z, none, none] S = .ok (.nx [x, some (.p (.tuple ds)), z, some (.p (.list L)), none]) S := by
  obtain ⟨d1, e1, a1⟩ := PV.ex (e_listed hl k n _ hk hn 1 S)
  obtain ⟨d2, e2, a2⟩ := PV.ex (e_listed hl k n _ hk hn 2 S)
  obtain ⟨d3, e3, a3⟩ := PV.ex (e_booled hi hb k n _ hk hn S)
  have hlen : ds.length ≤ 1000 := by cases hk with | tup _ h _ => exact h
  have w := cut_len (xs := ds) (a := some (-1)) (b := none)
  have w2 : ds.length + (cutD ds (some (-1)) none).length ≤ 16777216 := by omega
  refine ⟨[.list ds, .tuple (cutD ds (some 1) none), .tuple (cutD ds none (some (-1))), .tuple (ds ++ cutD ds (some (-1)) none), .tuple [.tuple ds], d1, d2, d3, .tuple []], rfl, fun x hx => ?_, ?_⟩
  · obtain ⟨j, rfl, h1, h2⟩ := hk.nc.of_tup
    have sub : ∀ d ∈ ds, Nc (j + 3) d := fun d hd => Nc.mono (by omega) (h2 d hd)
    have w1 := cut_len (xs := ds) (a := some 1) (b := none)
    have w3 := cut_len (xs := ds) (a := none) (b := some (-1))
    simp only [List.mem_cons, List.not_mem_nil, or_false] at hx
    rcases hx with rfl | rfl | rfl | rfl | rfl | rfl | rfl | rfl | rfl
    · exact .lst (k := j + 3) (by omega) sub
    · exact .tup (k := j + 3) (by omega) fun d hd => sub d (cut_mem hd)
    · exact .tup (k := j + 3) (by omega) fun d hd => sub d (cut_mem hd)
    · refine .tup (k := j + 3) (by simp; omega) fun d hd => ?_
      rcases List.mem_append.mp hd with hd | hd
      · exact sub d hd
      · exact sub d (cut_mem hd)
    · refine .tup (k := j + 3) (by simp) fun d hd => ?_
      rw [List.mem_singleton.mp hd]
      exact Nc.mono (by omega) hk.nc
    · exact Nc.mono (by omega) a1
    · exact Nc.mono (by omega) a2
    · exact Nc.mono (by omega) a3
    · exact .tup (k := j + 3) (by simp) fun _ z => nomatch z
  · simp [cUlawUbends, slD, e1, e2, e3, w2]
theorem bends_3 (hd : Has P cUlawUdraw) (hs : Has P cUlawUspread) (hp : Has P cUlawUpick) (hi : Has P cUlawUisUinteger) (hc : Has P cUlawUchanged) (hw : Has P cUlawUswapped) (hb : Has P cUlawUbent) {k n : Nat} {d : D} (hk : Gd k d) (hn : k + 4 ≤ n) {c : Cell} {T : Store} (h0 : IsPool c) {L : List D} (hL : L.length = 9) (hLn : ∀ x ∈ L, Nc (k + 3) x) :
    sat (evSs (P.call n) P.consts (cUlawUbends.body.drop 3) [some (.r 0), some (.p d), some (.p (.list (things1 ++ things2))), some (.p (.list L)), none] (c :: T)) fun f S' => (∃ xs, f = .rt (.p (.list xs)) ∧ xs.length ≤ 100 ∧ ∀ x ∈ xs, Nc (k + 3) x) ∧ ∃ c', S' = c' :: T ∧ IsPool c' := by
  have step : ∀ {f : D → Store → Res (Option D)} {xs : List D} {S : Store} {Q : List D → Store → Prop}, (∃ c, S = c :: T ∧ IsPool c) → (∀ x S, (∃ c, S = c :: T ∧ IsPool c) → sat (f x S) fun o S' => (∃ c, S' = c :: T ∧ IsPool c) ∧ ∀ r, o = some r → Nc (k + 3) r) →
      (∀ rs S', (∃ c, S' = c :: T ∧ IsPool c) → (∀ r ∈ rs, Nc (k + 3) r) → rs.length ≤ xs.length → Q rs S') → sat (mapR f xs S) Q := fun h1 h2 h3 =>
    map_sat (R := fun S => ∃ c, S = c :: T ∧ IsPool c) (T := Nc (k + 3)) (fun x _ S hS => h2 x S hS) h1 fun rs S' hS ha hl => h3 rs S' hS ha hl
  have r14 : rngOk 14 = true := rng_ok (by omega) (by omega)
  have r8 : rngOk 8 = true := rng_ok (by omega) (by omega)
  have r6 : rngOk 6 = true := rng_ok (by omega) (by omega)
  simp [cUlawUbends, rng0, r14, r8, r6]
  refine step ⟨c, rfl, h0⟩ (fun x S ⟨c1, hS, h1⟩ => ?_) fun rs S' ⟨c1, hS, h1⟩ ha1 hl => ?_
  · subst hS
    obtain ⟨d', c2, e, h2, a2⟩ := PC.ex (e_changed hd hs hp hc (xs := things1 ++ things2) (by decide) (by decide) things_nc k n d hk hn c1 T h1)
    simp [e, h2, a2]
  · subst hS
    rw [rangeD_len] at hl
    have a1 : rs.length ≤ 16777216 := by omega
    have a2 : L.length + rs.length ≤ 16777216 := by omega
    simp [a1, a2]
    refine step ⟨c1, rfl, h1⟩ (fun x S ⟨c2, hS, h2⟩ => ?_) fun rs2 S' ⟨c2, hS, h2⟩ ha2 hl2 => ?_
    · subst hS
      obtain ⟨d', c3, e, h3, a3⟩ := PC.ex (e_swapped hd hs hw k n d hk (by omega) c2 T h2)
      simp [e, h3, Nc.mono (show k ≤ k + 3 by omega) a3]
    · subst hS
      rw [rangeD_len] at hl2
      have a3 : rs2.length ≤ 16777216 := by omega
      have a4 : L.length + (rs.length + rs2.length) ≤ 16777216 := by omega
      have a5 : L.length + rs.length + rs2.length ≤ 16777216 := by omega
      simp [a3, a4, a5]
      refine step ⟨c2, rfl, h2⟩ (fun x S ⟨c3, hS, h3⟩ => ?_) fun rs3 S' ⟨c3, hS, h3⟩ ha3 hl3 => ?_
      · subst hS
        obtain ⟨d', c4, e, h4, a4⟩ := PC.ex (e_bent hd hs hi hb k n d hk (by omega) c3 T h3)
        simp [e, h4, Nc.mono (show k + 2 ≤ k + 3 by omega) a4]
      · subst hS
        rw [rangeD_len] at hl3
        have a6 : rs3.length ≤ 16777216 := by omega
        have a7 : L.length + (rs.length + (rs2.length + rs3.length)) ≤ 16777216 := by omega
        have a8 : L.length + (rs.length + rs2.length) + rs3.length ≤ 16777216 := by omega
        have a9 : L.length + rs.length + rs2.length + rs3.length ≤ 16777216 := by omega
        have b1 : L.length + (rs.length + (rs2.length + rs3.length)) ≤ 100 := by omega
        simp [a6, a7, a8, a9, h3, b1]
        intro x hx
        rcases hx with hx | hx | hx | hx
        · exact hLn x hx
        · exact ha1 x hx
        · exact ha2 x hx
        · exact ha3 x hx
theorem e_bends (hd : Has P cUlawUdraw) (hs : Has P cUlawUspread) (hp : Has P cUlawUpick) (hi : Has P cUlawUisUinteger) (ho : Has P cUlawUbooled) (hl : Has P cUlawUlisted) (hc : Has P cUlawUchanged) (hw : Has P cUlawUswapped) (hb : Has P cUlawUbent) (h : Has P cUlawUbends)
    {k n : Nat} {ds : List D} (hk : Gd k (.tuple ds)) (hn : k + 5 ≤ n) {c : Cell} (T : Store) (h0 : IsPool c) :
    ∃ xs c', P.call n "_law_bends" [.r 0, .p (.tuple ds)] (c :: T) = .ok (.p (.list xs)) (c' :: T) ∧ IsPool c' ∧ xs.length ≤ 100 ∧ ∀ x ∈ xs, Nc (k + 3) x := by
  obtain ⟨n, rfl, hm⟩ := pred (n := n) (k := k + 4) (by omega)
  rw [show ("_law_bends" : Str) = cUlawUbends.name from rfl, h.call]
  obtain ⟨L, hL, hLn, e2⟩ := bends_2 hi ho hl hk (n := n) (by omega) (x := some (.r 0)) (z := some (.p (.list (things1 ++ things2)))) (S := c :: T)
  have e3 := bends_3 hd hs hp hi hc hw hb hk hm (T := T) h0 hL hLn
  have e4 : sat ((evSs (P.call n) P.consts (cUlawUbends.body.take 2 ++ ((cUlawUbends.body.drop 2).take 1 ++ cUlawUbends.body.drop 3)) [some (.r 0), some (.p (.tuple ds)), none, none, none] (c :: T)).bind fun f S1 => match f with
      | .nx _ => finish (T.length + 1) (.p .none) S1
      | .rt v => finish (T.length + 1) v S1
      | _ => .bad) fun v S' => ∃ xs c', v = .p (.list xs) ∧ S' = c' :: T ∧ IsPool c' ∧ xs.length ≤ 100 ∧ ∀ x ∈ xs, Nc (k + 3) x := by
    rw [evSs_append, bends_1, bind_ok]
    simp only []
    rw [evSs_append, e2, bind_ok]
    simp only []
    rw [sat_bind]
    refine sat_mono e3 fun f S' ⟨⟨xs, q1, q2⟩, c', q3, q4⟩ => ?_
    subst q1 q3
    simp [q4, q2.1]
    exact q2.2
  obtain ⟨v, S', q, xs, c', rfl, rfl, z1, z2⟩ := run_sat (fn := cUlawUbends) (vs := [.r 0, .p (.tuple ds)]) rfl e4
  exact ⟨xs, c', q, z1, z2⟩
end
end Lw

set_option Elab.async false
set_option linter.all false
set_option autoImplicit false
set_option maxRecDepth 100000
/-! More codes of defs that many laws share (printed by gen.py). -/
namespace Lw
open PySem Pl
/-- first_true -/
def cfirstUtrue : Fn := ⟨"first_true", 1, 2, [
  .forr 1 [] (.bi .len [(.var 0)]) [.ite (.idx (.var 0) (.var 1)) [.ret (.var 1)] []],
  .ret (.con .none)]⟩
/-- _law_is_row -/
def cUlawUisUrow : Fn := ⟨"_law_is_row", 4, 5, [
  .ite (.or (.not (.isi (.var 0) .tuple)) (.and (.cmp .isn (.var 1) (.con .none)) (.cmp .ne (.bi .len [(.var 0)]) (.var 1)))) [.ret (.con (.bool false))] [],
  .ret (.cmp .eq (.bi .len [(.lc [4] [4] false (.var 0) [(.or (.not (.call "_law_is_integer" [(.var 4)])) (.or (.cmp .lt (.var 4) (.var 2)) (.cmp .gt (.var 4) (.var 3))))] (.var 4))]) (.con (.int 0)))]⟩
/-- _law_least -/
def cUlawUleast : Fn := ⟨"_law_least", 1, 1, [
  .ret (.ite (.cmp .ne (.var 0) (.lst [])) (.bi .min [(.var 0)]) (.con .none))]⟩
/-- _law_theorem -/
def cUlawUtheorem : Fn := ⟨"_law_theorem", 1, 7, [
  .forr 1 [] (.con (.int 6)) [.asg 3 (.call "_law_some" [(.var 0), (.bin .add (.con (.int 1)) (.call "_law_draw" [(.var 0), (.con (.int 3))])), (.bin .add (.con (.int 1)) (.call "_law_draw" [(.var 0), (.con (.int 3))]))]), .ite (.call "_law_true" [(.var 3)]) [.ret (.var 3)] []],
  .par [4, 5, 6] [(.call "_law_some" [(.var 0), (.con (.int 1)), (.con (.int 3))]), (.call "_law_some" [(.var 0), (.con (.int 1)), (.con (.int 3))]), (.tup [(.con (.str "letter")), (.call "_law_draw" [(.var 0), (.con (.int 3))])])],
  .asg 2 (.lst [(.tup [(.con (.str "if")), (.var 4), (.var 4)]), (.tup [(.con (.str "if")), (.var 4), (.tup [(.con (.str "if")), (.var 5), (.var 4)])]), (.tup [(.con (.str "or")), (.var 4), (.call "_law_not" [(.var 4)])]), (.tup [(.con (.str "if")), (.tup [(.con (.str "if")), (.tup [(.con (.str "if")), (.var 4), (.var 5)]), (.var 4)]), (.var 4)]), (.tup [(.con (.str "if")), (.tup [(.con (.str "and")), (.var 4), (.var 5)]), (.tup [(.con (.str "or")), (.var 6), (.var 5)])]), (.tup [(.con (.str "if")), (.call "_law_not" [(.call "_law_not" [(.var 4)])]), (.var 4)])]),
  .asg 2 (.bin .add (.var 2) (.lst [(.tup [(.con (.str "if")), (.tup [(.con (.str "if")), (.var 4), (.var 5)]), (.tup [(.con (.str "if")), (.tup [(.con (.str "if")), (.var 5), (.var 6)]), (.tup [(.con (.str "if")), (.var 4), (.var 6)])])]), (.tup [(.con (.str "or")), (.tup [(.con (.str "if")), (.var 4), (.var 5)]), (.tup [(.con (.str "if")), (.var 5), (.var 4)])]), (.tup [(.con (.str "if")), (.tup [(.con (.str "or")), (.var 4), (.var 5)]), (.tup [(.con (.str "or")), (.var 5), (.var 4)])])])),
  .asg 2 (.bin .add (.var 2) (.lst [(.tup [(.con (.str "if")), (.tup [(.con (.str "and")), (.var 4), (.tup [(.con (.str "or")), (.var 5), (.var 6)])]), (.tup [(.con (.str "or")), (.tup [(.con (.str "and")), (.var 4), (.var 5)]), (.tup [(.con (.str "and")), (.var 4), (.var 6)])])])])),
  .ret (.call "_law_pick" [(.var 0), (.var 2)])]⟩
/-- _law_first -/
def cUlawUfirst : Fn := ⟨"_law_first", 1, 2, [
  .for_ [1] false (.var 0) [.ite (.cmp .isn (.idx (.var 1) (.con (.int 1))) (.con .none)) [.ret (.var 1)] []],
  .ret (.con .none)]⟩
end Lw

set_option Elab.async false
set_option linter.all false
set_option autoImplicit false
set_option maxRecDepth 100000
set_option maxHeartbeats 0
/-! PLH: drawn theorems; first places; rows of bits. -/
namespace Lw
open PySem PySem.Spec Pl L2

/-! ### displays, item by item -/
section
variable {cl : CallF} {g : Str → Option D} {ρ : Rho} {S : Store}
theorem ev_sc {e : Ex} {es : List Ex} {d : D} {ds : List D} (h : ev cl g e ρ S = .ok (.p d) S) (h2 : evs cl g es ρ S = .ok (ds.map Vl.p) S) : evs cl g (e :: es) ρ S = .ok ((d :: ds).map Vl.p) S := by
  simp [h, h2]
theorem ev_sn : evs cl g [] ρ S = .ok (([] : List D).map Vl.p) S := rfl
theorem pureAll_map : ∀ ds : List D, pureAll (ds.map Vl.p) = some ds
  | [] => rfl
  | d :: ds => by simp [pureAll_map ds]
theorem ev_l {es : List Ex} {ds : List D} (h : evs cl g es ρ S = .ok (ds.map Vl.p) S) (hl : ds.length ≤ 1000) : ev cl g (.lst es) ρ S = .ok (.p (.list ds)) S := by
  have : ds.length ≤ 16777216 := by omega
  simp [h, pureAll_map, this]
theorem ev_t {es : List Ex} {ds : List D} (h : evs cl g es ρ S = .ok (ds.map Vl.p) S) (hl : ds.length ≤ 1000) : ev cl g (.tup es) ρ S = .ok (.p (.tuple ds)) S := by
  have : ds.length ≤ 16777216 := by omega
  simp [h, pureAll_map, this]
theorem ev_v {i : Nat} {v : Vl} (h : ρ[i]? = some (some v)) : ev cl g (.var i) ρ S = .ok v S := by simp [h]
theorem ev_k {d : D} : ev cl g (.con d) ρ S = .ok (.p d) S := rfl
/-- a pair of formulas -/
theorem ev_bi {q : Con} {a b : Ex} {f k : Fm} (ha : ev cl g a ρ S = .ok (.p f.d) S) (hb : ev cl g b ρ S = .ok (.p k.d) S) : ev cl g (.tup [.con (.str q.s), a, b]) ρ S = .ok (.p (Fm.bi q f k).d) S :=
  ev_t (ds := [.str q.s, f.d, k.d]) (ev_sc ev_k (ev_sc ha (ev_sc hb ev_sn))) (by simp)
theorem ev_no {a : Ex} {f : Fm} (h : ∀ S, cl "_law_not" [.p f.d] S = .ok (.p (Fm.bi .i f .ff).d) S) (ha : ev cl g a ρ S = .ok (.p f.d) S) : ev cl g (.call "_law_not" [a]) ρ S = .ok (.p (Fm.bi .i f .ff).d) S := by
  simp [ha, h]
theorem ev_cat {a b : Ex} {xs ys : List D} (ha : ev cl g a ρ S = .ok (.p (.list xs)) S) (hb : ev cl g b ρ S = .ok (.p (.list ys)) S) (hl : xs.length + ys.length ≤ 1000) : ev cl g (.bin .add a b) ρ S = .ok (.p (.list (xs ++ ys))) S := by
  have : xs.length + ys.length ≤ 16777216 := by omega
  simp [ha, hb, this]
theorem asg_ok {i : Nat} {e : Ex} {v : Vl} {S1 : Store} (h : ev cl g e ρ S = .ok v S1) : evS cl g (.asg i e) ρ S = .ok (.nx (ρ.set i (some v))) S1 := by simp [h]
theorem ss_nx {s : Sm} {ss : List Sm} {ρ1 : Rho} {S1 : Store} (h : evS cl g s ρ S = .ok (.nx ρ1) S1) : evSs cl g (s :: ss) ρ S = evSs cl g ss ρ1 S1 := by simp [h]
end
def thms (a b c : Fm) : List Fm :=
  let no := fun x => Fm.bi .i x .ff
  [.bi .i a a, .bi .i a (.bi .i b a), .bi .o a (no a), .bi .i (.bi .i (.bi .i a b) a) a, .bi .i (.bi .a a b) (.bi .o c b), .bi .i (no (no a)) a,
   .bi .i (.bi .i a b) (.bi .i (.bi .i b c) (.bi .i a c)), .bi .o (.bi .i a b) (.bi .i b a), .bi .i (.bi .o a b) (.bi .o b a),
   .bi .i (.bi .a a (.bi .o b c)) (.bi .o (.bi .a a b) (.bi .a a c))]
theorem thms_ok {m : Nat} {a b c : Fm} (ha : a.in_ m ∧ a.ht ≤ 1) (hb : b.in_ m ∧ b.ht ≤ 1) (hc : c.in_ m ∧ c.ht ≤ 0) : ∀ f ∈ thms a b c, f.in_ m ∧ f.ht ≤ 4 := by
  intro f hf
  obtain ⟨a1, a2⟩ := ha
  obtain ⟨b1, b2⟩ := hb
  obtain ⟨c1, c2⟩ := hc
  simp only [thms, List.mem_cons, List.not_mem_nil, or_false] at hf
  rcases hf with rfl | rfl | rfl | rfl | rfl | rfl | rfl | rfl | rfl | rfl <;> simp only [Fm.in_, Fm.ht, a1, b1, c1, and_true, true_and] <;> omega
/-- a formula that the law draws -/
def Drawn (f : Fm) : Prop := (f.in_ 3 ∧ f.ht ≤ 3) ∨ ∃ a b k : Fm, (a.in_ 3 ∧ a.ht ≤ 1) ∧ (b.in_ 3 ∧ b.ht ≤ 1) ∧ (k.in_ 3 ∧ k.ht ≤ 0) ∧ f ∈ thms a b k
theorem Drawn.small {f : Fm} (h : Drawn f) : f.in_ 3 ∧ f.ht ≤ 4 := by
  rcases h with ⟨h1, h2⟩ | ⟨a, b, k, ha, hb, hk, h⟩
  · exact ⟨h1, by omega⟩
  · exact thms_ok ha hb hk f h
theorem Drawn.in4 {f : Fm} (h : Drawn f) : f.in_ 4 := h.small.1.mono (by omega)
section
variable {P : Prog} (hd : Has P cUlawUdraw) (hs : Has P cUlawUspread)
include hd hs
/-- the end of the law's theorem: one of ten -/
theorem lthm_end (hsome : Has P cUlawUsome) (hp : Has P cUlawUpick) (hn0 : Has P cUlawUnot) {n : Nat} (hn : 6 ≤ n) {c : Cell} (T : Store) (hc : IsPool c) {y1 y2 y3 y4 y5 y6 : Option Vl} :
    ∃ (f : Fm) (c' : Cell), evSs (P.call n) P.consts (cUlawUtheorem.body.drop 1) [some (.r 0), y1, y2, y3, y4, y5, y6] (c :: T) = .ok (.rt (.p f.d)) (c' :: T) ∧ IsPool c' ∧ Drawn f := by
  obtain ⟨a, c1, e1, h1, a1, a2⟩ := e_some hd hs hsome (l := 3) (by omega) (by omega) 1 n c T (by omega) hc
  obtain ⟨b, c2, e2, h2, b1, b2⟩ := e_some hd hs hsome (l := 3) (by omega) (by omega) 1 n c1 T (by omega) h1
  obtain ⟨v, c3, e3, h3, v1, v2⟩ := e_draw hd hs (n := n) (by omega) T h2 (m := 3) (by omega) (by omega)
  have hno := fun (f : Fm) S => e_lnot hn0 (n := n) (by omega) f S
  have hl : (Fm.lt v.toNat).d = .tuple [.str "letter", .int v] := by simp [Fm.d, Int.toNat_of_nonneg v1]
  have ok : ∀ f ∈ thms a b (.lt v.toNat), Drawn f := fun f hf => .inr ⟨a, b, .lt v.toNat, ⟨a1, a2⟩, ⟨b1, b2⟩, ⟨show v.toNat < 3 by omega, Nat.le_refl _⟩, hf⟩
  obtain ⟨x, c4, e4, h4, hx⟩ := e_pick hd hs hp (n := n) (by omega) T h3 (xs := (thms a b (.lt v.toNat)).map Fm.d) (by simp [thms]) (by simp [thms])
  obtain ⟨f, hf, rfl⟩ := List.mem_map.mp hx
  refine ⟨f, c4, ?_, h4, ok f hf⟩
  rw [show ((1 : Nat) : Int) = 1 from rfl, show ((3 : Nat) : Int) = 3 from rfl] at e1 e2
  have p1 : evS (P.call n) P.consts (cUlawUtheorem.body.getD 1 .pass) [some (.r 0), y1, y2, y3, y4, y5, y6] (c :: T) = .ok (.nx [some (.r 0), y1, y2, y3, some (.p a.d), some (.p b.d), some (.p (Fm.lt v.toNat).d)]) (c3 :: T) := by
    rw [hl]
    simp [cUlawUtheorem, e1, e2, e3]
  generalize hS : c3 :: T = S at p1 e4
  generalize Fm.lt v.toNat = k at p1 e4 ok
  have no : ∀ {ρ : Rho} {e : Ex} {x : Fm}, ev (P.call n) P.consts e ρ S = .ok (.p x.d) S → ev (P.call n) P.consts (.call "_law_not" [e]) ρ S = .ok (.p (Fm.bi .i x .ff).d) S := fun h => ev_no (hno _) h
  have l1 : ∀ {ρ : Rho}, ρ[4]? = some (some (.p a.d)) → ρ[5]? = some (some (.p b.d)) → ρ[6]? = some (some (.p k.d)) → evS (P.call n) P.consts (cUlawUtheorem.body.getD 2 .pass) ρ S = .ok (.nx (ρ.set 2 (some (.p (.list (((thms a b k).take 6).map Fm.d)))))) S := fun {ρ} h4 h5 h6 => by
    have va := ev_v (cl := P.call n) (g := P.consts) (S := S) h4
    have vb := ev_v (cl := P.call n) (g := P.consts) (S := S) h5
    have vc := ev_v (cl := P.call n) (g := P.consts) (S := S) h6
    exact asg_ok (ev_l (ev_sc (ev_bi (q := .i) va va) (ev_sc (ev_bi (q := .i) va (ev_bi (q := .i) vb va)) (ev_sc (ev_bi (q := .o) va (no va)) (ev_sc (ev_bi (q := .i) (ev_bi (q := .i) (ev_bi (q := .i) va vb) va) va) (ev_sc (ev_bi (q := .i) (ev_bi (q := .a) va vb) (ev_bi (q := .o) vc vb)) (ev_sc (ev_bi (q := .i) (no (no va)) va) ev_sn)))))) (Nat.le_of_ble_eq_true rfl))
  have l2 : ∀ {ρ : Rho}, ρ[2]? = some (some (.p (.list (((thms a b k).take 6).map Fm.d)))) → ρ[4]? = some (some (.p a.d)) → ρ[5]? = some (some (.p b.d)) → ρ[6]? = some (some (.p k.d)) → evS (P.call n) P.consts (cUlawUtheorem.body.getD 3 .pass) ρ S = .ok (.nx (ρ.set 2 (some (.p (.list (((thms a b k).take 9).map Fm.d)))))) S := fun {ρ} h2 h4 h5 h6 => by
    have v2 := ev_v (cl := P.call n) (g := P.consts) (S := S) h2
    have va := ev_v (cl := P.call n) (g := P.consts) (S := S) h4
    have vb := ev_v (cl := P.call n) (g := P.consts) (S := S) h5
    have vc := ev_v (cl := P.call n) (g := P.consts) (S := S) h6
    exact asg_ok (ev_cat v2 (ev_l (ev_sc (ev_bi (q := .i) (ev_bi (q := .i) va vb) (ev_bi (q := .i) (ev_bi (q := .i) vb vc) (ev_bi (q := .i) va vc))) (ev_sc (ev_bi (q := .o) (ev_bi (q := .i) va vb) (ev_bi (q := .i) vb va)) (ev_sc (ev_bi (q := .i) (ev_bi (q := .o) va vb) (ev_bi (q := .o) vb va)) ev_sn))) (Nat.le_of_ble_eq_true rfl)) (Nat.le_of_ble_eq_true rfl))
  have l3 : ∀ {ρ : Rho}, ρ[2]? = some (some (.p (.list (((thms a b k).take 9).map Fm.d)))) → ρ[4]? = some (some (.p a.d)) → ρ[5]? = some (some (.p b.d)) → ρ[6]? = some (some (.p k.d)) → evS (P.call n) P.consts (cUlawUtheorem.body.getD 4 .pass) ρ S = .ok (.nx (ρ.set 2 (some (.p (.list ((thms a b k).map Fm.d)))))) S := fun {ρ} h2 h4 h5 h6 => by
    have v2 := ev_v (cl := P.call n) (g := P.consts) (S := S) h2
    have va := ev_v (cl := P.call n) (g := P.consts) (S := S) h4
    have vb := ev_v (cl := P.call n) (g := P.consts) (S := S) h5
    have vc := ev_v (cl := P.call n) (g := P.consts) (S := S) h6
    exact asg_ok (ev_cat v2 (ev_l (ev_sc (ev_bi (q := .i) (ev_bi (q := .a) va (ev_bi (q := .o) vb vc)) (ev_bi (q := .o) (ev_bi (q := .a) va vb) (ev_bi (q := .a) va vc))) ev_sn) (Nat.le_of_ble_eq_true rfl)) (Nat.le_of_ble_eq_true rfl))
  show evSs (P.call n) P.consts [cUlawUtheorem.body.getD 1 .pass, cUlawUtheorem.body.getD 2 .pass, cUlawUtheorem.body.getD 3 .pass, cUlawUtheorem.body.getD 4 .pass, .ret (.call "_law_pick" [.var 0, .var 2])] _ _ = _
  rw [ss_nx p1, ss_nx (l1 rfl rfl rfl), ss_nx (l2 rfl rfl rfl rfl), ss_nx (l3 rfl rfl rfl rfl)]
  simp [e4]
/-- a drawn theorem -/
theorem e_lthm (hsome : Has P cUlawUsome) (hp : Has P cUlawUpick) (hn0 : Has P cUlawUnot) (hle : Has P cUlawUletters) (hr : Has P cUlawUrows) (hv : Has P cUlawUvalue) (ht : Has P cUlawUtrue) (h : Has P cUlawUtheorem) {n : Nat} (hn : 12 ≤ n) {c : Cell} (T : Store) (hc : IsPool c) :
    ∃ (f : Fm) (c' : Cell), P.call n "_law_theorem" [.r 0] (c :: T) = .ok (.p f.d) (c' :: T) ∧ IsPool c' ∧ Drawn f := by
  obtain ⟨n, rfl, hm⟩ := pred hn
  rw [show ("_law_theorem" : Str) = cUlawUtheorem.name from rfl, h.call]
  have r6 : rngOk 6 = true := rng_ok (by omega) (by omega)
  have key : sat (evSs (P.call n) P.consts (cUlawUtheorem.body.take 1 ++ cUlawUtheorem.body.drop 1) [some (.r 0), none, none, none, none, none, none] (c :: T)) fun fl S' => ∃ (f : Fm) (c' : Cell), fl = .rt (.p f.d) ∧ S' = c' :: T ∧ IsPool c' ∧ Drawn f := by
    rw [evSs_append, sat_bind]
    have lend := fun (c : Cell) (hc : IsPool c) (y1 y2 y3 y4 y5 y6 : Option Vl) => lthm_end hd hs hsome hp hn0 (n := n) (by omega) T hc (y1 := y1) (y2 := y2) (y3 := y3) (y4 := y4) (y5 := y5) (y6 := y6)
    generalize hB : cUlawUtheorem.body.drop 1 = B at lend
    simp [cUlawUtheorem, rng0, r6]
    generalize rangeD 0 6 = xs
    refine for_satL (fun pre ρ S' => ∃ c1 y1 y3, S' = c1 :: T ∧ IsPool c1 ∧ ρ = [some (.r 0), y1, none, y3, none, none, none]) (all := xs) (pre := []) ?_ ?_ rfl ⟨c, none, none, rfl, hc, rfl⟩
    · intro pre x post _ ρ S' ⟨c1, y1, y3, q1, q2, q3⟩
      subst q1 q3
      obtain ⟨u, c2, e2, h2, u1, u2⟩ := e_draw hd hs (n := n) (by omega) T q2 (m := 3) (by omega) (by omega)
      obtain ⟨v, c3, e3, h3, v1, v2⟩ := e_draw hd hs (n := n) (by omega) T h2 (m := 3) (by omega) (by omega)
      obtain ⟨f, c4, e4, h4, f1, f2⟩ := e_some hd hs hsome (l := 1 + v.toNat) (by omega) (by omega) (1 + u.toNat) n c3 T (by omega) h3
      rw [show ((1 + u.toNat : Nat) : Int) = 1 + u by omega, show ((1 + v.toNat : Nat) : Int) = 1 + v by omega] at e4
      have e5 := e_ltrue hle hr hv ht f (f1.mono (by omega)) (n := n) (by omega) (c4 :: T)
      cases q : thm f with
      | true =>
        rw [q] at e5
        simp [e2, e3, e4, e5]
        exact ⟨f, rfl, h4, .inl ⟨f1.mono (by omega), by omega⟩⟩
      | false =>
        rw [q] at e5
        simp [e2, e3, e4, e5]
        exact h4
    · intro ρ S' ⟨c1, y1, y3, q1, q2, q3⟩
      subst q1 q3
      obtain ⟨f, c', e, r1, r2⟩ := lend c1 q2 y1 none y3 none none none
      simp only [e, sat_ok]
      exact ⟨f, rfl, c', rfl, r1, r2⟩
  obtain ⟨v, S', e, f, c', rfl, rfl, r⟩ := run_sat (fn := cUlawUtheorem) (vs := [.r 0]) (S := c :: T) (Q := fun v S' => ∃ (f : Fm) (c' : Cell), v = .p f.d ∧ S' = c' :: T ∧ IsPool c' ∧ Drawn f) rfl (by
    rw [sat_bind]
    refine sat_mono key fun fl S' ⟨f, c', q1, q2, q3⟩ => ?_
    subst q1 q2
    simp only [finish_p, sat_ok]
    exact ⟨f, c', rfl, by simp, q3⟩)
  exact ⟨f, c', e, r⟩
theorem e_formulaD (h : Has P cUlawUsome) (h' : Has P cUlawUformula) {n : Nat} (hn : 9 ≤ n) {c : Cell} (T : Store) (hc : IsPool c) :
    ∃ (f : Fm) (c' : Cell), P.call n "_law_formula" [.r 0] (c :: T) = .ok (.p f.d) (c' :: T) ∧ IsPool c' ∧ f.in_ 3 ∧ f.ht ≤ 3 := by
  obtain ⟨n, rfl⟩ : ∃ m, n = m + 1 := ⟨n - 1, by omega⟩
  rw [show ("_law_formula" : Str) = cUlawUformula.name from rfl, h'.call]
  obtain ⟨u, c0, e0, hc0, b1, b2⟩ := e_draw hd hs (n := n) (by omega) T hc (m := 4) (by omega) (by omega)
  obtain ⟨v, c1, e1, hc1, b3, b4⟩ := e_draw hd hs (n := n) (by omega) T hc0 (m := 3) (by omega) (by omega)
  obtain ⟨f, c2, e2, hc2, i2, t2⟩ := e_some hd hs h (l := 1 + v.toNat) (by omega) (by omega) u.toNat n c1 T (by omega) hc1
  rw [Int.toNat_of_nonneg b1, show ((1 + v.toNat : Nat) : Int) = 1 + v by omega] at e2
  exact ⟨f, c2, by simp [cUlawUformula, e0, e1, e2], hc2, i2.mono (by omega), by omega⟩
end
end Lw

set_option Elab.async false
set_option linter.all false
set_option autoImplicit false
set_option maxRecDepth 100000
set_option maxHeartbeats 0
/-! PLI: one statement at a time; comprehensions that keep the store. -/
namespace Lw
open PySem PySem.Spec Pl L2

/-! ### comprehensions that keep the store -/
theorem lc_map {f : D → Store → Res (Option D)} {q : D → D} {xs : List D} {S : Store} (h : ∀ d ∈ xs, f d S = .ok (some (q d)) S) : mapR f xs S = .ok (xs.map q) S := by
  rw [map_det (fun d => some (q d)) h]
  congr 1
  exact congrFun (List.filterMap_eq_map (f := q)) xs
theorem filterMap_if {α β : Type} (p : α → Bool) (q : α → β) (xs : List α) : xs.filterMap (fun d => if p d then some (q d) else none) = (xs.filter p).map q := by
  induction xs with
  | nil => rfl
  | cons x xs ih => cases hp : p x <;> simp [List.filterMap_cons, List.filter_cons, hp, ih]
theorem lc_filter {f : D → Store → Res (Option D)} {p : D → Bool} {q : D → D} {xs : List D} {S : Store} (h : ∀ d ∈ xs, f d S = .ok (if p d then some (q d) else none) S) : mapR f xs S = .ok ((xs.filter p).map q) S := by
  rw [map_det (fun d => if p d then some (q d) else none) h, filterMap_if]
theorem rangeD_nat {n : Nat} : rangeD 0 (n : Int) = (List.range n).map fun k => .int (k : Nat) := by
  unfold rangeD
  rw [show ((n : Int) - 0).toNat = n by omega]
  exact List.map_congr_left fun k _ => by rw [Int.zero_add]
theorem lcr_map {n : Nat} {f : D → Store → Res (Option D)} {q : Nat → D} {S : Store} (h : ∀ i, i < n → f (.int (i : Nat)) S = .ok (some (q i)) S) : mapR f (rangeD 0 (n : Int)) S = .ok ((List.range n).map q) S := by
  rw [rangeD_nat, map_detM (fun k : Nat => PyData.int (k : Nat)) (fun k => some (q k)) fun k hk => h k (List.mem_range.mp hk)]
  congr 1
  exact congrFun (List.filterMap_eq_map (f := q)) _
theorem lcr_filter {n : Nat} {f : D → Store → Res (Option D)} {p : Nat → Bool} {q : Nat → D} {S : Store} (h : ∀ i, i < n → f (.int (i : Nat)) S = .ok (if p i then some (q i) else none) S) : mapR f (rangeD 0 (n : Int)) S = .ok (((List.range n).filter p).map q) S := by
  rw [rangeD_nat, map_detM (fun k : Nat => PyData.int (k : Nat)) (fun k => if p k then some (q k) else none) fun k hk => h k (List.mem_range.mp hk), filterMap_if]
theorem lenOk {n : Nat} (h : n ≤ 100000) : okLen n = true := by
  unfold okLen
  exact decide_eq_true (Nat.le_trans h (by decide))
theorem rng_nat {m : Nat} (h : m ≤ 100000) : rngOk (m : Int) = true := by
  unfold rngOk
  exact Nat.ble_eq_true_of_le (by omega)
section
variable {cl : CallF} {g : Str → Option D} {ρ ρ1 : Rho} {S S1 S2 : Store} {vs ts : List Nat} {tup : Bool} {it c e : Ex} {x : Vl} {xs : List D}
theorem ev_lcm {q : D → D} (hi : ev cl g it ρ S = .ok x S1) (hx : itemsOf x = some xs) (hl : xs.length ≤ 100000)
    (h : ∀ d ∈ xs, ∃ ρ2, bindT (wipeR ρ vs) ts tup d = some ρ2 ∧ ev cl g e ρ2 S1 = .ok (.p (q d)) S1) : ev cl g (.lc vs ts tup it [] e) ρ S = .ok (.p (.list (xs.map q))) S1 := by
  have ho : okLen (xs.map q).length = true := by rw [List.length_map]; exact lenOk hl
  rw [qev_27, hi, bind_ok]
  simp only [hx]
  rw [lc_map (q := q) fun d hd => ?_]
  · simp only [noX_ok, bind_ok, ho, if_true]
  · obtain ⟨ρ2, e1, e2⟩ := h d hd
    simp only [e1, qevc_1, bind_ok, if_true, e2]
theorem ev_lcmM {α : Type} {k : α → D} {as : List α} {q : α → D} (hi : ev cl g it ρ S = .ok x S1) (hx : itemsOf x = some (as.map k)) (hl : as.length ≤ 100000)
    (h : ∀ a ∈ as, ∃ ρ2, bindT (wipeR ρ vs) ts tup (k a) = some ρ2 ∧ ev cl g e ρ2 S1 = .ok (.p (q a)) S1) : ev cl g (.lc vs ts tup it [] e) ρ S = .ok (.p (.list (as.map q))) S1 := by
  have ho : okLen (as.map q).length = true := by rw [List.length_map]; exact lenOk hl
  rw [qev_27, hi, bind_ok]
  simp only [hx]
  rw [map_detM k (fun a => some (q a)) fun a ha => ?_]
  · rw [show as.filterMap (fun a => some (q a)) = as.map q from congrFun (List.filterMap_eq_map (f := q)) as]
    simp only [noX_ok, bind_ok, ho, if_true]
  · obtain ⟨ρ2, e1, e2⟩ := h a ha
    simp only [e1, qevc_1, bind_ok, if_true, e2]
theorem ev_lcfM {α : Type} {k : α → D} {as : List α} {p : α → Bool} {q : α → D} (hi : ev cl g it ρ S = .ok x S1) (hx : itemsOf x = some (as.map k)) (hl : as.length ≤ 100000)
    (h : ∀ a ∈ as, ∃ ρ2, bindT (wipeR ρ vs) ts tup (k a) = some ρ2 ∧ ev cl g c ρ2 S1 = .ok (.p (.bool (p a))) S1 ∧ (p a = true → ev cl g e ρ2 S1 = .ok (.p (q a)) S1)) : ev cl g (.lc vs ts tup it [c] e) ρ S = .ok (.p (.list ((as.filter p).map q))) S1 := by
  have ho : okLen ((as.filter p).map q).length = true := by rw [List.length_map]; exact lenOk (Nat.le_trans (List.length_filter_le _ _) hl)
  rw [qev_27, hi, bind_ok]
  simp only [hx]
  rw [map_detM k (fun a => if p a then some (q a) else none) fun a ha => ?_]
  · rw [filterMap_if]
    simp only [noX_ok, bind_ok, ho, if_true]
  · obtain ⟨ρ2, e1, e2, e3⟩ := h a ha
    cases hp : p a with
    | true =>
      rw [hp] at e2
      simp only [e1, qevc_2, qevc_1, bind_ok, if_true, e2, asB_b, e3 hp]
    | false =>
      rw [hp] at e2
      simp [e1, e2]
theorem ev_lcf {p : D → Bool} {q : D → D} (hi : ev cl g it ρ S = .ok x S1) (hx : itemsOf x = some xs) (hl : xs.length ≤ 100000)
    (h : ∀ d ∈ xs, ∃ ρ2, bindT (wipeR ρ vs) ts tup d = some ρ2 ∧ ev cl g c ρ2 S1 = .ok (.p (.bool (p d))) S1 ∧ (p d = true → ev cl g e ρ2 S1 = .ok (.p (q d)) S1)) : ev cl g (.lc vs ts tup it [c] e) ρ S = .ok (.p (.list ((xs.filter p).map q))) S1 :=
  ev_lcfM (k := id) hi (by rw [hx, List.map_id]) hl h
theorem ev_rm {n : Nat} {t : Nat} {q : Nat → D} (hi : ev cl g it ρ S = .ok (.p (.int (n : Nat))) S1) (hl : n ≤ 100000)
    (h : ∀ i, i < n → ev cl g e ((wipeR ρ vs).set t (some (.p (.int (i : Nat))))) S1 = .ok (.p (q i)) S1) : ev cl g (.lcr vs t [] it [] e) ρ S = .ok (.p (.list ((List.range n).map q))) S1 := by
  have ho : okLen ((List.range n).map q).length = true := by rw [List.length_map, List.length_range]; exact lenOk hl
  have r0 : rngOk 0 = true := rng0
  rw [qev_28, qevs_1, bind_ok, hi, bind_ok]
  simp only [r0, rng_nat hl, Bool.and_self, if_true]
  rw [lcr_map (q := q) fun i hi => ?_]
  · simp only [noX_ok, bind_ok, ho, if_true]
  · simp only [qevc_1, bind_ok, if_true, h i hi]
theorem ev_rf {n : Nat} {t : Nat} {p : Nat → Bool} {q : Nat → D} (hi : ev cl g it ρ S = .ok (.p (.int (n : Nat))) S1) (hl : n ≤ 100000)
    (h : ∀ i, i < n → ev cl g c ((wipeR ρ vs).set t (some (.p (.int (i : Nat))))) S1 = .ok (.p (.bool (p i))) S1 ∧ (p i = true → ev cl g e ((wipeR ρ vs).set t (some (.p (.int (i : Nat))))) S1 = .ok (.p (q i)) S1)) : ev cl g (.lcr vs t [] it [c] e) ρ S = .ok (.p (.list (((List.range n).filter p).map q))) S1 := by
  have ho : okLen (((List.range n).filter p).map q).length = true := by
    rw [List.length_map]
    refine lenOk (Nat.le_trans (List.length_filter_le _ _) ?_)
    rwa [List.length_range]
  have r0 : rngOk 0 = true := rng0
  rw [qev_28, qevs_1, bind_ok, hi, bind_ok]
  simp only [r0, rng_nat hl, Bool.and_self, if_true]
  rw [lcr_filter (p := p) (q := q) fun i hi => ?_]
  · simp only [noX_ok, bind_ok, ho, if_true]
  · obtain ⟨e2, e3⟩ := h i hi
    cases hp : p i with
    | true =>
      rw [hp] at e2
      simp only [qevc_2, qevc_1, bind_ok, if_true, e2, asB_b, e3 hp]
    | false =>
      rw [hp] at e2
      simp [e2]
/-! ### statements -/
variable {s : Sm} {ss a b : List Sm} {v : Vl} {y : Xn}
theorem ss_rt (h : evS cl g s ρ S = .ok (.rt v) S1) : evSs cl g (s :: ss) ρ S = .ok (.rt v) S1 := by simp [h]
theorem ss_xn (h : evS cl g s ρ S = .exn y S1) : evSs cl g (s :: ss) ρ S = .exn y S1 := by simp [h]
theorem ss_nil : evSs cl g [] ρ S = .ok (.nx ρ) S := rfl
theorem ret_ok (h : ev cl g e ρ S = .ok v S1) : evS cl g (.ret e) ρ S = .ok (.rt v) S1 := by simp [h]
theorem ite_t (h : ev cl g c ρ S = .ok (.p (.bool true)) S1) : evS cl g (.ite c a b) ρ S = evSs cl g a ρ S1 := by simp [h]
theorem ite_f (h : ev cl g c ρ S = .ok (.p (.bool false)) S1) : evS cl g (.ite c a b) ρ S = evSs cl g b ρ S1 := by simp [h]
theorem ite_n (h : ev cl g c ρ S = .ok (.p (.bool false)) S1) : evS cl g (.ite c a []) ρ S = .ok (.nx ρ) S1 := by simp [h]
theorem forR_nx {b : D → Rho → Store → Res Fl} {d : D} {ds : List D} (h : b d ρ S = .ok (.nx ρ1) S1) : forR b (d :: ds) ρ S = forR b ds ρ1 S1 := by simp [forR, h]
theorem for_ok {b : List Sm} {r : Res Fl} (h : ev cl g it ρ S = .ok x S1) (hx : itemsOf x = some xs) (hr : forR (fun d ρ S => match bindT ρ ts tup d with
        | some ρ2 => evSs cl g b ρ2 S
        | none => .bad) xs ρ S1 = r) : evS cl g (.for_ ts tup it b) ρ S = r := by
  rw [qevS_11, h, bind_ok]
  simp only [hx]
  exact hr
theorem run_rt {fn : Fn} {vs : List Vl} {d : D} (hl : vs.length = fn.params) (h : evSs cl g fn.body (vs.map some ++ List.replicate (fn.slots - vs.length) none) S = .ok (.rt (.p d)) S) : runFn cl g fn vs S = .ok (.p d) S := by
  unfold runFn
  rw [if_pos hl, h]
  simp
theorem run_rk {fn : Fn} {vs : List Vl} {d : D} {S' : Store} (hl : vs.length = fn.params) (h : evSs cl g fn.body (vs.map some ++ List.replicate (fn.slots - vs.length) none) S = .ok (.rt (.p d)) S') (hS : S'.take S.length = S) : runFn cl g fn vs S = .ok (.p d) S := by
  unfold runFn
  rw [if_pos hl, h]
  simp [hS]
theorem run_re {fn : Fn} {vs : List Vl} {d : D} (hl : vs.length = fn.params) (h : ∃ S', evSs cl g fn.body (vs.map some ++ List.replicate (fn.slots - vs.length) none) S = .ok (.rt (.p d)) S' ∧ S'.take S.length = S) : runFn cl g fn vs S = .ok (.p d) S := by
  obtain ⟨S', h, hS⟩ := h
  exact run_rk hl h hS
theorem take_1 {S : Store} {c : Cell} : (S ++ [c]).take S.length = S := by simp
theorem take_2 {S : Store} {c d : Cell} : (S ++ [c] ++ [d]).take S.length = S := by simp
theorem run_nx {fn : Fn} {vs : List Vl} (hl : vs.length = fn.params) (h : evSs cl g fn.body (vs.map some ++ List.replicate (fn.slots - vs.length) none) S = .ok (.nx ρ) S) : runFn cl g fn vs S = .ok (.p .none) S := by
  unfold runFn
  rw [if_pos hl, h]
  simp
theorem run_xn {fn : Fn} {vs : List Vl} (hl : vs.length = fn.params) (h : evSs cl g fn.body (vs.map some ++ List.replicate (fn.slots - vs.length) none) S = .exn y S) : runFn cl g fn vs S = .exn y S := by
  unfold runFn
  rw [if_pos hl, h]
  simp
/-- a statement that goes on, then what follows -/
theorem ss_sat {Q : Fl → Store → Prop} (h : sat (evS cl g s ρ S) fun fl S' => match fl with
    | .nx ρ1 => sat (evSs cl g ss ρ1 S') Q
    | fl => Q fl S') : sat (evSs cl g (s :: ss) ρ S) Q := by
  rw [qevSs_2, sat_bind]
  refine sat_mono h fun fl S' h => ?_
  cases fl <;> exact h
end
end Lw

set_option Elab.async false
set_option linter.all false
set_option autoImplicit false
set_option maxRecDepth 100000
set_option maxHeartbeats 0
/-! PLJ: the law of a whole kind of proofs (many laws have this text). -/
namespace Lw
open PySem PySem.Spec Pl L2
/-- the turn's statements -/
def wholeB (ff : Str) : List Sm := [.asg 3 (.ite (.cmp .lt (.var 2) (.con (.int 2))) (.call "_law_theorem" [(.var 1)]) (.call "_law_formula" [(.var 1)])), .asg 4 (.call "_law_made" [(.var 3)]), .ite (.cmp .ne (.cmp .is_ (.var 4) (.con .none)) (.not (.call "_law_true" [(.var 3)]))) [.ret (.con (.bool false))] [], .ite (.and (.cmp .isn (.var 4) (.con .none)) (.or (.not (.call "_law_true" [(.var 3)])) (.cmp .isn (.call ff [(.var 3), (.idx (.var 4) (.con (.int 0)))]) (.con .none)))) [.ret (.con (.bool false))] [], .asg 5 (.ite (.cmp .isn (.var 4) (.con .none)) (.idx (.var 4) (.con (.int 0))) (.tup [(.con (.str "ifin")), (.tup [(.con (.str "letter")), (.con (.int 0))]), (.tup [(.con (.str "assume")), (.tup [(.con (.str "letter")), (.con (.int 0))])])])), .asg 6 (.call "_law_formula" [(.var 1)]), .for_ [7] false (.bin .add (.bin .add (.lst [(.var 5)]) (.call "_law_bends" [(.var 1), (.var 5)])) (.call "_law_odd_values" [])) [.for_ [8] false (.tup [(.var 3), (.var 6)]) [.asg 9 (.call ff [(.var 8), (.var 7)]), .ite (.or (.not (.call "_law_same" [(.call "fault" [(.var 8), (.var 7)]), (.var 9)])) (.and (.cmp .is_ (.var 9) (.con .none)) (.not (.call "_law_true" [(.var 8)])))) [.ret (.con (.bool false))] []]]]
def wholeL (ff : Str) : Fn := ⟨"law", 1, 10, [
  .asg 1 (.call "_law_pool" [(.var 0)]),
  .forr 2 [] (.con (.int 3)) (wholeB ff),
  .ret (.con (.bool true))]⟩
def otherD : D := .tuple [.str "ifin", .tuple [.str "letter", .int 0], .tuple [.str "assume", .tuple [.str "letter", .int 0]]]
theorem gd_other : Gd 3 otherD := by
  have l : ∀ k, Gd (k + 1) (.tuple [.str "letter", .int 0]) := fun k => .tup _ (by simp) fun d hd => by
    simp only [List.mem_cons, List.not_mem_nil, or_false] at hd
    rcases hd with rfl | rfl
    · exact .str _ (by decide +kernel)
    · exact .int _
  refine .tup _ (by simp) fun d hd => ?_
  simp only [List.mem_cons, List.not_mem_nil, or_false] at hd
  rcases hd with rfl | rfl | rfl
  · exact .str _ (by decide +kernel)
  · exact l 1
  · refine .tup _ (by simp) fun d hd => ?_
    simp only [List.mem_cons, List.not_mem_nil, or_false] at hd
    rcases hd with rfl | rfl
    · exact .str _ (by decide +kernel)
    · exact l 0
section
variable {P : Prog} {ff : Str}
/-- what a law of a whole kind needs -/
structure Whole (P : Prog) (ff : Str) : Prop where
  hpool : Has P cUlawUpool
  hdraw : Has P cUlawUdraw
  hspread : Has P cUlawUspread
  hsome : Has P cUlawUsome
  hpick : Has P cUlawUpick
  hnot : Has P cUlawUnot
  hle : Has P cUlawUletters
  hro : Has P cUlawUrows
  hva : Has P cUlawUvalue
  htr : Has P cUlawUtrue
  hth : Has P cUlawUtheorem
  hfo : Has P cUlawUformula
  hin : Has P cUlawUisUinteger
  hbo : Has P cUlawUbooled
  hli : Has P cUlawUlisted
  hch : Has P cUlawUchanged
  hsw : Has P cUlawUswapped
  hbe : Has P cUlawUbent
  hbs : Has P cUlawUbends
  hod : Has P cUlawUoddUvalues
  hsa : Has P cUlawUsame
  made : ∀ f : Fm, Drawn f → ∀ S, ∃ v, P.call 200 "_law_made" [.p f.d] S = .ok (.p (if thm f then .list [v] else .none)) S ∧ (thm f = true → (∃ ds, v = .tuple ds ∧ Gd 80 (.tuple ds)) ∧ ∀ S, P.call 200 ff [.p f.d, .p v] S = .ok (.p .none) S)
  flt : ∀ f : Fm, Drawn f → ∀ v, Odd v → ∀ S, ∃ w, P.call 200 "fault" [.p f.d, .p v] S = .ok (.p w) S ∧ P.call 200 ff [.p f.d, .p v] S = .ok (.p w) S ∧ fine w = true ∧ w.depth ≤ 190 ∧ (Pl.isNon w = true → thm f = true)
def madeW (pd : Fm → D) (f : Fm) : D := if thm f then .list [pd f] else .none
def shownW (pd : Fm → D) (f : Fm) : D := if thm f then pd f else otherD
variable {c : Cell} {x0 x2 x3 x4 x5 x6 x7 x8 x9 : Option Vl}
theorem whole_turn (W : Whole P ff) (hc : IsPool c) {t : Int} (ht : x2 = some (.p (.int t))) :
    sat (evSs (P.call 200) P.consts (wholeB ff) [x0, some (.r 0), x2, x3, x4, x5, x6, x7, x8, x9] [c]) fun fl S' => ∃ c' y2 y3 y4 y5 y6 y7 y8 y9, fl = .nx [x0, some (.r 0), y2, y3, y4, y5, y6, y7, y8, y9] ∧ S' = [c'] ∧ IsPool c' := by
  subst ht
  have p0 : ∃ (f : Fm) (c' : Cell), evS (P.call 200) P.consts ((wholeB ff).getD 0 .pass) [x0, some (.r 0), some (.p (.int t)), x3, x4, x5, x6, x7, x8, x9] [c] = .ok (.nx [x0, some (.r 0), some (.p (.int t)), some (.p f.d), x4, x5, x6, x7, x8, x9]) [c'] ∧ IsPool c' ∧ Drawn f := by
    by_cases h2 : t < 2
    · obtain ⟨f, c1, e1, h1, f1⟩ := e_lthm W.hdraw W.hspread W.hsome W.hpick W.hnot W.hle W.hro W.hva W.htr W.hth (n := 200) (by omega) [] hc
      exact ⟨f, c1, asg_ok (by simp [h2, e1]), h1, f1⟩
    · obtain ⟨f, c1, e1, h1, f1, f2⟩ := e_formulaD W.hdraw W.hspread W.hsome W.hfo (n := 200) (by omega) [] hc
      exact ⟨f, c1, asg_ok (by simp [h2, e1]), h1, .inl ⟨f1, f2⟩⟩
  obtain ⟨f, c1, p0, h1, hf⟩ := p0
  obtain ⟨pd, em, hpd⟩ : ∃ pd : Fm → D, P.call 200 "_law_made" [.p f.d] [c1] = .ok (.p (madeW pd f)) [c1] ∧ (thm f = true → (∃ ds, pd f = .tuple ds ∧ Gd 80 (.tuple ds)) ∧ ∀ S, P.call 200 ff [.p f.d, .p (pd f)] S = .ok (.p .none) S) := by
    obtain ⟨v, e1, e2⟩ := W.made f hf [c1]
    exact ⟨fun _ => v, e1, e2⟩
  have et := e_ltrue W.hle W.hro W.hva W.htr (n := 200) f hf.in4 (by have := hf.small.2; omega) [c1]
  have p1 : evS (P.call 200) P.consts ((wholeB ff).getD 1 .pass) [x0, some (.r 0), some (.p (.int t)), some (.p f.d), x4, x5, x6, x7, x8, x9] [c1] = .ok (.nx [x0, some (.r 0), some (.p (.int t)), some (.p f.d), some (.p (madeW pd f)), x5, x6, x7, x8, x9]) [c1] := asg_ok (by simp [em])
  have p2 : evS (P.call 200) P.consts ((wholeB ff).getD 2 .pass) [x0, some (.r 0), some (.p (.int t)), some (.p f.d), some (.p (madeW pd f)), x5, x6, x7, x8, x9] [c1] = .ok (.nx [x0, some (.r 0), some (.p (.int t)), some (.p f.d), some (.p (madeW pd f)), x5, x6, x7, x8, x9]) [c1] :=
    ite_n (S1 := [c1]) (by cases q : thm f <;> simp [madeW, q, et, Pl.isNon])
  have p3 : evS (P.call 200) P.consts ((wholeB ff).getD 3 .pass) [x0, some (.r 0), some (.p (.int t)), some (.p f.d), some (.p (madeW pd f)), x5, x6, x7, x8, x9] [c1] = .ok (.nx [x0, some (.r 0), some (.p (.int t)), some (.p f.d), some (.p (madeW pd f)), x5, x6, x7, x8, x9]) [c1] :=
    ite_n (S1 := [c1]) (by
      cases q : thm f with
      | false => simp [madeW, q, Pl.isNon]
      | true =>
        have er := (hpd q).2 [c1]
        simp [madeW, q, et, Pl.isNon, er, atI_0])
  have p4 : evS (P.call 200) P.consts ((wholeB ff).getD 4 .pass) [x0, some (.r 0), some (.p (.int t)), some (.p f.d), some (.p (madeW pd f)), x5, x6, x7, x8, x9] [c1] = .ok (.nx [x0, some (.r 0), some (.p (.int t)), some (.p f.d), some (.p (madeW pd f)), some (.p (shownW pd f)), x6, x7, x8, x9]) [c1] :=
    asg_ok (by cases q : thm f <;> simp [madeW, shownW, otherD, q, Pl.isNon, atI_0])
  obtain ⟨g, c2, e5, h2, g1, g2⟩ := e_formulaD W.hdraw W.hspread W.hsome W.hfo (n := 200) (by omega) [] h1
  have p5 : evS (P.call 200) P.consts ((wholeB ff).getD 5 .pass) [x0, some (.r 0), some (.p (.int t)), some (.p f.d), some (.p (madeW pd f)), some (.p (shownW pd f)), x6, x7, x8, x9] [c1] = .ok (.nx [x0, some (.r 0), some (.p (.int t)), some (.p f.d), some (.p (madeW pd f)), some (.p (shownW pd f)), some (.p g.d), x7, x8, x9]) [c2] := asg_ok (by simp [e5])
  have hsh : ∃ ds, shownW pd f = .tuple ds ∧ Gd 80 (.tuple ds) := by
    unfold shownW
    cases q : thm f with
    | true => exact (hpd q).1
    | false => exact ⟨_, rfl, gd_other.mono (by omega)⟩
  obtain ⟨ds, eds, hgd⟩ := hsh
  obtain ⟨xs, c3, e6, h3, l6, q6⟩ := e_bends W.hdraw W.hspread W.hpick W.hin W.hbo W.hli W.hch W.hsw W.hbe W.hbs (n := 200) hgd (by omega) [] h2
  rw [← eds] at e6
  obtain ⟨ys, e7, l7, q7⟩ := e_odd W.hod (n := 200) (by omega) [c3]
  have hall : ∀ x ∈ (shownW pd f :: xs) ++ ys, Odd x := by
    intro x hx
    rcases List.mem_append.mp hx with hx | hx
    · rcases List.mem_cons.mp hx with rfl | hx
      · rw [eds]; exact .inl (Nc.mono (by omega) hgd.nc)
      · exact .inl (Nc.mono (by omega) (q6 x hx))
    · exact q7 x hx
  generalize shownW pd f = sh at p4 p5 hall e6
  generalize madeW pd f = md at p1 p2 p3 p4 p5
  have p6 : ev (P.call 200) P.consts (.bin .add (.bin .add (.lst [(.var 5)]) (.call "_law_bends" [(.var 1), (.var 5)])) (.call "_law_odd_values" [])) [x0, some (.r 0), some (.p (.int t)), some (.p f.d), some (.p md), some (.p sh), some (.p g.d), x7, x8, x9] [c2] = .ok (.p (.list ((sh :: xs) ++ ys))) [c3] := by
    have a1 : 1 + xs.length ≤ 16777216 := by omega
    have a2 : xs.length + 1 ≤ 16777216 := by omega
    have a3 : xs.length + 1 + ys.length ≤ 16777216 := by omega
    have a4 : xs.length + ys.length + 1 ≤ 16777216 := by omega
    have a5 : xs.length ≤ 16777215 := by omega
    have a6 : xs.length + ys.length ≤ 16777215 := by omega
    simp [e6, e7, a1, a2, a3, a4, a5, a6]
  rw [show wholeB ff = [(wholeB ff).getD 0 .pass, (wholeB ff).getD 1 .pass, (wholeB ff).getD 2 .pass, (wholeB ff).getD 3 .pass, (wholeB ff).getD 4 .pass, (wholeB ff).getD 5 .pass, (wholeB ff).getD 6 .pass] from rfl, ss_nx p0, ss_nx p1, ss_nx p2, ss_nx p3, ss_nx p4, ss_nx p5]
  clear p0 p1 p2 p3 p4 p5
  generalize (sh :: xs) ++ ys = vs at p6 hall
  have hfg : ∀ k, (k = f ∨ k = g) → Drawn k := fun k hk => by
    rcases hk with rfl | rfl
    · exact hf
    · exact .inl ⟨g1, g2⟩
  refine ss_sat ?_
  show sat (evS (P.call 200) P.consts (.for_ [7] false (.bin .add (.bin .add (.lst [(.var 5)]) (.call "_law_bends" [(.var 1), (.var 5)])) (.call "_law_odd_values" [])) _) _ _) _
  rw [qevS_11, p6]
  simp only [bind_ok, show itemsOf (.p (.list vs)) = some vs from rfl]
  refine for_satL (fun pre ρ S' => S' = [c3] ∧ ∃ y7 y8 y9, ρ = [x0, some (.r 0), some (.p (.int t)), some (.p f.d), some (.p md), some (.p sh), some (.p g.d), y7, y8, y9]) (all := vs) (pre := []) ?_ ?_ rfl ⟨rfl, _, _, _, rfl⟩
  · intro pre x post ex ρ S' ⟨q1, y7, y8, y9, q2⟩
    subst q1 q2
    have hx : Odd x := hall x (by rw [ex]; simp)
    have hstep : ∀ k, (k = f ∨ k = g) → ∀ (y8 y9 : Option Vl), ∃ y : Option Vl, evSs (P.call 200) P.consts [.asg 9 (.call ff [(.var 8), (.var 7)]), .ite (.or (.not (.call "_law_same" [(.call "fault" [(.var 8), (.var 7)]), (.var 9)])) (.and (.cmp .is_ (.var 9) (.con .none)) (.not (.call "_law_true" [(.var 8)])))) [.ret (.con (.bool false))] []] [x0, some (.r 0), some (.p (.int t)), some (.p f.d), some (.p md), some (.p sh), some (.p g.d), some (.p x), some (.p k.d), y9] [c3] = .ok (.nx [x0, some (.r 0), some (.p (.int t)), some (.p f.d), some (.p md), some (.p sh), some (.p g.d), some (.p x), some (.p k.d), y]) [c3] := by
      intro k hk y8 y9
      have hk := hfg k hk
      obtain ⟨w, w1, w2, z1, z2, w4⟩ := W.flt k hk x hx [c3]
      have w3 := e_same W.hsa 200 w [c3] z1 (by omega)
      have et := e_ltrue W.hle W.hro W.hva W.htr (n := 200) k hk.in4 (by have := hk.small.2; omega) [c3]
      refine ⟨some (.p w), (ss_nx (asg_ok (v := .p w) (S1 := [c3]) (by simp [w2]))).trans ((ss_nx (ite_n (S1 := [c3]) ?_)).trans rfl)⟩
      cases q : Pl.isNon w with
      | false => simp [w1, w3, q]
      | true =>
        rw [w4 q] at et
        simp [w1, w3, q, et]
    obtain ⟨z1, a1⟩ := hstep f (.inl rfl) y8 y9
    obtain ⟨z2, a2⟩ := hstep g (.inr rfl) (some (.p f.d)) z1
    refine @sat_of _ _ (Fl.nx [x0, some (.r 0), some (.p (.int t)), some (.p f.d), some (.p md), some (.p sh), some (.p g.d), some (.p x), some (.p g.d), z2]) [c3] _ ?_ ⟨rfl, _, _, _, rfl⟩
    exact (ss_nx (for_ok (xs := [f.d, g.d]) (x := .p (.tuple [f.d, g.d])) (S1 := [c3]) (by simp [bindT]) rfl ((forR_nx a1).trans ((forR_nx a2).trans rfl)))).trans rfl
  · intro ρ S' ⟨q1, y7, y8, y9, q2⟩
    subst q1 q2
    exact ⟨c3, _, _, _, _, _, _, _, _, rfl, rfl, h3⟩
theorem whole_main (W : Whole P ff) (hL : Has P (wholeL ff)) (ns : List Int) (hl : ns.length ≤ 63) : ∃ S, P.call (200 + 1) "law" [.s ns] [] = .ok (.p (.bool true)) S := by
  rw [show ("law" : Str) = (wholeL ff).name from rfl, hL.call]
  obtain ⟨c, e1, hc⟩ := e_pool W.hpool (n := 200) (by omega) ns hl
  have h3 : rngOk 3 = true := rng_ok (by omega) (by omega)
  have key : sat (evSs (P.call 200) P.consts (wholeL ff).body ([Vl.s ns].map some ++ List.replicate 9 none) []) fun fl S' => fl = .rt (.p (.bool true)) := by
    have ht := fun (c : Cell) (x0 x2 x3 x4 x5 x6 x7 x8 x9 : Option Vl) (hc : IsPool c) (t : Int) (h : x2 = some (.p (.int t))) => whole_turn W (c := c) (x0 := x0) (x2 := x2) (x3 := x3) (x4 := x4) (x5 := x5) (x6 := x6) (x7 := x7) (x8 := x8) (x9 := x9) hc h
    unfold wholeL
    generalize hB : wholeB ff = B at ht
    simp [e1, rng0, h3]
    have hr : ∀ d ∈ rangeD 0 3, ∃ t, d = .int t := fun d hd => by
      obtain ⟨i, q, _⟩ := rangeD_mem hd
      exact ⟨i, q⟩
    generalize rangeD 0 3 = xs at hr
    refine for_satL (fun pre ρ S' => (∃ c', S' = [c'] ∧ IsPool c') ∧ ∃ x0 y2 y3 y4 y5 y6 y7 y8 y9, ρ = [x0, some (.r 0), y2, y3, y4, y5, y6, y7, y8, y9]) (all := xs) (pre := []) ?_ ?_ rfl ⟨⟨c, rfl, hc⟩, _, _, _, _, _, _, _, _, _, rfl⟩
    · intro pre x post ex ρ S' ⟨⟨c', q1, q2⟩, x0, y2, y3, y4, y5, y6, y7, y8, y9, q3⟩
      subst q1 q3
      obtain ⟨t, rfl⟩ := hr x (by rw [ex]; simp)
      refine sat_mono (ht c' x0 (some (.p (.int t))) y3 y4 y5 y6 y7 y8 y9 q2 t rfl) fun fl S' h => ?_
      obtain ⟨c2, z2, z3, z4, z5, z6, z7, z8, z9, e, e2, h2⟩ := h
      subst e e2
      exact ⟨⟨c2, rfl, h2⟩, _, _, _, _, _, _, _, _, _, rfl⟩
    · intro ρ S' _
      simp
  show ∃ S, ((evSs (P.call 200) P.consts (wholeL ff).body ([Vl.s ns].map some ++ List.replicate 9 none) []).bind _).cut _ = _
  cases q : evSs (P.call 200) P.consts (wholeL ff).body ([Vl.s ns].map some ++ List.replicate 9 none) [] with
  | bad => rw [q] at key; exact key.elim
  | exn x S' => rw [q] at key; exact key.elim
  | ok fl S' =>
    rw [q] at key
    have key : fl = .rt (.p (.bool true)) := key
    subst key
    exact ⟨_, rfl⟩
end
end Lw

set_option Elab.async false
set_option linter.all false
set_option autoImplicit false
set_option maxRecDepth 100000
set_option maxHeartbeats 0
/-! PLK: clauses of formulas, in plain Lean. -/
namespace Lw
open PySem PySem.Spec Pl L2
abbrev Cla := List Int
/-- a wish's sign -/
def sgn : Bool → Int
  | true => 1
  | false => -1
def taut (c : Cla) : Bool := c.any fun w => c.contains (-w)
/-- those merged that no letter is wished both ways in -/
def prod (one two : List Cla) : List Cla := ((one.flatMap fun a => two.map fun b => setI (a ++ b)).filter fun c => !taut c)
def flipS (q : Con) (s : Bool) : Bool := if q = .i then !s else s
def isSum (q : Con) (s : Bool) : Bool := (decide (q = .a)) == s
def nrm : Fm → Bool → List Cla
  | .lt i, s => [[sgn s * ((i : Int) + 1)]]
  | .ff, true => [[]]
  | .ff, false => []
  | .bi q x y, s => if isSum q s then setR (nrm x (flipS q s) ++ nrm y s) else setR (prod (nrm x (flipS q s)) (nrm y s))
/-- the same, as the law makes them -/
def lnrm : Fm → Bool → List Cla
  | .lt i, s => [[sgn s * ((i : Int) + 1)]]
  | .ff, true => [[]]
  | .ff, false => []
  | .bi q x y, s => if isSum q s then lnrm x (flipS q s) ++ lnrm y s else (prod (lnrm x (flipS q s)) (lnrm y s)).foldl (fun acc c => if acc.contains c then acc else acc ++ [c]) []
theorem dedup_mem {c : Cla} : ∀ {cs acc : List Cla}, c ∈ cs.foldl (fun acc c => if acc.contains c then acc else acc ++ [c]) acc ↔ c ∈ acc ∨ c ∈ cs
  | [], acc => by simp
  | x :: cs, acc => by
    rw [List.foldl_cons, dedup_mem]
    by_cases h : acc.contains x = true
    · rw [if_pos h, List.mem_cons]
      have hx : x ∈ acc := by simpa using h
      constructor
      · rintro (h | h)
        · exact .inl h
        · exact .inr (.inr h)
      · rintro (h | rfl | h)
        · exact .inl h
        · exact .inl hx
        · exact .inr h
    · rw [if_neg h, List.mem_append, List.mem_singleton, List.mem_cons]
      constructor
      · rintro ((h | h) | h)
        · exact .inl h
        · exact .inr (.inl h)
        · exact .inr (.inr h)
      · rintro (h | h | h)
        · exact .inl (.inl h)
        · exact .inl (.inr h)
        · exact .inr h
theorem prod_mem {one two : List Cla} {c : Cla} : c ∈ prod one two ↔ ∃ a ∈ one, ∃ b ∈ two, c = setI (a ++ b) ∧ taut c = false := by
  unfold prod
  rw [List.mem_filter, List.mem_flatMap]
  constructor
  · rintro ⟨⟨a, ha, h⟩, ht⟩
    obtain ⟨b, hb, rfl⟩ := List.mem_map.mp h
    exact ⟨a, ha, b, hb, rfl, by simpa using ht⟩
  · rintro ⟨a, ha, b, hb, rfl, ht⟩
    exact ⟨⟨a, ha, List.mem_map.mpr ⟨b, hb, rfl⟩⟩, by simpa using ht⟩
theorem lnrm_mem : ∀ {f : Fm} {s : Bool} {c : Cla}, c ∈ lnrm f s ↔ c ∈ nrm f s
  | .lt i, s, c => Iff.rfl
  | .ff, true, c => Iff.rfl
  | .ff, false, c => Iff.rfl
  | .bi q x y, s, c => by
    unfold lnrm nrm
    cases isSum q s with
    | true =>
      simp only [if_true]
      rw [setR_mem, List.mem_append, List.mem_append, lnrm_mem, lnrm_mem]
    | false =>
      simp only [Bool.false_eq_true, if_false]
      rw [setR_mem, dedup_mem, prod_mem, prod_mem]
      simp only [List.not_mem_nil, false_or]
      constructor
      · rintro ⟨a, ha, b, hb, h⟩
        exact ⟨a, lnrm_mem.mp ha, b, lnrm_mem.mp hb, h⟩
      · rintro ⟨a, ha, b, hb, h⟩
        exact ⟨a, lnrm_mem.mpr ha, b, lnrm_mem.mpr hb, h⟩
theorem nrm_up : ∀ (f : Fm) (s : Bool), (nrm f s).Pairwise (· < ·)
  | .lt i, s => List.pairwise_singleton _ _
  | .ff, true => List.pairwise_singleton _ _
  | .ff, false => .nil
  | .bi q x y, s => by
    unfold nrm
    split <;> exact setR_up _
theorem setR_lnrm (f : Fm) (s : Bool) : setR (lnrm f s) = nrm f s := upR_eq (setR_up _) (nrm_up f s) fun c => by rw [setR_mem, lnrm_mem]
/-- clauses stand in order -/
theorem nrm_cla : ∀ {f : Fm} {s : Bool} {c : Cla}, c ∈ nrm f s → c.Pairwise (· < ·)
  | .lt i, s, c, h => by
    have : c = [sgn s * ((i : Int) + 1)] := by simpa [nrm] using h
    rw [this]; exact List.pairwise_singleton _ _
  | .ff, true, c, h => by
    have : c = [] := by simpa [nrm] using h
    rw [this]; exact .nil
  | .ff, false, c, h => by simp [nrm] at h
  | .bi q x y, s, c, h => by
    unfold nrm at h
    split at h
    · rw [setR_mem, List.mem_append] at h
      rcases h with h | h
      · exact nrm_cla h
      · exact nrm_cla h
    · rw [setR_mem, prod_mem] at h
      obtain ⟨a, _, b, _, rfl, _⟩ := h
      exact setI_up _
/-- the wishes are of the letters -/
def okW (k : Nat) (w : Int) : Prop := w ≠ 0 ∧ w.natAbs ≤ k
theorem nrm_wish {k : Nat} : ∀ {f : Fm} {s : Bool} {c : Cla}, f.in_ k → c ∈ nrm f s → ∀ w ∈ c, okW k w
  | .lt i, s, c, hf, h, w, hw => by
    have : c = [sgn s * ((i : Int) + 1)] := by simpa [nrm] using h
    rw [this, List.mem_singleton] at hw
    have hf : i < k := hf
    subst hw
    cases s
    · simp only [sgn]; exact ⟨by omega, by omega⟩
    · simp only [sgn]; exact ⟨by omega, by omega⟩
  | .ff, true, c, hf, h, w, hw => by
    have : c = [] := by simpa [nrm] using h
    rw [this] at hw; cases hw
  | .ff, false, c, hf, h, w, hw => by simp [nrm] at h
  | .bi q x y, s, c, hf, h, w, hw => by
    unfold nrm at h
    split at h
    · rw [setR_mem, List.mem_append] at h
      rcases h with h | h
      · exact nrm_wish hf.1 h w hw
      · exact nrm_wish hf.2 h w hw
    · rw [setR_mem, prod_mem] at h
      obtain ⟨a, ha, b, hb, rfl, _⟩ := h
      rw [setI_mem, List.mem_append] at hw
      rcases hw with hw | hw
      · exact nrm_wish hf.1 ha w hw
      · exact nrm_wish hf.2 hb w hw
/-! ### what a clause says of a row -/
def litV (r : List Bool) (w : Int) : Bool := if 0 < w then r.getD (w.natAbs - 1) false else !(r.getD (w.natAbs - 1) false)
def satC (r : List Bool) (c : Cla) : Bool := c.any (litV r)
theorem lit_neg {r : List Bool} {w : Int} (h : w ≠ 0) : litV r (-w) = !litV r w := by
  unfold litV
  rw [Int.natAbs_neg]
  by_cases h0 : 0 < w
  · rw [if_pos h0, if_neg (by omega)]
  · rw [if_neg h0, if_pos (by omega), Bool.not_not]
theorem sat_set {r : List Bool} {a b : Cla} : satC r (setI (a ++ b)) = (satC r a || satC r b) := by
  rw [Bool.eq_iff_iff]
  unfold satC
  rw [Bool.or_eq_true, List.any_eq_true, List.any_eq_true, List.any_eq_true]
  constructor
  · rintro ⟨w, hw, h⟩
    rw [setI_mem, List.mem_append] at hw
    rcases hw with hw | hw
    · exact .inl ⟨w, hw, h⟩
    · exact .inr ⟨w, hw, h⟩
  · rintro (⟨w, hw, h⟩ | ⟨w, hw, h⟩)
    · exact ⟨w, setI_mem.mpr (List.mem_append.mpr (.inl hw)), h⟩
    · exact ⟨w, setI_mem.mpr (List.mem_append.mpr (.inr hw)), h⟩
/-- what is false for some row wishes no letter both ways -/
theorem taut_sat {r : List Bool} {c : Cla} (h0 : ∀ w ∈ c, w ≠ 0) (h : satC r c = false) : taut c = false := by
  unfold taut
  rw [Bool.eq_false_iff]
  intro ht
  obtain ⟨w, hw, hn⟩ := List.any_eq_true.mp ht
  have hn : -w ∈ c := by simpa using hn
  unfold satC at h
  rw [List.any_eq_false] at h
  have h1 := h w hw
  have h2 := h (-w) hn
  rw [lit_neg (h0 w hw)] at h2
  cases q : litV r w <;> simp [q] at h1 h2
theorem nrm_val {r : List Bool} {k : Nat} : ∀ {f : Fm} {s : Bool}, f.in_ k → ((∀ c ∈ nrm f s, satC r c = true) ↔ f.val r = s)
  | .lt i, s, _ => by
    have e : ∀ c, c ∈ nrm (.lt i) s ↔ c = [sgn s * ((i : Int) + 1)] := fun c => by simp [nrm]
    have hl : satC r [sgn s * ((i : Int) + 1)] = ((Fm.lt i).val r == s) := by
      unfold satC litV
      cases s
      · simp only [sgn, List.any_cons, List.any_nil, Bool.or_false, Fm.val]
        rw [if_neg (by omega), show (-1 * ((i : Int) + 1)).natAbs - 1 = i by omega]
        cases r.getD i false <;> rfl
      · simp only [sgn, List.any_cons, List.any_nil, Bool.or_false, Fm.val]
        rw [if_pos (by omega), show (1 * ((i : Int) + 1)).natAbs - 1 = i by omega]
        cases r.getD i false <;> rfl
    constructor
    · intro h
      have := h _ ((e _).mpr rfl)
      rw [hl] at this
      simpa using this
    · intro h c hc
      rw [(e c).mp hc, hl, h]
      simp
  | .ff, true, _ => by simp [nrm, satC, Fm.val]
  | .ff, false, _ => by simp [nrm, Fm.val]
  | .bi q x y, s, hf => by
    have hx := fun s => nrm_val (r := r) (f := x) (s := s) hf.1
    have hy := fun s => nrm_val (r := r) (f := y) (s := s) hf.2
    have sum : (∀ c ∈ setR (nrm x (flipS q s) ++ nrm y s), satC r c = true) ↔ (x.val r = flipS q s ∧ y.val r = s) := by
      rw [← hx, ← hy]
      constructor
      · intro h
        exact ⟨fun c hc => h c (by rw [setR_mem, List.mem_append]; exact .inl hc), fun c hc => h c (by rw [setR_mem, List.mem_append]; exact .inr hc)⟩
      · rintro ⟨h1, h2⟩ c hc
        rw [setR_mem, List.mem_append] at hc
        rcases hc with hc | hc
        · exact h1 c hc
        · exact h2 c hc
    have pro : (∀ c ∈ setR (prod (nrm x (flipS q s)) (nrm y s)), satC r c = true) ↔ (x.val r = flipS q s ∨ y.val r = s) := by
      rw [← hx, ← hy]
      constructor
      · intro h
        refine Classical.byContradiction fun hn => ?_
        rw [not_or] at hn
        obtain ⟨n1, n2⟩ := hn
        obtain ⟨a, ha, qa⟩ : ∃ a ∈ nrm x (flipS q s), satC r a = false := Classical.byContradiction fun z => n1 fun c hc => Classical.byContradiction fun u => z ⟨c, hc, by simpa using u⟩
        obtain ⟨b, hb, qb⟩ : ∃ b ∈ nrm y s, satC r b = false := Classical.byContradiction fun z => n2 fun c hc => Classical.byContradiction fun u => z ⟨c, hc, by simpa using u⟩
        have hz : satC r (setI (a ++ b)) = false := by rw [sat_set, qa, qb]; rfl
        have := h (setI (a ++ b)) (by
          rw [setR_mem, prod_mem]
          refine ⟨a, ha, b, hb, rfl, taut_sat (fun w hw => ?_) hz⟩
          rw [setI_mem, List.mem_append] at hw
          rcases hw with hw | hw
          · exact (nrm_wish hf.1 ha w hw).1
          · exact (nrm_wish hf.2 hb w hw).1)
        rw [hz] at this
        cases this
      · intro h c hc
        rw [setR_mem, prod_mem] at hc
        obtain ⟨a, ha, b, hb, rfl, _⟩ := hc
        rw [sat_set]
        rcases h with h | h
        · rw [h a ha]; rfl
        · rw [h b hb, Bool.or_true]
    unfold nrm
    show _ ↔ q.val (x.val r) (y.val r) = s
    generalize x.val r = u at sum pro
    generalize y.val r = v at sum pro
    cases q <;> cases s <;> simp only [isSum, flipS, reduceCtorEq, decide_false, decide_true, beq_self_eq_true, if_true, Bool.false_eq_true, if_false, Bool.not_true, Bool.not_false, show (false == true) = false from rfl, show (true == false) = false from rfl] at sum pro ⊢ <;> first | rw [sum] | rw [pro]
    all_goals cases u <;> cases v <;> simp [Con.val]
/-! ### clauses that none is within -/
def within (a b : Cla) : Bool := a.all fun w => b.contains w
def inp (f : Fm) : List Cla := (nrm f false).filter fun c => !(nrm f false).any fun o => decide (o ≠ c) && within o c
theorem sub_len : ∀ {b a : Cla}, a.Pairwise (· < ·) → b.Pairwise (· < ·) → (∀ w ∈ a, w ∈ b) → a = b ∨ a.length < b.length
  | [], [], _, _, _ => .inl rfl
  | [], x :: a, _, _, h => absurd (h x List.mem_cons_self) (by simp)
  | y :: b, [], _, _, _ => .inr (by simp)
  | y :: b, x :: a, ha, hb, h => by
    obtain ⟨a1, a2⟩ := List.pairwise_cons.mp ha
    obtain ⟨b1, b2⟩ := List.pairwise_cons.mp hb
    rcases List.mem_cons.mp (h x List.mem_cons_self) with e | hx
    · subst e
      have : ∀ w ∈ a, w ∈ b := fun w hw => by
        rcases List.mem_cons.mp (h w (List.mem_cons_of_mem _ hw)) with e | e
        · have := a1 w hw; omega
        · exact e
      rcases sub_len a2 b2 this with q | q
      · exact .inl (by rw [q])
      · exact .inr (by simp only [List.length_cons]; omega)
    · have : ∀ w ∈ x :: a, w ∈ b := fun w hw => by
        rcases List.mem_cons.mp (h w hw) with e | e
        · subst e
          have hy := b1 x hx
          rcases List.mem_cons.mp hw with e | hw
          · omega
          · have := a1 w hw; omega
        · exact e
      rcases sub_len ha b2 this with q | q
      · exact .inr (by rw [q]; simp)
      · exact .inr (by simp only [List.length_cons] at q ⊢; omega)
theorem within_lt {a b : Cla} (ha : a.Pairwise (· < ·)) (hb : b.Pairwise (· < ·)) (hne : a ≠ b) (h : within a b = true) : a.length < b.length :=
  (sub_len ha hb fun w hw => by simpa using List.all_eq_true.mp h w hw).resolve_left hne
theorem inp_some {f : Fm} {Q : Cla → Prop} (hQ : ∀ a b, within a b = true → Q b → Q a) (h : ∃ c ∈ nrm f false, Q c) : ∃ c ∈ inp f, Q c := by
  obtain ⟨c, hc, hq⟩ := h
  have : ∀ (n : Nat) (c : Cla), c.length ≤ n → c ∈ nrm f false → Q c → ∃ c ∈ inp f, Q c := by
    intro n
    induction n with
    | zero =>
      intro c hl hc hq
      refine ⟨c, List.mem_filter.mpr ⟨hc, ?_⟩, hq⟩
      simp only [Bool.not_eq_true', List.any_eq_false, Bool.and_eq_true, decide_eq_true_eq, not_and]
      intro o ho hne hw
      have := within_lt (nrm_cla ho) (nrm_cla hc) hne hw
      omega
    | succ n ih =>
      intro c hl hc hq
      cases z : (nrm f false).any fun o => decide (o ≠ c) && within o c with
      | false => exact ⟨c, List.mem_filter.mpr ⟨hc, by rw [z]; rfl⟩, hq⟩
      | true =>
        obtain ⟨o, ho, h2⟩ := List.any_eq_true.mp z
        rw [Bool.and_eq_true, decide_eq_true_eq] at h2
        have := within_lt (nrm_cla ho) (nrm_cla hc) h2.1 h2.2
        exact ih o (by omega) ho (hQ _ _ h2.2 hq)
  exact this c.length c (Nat.le_refl _) hc hq

/-! ### how many -/
def wl : Fm → Bool → Nat
  | .lt _, _ => 1
  | .ff, true => 1
  | .ff, false => 0
  | .bi q x y, s => if isSum q s then wl x (flipS q s) + wl y s else wl x (flipS q s) * wl y s
def wok : Fm → Bool → Bool
  | .bi q x y, s => decide (wl (.bi q x y) s < 64) && (wok x (flipS q s) && wok y s)
  | _, _ => true
theorem insR_len {n : Cla} : ∀ {xs : List Cla}, (insR n xs).length ≤ xs.length + 1
  | [] => by simp [insR]
  | x :: xs => by
    unfold insR
    split
    · simp
    · split
      · simp
      · have := insR_len (n := n) (xs := xs)
        simp only [List.length_cons]
        omega
theorem setR_len : ∀ xs : List Cla, (setR xs).length ≤ xs.length
  | [] => by simp [setR]
  | x :: xs => by
    show (insR x (setR xs)).length ≤ _
    have h1 := insR_len (n := x) (xs := setR xs)
    have h2 := setR_len xs
    simp only [List.length_cons]
    omega
theorem prod_len {one two : List Cla} : (prod one two).length ≤ one.length * two.length := by
  refine Nat.le_trans (List.length_filter_le _ _) ?_
  induction one with
  | nil => simp
  | cons a one ih =>
    rw [List.flatMap_cons, List.length_append, List.length_map, List.length_cons, Nat.add_mul]
    omega
theorem nrm_len : ∀ (f : Fm) (s : Bool), (nrm f s).length ≤ wl f s
  | .lt _, _ => Nat.le_refl _
  | .ff, true => Nat.le_refl _
  | .ff, false => Nat.le_refl _
  | .bi q x y, s => by
    have h1 := nrm_len x (flipS q s)
    have h2 := nrm_len y s
    unfold nrm wl
    cases isSum q s with
    | true =>
      simp only [if_true]
      have := setR_len (nrm x (flipS q s) ++ nrm y s)
      rw [List.length_append] at this
      omega
    | false =>
      simp only [Bool.false_eq_true, if_false]
      exact Nat.le_trans (setR_len _) (Nat.le_trans prod_len (Nat.mul_le_mul h1 h2))
theorem dedup_len : ∀ {cs acc : List Cla}, (cs.foldl (fun acc c => if acc.contains c then acc else acc ++ [c]) acc).length ≤ acc.length + cs.length
  | [], acc => by simp
  | x :: cs, acc => by
    rw [List.foldl_cons]
    refine Nat.le_trans dedup_len ?_
    split
    · simp only [List.length_cons]; omega
    · simp only [List.length_append, List.length_cons, List.length_nil]; omega
theorem lnrm_len : ∀ (f : Fm) (s : Bool), (lnrm f s).length ≤ wl f s
  | .lt _, _ => Nat.le_refl _
  | .ff, true => Nat.le_refl _
  | .ff, false => Nat.le_refl _
  | .bi q x y, s => by
    have h1 := lnrm_len x (flipS q s)
    have h2 := lnrm_len y s
    unfold lnrm wl
    cases isSum q s with
    | true =>
      simp only [if_true, List.length_append]
      omega
    | false =>
      simp only [Bool.false_eq_true, if_false]
      refine Nat.le_trans dedup_len ?_
      have := Nat.le_trans (prod_len (one := lnrm x (flipS q s)) (two := lnrm y s)) (Nat.mul_le_mul h1 h2)
      simpa using this
def bnd : Nat → Nat
  | 0 => 1
  | 1 => 2
  | 2 => 4
  | _ => 16
theorem wl_bnd : ∀ (f : Fm) (s : Bool) (k : Nat), f.ht ≤ k → k ≤ 3 → wl f s ≤ bnd k
  | .lt _, _, k, _, h => by
    have : k = 0 ∨ k = 1 ∨ k = 2 ∨ k = 3 := by omega
    rcases this with rfl | rfl | rfl | rfl <;> simp [wl, bnd]
  | .ff, s, k, _, h => by
    have : k = 0 ∨ k = 1 ∨ k = 2 ∨ k = 3 := by omega
    cases s <;> rcases this with rfl | rfl | rfl | rfl <;> simp [wl, bnd]
  | .bi q x y, s, k, hk, h => by
    simp only [Fm.ht] at hk
    have h1 := wl_bnd x (flipS q s) (k - 1) (by omega) (by omega)
    have h2 := wl_bnd y s (k - 1) (by omega) (by omega)
    have hk3 : k = 1 ∨ k = 2 ∨ k = 3 := by omega
    unfold wl
    generalize wl x (flipS q s) = u at h1 ⊢
    generalize wl y s = v at h2 ⊢
    have hm : u * v ≤ bnd (k - 1) * bnd (k - 1) := Nat.mul_le_mul h1 h2
    rcases hk3 with rfl | rfl | rfl <;> simp only [bnd] at h1 h2 hm ⊢ <;> split <;> omega
theorem wok_3 : ∀ (f : Fm) (s : Bool), f.ht ≤ 3 → wok f s = true
  | .lt _, _, _ => rfl
  | .ff, _, _ => rfl
  | .bi q x y, s, h => by
    have h0 := wl_bnd (.bi q x y) s 3 h (by omega)
    simp only [Fm.ht] at h
    unfold wok
    rw [wok_3 x _ (by omega), wok_3 y _ (by omega)]
    simp only [bnd] at h0
    simp
    omega
theorem wok_4 {q : Con} {x y : Fm} (hq : q ≠ .a) (h : (Fm.bi q x y).ht ≤ 4) : wok (.bi q x y) false = true := by
  simp only [Fm.ht] at h
  have h1 := wl_bnd x (flipS q false) 3 (by omega) (by omega)
  have h2 := wl_bnd y false 3 (by omega) (by omega)
  unfold wok
  rw [wok_3 x _ (by omega), wok_3 y _ (by omega)]
  have hs : isSum q false = true := by cases q <;> first | rfl | exact absurd rfl hq
  have : wl (.bi q x y) false < 64 := by
    unfold wl
    rw [hs]
    simp only [bnd] at h1 h2
    simp only [if_true]
    omega
  simp [this]
theorem Drawn.wok {f : Fm} (h : Drawn f) : wok f false = true := by
  have h4 := h.small.2
  rcases h with ⟨_, h⟩ | ⟨a, b, k, _, _, _, h⟩
  · exact wok_3 f false h
  · simp only [thms, List.mem_cons, List.not_mem_nil, or_false] at h
    rcases h with rfl | rfl | rfl | rfl | rfl | rfl | rfl | rfl | rfl | rfl <;> exact wok_4 (by decide) h4
theorem cla_len {k : Nat} {c : Cla} (hk : k ≤ 4) (h : c.Pairwise (· < ·)) (hw : ∀ w ∈ c, okW k w) : c.length ≤ 8 := by
  rcases sub_len (b := [-4, -3, -2, -1, 1, 2, 3, 4]) h (by decide) (fun w hm => by
    obtain ⟨h1, h2⟩ := hw w hm
    have : w = -4 ∨ w = -3 ∨ w = -2 ∨ w = -1 ∨ w = 1 ∨ w = 2 ∨ w = 3 ∨ w = 4 := by omega
    rcases this with rfl | rfl | rfl | rfl | rfl | rfl | rfl | rfl <;> simp) with e | e
  · rw [e]; decide
  · simp only [List.length_cons, List.length_nil] at e; omega
/-! ### clauses as data -/
theorem plain_ints : ∀ c : Cla, PyData.plainAll (c.map .int) = true
  | [] => rfl
  | w :: c => by simp [PyData.plainAll, PyData.plain, plain_ints c]
theorem depth_ints0 : ∀ c : Cla, PyData.depthAll (c.map .int) = 0
  | [] => rfl
  | w :: c => by simp [PyData.depthAll, PyData.depth, depth_ints0 c]
theorem ok_row (c : Cla) : cmpOk (rowT c) = true := by
  simp [rowT, cmpOk, PyData.plain, PyData.depth, plain_ints, depth_ints0]
theorem plain_rows : ∀ cs : List Cla, PyData.plainAll (cs.map rowT) = true
  | [] => rfl
  | c :: cs => by simp [PyData.plainAll, rowT, PyData.plain, plain_ints, plain_rows cs]
theorem depth_rows : ∀ cs : List Cla, PyData.depthAll (cs.map rowT) ≤ 1
  | [] => by simp [PyData.depthAll]
  | c :: cs => by
    have := depth_rows cs
    simp [PyData.depthAll, rowT, PyData.depth, depth_ints0]
    omega
theorem ok_rowsL (cs : List Cla) : cmpOk (.list (cs.map rowT)) = true := by
  have := depth_rows cs
  simp [cmpOk, PyData.plain, PyData.depth, plain_rows]
  omega
theorem ok_rowsTu (cs : List Cla) : cmpOk (.tuple (cs.map rowT)) = true := by
  have := depth_rows cs
  simp [cmpOk, PyData.plain, PyData.depth, plain_rows]
  omega
theorem eqvA_ints : ∀ a b : Cla, PyData.eqvAll (a.map .int) (b.map .int) = decide (a = b)
  | [], [] => by simp [eqvA_nn]
  | [], y :: b => by simp [eqvA_nc]
  | x :: a, [] => by simp [eqvA_cn]
  | x :: a, y :: b => by
    rw [List.map_cons, List.map_cons, eqvA_cc, eqvA_ints a b, eqv_int]
    by_cases h : x = y <;> by_cases h2 : a = b <;> simp [h, h2]
theorem eqv_row2 (a b : Cla) : PyData.eqv (rowT a) (rowT b) = decide (a = b) := by
  unfold rowT
  rw [eqv_tup, eqvA_ints]
theorem in_row (w : Int) (c : Cla) : cmpD .in_ (.int w) (rowT c) = some (c.contains w) := by
  show (if cmpOk (.int w) && cmpOk (rowT c) then some ((c.map PyData.int).any fun y => PyData.eqv y (.int w)) else none) = _
  rw [ok_row, cmpOk_int, List.any_map]
  simp only [Bool.and_self, if_true]
  congr 1
  rw [Bool.eq_iff_iff]
  simp
theorem nin_row (w : Int) (c : Cla) : cmpD .nin (.int w) (rowT c) = some (!c.contains w) := by
  show (if cmpOk (.int w) && cmpOk (rowT c) then some (!(c.map PyData.int).any fun y => PyData.eqv y (.int w)) else none) = _
  rw [ok_row, cmpOk_int, List.any_map]
  simp only [Bool.and_self, if_true]
  congr 2
  rw [Bool.eq_iff_iff]
  simp
theorem in_rows (c : Cla) (cs : List Cla) : cmpD .in_ (rowT c) (.list (cs.map rowT)) = some (cs.contains c) := by
  show (if cmpOk (rowT c) && cmpOk (.list (cs.map rowT)) then some ((cs.map rowT).any fun y => PyData.eqv y (rowT c)) else none) = _
  rw [ok_row, ok_rowsL, List.any_map]
  simp only [Bool.and_self, if_true]
  congr 1
  rw [Bool.eq_iff_iff]
  simp [eqv_row2]
theorem nin_rows (c : Cla) (cs : List Cla) : cmpD .nin (rowT c) (.list (cs.map rowT)) = some (!cs.contains c) := by
  show (if cmpOk (rowT c) && cmpOk (.list (cs.map rowT)) then some (!(cs.map rowT).any fun y => PyData.eqv y (rowT c)) else none) = _
  rw [ok_row, ok_rowsL, List.any_map]
  simp only [Bool.and_self, if_true]
  congr 2
  rw [Bool.eq_iff_iff]
  simp [eqv_row2]
theorem rowsI_map : ∀ cs : List Cla, rowsI (cs.map rowT) = some cs
  | [] => rfl
  | c :: cs => by
    show (match intsOf (c.map .int), rowsI (cs.map rowT) with | some n, some ns => some (n :: ns) | _, _ => none) = _
    rw [intsOf_map, rowsI_map cs]
theorem sset_rows {cs : List Cla} (h : cs.length < 64) : ssetD (.list (cs.map rowT)) = some (.list ((setR cs).map rowT)) := by
  cases cs with
  | nil => rfl
  | cons c cs =>
    show (match intsOf ((c :: cs).map rowT) with
      | some ns => if ns.length < 64 then some (PyData.list ((setI ns).map .int)) else none
      | none => match rowsI ((c :: cs).map rowT) with
        | some rs => if rs.length < 64 then some (.list ((setR rs).map rowT)) else none
        | none => none) = _
    rw [rowsI_map, show intsOf ((c :: cs).map rowT) = none from rfl]
    simp only [if_pos h]
theorem sset_row {c : Cla} (h : c.length < 64) : ssetD (rowT c) = some (.list ((setI c).map .int)) := by
  show (match intsOf (c.map .int) with
    | some ns => if ns.length < 64 then some (PyData.list ((setI ns).map .int)) else none
    | none => none) = _
  rw [intsOf_map]
  simp only [if_pos h]
end Lw

set_option Elab.async false
set_option linter.all false
set_option autoImplicit false
set_option maxRecDepth 100000
set_option maxHeartbeats 0
/-! PLM: expressions, term by term. -/
namespace Lw
open PySem PySem.Spec Pl L2
section
variable {cl : CallF} {g : Str → Option D} {ρ ρ1 : Rho} {S S1 S2 : Store} {a b c e : Ex} {d d1 d2 r : D} {x y : Vl}
theorem x_v {i : Nat} (h : ρ[i]? = some (some x)) : ev cl g (.var i) ρ S = .ok x S := by simp [h]
theorem x_k : ev cl g (.con d) ρ S = .ok (.p d) S := rfl
theorem x_g {n : Str} (h : g n = some d) : ev cl g (.glob n) ρ S = .ok (.p d) S := by simp [h]
theorem x_ss (h : ev cl g a ρ S = .ok x S1) (hx : rd S1 x = some d) (hr : ssetD d = some r) : ev cl g (.sset a) ρ S = .ok (.p r) S1 := by
  rw [qev_14, h, bind_ok]
  simp only [hx, hr, pOpt_some]
theorem x_bi {f : Bi} (h : ev cl g a ρ S = .ok x S1) (hx : rd S1 x = some d) (hr : biD f [d] = some r) : ev cl g (.bi f [a]) ρ S = .ok (.p r) S1 := by
  rw [qev_13, qevs_2, h, bind_ok, qevs_1, bind_ok, bind_ok]
  simp only [qrdAll_2, qrdAll_1, hx, hr, pOpt_some]
theorem x_bin {o : Bop} (h : ev cl g a ρ S = .ok x S1) (h' : ev cl g b ρ S1 = .ok y S2) (hx : rd S2 x = some d1) (hy : rd S2 y = some d2) (hr : binD o d1 d2 = some r) : ev cl g (.bin o a b) ρ S = .ok (.p r) S2 := by
  rw [qev_4, h, bind_ok, h', bind_ok]
  simp only [hx, hy, hr, pOpt_some]
theorem x_cmp {o : Cop} {q : Bool} (h : ev cl g a ρ S = .ok x S1) (h' : ev cl g b ρ S1 = .ok y S2) (hx : rd S2 x = some d1) (hy : rd S2 y = some d2) (hr : cmpD o d1 d2 = some q) : ev cl g (.cmp o a b) ρ S = .ok (.p (.bool q)) S2 := by
  rw [qev_6, h, bind_ok, h', bind_ok]
  simp only [hx, hy, hr, bOpt_some]
theorem x_idx (h : ev cl g a ρ S = .ok x S1) (h' : ev cl g b ρ S1 = .ok y S2) (hx : rd S2 x = some d1) (hy : rd S2 y = some d2) (hr : idxD d1 d2 = some r) : ev cl g (.idx a b) ρ S = .ok (.p r) S2 := by
  rw [qev_16, h, bind_ok, h', bind_ok]
  simp only [hx, hy, hr, pOpt_some]
theorem x_neg {i : Int} (h : ev cl g a ρ S = .ok (.p (.int i)) S1) : ev cl g (.neg a) ρ S = .ok (.p (.int (-i))) S1 := by
  rw [qev_5, h, bind_ok]
theorem x_not {q : Bool} (h : ev cl g a ρ S = .ok (.p (.bool q)) S1) : ev cl g (.not a) ρ S = .ok (.p (.bool !q)) S1 := by
  rw [qev_10, h, bind_ok, asB_b, bind_ok]
theorem x_and {q q' : Bool} (h : ev cl g a ρ S = .ok (.p (.bool q)) S) (h' : q = true → ev cl g b ρ S = .ok (.p (.bool q')) S) : ev cl g (.and a b) ρ S = .ok (.p (.bool (q && q'))) S := by
  rw [qev_8, h, bind_ok, asB_b, bind_ok]
  cases q with
  | true => rw [if_pos rfl, h' rfl]; rfl
  | false => rfl
theorem x_or {q q' : Bool} (h : ev cl g a ρ S = .ok (.p (.bool q)) S) (h' : q = false → ev cl g b ρ S = .ok (.p (.bool q')) S) : ev cl g (.or a b) ρ S = .ok (.p (.bool (q || q'))) S := by
  rw [qev_9, h, bind_ok, asB_b, bind_ok]
  cases q with
  | true => rfl
  | false => rw [if_neg (by simp), h' rfl]; rfl
theorem x_it {v : Vl} (h : ev cl g c ρ S = .ok (.p (.bool true)) S1) (h' : ev cl g a ρ S1 = .ok v S2) : ev cl g (.ite c a b) ρ S = .ok v S2 := by
  rw [qev_11, h, bind_ok, asB_b, bind_ok, if_pos rfl, h']
theorem x_if {v : Vl} (h : ev cl g c ρ S = .ok (.p (.bool false)) S1) (h' : ev cl g b ρ S1 = .ok v S2) : ev cl g (.ite c a b) ρ S = .ok v S2 := by
  rw [qev_11, h, bind_ok, asB_b, bind_ok, if_neg (by simp), h']
theorem x_ite {q : Bool} {v v' : D} (h : ev cl g c ρ S = .ok (.p (.bool q)) S) (h1 : q = true → ev cl g a ρ S = .ok (.p v) S) (h2 : q = false → ev cl g b ρ S = .ok (.p v') S) : ev cl g (.ite c a b) ρ S = .ok (.p (if q then v else v')) S := by
  cases q with
  | true => exact x_it h (h1 rfl)
  | false => exact x_if h (h2 rfl)
theorem x_c1 {f : Str} {v : Vl} (h : ev cl g a ρ S = .ok x S1) (hc : cl f [x] S1 = .ok v S2) : ev cl g (.call f [a]) ρ S = .ok v S2 := by
  rw [qev_12, qevs_2, h, bind_ok, qevs_1, bind_ok, bind_ok, hc]
theorem x_c2 {f : Str} {v : Vl} {S3 : Store} (h : ev cl g a ρ S = .ok x S1) (h' : ev cl g b ρ S1 = .ok y S2) (hc : cl f [x, y] S2 = .ok v S3) : ev cl g (.call f [a, b]) ρ S = .ok v S3 := by
  rw [qev_12, qevs_2, h, bind_ok, qevs_2, h', bind_ok, qevs_1, bind_ok, bind_ok, bind_ok, hc]
theorem x_c3 {f : Str} {v z : Vl} {S3 S4 : Store} (h : ev cl g a ρ S = .ok x S1) (h' : ev cl g b ρ S1 = .ok y S2) (h'' : ev cl g c ρ S2 = .ok z S3) (hc : cl f [x, y, z] S3 = .ok v S4) : ev cl g (.call f [a, b, c]) ρ S = .ok v S4 := by
  rw [qev_12, qevs_2, h, bind_ok, qevs_2, h', bind_ok, qevs_2, h'', bind_ok, qevs_1, bind_ok, bind_ok, bind_ok, bind_ok, hc]
theorem x_t1 (h : ev cl g a ρ S = .ok (.p d) S) : ev cl g (.tup [a]) ρ S = .ok (.p (.tuple [d])) S := ev_t (ds := [d]) (ev_sc h ev_sn) (by simp)
theorem x_t2 (h : ev cl g a ρ S = .ok (.p d) S) (h' : ev cl g b ρ S = .ok (.p d1) S) : ev cl g (.tup [a, b]) ρ S = .ok (.p (.tuple [d, d1])) S := ev_t (ds := [d, d1]) (ev_sc h (ev_sc h' ev_sn)) (by simp)
theorem x_l1 (h : ev cl g a ρ S = .ok (.p d) S) : ev cl g (.lst [a]) ρ S = .ok (.p (.list [d])) S := ev_l (ds := [d]) (ev_sc h ev_sn) (by simp)
theorem x_l0 : ev cl g (.lst []) ρ S = .ok (.p (.list [])) S := rfl
theorem x_t0 : ev cl g (.tup []) ρ S = .ok (.p (.tuple [])) S := rfl
theorem x_isi {t : Ty} {q : Bool} (h : ev cl g a ρ S = .ok x S1) (hx : rd S1 x = some d) (hr : isiD d t = q) : ev cl g (.isi a t) ρ S = .ok (.p (.bool q)) S1 := by
  rw [qev_26, h, bind_ok]
  simp only [hx, hr]
/-- two fors -/
theorem mapR2_flat {α : Type} {k : α → D} {f : D → Store → Res (List D)} {q : α → List D} : ∀ {as : List α} {S : Store}, (∀ a ∈ as, f (k a) S = .ok (q a) S) → mapR2 f (as.map k) S = .ok (as.flatMap q) S
  | [], _, _ => rfl
  | a :: as, S, h => by
    rw [List.map_cons, mapR2, h a List.mem_cons_self, bind_ok, mapR2_flat fun b hb => h b (List.mem_cons_of_mem _ hb), bind_ok, List.flatMap_cons]
theorem ev_lc2M {α β : Type} {k : α → D} {k' : β → D} {as : List α} {bs : List β} {q : α → β → D} {vs ts ts1 : List Nat} {tup tup1 : Bool} {it it1 : Ex} (hi : ev cl g it ρ S = .ok x S) (hx : itemsOf x = some (as.map k)) (hl : as.length * bs.length ≤ 100000)
    (h : ∀ a ∈ as, ∃ ρ2 y, bindT (wipeR ρ vs) ts tup (k a) = some ρ2 ∧ ev cl g it1 ρ2 S = .ok y S ∧ itemsOf y = some (bs.map k') ∧ ∀ b ∈ bs, ∃ ρ3, bindT (wipeR ρ2 ts1) ts1 tup1 (k' b) = some ρ3 ∧ ev cl g e ρ3 S = .ok (.p (q a b)) S) :
    ev cl g (.lc2 vs ts tup it ts1 tup1 it1 e) ρ S = .ok (.p (.list (as.flatMap fun a => bs.map (q a)))) S := by
  have hln : (as.flatMap fun a => bs.map (q a)).length = as.length * bs.length := by
    clear h hx hl
    induction as with
    | nil => simp
    | cons a as ih => rw [List.flatMap_cons, List.length_append, List.length_map, ih, List.length_cons, Nat.add_mul]; omega
  have ho : okLen (as.flatMap fun a => bs.map (q a)).length = true := by rw [hln]; exact lenOk hl
  rw [qev_34, hi, bind_ok]
  simp only [hx]
  rw [mapR2_flat (q := fun a => bs.map (q a)) fun a ha => ?_]
  · simp only [noX_ok, bind_ok, ho, if_true]
  · obtain ⟨ρ2, y, e1, e2, e3, e4⟩ := h a ha
    simp only [e1, e2, bind_ok, e3]
    rw [map_detM k' (fun b => some (q a b)) fun b hb => ?_]
    · rw [show bs.filterMap (fun b => some (q a b)) = bs.map (q a) from congrFun (List.filterMap_eq_map (f := q a)) bs]
    · obtain ⟨ρ3, z1, z2⟩ := e4 b hb
      simp only [z1, z2, bind_ok]
end
theorem bi_any {α : Type} (as : List α) (p : α → Bool) : biD .any [.list (as.map fun a => .bool (p a))] = some (.bool (as.any p)) := by
  have h := boolsOf_map (as.map p)
  rw [List.map_map] at h
  show (boolsOf (as.map fun a => PyData.bool (p a))).map (fun bs => PyData.bool (bs.any id)) = _
  rw [show (as.map fun a => PyData.bool (p a)) = as.map (PyData.bool ∘ p) from rfl, h, Option.map_some, List.any_map]
  rfl
theorem bi_all {α : Type} (as : List α) (p : α → Bool) : biD .all [.list (as.map fun a => .bool (p a))] = some (.bool (as.all p)) := by
  have h := boolsOf_map (as.map p)
  rw [List.map_map] at h
  show (boolsOf (as.map fun a => PyData.bool (p a))).map (fun bs => PyData.bool (bs.all id)) = _
  rw [show (as.map fun a => PyData.bool (p a)) = as.map (PyData.bool ∘ p) from rfl, h, Option.map_some, List.all_map]
  rfl
theorem bi_len {ds : List D} : biD .len [.list ds] = some (.int (ds.length : Nat)) := rfl
theorem bi_lenT {ds : List D} : biD .len [.tuple ds] = some (.int (ds.length : Nat)) := rfl
theorem bi_tup {ds : List D} : biD .tuple [.list ds] = some (.tuple ds) := rfl
end Lw

set_option Elab.async false
set_option linter.all false
set_option autoImplicit false
set_option maxRecDepth 100000
/-! More codes of defs that many laws share (printed by gen.py). -/
namespace Lw
open PySem Pl
/-- is_word -/
def cisUword : Fn := ⟨"is_word", 2, 2, [
  .ret (.and (.isi (.var 0) .str) (.cmp .eq (.var 0) (.var 1)))]⟩
/-- sure_value -/
def csureUvalue : Fn := ⟨"sure_value", 2, 5, [
  .ite (.cmp .eq (.idx (.var 0) (.con (.int 0))) (.con (.str "letter"))) [.ret (.dgt (.var 1) (.idx (.var 0) (.con (.int 1))))] [],
  .ite (.cmp .eq (.idx (.var 0) (.con (.int 0))) (.con (.str "false"))) [.ret (.con (.int 0))] [],
  .par [3, 4] [(.call "sure_value" [(.idx (.var 0) (.con (.int 1))), (.var 1)]), (.call "sure_value" [(.idx (.var 0) (.con (.int 2))), (.var 1)])],
  .ite (.cmp .eq (.idx (.var 0) (.con (.int 0))) (.con (.str "if"))) [.asg 3 (.ite (.cmp .is_ (.var 3) (.con .none)) (.con .none) (.bin .sub (.con (.int 1)) (.var 3)))] [],
  .asg 2 (.ite (.cmp .eq (.idx (.var 0) (.con (.int 0))) (.con (.str "and"))) (.con (.int 0)) (.con (.int 1))),
  .ite (.or (.cmp .eq (.var 3) (.var 2)) (.cmp .eq (.var 4) (.var 2))) [.ret (.var 2)] [],
  .ret (.ite (.or (.cmp .is_ (.var 3) (.con .none)) (.cmp .is_ (.var 4) (.con .none))) (.con .none) (.bin .sub (.con (.int 1)) (.var 2)))]⟩
/-- grown -/
def cgrown : Fn := ⟨"grown", 2, 6, [
  .ite (.cmp .eq (.call "sure_value" [(.var 0), (.var 1)]) (.con (.int 1))) [.ret (.glob "LEAF")] [],
  .asg 2 (.idx (.lc [5] [5] false (.call "letters_in" [(.var 0)]) [(.cmp .nin (.var 5) (.var 1))] (.var 5)) (.con (.int 0))),
  .par [3, 4] [(.mdd (.var 1)), (.mdd (.var 1))],
  .setix (.var 3) (.var 2) (.con (.int 0)),
  .setix (.var 4) (.var 2) (.con (.int 1)),
  .ret (.tup [(.var 2), (.call "grown" [(.var 0), (.var 3)]), (.call "grown" [(.var 0), (.var 4)])])]⟩
/-- merged -/
def cmerged : Fn := ⟨"merged", 2, 4, [
  .asg 2 (.bi .tuple [(.sset (.bin .add (.var 0) (.var 1)))]),
  .ret (.ite (.bi .any [(.lc [3] [3] false (.var 2) [] (.cmp .in_ (.neg (.var 3)) (.var 2)))]) (.con .none) (.var 2))]⟩
/-- normal -/
def cnormal : Fn := ⟨"normal", 2, 8, [
  .ite (.cmp .eq (.idx (.var 0) (.con (.int 0))) (.con (.str "letter"))) [.ret (.lst [(.tup [(.bin .mul (.var 1) (.bin .add (.idx (.var 0) (.con (.int 1))) (.con (.int 1))))])])] [],
  .ite (.cmp .eq (.idx (.var 0) (.con (.int 0))) (.con (.str "false"))) [.ret (.ite (.cmp .eq (.var 1) (.con (.int 1))) (.lst [(.tup [])]) (.lst []))] [],
  .asg 2 (.call "normal" [(.idx (.var 0) (.con (.int 1))), (.ite (.cmp .eq (.idx (.var 0) (.con (.int 0))) (.con (.str "if"))) (.neg (.var 1)) (.var 1))]),
  .asg 3 (.call "normal" [(.idx (.var 0) (.con (.int 2))), (.var 1)]),
  .ite (.cmp .eq (.cmp .eq (.idx (.var 0) (.con (.int 0))) (.con (.str "and"))) (.cmp .eq (.var 1) (.con (.int 1)))) [.ret (.sset (.bin .add (.var 2) (.var 3)))] [],
  .asg 4 (.lc2 [5, 6] [5] false (.var 2) [6] false (.var 3) (.call "merged" [(.var 5), (.var 6)])),
  .ret (.sset (.lc [7] [7] false (.var 4) [(.cmp .isn (.var 7) (.con .none))] (.var 7)))]⟩
/-- inputs -/
def cinputs : Fn := ⟨"inputs", 1, 4, [
  .asg 1 (.call "normal" [(.var 0), (.neg (.con (.int 1)))]),
  .ret (.lc [2] [2] false (.var 1) [(.not (.bi .any [(.lc [3] [3] false (.var 1) [] (.and (.cmp .ne (.var 3) (.var 2)) (.call "is_within" [(.var 3), (.var 2)])))]))] (.var 2))]⟩
/-- is_within -/
def cisUwithin : Fn := ⟨"is_within", 2, 3, [
  .ret (.bi .all [(.lc [2] [2] false (.var 0) [] (.cmp .in_ (.var 2) (.var 1)))])]⟩
/-- is_line -/
def cisUline : Fn := ⟨"is_line", 1, 1, [
  .ite (.or (.not (.isi (.var 0) .tuple)) (.cmp .eq (.bi .len [(.var 0)]) (.con (.int 0)))) [.ret (.con (.bool false))] [],
  .ite (.call "is_word" [(.idx (.var 0) (.con (.int 0))), (.con (.str "input"))]) [.ret (.and (.cmp .eq (.bi .len [(.var 0)]) (.con (.int 2))) (.call "is_from" [(.idx (.var 0) (.con (.int 1))), (.con (.int 0)), (.con (.int 999))]))] [],
  .ite (.or (.not (.call "is_word" [(.idx (.var 0) (.con (.int 0))), (.con (.str "resolve"))])) (.cmp .ne (.bi .len [(.var 0)]) (.con (.int 4)))) [.ret (.con (.bool false))] [],
  .ret (.and (.call "is_from" [(.idx (.var 0) (.con (.int 1))), (.con (.int 0)), (.con (.int 999))]) (.and (.call "is_from" [(.idx (.var 0) (.con (.int 2))), (.con (.int 0)), (.con (.int 999))]) (.call "is_from" [(.idx (.var 0) (.con (.int 3))), (.con (.int 0)), (.bin .sub (.glob "LETTERS") (.con (.int 1)))])))]⟩
/-- resolved -/
def cresolved : Fn := ⟨"resolved", 3, 6, [
  .asg 3 (.bin .add (.var 2) (.con (.int 1))),
  .ite (.or (.cmp .nin (.var 3) (.var 0)) (.cmp .nin (.neg (.var 3)) (.var 1))) [.ret (.con .none)] [],
  .asg 4 (.tup [(.bi .tuple [(.lc [5] [5] false (.var 0) [(.cmp .ne (.var 5) (.var 3))] (.var 5))]), (.bi .tuple [(.lc [5] [5] false (.var 1) [(.cmp .ne (.var 5) (.neg (.var 3)))] (.var 5))])]),
  .ret (.call "merged" [(.idx (.var 4) (.con (.int 0))), (.idx (.var 4) (.con (.int 1)))])]⟩
/-- line_clause -/
def clineUclause : Fn := ⟨"line_clause", 3, 3, [
  .ite (.cmp .eq (.idx (.var 2) (.con (.int 0))) (.con (.str "input"))) [.ret (.ite (.cmp .lt (.idx (.var 2) (.con (.int 1))) (.bi .len [(.var 0)])) (.idx (.var 0) (.idx (.var 2) (.con (.int 1)))) (.con .none))] [],
  .ite (.or (.cmp .ge (.idx (.var 2) (.con (.int 1))) (.bi .len [(.var 1)])) (.cmp .ge (.idx (.var 2) (.con (.int 2))) (.bi .len [(.var 1)]))) [.ret (.con .none)] [],
  .ret (.call "resolved" [(.idx (.var 1) (.idx (.var 2) (.con (.int 1)))), (.idx (.var 1) (.idx (.var 2) (.con (.int 2)))), (.idx (.var 2) (.con (.int 3)))])]⟩
/-- clauses_told -/
def cclausesUtold : Fn := ⟨"clauses_told", 2, 6, [
  .asg 2 (.call "inputs" [(.var 0)]),
  .asg 3 (.mls []),
  .for_ [4] false (.var 1) [.asg 5 (.call "line_clause" [(.var 2), (.var 3), (.var 4)]), .ite (.cmp .is_ (.var 5) (.con .none)) [.ret (.frz (.var 3))] [], .exp (.met .append (.var 3) [(.var 5)])],
  .ret (.frz (.var 3))]⟩
/-- with_line -/
def cwithUline : Fn := ⟨"with_line", 4, 4, [
  .ite (.cmp .in_ (.var 3) (.var 1)) [.ret (.inx (.var 1) (.var 3))] [],
  .exp (.met .append (.var 0) [(.var 2)]),
  .exp (.met .append (.var 1) [(.var 3)]),
  .ret (.bin .sub (.bi .len [(.var 1)]) (.con (.int 1)))]⟩
/-- refuted -/
def crefuted : Fn := ⟨"refuted", 5, 14, [
  .ite (.cmp .eq (.bi .len [(.var 1)]) (.con (.int 0))) [.asg 8 (.call "inputs" [(.var 0)]), .asg 9 (.call "first_true" [(.lc [12] [12] false (.var 8) [] (.bi .all [(.lc [13] [13] false (.var 12) [] (.cmp .eq (.dgt (.var 2) (.bin .sub (.bi .abs [(.var 13)]) (.con (.int 1)))) (.bi .int [(.cmp .lt (.var 13) (.con (.int 0)))])))]))]), .ret (.call "with_line" [(.var 3), (.var 4), (.tup [(.con (.str "input")), (.var 9)]), (.idx (.var 8) (.var 9))])] [],
  .asg 5 (.idx (.var 1) (.con (.int 0))),
  .par [10, 11] [(.mdd (.var 2)), (.mdd (.var 2))],
  .setix (.var 10) (.var 5) (.con (.int 0)),
  .setix (.var 11) (.var 5) (.con (.int 1)),
  .asg 6 (.call "refuted" [(.var 0), (.idx (.var 1) (.con (.int 1))), (.var 10), (.var 3), (.var 4)]),
  .ite (.cmp .nin (.bin .add (.var 5) (.con (.int 1))) (.idx (.var 4) (.var 6))) [.ret (.var 6)] [],
  .asg 7 (.call "refuted" [(.var 0), (.idx (.var 1) (.con (.int 2))), (.var 11), (.var 3), (.var 4)]),
  .ite (.cmp .nin (.bin .sub (.neg (.var 5)) (.con (.int 1))) (.idx (.var 4) (.var 7))) [.ret (.var 7)] [],
  .ret (.call "with_line" [(.var 3), (.var 4), (.tup [(.con (.str "resolve")), (.var 6), (.var 7), (.var 5)]), (.call "resolved" [(.idx (.var 4) (.var 6)), (.idx (.var 4) (.var 7)), (.var 5)])])]⟩
/-- from_cases -/
def cfromUcases : Fn := ⟨"from_cases", 2, 5, [
  .par [3, 4] [(.mls []), (.mls [])],
  .asg 2 (.call "refuted" [(.var 0), (.var 1), .mdc, (.var 3), (.var 4)]),
  .ret (.bi .tuple [(.slH (.var 3) (.bin .add (.var 2) (.con (.int 1))))])]⟩
/-- _law_normal -/
def cUlawUnormal : Fn := ⟨"_law_normal", 2, 9, [
  .ite (.cmp .eq (.idx (.var 0) (.con (.int 0))) (.con (.str "letter"))) [.ret (.lst [(.tup [(.bin .mul (.var 1) (.bin .add (.idx (.var 0) (.con (.int 1))) (.con (.int 1))))])])] [],
  .ite (.cmp .eq (.idx (.var 0) (.con (.int 0))) (.con (.str "false"))) [.ret (.ite (.cmp .eq (.var 1) (.con (.int 1))) (.lst [(.tup [])]) (.lst []))] [],
  .asg 2 (.call "_law_normal" [(.idx (.var 0) (.con (.int 1))), (.ite (.cmp .eq (.idx (.var 0) (.con (.int 0))) (.con (.str "if"))) (.bin .sub (.con (.int 0)) (.var 1)) (.var 1))]),
  .asg 3 (.call "_law_normal" [(.idx (.var 0) (.con (.int 2))), (.var 1)]),
  .ite (.or (.and (.cmp .eq (.idx (.var 0) (.con (.int 0))) (.con (.str "and"))) (.cmp .eq (.var 1) (.con (.int 1)))) (.and (.cmp .ne (.idx (.var 0) (.con (.int 0))) (.con (.str "and"))) (.cmp .eq (.var 1) (.neg (.con (.int 1)))))) [.ret (.bin .add (.var 2) (.var 3))] [],
  .asg 4 (.mls []),
  .for_ [5] false (.var 2) [.for_ [6] false (.var 3) [.asg 7 (.bi .tuple [(.sset (.bin .add (.var 5) (.var 6)))]), .ite (.and (.cmp .eq (.bi .len [(.lc [8] [8] false (.var 7) [(.cmp .in_ (.bin .sub (.con (.int 0)) (.var 8)) (.var 7))] (.var 8))]) (.con (.int 0))) (.cmp .nin (.var 7) (.var 4))) [.exp (.met .append (.var 4) [(.var 7)])] []]],
  .ret (.frz (.var 4))]⟩
/-- _law_inputs -/
def cUlawUinputs : Fn := ⟨"_law_inputs", 1, 5, [
  .asg 1 (.sset (.call "_law_normal" [(.var 0), (.neg (.con (.int 1)))])),
  .ret (.lc [2] [2] false (.var 1) [(.cmp .eq (.bi .len [(.lc [3] [3] false (.var 1) [(.and (.cmp .ne (.var 3) (.var 2)) (.cmp .eq (.bi .len [(.lc [4] [4] false (.var 3) [(.cmp .nin (.var 4) (.var 2))] (.var 4))]) (.con (.int 0))))] (.var 3))]) (.con (.int 0)))] (.var 2))]⟩
/-- _law_line_form -/
def cUlawUlineUform : Fn := ⟨"_law_line_form", 1, 1, [
  .ite (.or (.not (.isi (.var 0) .tuple)) (.or (.cmp .eq (.bi .len [(.var 0)]) (.con (.int 0))) (.not (.isi (.idx (.var 0) (.con (.int 0))) .str)))) [.ret (.con (.bool false))] [],
  .ite (.cmp .eq (.idx (.var 0) (.con (.int 0))) (.con (.str "input"))) [.ret (.and (.cmp .eq (.bi .len [(.var 0)]) (.con (.int 2))) (.call "_law_is_number" [(.idx (.var 0) (.con (.int 1))), (.con (.int 0)), (.con (.int 999))]))] [],
  .ret (.and (.cmp .eq (.idx (.var 0) (.con (.int 0))) (.con (.str "resolve"))) (.and (.cmp .eq (.bi .len [(.var 0)]) (.con (.int 4))) (.and (.call "_law_is_number" [(.idx (.var 0) (.con (.int 1))), (.con (.int 0)), (.con (.int 999))]) (.and (.call "_law_is_number" [(.idx (.var 0) (.con (.int 2))), (.con (.int 0)), (.con (.int 999))]) (.call "_law_is_number" [(.idx (.var 0) (.con (.int 3))), (.con (.int 0)), (.con (.int 3))])))))]⟩
/-- _law_line_clause -/
def cUlawUlineUclause : Fn := ⟨"_law_line_clause", 3, 8, [
  .ite (.cmp .eq (.idx (.var 2) (.con (.int 0))) (.con (.str "input"))) [.ret (.ite (.cmp .lt (.idx (.var 2) (.con (.int 1))) (.bi .len [(.var 0)])) (.idx (.var 0) (.idx (.var 2) (.con (.int 1)))) (.con .none))] [],
  .ite (.cmp .ge (.bi .max [(.idx (.var 2) (.con (.int 1))), (.idx (.var 2) (.con (.int 2)))]) (.bi .len [(.var 1)])) [.ret (.con .none)] [],
  .par [4, 5, 6] [(.idx (.var 1) (.idx (.var 2) (.con (.int 1)))), (.idx (.var 1) (.idx (.var 2) (.con (.int 2)))), (.bin .add (.idx (.var 2) (.con (.int 3))) (.con (.int 1)))],
  .ite (.or (.cmp .nin (.var 6) (.var 4)) (.cmp .nin (.bin .sub (.con (.int 0)) (.var 6)) (.var 5))) [.ret (.con .none)] [],
  .asg 3 (.bi .tuple [(.sset (.bin .add (.lc [7] [7] false (.var 4) [(.cmp .ne (.var 7) (.var 6))] (.var 7)) (.lc [7] [7] false (.var 5) [(.cmp .ne (.var 7) (.bin .sub (.con (.int 0)) (.var 6)))] (.var 7))))]),
  .ret (.ite (.cmp .eq (.bi .len [(.lc [7] [7] false (.var 3) [(.cmp .in_ (.bin .sub (.con (.int 0)) (.var 7)) (.var 3))] (.var 7))]) (.con (.int 0))) (.var 3) (.con .none))]⟩
end Lw

set_option Elab.async false
set_option linter.all false
set_option autoImplicit false
set_option maxRecDepth 100000
set_option maxHeartbeats 0
/-! PLO: the defs that make clauses. -/
namespace Lw
open PySem PySem.Spec Pl L2
theorem contains_map (c : Cla) : (c.any fun w => c.contains (-w)) = taut c := rfl
def mrgD (a b : Cla) : D := if taut (setI (a ++ b)) then .none else rowT (setI (a ++ b))
theorem add_rows (a b : Cla) (h : a.length + b.length ≤ 1000) : binD .add (rowT a) (rowT b) = some (rowT (a ++ b)) := by
  show (if okLen ((a.map PyData.int).length + (b.map PyData.int).length) then some (PyData.tuple (a.map .int ++ b.map .int)) else none) = _
  rw [List.length_map, List.length_map, lenOk (by omega), if_pos rfl]
  simp [rowT]
theorem add_lists (a b : List D) (h : a.length + b.length ≤ 100000) : binD .add (.list a) (.list b) = some (.list (a ++ b)) := by
  show (if okLen (a.length + b.length) then some (PyData.list (a ++ b)) else none) = _
  rw [lenOk h, if_pos rfl]
section
variable {P : Prog}
theorem e_merged (h : Has P cmerged) {n : Nat} (hn : 1 ≤ n) {a b : Cla} (hl : a.length + b.length < 64) (S : Store) : P.call n "merged" [.p (rowT a), .p (rowT b)] S = .ok (.p (mrgD a b)) S := by
  obtain ⟨n, rfl, hm⟩ := pred hn
  rw [show ("merged" : Str) = cmerged.name from rfl, h.call]
  refine run_rt rfl ((ss_nx (ρ1 := [some (.p (rowT a)), some (.p (rowT b)), some (.p (rowT (setI (a ++ b)))), none]) (S1 := S) (asg_ok (x_bi (d := .list ((setI (a ++ b)).map .int)) (x_ss (d := rowT (a ++ b)) (x_bin (x_v rfl) (x_v rfl) rfl rfl (add_rows a b (by omega))) rfl (sset_row (by rw [List.length_append]; omega))) rfl rfl))).trans (ss_rt (ret_ok ?_)))
  refine x_ite (q := taut (setI (a ++ b))) (x_bi (ev_lcmM (k := PyData.int) (as := setI (a ++ b)) (q := fun w => .bool ((setI (a ++ b)).contains (-w))) (x_v rfl) rfl ?_ fun w hw => ⟨_, rfl, x_cmp (x_neg (x_v rfl)) (x_v rfl) rfl rfl (in_row _ _)⟩) rfl (bi_any _ _)) (fun _ => x_k) (fun _ => x_v rfl)
  have : ∀ ns : List Int, (setI ns).length ≤ ns.length := fun ns => by
    induction ns with
    | nil => simp [setI]
    | cons n ns ih =>
      have hi : ∀ xs : List Int, (insI n xs).length ≤ xs.length + 1 := fun xs => by
        induction xs with
        | nil => simp [insI]
        | cons x xs ih => unfold insI; split <;> (try split) <;> simp only [List.length_cons] <;> omega
      have := hi (setI ns)
      show (insI n (setI ns)).length ≤ _
      simp only [List.length_cons]
      omega
  have := this (a ++ b)
  rw [List.length_append] at this
  omega
theorem sg_lit (s : Bool) (i : Nat) : binD .mul (.int (sgn s)) (.int ((i : Int) + 1)) = some (.int (sgn s * ((i : Int) + 1))) := by
  show (if small (sgn s) || small ((i : Int) + 1) then some (PyData.int (sgn s * ((i : Int) + 1))) else none) = _
  rw [show small (sgn s) = true by cases s <;> decide, Bool.true_or, if_pos rfl]
theorem sgn_1 (s : Bool) : PyData.eqv (.int (sgn s)) (.int 1) = s := by cases s <;> simp [sgn]
theorem sgn_m1 (s : Bool) : PyData.eqv (.int (sgn s)) (.int (-1)) = !s := by cases s <;> simp [sgn]
theorem sgn_neg (s : Bool) : -(sgn s) = sgn (!s) := by cases s <;> rfl
theorem nrm_short {k : Nat} {f : Fm} {s : Bool} {c : Cla} (hk : k ≤ 4) (hf : f.in_ k) (h : c ∈ nrm f s) : c.length ≤ 8 := cla_len hk (nrm_cla h) (nrm_wish hf h)
theorem flat_prod (one two : List Cla) : ((one.flatMap fun a => two.map fun b => mrgD a b).filter fun d => !Pl.isNon d) = (prod one two).map rowT := by
  have one1 : ∀ (a : Cla) (two : List Cla), ((two.map fun b => mrgD a b).filter fun d => !Pl.isNon d) = ((two.map fun b => setI (a ++ b)).filter fun c => !taut c).map rowT := fun a two => by
    induction two with
    | nil => rfl
    | cons b two ih =>
      rw [List.map_cons, List.map_cons, List.filter_cons, List.filter_cons]
      unfold mrgD
      cases taut (setI (a ++ b)) with
      | true => simp only [if_true, Pl.isNon, Bool.not_true, Bool.false_eq_true, if_false]; exact ih
      | false =>
        have : Pl.isNon (rowT (setI (a ++ b))) = false := rfl
        simp only [Bool.false_eq_true, if_false, this, Bool.not_false, if_true, List.map_cons]
        rw [← ih]
        rfl
  unfold prod
  induction one with
  | nil => rfl
  | cons a one ih =>
    rw [List.flatMap_cons, List.flatMap_cons, List.filter_append, List.filter_append, List.map_append, ih, one1]
theorem q_eq (q : Con) (x y : Fm) (w : String) : PyData.eqv (.str q.s) (.str w) = decide (q.s = Str.ofString w) := eqv_str
theorem e_normal (hm : Has P cmerged) (h : Has P cnormal) : ∀ (f : Fm) (s : Bool) (n : Nat), f.in_ 4 → f.ht + 2 ≤ n → wok f s = true → ∀ S, P.call n "normal" [.p f.d, .p (.int (sgn s))] S = .ok (.p (.list ((nrm f s).map rowT))) S
  | .lt i, s, n, hf, hn, hw, S => by
    obtain ⟨n, rfl, hm'⟩ := pred (n := n) (k := 1) (by omega)
    rw [show ("normal" : Str) = cnormal.name from rfl, h.call]
    have i0 : idxD (Fm.lt i).d (.int 0) = some (.str "letter") := by simp [Fm.d, atI_0]
    have i1 : idxD (Fm.lt i).d (.int 1) = some (.int i) := by simp [Fm.d, atI_1]
    exact run_rt rfl (ss_rt ((ite_t (x_cmp (x_idx (x_v rfl) x_k rfl rfl i0) x_k rfl rfl (by simp))).trans (ss_rt (ret_ok
      (x_l1 (x_t1 (x_bin (x_v rfl) (x_bin (x_idx (x_v rfl) x_k rfl rfl i1) x_k rfl rfl rfl) rfl rfl (sg_lit s i))))))))
  | .ff, s, n, hf, hn, hw, S => by
    obtain ⟨n, rfl, hm'⟩ := pred (n := n) (k := 1) (by omega)
    rw [show ("normal" : Str) = cnormal.name from rfl, h.call]
    have i0 : idxD Fm.ff.d (.int 0) = some (.str "false") := by simp [Fm.d, atI_0]
    refine run_rt rfl ((ss_nx (ite_n (x_cmp (x_idx (x_v rfl) x_k rfl rfl i0) x_k rfl rfl (by simp [ofStr_inj])))).trans (ss_rt ((ite_t (x_cmp (x_idx (x_v rfl) x_k rfl rfl i0) x_k rfl rfl (by simp))).trans (ss_rt (ret_ok ?_)))))
    cases s with
    | true => exact x_it (x_cmp (x_v rfl) x_k rfl rfl (by simp [sgn])) (x_l1 x_t0)
    | false => exact x_if (x_cmp (x_v rfl) x_k rfl rfl (by simp [sgn])) x_l0
  | .bi q x y, s, n, hf, hn, hw, S => by
    simp only [Fm.ht] at hn
    obtain ⟨n, rfl, hm'⟩ := pred (n := n) (k := max x.ht y.ht + 2) (by omega)
    rw [show ("normal" : Str) = cnormal.name from rfl, h.call]
    have i0 : idxD (Fm.bi q x y).d (.int 0) = some (.str q.s) := by simp [Fm.d, atI_0]
    have i1 : idxD (Fm.bi q x y).d (.int 1) = some x.d := by simp [Fm.d, atI_1]
    have i2 : idxD (Fm.bi q x y).d (.int 2) = some y.d := by simp [Fm.d, atI_2]
    simp only [wok, Bool.and_eq_true, decide_eq_true_eq] at hw
    obtain ⟨hw0, hw1, hw2⟩ := hw
    have hx := e_normal hm h x (flipS q s) n hf.1 (by omega) hw1 S
    have hy := e_normal hm h y s n hf.2 (by omega) hw2 S
    have lx := nrm_len x (flipS q s)
    have ly := nrm_len y s
    have sx : ∀ c ∈ nrm x (flipS q s), c.length ≤ 8 := fun c hc => nrm_short (k := 4) (by omega) hf.1 hc
    have sy : ∀ c ∈ nrm y s, c.length ≤ 8 := fun c hc => nrm_short (k := 4) (by omega) hf.2 hc
    have res : nrm (.bi q x y) s = if isSum q s then setR (nrm x (flipS q s) ++ nrm y s) else setR (prod (nrm x (flipS q s)) (nrm y s)) := rfl
    have hwl : wl (.bi q x y) s = if isSum q s then wl x (flipS q s) + wl y s else wl x (flipS q s) * wl y s := rfl
    rw [res]
    rw [hwl] at hw0
    generalize (Fm.bi q x y).d = fd at i0 i1 i2
    generalize nrm x (flipS q s) = one at hx lx sx ⊢
    generalize nrm y s = two at hy ly sy ⊢
    have e2 : ev (P.call n) P.consts (.ite (.cmp .eq (.idx (.var 0) (.con (.int 0))) (.con (.str "if"))) (.neg (.var 1)) (.var 1)) [some (.p fd), some (.p (.int (sgn s))), none, none, none, none, none, none] S = .ok (.p (.int (sgn (flipS q s)))) S := by
      cases q with
      | i => exact (x_it (x_cmp (x_idx (x_v rfl) x_k rfl rfl i0) x_k rfl rfl (by simp [Con.s])) (x_neg (x_v rfl))).trans (by rw [sgn_neg]; rfl)
      | a => exact x_if (x_cmp (x_idx (x_v rfl) x_k rfl rfl i0) x_k rfl rfl (by simp [Con.s, ofStr_inj])) (x_v rfl)
      | o => exact x_if (x_cmp (x_idx (x_v rfl) x_k rfl rfl i0) x_k rfl rfl (by simp [Con.s, ofStr_inj])) (x_v rfl)
    have ea : cmpD .eq (.str q.s) (.str "and") = some (decide (q = .a)) := by cases q <;> simp [Con.s, ofStr_inj]
    have es : cmpD .eq (.int (sgn s)) (.int 1) = some s := by cases s <;> simp [sgn]
    have eb : cmpD .eq (.bool (decide (q = .a))) (.bool s) = some (isSum q s) := by
      unfold isSum
      cases decide (q = .a) <;> cases s <;> simp
    refine run_rt rfl ((ss_nx (ite_n (x_cmp (x_idx (x_v rfl) x_k rfl rfl i0) x_k rfl rfl (by cases q <;> simp [Con.s, ofStr_inj])))).trans ((ss_nx (ite_n (x_cmp (x_idx (x_v rfl) x_k rfl rfl i0) x_k rfl rfl (by cases q <;> simp [Con.s, ofStr_inj])))).trans
      ((ss_nx (asg_ok (x_c2 (x_idx (x_v rfl) x_k rfl rfl i1) e2 hx))).trans ((ss_nx (asg_ok (x_c2 (x_idx (x_v rfl) x_k rfl rfl i2) (x_v rfl) hy))).trans ?_))))
    have cond : ev (P.call n) P.consts (.cmp .eq (.cmp .eq (.idx (.var 0) (.con (.int 0))) (.con (.str "and"))) (.cmp .eq (.var 1) (.con (.int 1)))) [some (.p fd), some (.p (.int (sgn s))), some (.p (.list (one.map rowT))), some (.p (.list (two.map rowT))), none, none, none, none] S = .ok (.p (.bool (isSum q s))) S :=
      x_cmp (x_cmp (x_idx (x_v rfl) x_k rfl rfl i0) x_k rfl rfl ea) (x_cmp (x_v rfl) x_k rfl rfl es) rfl rfl eb
    cases hs : isSum q s with
    | true =>
      rw [hs] at cond hw0
      simp only [if_true] at hw0 ⊢
      refine ss_rt ((ite_t cond).trans (ss_rt (ret_ok (x_ss (d := .list ((one ++ two).map rowT)) (x_bin (x_v rfl) (x_v rfl) rfl rfl ?_) rfl (sset_rows (by rw [List.length_append]; omega))))))
      rw [List.map_append]
      exact add_lists _ _ (by rw [List.length_map, List.length_map]; omega)
    | false =>
      rw [hs] at cond hw0
      simp only [Bool.false_eq_true, if_false] at hw0 ⊢
      have hml : one.length * two.length < 64 := Nat.lt_of_le_of_lt (Nat.mul_le_mul lx ly) hw0
      refine (ss_nx (ite_n cond)).trans ((ss_nx (asg_ok (ev_lc2M (k := rowT) (k' := rowT) (as := one) (bs := two) (q := mrgD) (x_v rfl) rfl (by omega) fun a ha => ⟨_, _, rfl, x_v rfl, rfl, fun b hb => ⟨_, rfl, x_c2 (x_v rfl) (x_v rfl) (e_merged hm (by omega) (by have := sx a ha; have := sy b hb; omega) S)⟩⟩))).trans (ss_rt (ret_ok ?_)))
      have hfl : ((one.flatMap fun a => two.map fun b => mrgD a b)).length ≤ 100000 := by
        have : ((one.flatMap fun a => two.map fun b => mrgD a b)).length = one.length * two.length := by
          clear hx hy lx ly sx sy cond hml hw0
          induction one with
          | nil => simp
          | cons a one ih => rw [List.flatMap_cons, List.length_append, List.length_map, ih, List.length_cons, Nat.add_mul]; omega
        omega
      have e4 := ev_lcf (cl := P.call n) (g := P.consts) (ρ := [some (.p fd), some (.p (.int (sgn s))), some (.p (.list (one.map rowT))), some (.p (.list (two.map rowT))), some (.p (.list (one.flatMap fun a => two.map (mrgD a)))), none, none, none]) (S := S) (S1 := S) (it := .var 4) (vs := [7]) (ts := [7]) (tup := false) (c := .cmp .isn (.var 7) (.con .none)) (e := .var 7)
        (x := .p (.list (one.flatMap fun a => two.map (mrgD a)))) (p := fun d => !Pl.isNon d) (q := id) rfl rfl hfl (fun d hd => ⟨_, rfl, x_cmp (x_v rfl) x_k rfl rfl rfl, fun _ => x_v rfl⟩)
      rw [List.map_id, flat_prod] at e4
      exact x_ss e4 rfl (sset_rows (Nat.lt_of_le_of_lt prod_len hml))
theorem e_within (h : Has P cisUwithin) {n : Nat} (hn : 1 ≤ n) {a b : Cla} (hl : a.length ≤ 1000) (S : Store) : P.call n "is_within" [.p (rowT a), .p (rowT b)] S = .ok (.p (.bool (within a b))) S := by
  obtain ⟨n, rfl, hm⟩ := pred hn
  rw [show ("is_within" : Str) = cisUwithin.name from rfl, h.call]
  exact run_rt rfl (ss_rt (ret_ok (x_bi (ev_lcmM (k := PyData.int) (as := a) (q := fun w => .bool (b.contains w)) (x_v rfl) rfl (by omega) fun w hw => ⟨_, rfl, x_cmp (x_v rfl) (x_v rfl) rfl rfl (in_row _ _)⟩) rfl (bi_all _ _))))
theorem ne_row (a b : Cla) : cmpD .ne (rowT a) (rowT b) = some (decide (a ≠ b)) := by
  show (if cmpOk (rowT a) && cmpOk (rowT b) then some (!PyData.eqv (rowT a) (rowT b)) else none) = _
  rw [ok_row, ok_row, eqv_row2]
  simp only [Bool.and_self, if_true]
  by_cases h : a = b <;> simp [h]
theorem e_inputs (hm : Has P cmerged) (hn0 : Has P cnormal) (hw : Has P cisUwithin) (h : Has P cinputs) {n : Nat} {f : Fm} (hf : f.in_ 4) (hk : wok f false = true) (hn : f.ht + 3 ≤ n) (hz : wl f false < 64) (S : Store) :
    P.call n "inputs" [.p f.d] S = .ok (.p (.list ((inp f).map rowT))) S := by
  obtain ⟨n, rfl, hm'⟩ := pred (n := n) (k := f.ht + 2) (by omega)
  rw [show ("inputs" : Str) = cinputs.name from rfl, h.call]
  have e1 := e_normal hm hn0 f false n hf hm' hk S
  have hl := nrm_len f false
  refine run_rt rfl ((ss_nx (asg_ok (x_c2 (x_v rfl) (x_neg x_k) e1))).trans (ss_rt (ret_ok ?_)))
  refine ev_lcfM (k := rowT) (as := nrm f false) (p := fun c => !(nrm f false).any fun o => decide (o ≠ c) && within o c) (q := rowT) (x_v rfl) rfl (by omega) fun c hc => ⟨_, rfl, x_not (x_bi (ev_lcmM (k := rowT) (as := nrm f false) (q := fun o => .bool (decide (o ≠ c) && within o c)) (x_v rfl) rfl (by omega) fun o ho => ⟨_, rfl, ?_⟩) rfl (bi_any _ _)), fun _ => x_v rfl⟩
  exact x_and (x_cmp (x_v rfl) (x_v rfl) rfl rfl (ne_row o c)) fun _ => x_c2 (x_v rfl) (x_v rfl) (e_within hw (by omega) (by have := nrm_short (k := 4) (by omega) hf ho; omega) S)
end
end Lw

set_option Elab.async false
set_option linter.all false
set_option autoImplicit false
set_option maxRecDepth 100000
set_option maxHeartbeats 0
/-! PLP: loops over what is known, lists that grow; the law's clauses. -/
namespace Lw
open PySem PySem.Spec Pl L2
section
variable {cl : CallF} {g : Str → Option D} {ρ ρ1 : Rho} {S S1 S2 : Store} {a b c e : Ex} {d d1 d2 r : D} {x y : Vl}
/-- a loop that goes on at each turn -/
theorem forR_rel {α β : Type} {k : α → D} {bd : D → Rho → Store → Res Fl} (R : Nat → β → Rho → Store → Prop) (step : β → α → β) (N : Nat) : ∀ {as : List α} {j : Nat} {s : β} {ρ : Rho} {S : Store}, j + as.length ≤ N →
    (∀ a ∈ as, ∀ j s ρ S, j < N → R j s ρ S → ∃ ρ' S', bd (k a) ρ S = .ok (.nx ρ') S' ∧ R (j + 1) (step s a) ρ' S') → R j s ρ S →
    ∃ ρ' S', forR bd (as.map k) ρ S = .ok (.nx ρ') S' ∧ R (j + as.length) (as.foldl step s) ρ' S'
  | [], j, s, ρ, S, _, _, h => ⟨ρ, S, rfl, h⟩
  | a :: as, j, s, ρ, S, hN, hs, h => by
    rw [List.length_cons] at hN
    obtain ⟨ρ1, S1, e1, h1⟩ := hs a List.mem_cons_self j s ρ S (by omega) h
    obtain ⟨ρ2, S2, e2, h2⟩ := forR_rel R step N (as := as) (j := j + 1) (by omega) (fun a ha => hs a (List.mem_cons_of_mem _ ha)) h1
    refine ⟨ρ2, S2, (forR_nx e1).trans e2, ?_⟩
    rw [List.length_cons, show j + (as.length + 1) = j + 1 + as.length by omega]
    exact h2
theorem s_app {i k : Nat} {xs : List D} (h1 : ρ[i]? = some (some (.r k))) (h2 : ev cl g a ρ S = .ok (.p d) S) (h3 : S[k]? = some (.lst xs)) (hl : xs.length ≤ 100000) : evS cl g (.exp (.met .append (.var i) [a])) ρ S = .ok (.nx ρ) (S.set k (.lst (xs ++ [d]))) := by
  have hz : xs.length < 16777216 := by omega
  simp [h1, h2, h3, isLst, metV, hz, sizeLine_eq]
theorem x_mls0 : ev cl g (.mls []) ρ S = .ok (.r S.length) (S ++ [.lst []]) := by simp
theorem x_frz {i k : Nat} {xs : List D} (h1 : ρ[i]? = some (some (.r k))) (h3 : S[k]? = some (.lst xs)) : ev cl g (.frz (.var i)) ρ S = .ok (.p (.list xs)) (S.set k .dead) := by
  simp [h1, h3]
theorem rd_lst {k : Nat} {xs : List D} (h : S[k]? = some (.lst xs)) : rd S (.r k) = some (.list xs) := by simp [rd, h]
end
theorem eq_int (i j : Int) : cmpD .eq (.int i) (.int j) = some (decide (i = j)) := by simp
theorem taut_filter (c : Cla) : decide (((c.filter fun w => c.contains (0 - w)).length : Int) = 0) = !taut c := by
  unfold taut
  rw [Bool.eq_iff_iff, decide_eq_true_eq, Bool.not_eq_true', List.any_eq_false]
  constructor
  · intro h w hw hc
    have : 0 < (c.filter fun w => c.contains (0 - w)).length := List.length_pos_of_mem (List.mem_filter.mpr ⟨hw, by rwa [Int.zero_sub]⟩)
    omega
  · intro h
    have : c.filter (fun w => c.contains (0 - w)) = [] := List.filter_eq_nil_iff.mpr fun w hw => by rw [Int.zero_sub]; exact h w hw
    rw [this]; rfl
def addC (acc : List Cla) (c : Cla) : List Cla := if !taut c && !acc.contains c then acc ++ [c] else acc
theorem fold_prod (one two acc : List Cla) : one.foldl (fun acc a => two.foldl (fun acc b => addC acc (setI (a ++ b))) acc) acc = (prod one two).foldl (fun acc c => if acc.contains c then acc else acc ++ [c]) acc := by
  have h1 : ∀ (a : Cla) (two acc : List Cla), two.foldl (fun acc b => addC acc (setI (a ++ b))) acc = ((two.map fun b => setI (a ++ b)).filter fun c => !taut c).foldl (fun acc c => if acc.contains c then acc else acc ++ [c]) acc := fun a two => by
    induction two with
    | nil => intro acc; rfl
    | cons b two ih =>
      intro acc
      rw [List.foldl_cons, List.map_cons, List.filter_cons, ih]
      unfold addC
      cases taut (setI (a ++ b)) with
      | true => simp
      | false =>
        simp only [Bool.not_false, Bool.true_and, if_true, List.foldl_cons]
        cases acc.contains (setI (a ++ b)) <;> simp
  unfold prod
  induction one generalizing acc with
  | nil => rfl
  | cons a one ih => rw [List.foldl_cons, List.flatMap_cons, List.filter_append, List.foldl_append, h1, ih]
theorem setI_len : ∀ ns : List Int, (setI ns).length ≤ ns.length
  | [] => by simp [setI]
  | n :: ns => by
    have hi : ∀ xs : List Int, (insI n xs).length ≤ xs.length + 1 := fun xs => by
      induction xs with
      | nil => simp [insI]
      | cons x xs ih => unfold insI; split <;> (try split) <;> simp only [List.length_cons] <;> omega
    have := hi (setI ns)
    have := setI_len ns
    show (insI n (setI ns)).length ≤ _
    simp only [List.length_cons]
    omega
section
variable {P : Prog}
theorem e_lnormal (h : Has P cUlawUnormal) : ∀ (f : Fm) (s : Bool) (n : Nat), f.in_ 4 → f.ht + 1 ≤ n → wok f s = true → ∀ S, P.call n "_law_normal" [.p f.d, .p (.int (sgn s))] S = .ok (.p (.list ((lnrm f s).map rowT))) S
  | .lt i, s, n, hf, hn, hw, S => by
    obtain ⟨n, rfl, hm'⟩ := pred (n := n) (k := 0) (by omega)
    rw [show ("_law_normal" : Str) = cUlawUnormal.name from rfl, h.call]
    have i0 : idxD (Fm.lt i).d (.int 0) = some (.str "letter") := by simp [Fm.d, atI_0]
    have i1 : idxD (Fm.lt i).d (.int 1) = some (.int i) := by simp [Fm.d, atI_1]
    exact run_rt rfl (ss_rt ((ite_t (x_cmp (x_idx (x_v rfl) x_k rfl rfl i0) x_k rfl rfl (by simp))).trans (ss_rt (ret_ok
      (x_l1 (x_t1 (x_bin (x_v rfl) (x_bin (x_idx (x_v rfl) x_k rfl rfl i1) x_k rfl rfl rfl) rfl rfl (sg_lit s i))))))))
  | .ff, s, n, hf, hn, hw, S => by
    obtain ⟨n, rfl, hm'⟩ := pred (n := n) (k := 0) (by omega)
    rw [show ("_law_normal" : Str) = cUlawUnormal.name from rfl, h.call]
    have i0 : idxD Fm.ff.d (.int 0) = some (.str "false") := by simp [Fm.d, atI_0]
    refine run_rt rfl ((ss_nx (ite_n (x_cmp (x_idx (x_v rfl) x_k rfl rfl i0) x_k rfl rfl (by simp [ofStr_inj])))).trans (ss_rt ((ite_t (x_cmp (x_idx (x_v rfl) x_k rfl rfl i0) x_k rfl rfl (by simp))).trans (ss_rt (ret_ok ?_)))))
    cases s with
    | true => exact x_it (x_cmp (x_v rfl) x_k rfl rfl (by simp [sgn])) (x_l1 x_t0)
    | false => exact x_if (x_cmp (x_v rfl) x_k rfl rfl (by simp [sgn])) x_l0
  | .bi q x y, s, n, hf, hn, hw, S => by
    simp only [Fm.ht] at hn
    obtain ⟨n, rfl, hm'⟩ := pred (n := n) (k := max x.ht y.ht + 1) (by omega)
    rw [show ("_law_normal" : Str) = cUlawUnormal.name from rfl, h.call]
    have i0 : idxD (Fm.bi q x y).d (.int 0) = some (.str q.s) := by simp [Fm.d, atI_0]
    have i1 : idxD (Fm.bi q x y).d (.int 1) = some x.d := by simp [Fm.d, atI_1]
    have i2 : idxD (Fm.bi q x y).d (.int 2) = some y.d := by simp [Fm.d, atI_2]
    simp only [wok, Bool.and_eq_true, decide_eq_true_eq] at hw
    obtain ⟨hw0, hw1, hw2⟩ := hw
    have hx := e_lnormal h x (flipS q s) n hf.1 (by omega) hw1 S
    have hy := e_lnormal h y s n hf.2 (by omega) hw2 S
    have lx := lnrm_len x (flipS q s)
    have ly := lnrm_len y s
    have sx : ∀ c ∈ lnrm x (flipS q s), c.length ≤ 8 := fun c hc => nrm_short (k := 4) (by omega) hf.1 (lnrm_mem.mp hc)
    have sy : ∀ c ∈ lnrm y s, c.length ≤ 8 := fun c hc => nrm_short (k := 4) (by omega) hf.2 (lnrm_mem.mp hc)
    have res : lnrm (.bi q x y) s = if isSum q s then lnrm x (flipS q s) ++ lnrm y s else (prod (lnrm x (flipS q s)) (lnrm y s)).foldl (fun acc c => if acc.contains c then acc else acc ++ [c]) [] := rfl
    have hwl : wl (.bi q x y) s = if isSum q s then wl x (flipS q s) + wl y s else wl x (flipS q s) * wl y s := rfl
    rw [res]
    rw [hwl] at hw0
    generalize (Fm.bi q x y).d = fd at i0 i1 i2
    generalize lnrm x (flipS q s) = one at hx lx sx ⊢
    generalize lnrm y s = two at hy ly sy ⊢
    have e2 : ev (P.call n) P.consts (.ite (.cmp .eq (.idx (.var 0) (.con (.int 0))) (.con (.str "if"))) (.bin .sub (.con (.int 0)) (.var 1)) (.var 1)) [some (.p fd), some (.p (.int (sgn s))), none, none, none, none, none, none, none] S = .ok (.p (.int (sgn (flipS q s)))) S := by
      cases q with
      | i => exact (x_it (x_cmp (x_idx (x_v rfl) x_k rfl rfl i0) x_k rfl rfl (by simp [Con.s])) (x_bin x_k (x_v rfl) rfl rfl rfl)).trans (by rw [Int.zero_sub, sgn_neg]; rfl)
      | a => exact x_if (x_cmp (x_idx (x_v rfl) x_k rfl rfl i0) x_k rfl rfl (by simp [Con.s, ofStr_inj])) (x_v rfl)
      | o => exact x_if (x_cmp (x_idx (x_v rfl) x_k rfl rfl i0) x_k rfl rfl (by simp [Con.s, ofStr_inj])) (x_v rfl)
    have ea : cmpD .eq (.str q.s) (.str "and") = some (decide (q = .a)) := by cases q <;> simp [Con.s, ofStr_inj]
    have na : cmpD .ne (.str q.s) (.str "and") = some (!decide (q = .a)) := by cases q <;> simp [Con.s, ofStr_inj]
    have es : cmpD .eq (.int (sgn s)) (.int 1) = some s := by cases s <;> simp [sgn]
    have es' : cmpD .eq (.int (sgn s)) (.int (-1)) = some (!s) := by cases s <;> simp [sgn]
    refine run_re rfl ?_
    have pre : ∀ {X : Res Fl}, evSs (P.call n) P.consts (cUlawUnormal.body.drop 4) [some (.p fd), some (.p (.int (sgn s))), some (.p (.list (one.map rowT))), some (.p (.list (two.map rowT))), none, none, none, none, none] S = X →
        evSs (P.call n) P.consts cUlawUnormal.body ([Vl.p fd, .p (.int (sgn s))].map some ++ List.replicate (cUlawUnormal.slots - 2) none) S = X := fun hX =>
      (ss_nx (ite_n (x_cmp (x_idx (x_v rfl) x_k rfl rfl i0) x_k rfl rfl (by cases q <;> simp [Con.s, ofStr_inj])))).trans ((ss_nx (ite_n (x_cmp (x_idx (x_v rfl) x_k rfl rfl i0) x_k rfl rfl (by cases q <;> simp [Con.s, ofStr_inj])))).trans
      ((ss_nx (asg_ok (x_c2 (x_idx (x_v rfl) x_k rfl rfl i1) e2 hx))).trans ((ss_nx (asg_ok (x_c2 (x_idx (x_v rfl) x_k rfl rfl i2) (x_v rfl) hy))).trans hX)))
    have cond : ev (P.call n) P.consts (.or (.and (.cmp .eq (.idx (.var 0) (.con (.int 0))) (.con (.str "and"))) (.cmp .eq (.var 1) (.con (.int 1)))) (.and (.cmp .ne (.idx (.var 0) (.con (.int 0))) (.con (.str "and"))) (.cmp .eq (.var 1) (.neg (.con (.int 1)))))) [some (.p fd), some (.p (.int (sgn s))), some (.p (.list (one.map rowT))), some (.p (.list (two.map rowT))), none, none, none, none, none] S = .ok (.p (.bool (isSum q s))) S := by
      refine (x_or (x_and (x_cmp (x_idx (x_v rfl) x_k rfl rfl i0) x_k rfl rfl ea) fun _ => x_cmp (x_v rfl) x_k rfl rfl es) fun _ => x_and (x_cmp (x_idx (x_v rfl) x_k rfl rfl i0) x_k rfl rfl na) fun _ => x_cmp (x_v rfl) (x_neg x_k) rfl rfl es').trans ?_
      unfold isSum
      cases decide (q = .a) <;> cases s <;> rfl
    cases hs : isSum q s with
    | true =>
      rw [hs] at cond hw0
      simp only [if_true] at hw0 ⊢
      refine ⟨S, pre (ss_rt ((ite_t cond).trans (ss_rt (ret_ok (x_bin (x_v rfl) (x_v rfl) rfl rfl ?_))))), by simp⟩
      rw [List.map_append]
      exact add_lists _ _ (by rw [List.length_map, List.length_map]; omega)
    | false =>
      rw [hs] at cond hw0
      simp only [Bool.false_eq_true, if_false] at hw0 ⊢
      have hml : one.length * two.length < 64 := Nat.lt_of_le_of_lt (Nat.mul_le_mul lx ly) hw0
      rw [← fold_prod]
      have mem : (S ++ [Cell.lst []])[S.length]? = some (.lst []) := by simp
      let R : Nat → List Cla → Rho → Store → Prop := fun j acc ρ S' => S' = S ++ [.lst (acc.map rowT)] ∧ acc.length ≤ j ∧ ∃ v5 v6 v7 v8, ρ = [some (.p fd), some (.p (.int (sgn s))), some (.p (.list (one.map rowT))), some (.p (.list (two.map rowT))), some (.r S.length), v5, v6, v7, v8]
      have inner : ∀ (a : Cla) (v7 v8 : Option Vl) (acc : List Cla) (b : Cla), a.length ≤ 8 → b.length ≤ 8 → acc.length ≤ 100000 → ∃ v7' v8', evSs (P.call n) P.consts [.asg 7 (.bi .tuple [(.sset (.bin .add (.var 5) (.var 6)))]), .ite (.and (.cmp .eq (.bi .len [(.lc [8] [8] false (.var 7) [(.cmp .in_ (.bin .sub (.con (.int 0)) (.var 8)) (.var 7))] (.var 8))]) (.con (.int 0))) (.cmp .nin (.var 7) (.var 4))) [.exp (.met .append (.var 4) [(.var 7)])] []]
          [some (.p fd), some (.p (.int (sgn s))), some (.p (.list (one.map rowT))), some (.p (.list (two.map rowT))), some (.r S.length), some (.p (rowT a)), some (.p (rowT b)), v7, v8] (S ++ [.lst (acc.map rowT)]) =
          .ok (.nx [some (.p fd), some (.p (.int (sgn s))), some (.p (.list (one.map rowT))), some (.p (.list (two.map rowT))), some (.r S.length), some (.p (rowT a)), some (.p (rowT b)), v7', v8']) (S ++ [.lst ((addC acc (setI (a ++ b))).map rowT)]) := by
        intro a v7 v8 acc b ha hb hacc
        have hm : (S ++ [Cell.lst (acc.map rowT)])[S.length]? = some (.lst (acc.map rowT)) := by simp
        have hcl := setI_len (a ++ b)
        rw [List.length_append] at hcl
        generalize hc : setI (a ++ b) = c at hcl
        refine ⟨some (.p (rowT c)), v8, (ss_nx (ρ1 := [some (.p fd), some (.p (.int (sgn s))), some (.p (.list (one.map rowT))), some (.p (.list (two.map rowT))), some (.r S.length), some (.p (rowT a)), some (.p (rowT b)), some (.p (rowT c)), v8]) (asg_ok (x_bi (d := .list (c.map .int)) (x_ss (d := rowT (a ++ b)) (x_bin (x_v rfl) (x_v rfl) rfl rfl (add_rows a b (by omega))) rfl (by rw [← hc]; exact sset_row (by rw [List.length_append]; omega))) rfl rfl))).trans ?_⟩
        have cd : ev (P.call n) P.consts (.and (.cmp .eq (.bi .len [(.lc [8] [8] false (.var 7) [(.cmp .in_ (.bin .sub (.con (.int 0)) (.var 8)) (.var 7))] (.var 8))]) (.con (.int 0))) (.cmp .nin (.var 7) (.var 4))) [some (.p fd), some (.p (.int (sgn s))), some (.p (.list (one.map rowT))), some (.p (.list (two.map rowT))), some (.r S.length), some (.p (rowT a)), some (.p (rowT b)), some (.p (rowT c)), v8] (S ++ [.lst (acc.map rowT)]) = .ok (.p (.bool (!taut c && !acc.contains c))) (S ++ [.lst (acc.map rowT)]) := by
          refine x_and (x_cmp (x_bi (ev_lcfM (k := PyData.int) (as := c) (p := fun w => c.contains (0 - w)) (q := PyData.int) (x_v rfl) rfl (by omega) fun w hw => ⟨_, rfl, x_cmp (x_bin x_k (x_v rfl) rfl rfl rfl) (x_v rfl) rfl rfl (in_row _ _), fun _ => x_v rfl⟩) rfl bi_len) x_k rfl rfl ?_) fun _ => x_cmp (x_v rfl) (x_v rfl) rfl (rd_lst hm) (nin_rows _ _)
          rw [List.length_map, eq_int, taut_filter]
        cases q : (!taut c && !acc.contains c) with
        | true =>
          rw [q] at cd
          refine (ss_nx ((ite_t cd).trans ((ss_nx (s_app rfl (x_v rfl) hm (by rw [List.length_map]; omega))).trans rfl))).trans ?_
          unfold addC
          rw [q, if_pos rfl, set_last, List.map_append]
          rfl
        | false =>
          rw [q] at cd
          refine (ss_nx (ite_n cd)).trans ?_
          unfold addC
          rw [q, if_neg (by simp)]
          rfl
      have addL : ∀ (acc : List Cla) (c : Cla), (addC acc c).length ≤ acc.length + 1 := fun acc c => by
        unfold addC
        split
        · simp
        · omega
      -- the loops
      obtain ⟨ρ', S', e1, eS, hl', w5, w6, w7, w8, eρ⟩ := forR_rel (k := rowT) (bd := fun d ρ S => match bindT ρ [5] false d with
          | some ρ2 => evSs (P.call n) P.consts [.for_ [6] false (.var 3) [.asg 7 (.bi .tuple [(.sset (.bin .add (.var 5) (.var 6)))]), .ite (.and (.cmp .eq (.bi .len [(.lc [8] [8] false (.var 7) [(.cmp .in_ (.bin .sub (.con (.int 0)) (.var 8)) (.var 7))] (.var 8))]) (.con (.int 0))) (.cmp .nin (.var 7) (.var 4))) [.exp (.met .append (.var 4) [(.var 7)])] []]] ρ2 S
          | none => .bad) (fun j acc ρ S' => R (j * two.length) acc ρ S') (fun acc a => two.foldl (fun acc b => addC acc (setI (a ++ b))) acc) one.length (as := one) (j := 0) (s := []) (ρ := [some (.p fd), some (.p (.int (sgn s))), some (.p (.list (one.map rowT))), some (.p (.list (two.map rowT))), some (.r S.length), none, none, none, none]) (S := S ++ [.lst []]) (by omega)
        (fun a ha j acc ρ S' hj ⟨q1, q2, v5, v6, v7, v8, q3⟩ => by
          subst q1 q3
          have hj2 : j * two.length + two.length ≤ one.length * two.length := by
            rw [← Nat.succ_mul]
            exact Nat.mul_le_mul_right _ hj
          obtain ⟨ρ', S', e1, eS, hl', w6, w7, w8, eρ⟩ := forR_rel (k := rowT) (bd := fun d ρ S => match bindT ρ [6] false d with
            | some ρ2 => evSs (P.call n) P.consts [.asg 7 (.bi .tuple [(.sset (.bin .add (.var 5) (.var 6)))]), .ite (.and (.cmp .eq (.bi .len [(.lc [8] [8] false (.var 7) [(.cmp .in_ (.bin .sub (.con (.int 0)) (.var 8)) (.var 7))] (.var 8))]) (.con (.int 0))) (.cmp .nin (.var 7) (.var 4))) [.exp (.met .append (.var 4) [(.var 7)])] []] ρ2 S
            | none => .bad) (fun i acc ρ S' => S' = S ++ [.lst (acc.map rowT)] ∧ acc.length ≤ j * two.length + i ∧ ∃ v6 v7 v8, ρ = [some (.p fd), some (.p (.int (sgn s))), some (.p (.list (one.map rowT))), some (.p (.list (two.map rowT))), some (.r S.length), some (.p (rowT a)), v6, v7, v8]) (fun acc b => addC acc (setI (a ++ b))) two.length (as := two) (j := 0) (s := acc) (ρ := [some (.p fd), some (.p (.int (sgn s))), some (.p (.list (one.map rowT))), some (.p (.list (two.map rowT))), some (.r S.length), some (.p (rowT a)), v6, v7, v8]) (S := S ++ [.lst (acc.map rowT)]) (by omega)
            (fun b hb i acc ρ S' hi ⟨q1, q2, v6, v7, v8, q3⟩ => by
              subst q1 q3
              obtain ⟨v7', v8', e⟩ := inner a v7 v8 acc b (sx a ha) (sy b hb) (by omega)
              have := addL acc (setI (a ++ b))
              exact ⟨_, _, e, rfl, by omega, _, _, _, rfl⟩) ⟨rfl, by omega, _, _, _, rfl⟩
          subst eS eρ
          refine ⟨_, _, (ss_nx (for_ok (x_v rfl) rfl e1)).trans rfl, rfl, ?_, _, _, _, _, rfl⟩
          rw [Nat.succ_mul]
          omega) ⟨rfl, by simp, _, _, _, _, rfl⟩
      subst eS eρ
      refine ⟨_, pre ((ss_nx (ite_n cond)).trans ((ss_nx (asg_ok x_mls0)).trans ((ss_nx (for_ok (x_v rfl) rfl e1)).trans (ss_rt (ret_ok (x_frz rfl (by simp))))))), ?_⟩
      rw [set_last]
      simp
theorem none_filter {α : Type} (l : List α) (p : α → Bool) : decide (((l.filter p).length : Int) = 0) = !l.any p := by
  rw [Bool.eq_iff_iff, decide_eq_true_eq, Bool.not_eq_true', List.any_eq_false]
  constructor
  · intro h w hw hc
    have : 0 < (l.filter p).length := List.length_pos_of_mem (List.mem_filter.mpr ⟨hw, hc⟩)
    omega
  · intro h
    have : l.filter p = [] := List.filter_eq_nil_iff.mpr fun w hw => h w hw
    rw [this]; rfl
theorem within_filter (a b : Cla) : decide (((a.filter fun w => !b.contains w).length : Int) = 0) = within a b := by
  rw [none_filter]
  unfold within
  rw [List.not_any_eq_all_not]
  simp
theorem e_linputs (hn0 : Has P cUlawUnormal) (h : Has P cUlawUinputs) {n : Nat} {f : Fm} (hf : f.in_ 4) (hk : wok f false = true) (hn : f.ht + 2 ≤ n) (hz : wl f false < 64) (S : Store) :
    P.call n "_law_inputs" [.p f.d] S = .ok (.p (.list ((inp f).map rowT))) S := by
  obtain ⟨n, rfl, hm'⟩ := pred (n := n) (k := f.ht + 1) (by omega)
  rw [show ("_law_inputs" : Str) = cUlawUinputs.name from rfl, h.call]
  have e1 := e_lnormal hn0 f false n hf hm' hk S
  have hl := lnrm_len f false
  have hl2 := nrm_len f false
  have e2 := x_ss (x_c2 (f := "_law_normal") (a := .var 0) (b := .neg (.con (.int 1))) (ρ := [some (.p f.d), none, none, none, none]) (g := P.consts) (x_v rfl) (x_neg x_k) e1) rfl (sset_rows (by omega))
  rw [setR_lnrm] at e2
  have sh : ∀ c ∈ nrm f false, c.length ≤ 8 := fun c hc => nrm_short (k := 4) (by omega) hf hc
  unfold inp
  generalize nrm f false = N at e2 hl2 sh ⊢
  refine run_rt rfl ((ss_nx (asg_ok e2)).trans (ss_rt (ret_ok (ev_lcfM (k := rowT) (as := N) (p := fun c => !N.any fun o => decide (o ≠ c) && within o c) (q := rowT) (x_v rfl) rfl (by omega) fun c hc => ⟨_, rfl, ?_, fun _ => x_v rfl⟩))))
  refine x_cmp (x_bi (ev_lcfM (k := rowT) (as := N) (p := fun o => decide (o ≠ c) && within o c) (q := rowT) (x_v rfl) rfl (by omega) fun o ho => ⟨_, rfl, x_and (x_cmp (x_v rfl) (x_v rfl) rfl rfl (ne_row o c)) fun _ =>
    x_cmp (x_bi (ev_lcfM (k := PyData.int) (as := o) (p := fun w => !c.contains w) (q := PyData.int) (x_v rfl) rfl (by have := sh o ho; omega) fun w hw => ⟨_, rfl, x_cmp (x_v rfl) (x_v rfl) rfl rfl (nin_row w c), fun _ => x_v rfl⟩) rfl bi_len) x_k rfl rfl ?_, fun _ => x_v rfl⟩) rfl bi_len) x_k rfl rfl ?_
  · rw [List.length_map, eq_int, within_filter]
  · rw [List.length_map, eq_int, none_filter]
end
end Lw

set_option Elab.async false
set_option linter.all false
set_option autoImplicit false
set_option maxRecDepth 100000
set_option maxHeartbeats 0
/-! PLR: what is settled, values that are sure, trees of cases that are grown. -/
namespace Lw
open PySem PySem.Spec Pl L2
/-! ### what is settled -/
abbrev Env := List (Nat × Bool)
def envD (σ : Env) : List (D × D) := σ.map fun p => (.int (p.1 : Nat), .int (Lw.bi p.2))
def look (σ : Env) (i : Nat) : Option Bool := (σ.find? fun p => p.1 == i).map (·.2)
def optB : Option Bool → D
  | some b => .int (Lw.bi b)
  | none => .none
theorem val_env (σ : Env) (i : Nat) : valD (envD σ) (.inl (i : Int)) = (look σ i).map fun b => .int (Lw.bi b) := by
  unfold valD look envD
  rw [List.find?_map, Option.map_map, Option.map_map]
  have e : ((fun e : D × D => decide (Pl.keyOf e.1 = some (Sum.inl (i : Int)))) ∘ fun p : Nat × Bool => (PyData.int (p.1 : Nat), PyData.int (Lw.bi p.2))) = fun p : Nat × Bool => p.1 == i := by
    funext p
    show decide (some (Sum.inl ((p.1 : Nat) : Int)) = some (Sum.inl (i : Int))) = (p.1 == i)
    rw [Bool.eq_iff_iff]
    simp [Sum.inl.injEq]
    omega
  rw [e]
  rfl
theorem get_env (σ : Env) (i : Nat) : getD' (.dict (envD σ)) (.int (i : Nat)) = some (optB (look σ i)) := by
  show (some (Sum.inl (i : Int))).map (fun j => (valD (envD σ) j).getD .none) = _
  rw [Option.map_some, val_env]
  cases look σ i <;> rfl
theorem in_env (σ : Env) (i : Nat) : cmpD .in_ (.int (i : Nat)) (.dict (envD σ)) = some (look σ i).isSome := by
  show (some (Sum.inl (i : Int))).map (fun k => (valD (envD σ) k).isSome) = _
  rw [Option.map_some, val_env]
  cases look σ i <;> rfl
theorem nin_env (σ : Env) (i : Nat) : cmpD .nin (.int (i : Nat)) (.dict (envD σ)) = some (!(look σ i).isSome) := by
  show (some (Sum.inl (i : Int))).map (fun k => !(valD (envD σ) k).isSome) = _
  rw [Option.map_some, val_env]
  cases look σ i <;> rfl
theorem any_env (σ : Env) (i : Nat) : ((envD σ).any fun e => decide (Pl.keyOf e.1 = some (Sum.inl (i : Int)))) = (look σ i).isSome := by
  have h := val_env σ i
  unfold valD at h
  have h2 : ((envD σ).find? fun e => decide (Pl.keyOf e.1 = some (Sum.inl (i : Int)))).isSome = (look σ i).isSome := by
    have := congrArg Option.isSome h
    simpa using this
  rw [← h2, List.isSome_find?]
theorem put_new {σ : Env} {i : Nat} (h : look σ i = none) (b : Bool) : putD (envD σ) (.inl (i : Int)) (.int (Lw.bi b)) = envD (σ ++ [(i, b)]) := by
  unfold putD
  rw [any_env, h]
  simp [envD, kD]
theorem put_old {σ : Env} {i : Nat} (h : look σ i = none) (a b : Bool) : putD (envD (σ ++ [(i, a)])) (.inl (i : Int)) (.int (Lw.bi b)) = envD (σ ++ [(i, b)]) := by
  have h1 : look (σ ++ [(i, a)]) i = some a := by
    unfold look at h ⊢
    rw [Option.map_eq_none_iff] at h
    rw [List.find?_append, h]
    simp
  have h2 : ∀ p ∈ σ, p.1 ≠ i := fun p hp e => by
    unfold look at h
    rw [Option.map_eq_none_iff, List.find?_eq_none] at h
    exact h p hp (by simp [e])
  unfold putD
  rw [any_env, h1]
  simp [envD, kD, Pl.keyOf]
  intro x
  refine ⟨fun hx e => absurd (Int.ofNat.inj e) (h2 _ hx), fun hx e => absurd (Int.ofNat.inj e) (h2 _ hx)⟩
theorem look_snoc {σ : Env} {i j : Nat} {b : Bool} : look (σ ++ [(i, b)]) j = (look σ j).or (if i = j then some b else none) := by
  unfold look
  rw [List.find?_append]
  cases h : σ.find? fun p => p.1 == j with
  | some p => simp
  | none =>
    by_cases e : i = j
    · simp [e]
    · have e2 : (i == j) = false := by simpa using e
      simp [e, List.find?, e2]
/-! ### values that are sure -/
def noB : Option Bool → Option Bool := Option.map not
def andB : Option Bool → Option Bool → Option Bool
  | some false, _ => some false
  | _, some false => some false
  | some true, some true => some true
  | _, _ => none
def orB : Option Bool → Option Bool → Option Bool
  | some true, _ => some true
  | _, some true => some true
  | some false, some false => some false
  | _, _ => none
def sureC : Con → Option Bool → Option Bool → Option Bool
  | .i, x, y => orB (noB x) y
  | .a, x, y => andB x y
  | .o, x, y => orB x y
def sure (σ : Env) : Fm → Option Bool
  | .lt i => look σ i
  | .ff => some false
  | .bi q a b => sureC q (sure σ a) (sure σ b)
section
variable {P : Prog}
theorem e_sure (h : Has P csureUvalue) {σ : Env} {k : Nat} : ∀ (f : Fm) (n : Nat), f.ht + 1 ≤ n → ∀ S : Store, S[k]? = some (.dct (envD σ)) → P.call n "sure_value" [.p f.d, .r k] S = .ok (.p (optB (sure σ f))) S
  | .lt i, n, hn, S, hS => by
    obtain ⟨n, rfl, hm⟩ := pred hn
    rw [show ("sure_value" : Str) = csureUvalue.name from rfl, h.call]
    have e := get_env σ i
    exact run_rt rfl (ss_rt ((ite_t (S1 := S) (by simp [Fm.d, atI_0])).trans (ss_rt (ret_ok (S1 := S) (by
      have hr : rd S (.r k) = some (.dict (envD σ)) := by simp [rd, hS]
      have hd : isDct (.r k) S = true := by simp [isDct, hr]
      simp [Fm.d, atI_1, hd, hr, e, sure, -qgetD_1])))))
  | .ff, n, hn, S, hS => by
    obtain ⟨n, rfl, hm⟩ := pred hn
    rw [show ("sure_value" : Str) = csureUvalue.name from rfl, h.call]
    exact run_rt rfl ((ss_nx (ite_n (S1 := S) (by simp [Fm.d, atI_0, ofStr_inj]))).trans (ss_rt ((ite_t (S1 := S) (by simp [Fm.d, atI_0])).trans (ss_rt (ret_ok (S1 := S) (by simp [sure, optB, Lw.bi]))))))
  | .bi q a b, n, hn, S, hS => by
    obtain ⟨n, rfl, hm⟩ := pred hn
    rw [show ("sure_value" : Str) = csureUvalue.name from rfl, h.call]
    have ha := e_sure h (σ := σ) (k := k) a n (by simp only [Fm.ht] at hm; omega) S hS
    have hb := e_sure h (σ := σ) (k := k) b n (by simp only [Fm.ht] at hm; omega) S hS
    show runFn _ _ _ _ _ = .ok (.p (optB (sureC q (sure σ a) (sure σ b)))) S
    generalize sure σ a = x at ha ⊢
    generalize sure σ b = y at hb ⊢
    have hd0 : idxD (Fm.bi q a b).d (.int 0) = some (.str q.s) := by simp [Fm.d, atI_0]
    have hd1 : idxD (Fm.bi q a b).d (.int 1) = some a.d := by simp [Fm.d, atI_1]
    have hd2 : idxD (Fm.bi q a b).d (.int 2) = some b.d := by simp [Fm.d, atI_2]
    have hn0 : cmpOk .none = true := rfl
    generalize hD : (Fm.bi q a b).d = d at hd0 hd1 hd2
    refine run_rt rfl ((ss_nx (ite_n (S1 := S) ?_)).trans ((ss_nx (ite_n (S1 := S) ?_)).trans ((ss_nx (ρ1 := [some (.p d), some (.r k), none, some (.p (optB x)), some (.p (optB y))]) (S1 := S) ?_).trans
      ((ss_nx (ρ1 := [some (.p d), some (.r k), none, some (.p (optB (if q = .i then noB x else x))), some (.p (optB y))]) (S1 := S) ?_).trans
      ((ss_nx (asg_ok (v := .p (.int (Lw.bi (q != .a)))) (S1 := S) ?_)).trans ?_)))))
    · cases q <;> simp [hd0, Con.s, ofStr_inj]
    · cases q <;> simp [hd0, Con.s, ofStr_inj]
    · simp [hd1, hd2, ha, hb, setV]; rfl
    · cases q with
      | i =>
        refine (ite_t (S1 := S) (by simp [hd0, Con.s])).trans (ss_nx (asg_ok (S1 := S) ?_))
        rcases x with _ | x | x <;> simp [optB, Lw.bi, noB, Pl.isNon]
      | a => exact ite_n (S1 := S) (by simp [hd0, Con.s, ofStr_inj])
      | o => exact ite_n (S1 := S) (by simp [hd0, Con.s, ofStr_inj])
    · cases q <;> simp [hd0, Con.s, ofStr_inj, Lw.bi]
    · have fin : ∀ (x y : Option Bool) (s : Bool), evSs (P.call n) P.consts (csureUvalue.body.drop 5) [some (.p d), some (.r k), some (.p (.int (Lw.bi s))), some (.p (optB x)), some (.p (optB y))] S = .ok (.rt (.p (optB (if s then orB x y else andB x y)))) S := by
        intro x y s
        cases s <;> rcases x with _ | x | x <;> rcases y with _ | y | y <;> simp [csureUvalue, optB, Lw.bi, andB, orB, Pl.isNon, PyData.eqv, hn0]
      have := fin (if q = .i then noB x else x) y (q != .a)
      cases q <;> exact this
end
inductive Tr where
  | leaf
  | nd (i : Nat) (a b : Tr)
def Tr.d : Tr → D
  | .leaf => .tuple []
  | .nd i a b => .tuple [.int i, a.d, b.d]
def Tr.ht : Tr → Nat
  | .leaf => 0
  | .nd _ a b => max a.ht b.ht + 1
def Tr.in_ (k : Nat) : Tr → Prop
  | .leaf => True
  | .nd i a b => i < k ∧ a.in_ k ∧ b.in_ k
theorem get_top {S : Store} {c : Cell} : (S ++ [c])[S.length]? = some c := by simp
theorem put_dct {S : Store} {r : Nat} {es : List (D × D)} {b : Bool} {i : Nat} (h : S[r]? = some (.dct es)) (hl : es.length ≤ 1000) : putR (.p (.int (Lw.bi b))) (.r r) (.p (.int (i : Nat))) S = .ok () (S.set r (.dct (putD es (.inl (i : Int)) (.int (Lw.bi b))))) := by
  have : es.length < 16777216 := by omega
  simp [h, scD, sizeLine_eq, this]
theorem set_top {S : Store} {c d : Cell} : (S ++ [c]).set S.length d = S ++ [d] := set_last
theorem env_len {σ : Env} : (envD σ).length = σ.length := by simp [envD]
theorem sure_one {o : Option Bool} : PyData.eqv (optB o) (.int 1) = decide (o = some true) := by
  rcases o with _ | b | b <;> simp [optB, Lw.bi, PyData.eqv]
theorem ok_optB {o : Option Bool} : cmpOk (optB o) = true := by rcases o with _ | b | b <;> rfl
theorem Tr.inj : ∀ {a b : Tr}, a.d = b.d → a = b
  | .leaf, .leaf, _ => rfl
  | .leaf, .nd _ _ _, h => by simp [Tr.d] at h
  | .nd _ _ _, .leaf, h => by simp [Tr.d] at h
  | .nd i a b, .nd j c d, h => by
    simp only [Tr.d, PyData.tuple.injEq, List.cons.injEq, PyData.int.injEq, and_true] at h
    obtain ⟨h1, h2, h3⟩ := h
    rw [Int.ofNat.inj h1, Tr.inj h2, Tr.inj h3]
/-- rows that what is settled allows -/
def Cons (σ : Env) (r : List Bool) : Prop := ∀ i, i < 4 → ∀ b, look σ i = some b → r.getD i false = b
theorem sure_val {σ : Env} {r : List Bool} (hc : Cons σ r) : ∀ {f : Fm} {b : Bool}, f.in_ 4 → sure σ f = some b → f.val r = b
  | .lt i, b, hf, h => hc i hf b h
  | .ff, b, _, h => by
    have : some false = some b := h
    rw [← Option.some.inj this]; rfl
  | .bi q x y, b, hf, h => by
    have hx := fun b => sure_val hc (f := x) (b := b) hf.1
    have hy := fun b => sure_val hc (f := y) (b := b) hf.2
    simp only [sure] at h
    show q.val (x.val r) (y.val r) = b
    generalize sure σ x = u at h hx
    generalize sure σ y = v at h hy
    rcases u with _ | u
    · rcases v with _ | v
      · cases q <;> simp [sureC, noB, andB, orB] at h
      · rw [hy v rfl]
        cases q <;> cases v <;> simp [sureC, noB, andB, orB] at h <;> subst h <;> simp [Con.val]
    · rw [hx u rfl]
      rcases v with _ | v
      · cases q <;> cases u <;> simp [sureC, noB, andB, orB] at h <;> subst h <;> simp [Con.val]
      · rw [hy v rfl]
        cases q <;> cases u <;> cases v <;> simp [sureC, noB, andB, orB] at h <;> subst h <;> simp [Con.val]
theorem cons_snoc {σ : Env} {r : List Bool} {i : Nat} {b : Bool} (hc : Cons σ r) (hb : i < 4 → r.getD i false = b) : Cons (σ ++ [(i, b)]) r := by
  intro j hj c h
  rw [look_snoc] at h
  cases hl : look σ j with
  | some d =>
    rw [hl] at h
    have : d = c := by simpa using h
    rw [← this]
    exact hc j hj d hl
  | none =>
    rw [hl] at h
    by_cases e : i = j
    · subst e
      have : b = c := by simpa using h
      rw [← this]
      exact hb hj
    · simp [e] at h
theorem cons_nil {r : List Bool} : Cons [] r := fun i _ b h => by cases h
/-! ### letters, rows -/
theorem mem_setI : ∀ a ∈ subs4, ∀ b ∈ subs4, ∀ i ∈ ([0, 1, 2, 3] : List Int), (setI (a ++ b)).contains i = (a.contains i || b.contains i) := by decide +kernel
theorem ls_bi {q : Con} {a b : Fm} (ha : a.in_ 4) (hb : b.in_ 4) {i : Nat} (hi : i < 4) : (Fm.bi q a b).ls.contains (i : Int) = (a.ls.contains (i : Int) || b.ls.contains (i : Int)) :=
  mem_setI _ (Fm.ls_subs ha) _ (Fm.ls_subs hb) _ (by
    have : i = 0 ∨ i = 1 ∨ i = 2 ∨ i = 3 := by omega
    rcases this with rfl | rfl | rfl | rfl <;> simp)
/-- the value hangs on the letters alone -/
theorem val_ls {r s : List Bool} : ∀ {f : Fm}, f.in_ 4 → (∀ i : Nat, i < 4 → f.ls.contains (i : Int) = true → r.getD i false = s.getD i false) → f.val r = f.val s
  | .lt i, hf, h => h i hf (by simp [Fm.ls])
  | .ff, _, _ => rfl
  | .bi q a b, hf, h => by
    show q.val _ _ = q.val _ _
    rw [val_ls (f := a) hf.1 fun i hi hc => h i hi (by rw [ls_bi hf.1 hf.2 hi, hc]; rfl), val_ls (f := b) hf.2 fun i hi hc => h i hi (by rw [ls_bi hf.1 hf.2 hi, hc, Bool.or_true])]
def maskR (ls : List Int) (r : List Bool) : List Bool := (List.range 4).map fun k => r.getD k false && ls.contains (k : Int)
theorem all16_full : ∀ a b c d : Bool, [a, b, c, d] ∈ all16 := by decide +kernel
theorem mask_in {ls : List Int} {r : List Bool} : maskR ls r ∈ rws ls := by
  unfold rws
  rw [List.mem_filter]
  refine ⟨all16_full _ _ _ _, ?_⟩
  unfold okRow
  rw [List.all_eq_true]
  intro k hk
  have hk := List.mem_range.mp hk
  have : (maskR ls r).getD k false = (r.getD k false && ls.contains (k : Int)) := by
    unfold maskR
    rw [List.getD_eq_getElem?_getD, List.getElem?_map, List.getElem?_range hk]; rfl
  rw [this]
  cases r.getD k false <;> cases ls.contains (k : Int) <;> rfl
theorem thm_all {f : Fm} (hf : f.in_ 4) (h : thm f = true) (r : List Bool) : f.val r = true := by
  unfold thm at h
  rw [List.all_eq_true] at h
  rw [← h _ (mask_in (ls := f.ls) (r := r))]
  refine val_ls hf fun i hi hc => ?_
  unfold maskR
  rw [List.getD_eq_getElem?_getD, List.getD_eq_getElem?_getD, List.getElem?_map, List.getElem?_range hi]
  simp only [Option.map_some, Option.getD_some, hc, Bool.and_true]
  rw [List.getD_eq_getElem?_getD]
theorem sure_total {σ : Env} : ∀ {f : Fm}, f.in_ 4 → (∀ i : Nat, i < 4 → f.ls.contains (i : Int) = true → (look σ i).isSome = true) → ∃ b, sure σ f = some b
  | .lt i, hf, h => Option.isSome_iff_exists.mp (h i hf (by simp [Fm.ls]))
  | .ff, _, _ => ⟨false, rfl⟩
  | .bi q a b, hf, h => by
    obtain ⟨x, hx⟩ := sure_total (f := a) hf.1 fun i hi hc => h i hi (by rw [ls_bi hf.1 hf.2 hi, hc]; rfl)
    obtain ⟨y, hy⟩ := sure_total (f := b) hf.2 fun i hi hc => h i hi (by rw [ls_bi hf.1 hf.2 hi, hc, Bool.or_true])
    simp only [sure, hx, hy]
    cases q <;> cases x <;> cases y <;> exact ⟨_, rfl⟩
/-! ### trees that are grown -/
def free (f : Fm) (σ : Env) : List Int := f.ls.filter fun i => (look σ i.toNat).isNone
def gr : Nat → Fm → Env → Tr
  | 0, _, _ => .leaf
  | k + 1, f, σ => if sure σ f = some true then .leaf else match free f σ with
    | [] => .leaf
    | i :: _ => .nd i.toNat (gr k f (σ ++ [(i.toNat, false)])) (gr k f (σ ++ [(i.toNat, true)]))
theorem ls_rng {f : Fm} (hf : f.in_ 4) : ∀ i ∈ f.ls, 0 ≤ i ∧ i < 4 := (ls_sorted f.ls (Fm.ls_subs hf)).2.2
def rowOf (σ : Env) : List Bool := (List.range 4).map fun i => (look σ i).getD false
theorem cons_row (σ : Env) : Cons σ (rowOf σ) := by
  intro i hi b h
  unfold rowOf
  rw [List.getD_eq_getElem?_getD, List.getElem?_map, List.getElem?_range hi]
  simp [h]
theorem free_some {f : Fm} (hf : f.in_ 4) (ht : thm f = true) {σ : Env} (h : ¬ sure σ f = some true) : ∃ i l, free f σ = i :: l ∧ 0 ≤ i ∧ i < 4 ∧ look σ i.toNat = none := by
  cases hfr : free f σ with
  | nil =>
    exfalso
    unfold free at hfr
    rw [List.filter_eq_nil_iff] at hfr
    obtain ⟨b, hb⟩ := sure_total (σ := σ) hf fun i hi hc => by
      have := hfr (i : Int) (by simpa using hc)
      exact Option.isSome_iff_ne_none.mpr (by simpa using this)
    have := sure_val (cons_row σ) hf hb
    rw [thm_all hf ht] at this
    exact h (by rw [hb, ← this])
  | cons i l =>
    have hm : i ∈ free f σ := by rw [hfr]; exact List.mem_cons_self
    unfold free at hm
    rw [List.mem_filter] at hm
    have := ls_rng hf i hm.1
    exact ⟨i, l, rfl, this.1, this.2, by simpa using hm.2⟩
theorem free_less {f : Fm} (hf : f.in_ 4) {σ : Env} {i : Int} {l : List Int} (h : free f σ = i :: l) (b : Bool) : (free f (σ ++ [(i.toNat, b)])).length < (free f σ).length := by
  have e : free f (σ ++ [(i.toNat, b)]) = (free f σ).filter fun j => !(i.toNat == j.toNat) := by
    unfold free
    rw [List.filter_filter]
    refine List.filter_congr fun j _ => ?_
    rw [look_snoc]
    cases look σ j.toNat with
    | some d => simp
    | none => by_cases q : i.toNat = j.toNat <;> simp [q]
  rw [e, List.length_filter_lt_length_iff_exists]
  exact ⟨i, by rw [h]; exact List.mem_cons_self, by simp⟩
/-- a tree that settles the formula -/
def Settles (f : Fm) : Tr → Env → Prop
  | .leaf, σ => sure σ f = some true
  | .nd i a b, σ => look σ i = none ∧ i < 4 ∧ Settles f a (σ ++ [(i, false)]) ∧ Settles f b (σ ++ [(i, true)])
theorem gr_settles {f : Fm} (hf : f.in_ 4) (ht : thm f = true) : ∀ (k : Nat) (σ : Env), (free f σ).length < k → (gr k f σ).ht ≤ (free f σ).length ∧ Settles f (gr k f σ) σ := by
  intro k
  induction k with
  | zero => intro σ h; omega
  | succ k ih =>
    intro σ h
    unfold gr
    by_cases hs : sure σ f = some true
    · rw [if_pos hs]
      exact ⟨Nat.zero_le _, hs⟩
    · rw [if_neg hs]
      obtain ⟨i, l, hfr, i0, i4, hno⟩ := free_some hf ht hs
      have l1 := free_less hf hfr false
      have l2 := free_less hf hfr true
      obtain ⟨a1, a2⟩ := ih (σ ++ [(i.toNat, false)]) (by omega)
      obtain ⟨b1, b2⟩ := ih (σ ++ [(i.toNat, true)]) (by omega)
      rw [hfr]
      rw [hfr] at l1 l2
      exact ⟨by simp only [Tr.ht]; omega, hno, by omega, a2, b2⟩
theorem free_4 {f : Fm} (hf : f.in_ 4) : (free f []).length < 5 := by
  have h1 := subs_len _ (Fm.ls_subs hf)
  have h2 := List.length_filter_le (fun i : Int => (look [] i.toNat).isNone) f.ls
  unfold free
  omega
section
variable {P : Prog}
theorem e_grown (gLf : P.consts "LEAF" = some (.tuple [])) (hle : Has P clettersUin) (hs : Has P csureUvalue) (h : Has P cgrown) {f : Fm} (hf : f.in_ 4) (ht : thm f = true) :
    ∀ (k : Nat) (σ : Env) (j n : Nat) (S : Store), S[j]? = some (.dct (envD σ)) → (free f σ).length < k → σ.length + k ≤ 100 → k + f.ht + 2 ≤ n → P.call n "grown" [.p f.d, .r j] S = .ok (.p (gr k f σ).d) S := by
  intro k
  induction k with
  | zero => intro σ j n S _ h2; omega
  | succ k ih =>
    intro σ j n S hS hfr hl hn
    obtain ⟨n, rfl, hm⟩ := pred (n := n) (k := k + f.ht + 2) (by omega)
    rw [show ("grown" : Str) = cgrown.name from rfl, h.call]
    have e := e_sure hs (σ := σ) (k := j) f n (by omega) S hS
    unfold gr
    by_cases hsu : sure σ f = some true
    · have e3 : PyData.eqv (optB (sure σ f)) (.int 1) = true := by rw [sure_one, hsu]; rfl
      rw [if_pos hsu]
      exact run_rt rfl (ss_rt ((ite_t (S1 := S) (by simp [e, e3, ok_optB])).trans (ss_rt (ret_ok (S1 := S) (by simp [gLf, Tr.d])))))
    · have e3 : PyData.eqv (optB (sure σ f)) (.int 1) = false := by rw [sure_one]; exact decide_eq_false hsu
      rw [if_neg hsu]
      obtain ⟨i, l, hfl, i0, i4, hno⟩ := free_some hf ht hsu
      have l1 := free_less hf hfl false
      have l2 := free_less hf hfl true
      have el := e_letters hle f n hf (by omega) S
      have hr : rd S (.r j) = some (.dict (envD σ)) := by simp [rd, hS]
      have hlen : f.ls.length ≤ 4 := subs_len _ (Fm.ls_subs hf)
      have e4 := ev_lcfM (cl := P.call n) (g := P.consts) (ρ := [some (.p f.d), some (.r j), none, none, none, none]) (S := S) (S1 := S) (it := .call "letters_in" [(.var 0)]) (vs := [5]) (ts := [5]) (tup := false) (c := .cmp .nin (.var 5) (.var 1)) (e := .var 5)
        (x := .p (intL f.ls)) (k := fun i : Int => .int i) (as := f.ls) (p := fun i => (look σ i.toNat).isNone) (q := fun i => .int i) (by simp [el]) rfl (by omega) (fun a ha => ⟨_, rfl, by
          have hx := nin_env σ a.toNat
          rw [Int.toNat_of_nonneg (ls_rng hf a ha).1] at hx
          simp [hr, hx], fun _ => by simp⟩)
      rw [show (f.ls.filter fun i => (look σ i.toNat).isNone) = free f σ from rfl, hfl, List.map_cons] at e4
      rw [hfl]
      show runFn _ _ _ _ _ = .ok (.p (Tr.nd i.toNat (gr k f (σ ++ [(i.toNat, false)])) (gr k f (σ ++ [(i.toNat, true)]))).d) S
      have hii : ((i.toNat : Nat) : Int) = i := Int.toNat_of_nonneg i0
      have hz : (S ++ [Cell.dct (envD σ), Cell.dct (envD σ)])[S.length]? = some (.dct (envD σ)) := by simp
      have q1 := put_dct (b := false) (i := i.toNat) hz (by rw [env_len]; omega)
      have hz' : (S ++ [Cell.dct (envD (σ ++ [(i.toNat, false)])), Cell.dct (envD σ)])[S.length + 1]? = some (.dct (envD σ)) := by simp
      have q2 := put_dct (b := true) (i := i.toNat) hz' (by rw [env_len]; omega)
      rw [put_new hno, set_a, hii, show Lw.bi false = 0 from rfl] at q1
      rw [put_new hno, set_b, hii, show Lw.bi true = 1 from rfl] at q2
      have hr1 : rd (S ++ [Cell.dct (envD σ)]) (.r j) = some (.dict (envD σ)) := by
        have : j < S.length := (List.getElem?_eq_some_iff.mp hS).1
        simp [rd, List.getElem?_append_left this, hS]
      have ht1 : (S ++ [Cell.dct (envD (σ ++ [(i.toNat, false)])), Cell.dct (envD (σ ++ [(i.toNat, true)]))])[S.length]? = some (.dct (envD (σ ++ [(i.toNat, false)]))) := by simp
      have ht2 : (S ++ [Cell.dct (envD (σ ++ [(i.toNat, false)])), Cell.dct (envD (σ ++ [(i.toNat, true)]))])[S.length + 1]? = some (.dct (envD (σ ++ [(i.toNat, true)]))) := by simp
      have r1 := ih (σ ++ [(i.toNat, false)]) S.length n _ ht1 (by omega) (by simp; omega) (by omega)
      have r2 := ih (σ ++ [(i.toNat, true)]) (S.length + 1) n _ ht2 (by omega) (by simp; omega) (by omega)
      unfold Tr.d
      rw [hii]
      generalize (gr k f (σ ++ [(i.toNat, false)])).d = d1 at r1 ⊢
      generalize (gr k f (σ ++ [(i.toNat, true)])).d = d2 at r2 ⊢
      generalize hA : Cell.dct (envD (σ ++ [(i.toNat, false)])) = A at q1 q2 r1 r2
      generalize hB : Cell.dct (envD (σ ++ [(i.toNat, true)])) = B at q1 q2 r1 r2
      refine run_re rfl ⟨S ++ [A, B], ?_, by simp⟩
      refine (ss_nx (ite_n (S1 := S) (by simp [e, e3, ok_optB]))).trans ((ss_nx (ρ1 := [some (.p f.d), some (.r j), some (.p (.int i)), none, none, none]) (S1 := S) ?_).trans
        ((ss_nx (ρ1 := [some (.p f.d), some (.r j), some (.p (.int i)), some (.r S.length), some (.r (S.length + 1)), none]) (S1 := S ++ [.dct (envD σ), .dct (envD σ)]) (by simp [hr, hr1, setV])).trans ?_))
      · refine asg_ok ?_
        show ev (P.call n) P.consts (.idx (.lc _ _ _ _ _ _) _) [some (.p f.d), some (.r j), none, none, none, none] S = _
        simp [e4, atI_0, -qev_27]
      · generalize Cell.dct (envD σ) = Z at q1 q2
        refine (ss_nx (ρ1 := [some (.p f.d), some (.r j), some (.p (.int i)), some (.r S.length), some (.r (S.length + 1)), none]) (S1 := S ++ [A, Z]) (by simp [q1, -qputR])).trans
          ((ss_nx (ρ1 := [some (.p f.d), some (.r j), some (.p (.int i)), some (.r S.length), some (.r (S.length + 1)), none]) (S1 := S ++ [A, B]) (by simp [q2, -qputR])).trans (ss_rt (ret_ok (S1 := S ++ [A, B]) ?_)))
        simp [r1, r2]
end
end Lw

set_option Elab.async false
set_option linter.all false
set_option autoImplicit false
set_option maxRecDepth 100000
set_option maxHeartbeats 0
/-! PLS: lines that resolve clauses. -/
namespace Lw
open PySem PySem.Spec Pl L2
inductive Ln where
  | inp (i : Nat)
  | res (a b l : Nat)
def Ln.d : Ln → D
  | .inp i => .tuple [.str "input", .int i]
  | .res a b l => .tuple [.str "resolve", .int a, .int b, .int l]
def lnB : D → Bool
  | .tuple [.str w, x] => decide (w = Str.ofString "input") && inR 0 999 x
  | .tuple [.str w, x, y, z] => decide (w = Str.ofString "resolve") && (inR 0 999 x && (inR 0 999 y && inR 0 3 z))
  | _ => false
def Ln.ok : Ln → Prop
  | .inp i => i ≤ 999
  | .res a b l => a ≤ 999 ∧ b ≤ 999 ∧ l < 4
theorem nat_of {m : Int} {x : D} (h : inR 0 m x = true) : ∃ i : Nat, x = .int i ∧ (i : Int) ≤ m := by
  cases x <;> first | (cases h; done) | skip
  next i =>
  simp only [inR, Bool.and_eq_true, decide_eq_true_eq] at h
  exact ⟨i.toNat, by rw [Int.toNat_of_nonneg h.1], by omega⟩
theorem ln_of {v : D} (h : lnB v = true) : ∃ l : Ln, v = l.d ∧ l.ok := by
  unfold lnB at h
  split at h
  · next w x =>
    rw [Bool.and_eq_true, decide_eq_true_eq] at h
    obtain ⟨rfl, h⟩ := h
    obtain ⟨i, rfl, hi⟩ := nat_of h
    exact ⟨.inp i, rfl, show i ≤ 999 by omega⟩
  · next w x y z =>
    rw [Bool.and_eq_true, Bool.and_eq_true, Bool.and_eq_true, decide_eq_true_eq] at h
    obtain ⟨rfl, h1, h2, h3⟩ := h
    obtain ⟨a, rfl, ha⟩ := nat_of h1
    obtain ⟨b, rfl, hb⟩ := nat_of h2
    obtain ⟨l, rfl, hl⟩ := nat_of h3
    exact ⟨.res a b l, rfl, by omega, by omega, by omega⟩
  · cases h
theorem ln_form {l : Ln} (h : l.ok) : lnB l.d = true := by
  cases l with
  | inp i =>
    have h : i ≤ 999 := h
    show (decide (Str.ofString "input" = Str.ofString "input") && inR 0 999 (.int i)) = true
    simp [inR]; omega
  | res a b l =>
    obtain ⟨h1, h2, h3⟩ := h
    show (decide (Str.ofString "resolve" = Str.ofString "resolve") && (inR 0 999 (.int a) && (inR 0 999 (.int b) && inR 0 3 (.int l)))) = true
    simp [inR]; omega
theorem lns_of : ∀ {ds : List D}, ds.all lnB = true → ∃ ls : List Ln, ds = ls.map Ln.d ∧ ∀ l ∈ ls, l.ok
  | [], _ => ⟨[], rfl, fun _ z => nomatch z⟩
  | d :: ds, h => by
    rw [List.all_cons, Bool.and_eq_true] at h
    obtain ⟨l, rfl, hl⟩ := ln_of h.1
    obtain ⟨ls, rfl, hs⟩ := lns_of h.2
    exact ⟨l :: ls, rfl, List.forall_mem_cons.mpr ⟨hl, hs⟩⟩
theorem Ln.inj {a b : Ln} (h : a.d = b.d) : a = b := by
  cases a <;> cases b <;> simp only [Ln.d, PyData.tuple.injEq, List.cons.injEq, PyData.int.injEq, and_true, reduceCtorEq, and_false, true_and, List.nil_eq, false_and] at h
  · rw [Int.ofNat.inj h]
  · rw [Int.ofNat.inj h.1, Int.ofNat.inj h.2.1, Int.ofNat.inj h.2.2]
/-! ### resolving -/
def optC : Option Cla → D
  | some c => rowT c
  | none => .none
def mrg (a b : Cla) : Option Cla := if taut (setI (a ++ b)) then none else some (setI (a ++ b))
theorem mrgD_opt (a b : Cla) : mrgD a b = optC (mrg a b) := by
  unfold mrgD mrg
  split <;> rfl
def rsl (a b : Cla) (l : Nat) : Option Cla := if a.contains ((l : Int) + 1) && b.contains (-((l : Int) + 1)) then mrg (a.filter fun w => decide (w ≠ (l : Int) + 1)) (b.filter fun w => decide (w ≠ -((l : Int) + 1))) else none
def lcl (cs fd : List Cla) : Ln → Option Cla
  | .inp i => cs[i]?
  | .res a b l => match fd[a]?, fd[b]? with
    | some x, some y => rsl x y l
    | _, _ => none
def told (cs : List Cla) : List Ln → List Cla → List Cla
  | [], fd => fd
  | l :: ls, fd => match lcl cs fd l with
    | none => fd
    | some c => told cs ls (fd ++ [c])
/-- a clause in order, of four letters -/
def OkC (c : Cla) : Prop := c.Pairwise (· < ·) ∧ ∀ w ∈ c, okW 4 w
theorem OkC.len {c : Cla} (h : OkC c) : c.length ≤ 8 := cla_len (k := 4) (by omega) h.1 h.2
theorem mrg_ok {a b c : Cla} (ha : ∀ w ∈ a, okW 4 w) (hb : ∀ w ∈ b, okW 4 w) (h : mrg a b = some c) : OkC c ∧ c = setI (a ++ b) := by
  unfold mrg at h
  split at h
  · cases h
  · cases h
    refine ⟨⟨setI_up _, fun w hw => ?_⟩, rfl⟩
    rw [setI_mem, List.mem_append] at hw
    rcases hw with hw | hw
    · exact ha w hw
    · exact hb w hw
theorem rsl_ok {a b c : Cla} {l : Nat} (ha : OkC a) (hb : OkC b) (h : rsl a b l = some c) : OkC c := by
  unfold rsl at h
  split at h
  · exact (mrg_ok (fun w hw => ha.2 w ((List.mem_filter.mp hw).1)) (fun w hw => hb.2 w ((List.mem_filter.mp hw).1)) h).1
  · cases h
theorem inp_ok {f : Fm} (hf : f.in_ 4) {c : Cla} (h : c ∈ inp f) : OkC c := by
  have := (List.mem_filter.mp h).1
  exact ⟨nrm_cla this, nrm_wish hf this⟩
theorem lcl_ok {cs fd : List Cla} {l : Ln} {c : Cla} (hc : ∀ c ∈ cs, OkC c) (hf : ∀ c ∈ fd, OkC c) (h : lcl cs fd l = some c) : OkC c := by
  cases l with
  | inp i => exact hc c (List.mem_of_getElem? h)
  | res a b l =>
    simp only [lcl] at h
    split at h
    · next x y e1 e2 => exact rsl_ok (hf x (List.mem_of_getElem? e1)) (hf y (List.mem_of_getElem? e2)) h
    · cases h
theorem told_ok {cs : List Cla} (hc : ∀ c ∈ cs, OkC c) : ∀ {ls : List Ln} {fd : List Cla}, (∀ c ∈ fd, OkC c) → ∀ c ∈ told cs ls fd, OkC c
  | [], fd, h => h
  | l :: ls, fd, h => by
    unfold told
    split
    · exact h
    · next c e =>
      refine told_ok hc (ls := ls) fun x hx => ?_
      · rcases List.mem_append.mp hx with hx | hx
        · exact h x hx
        · rw [List.mem_singleton.mp hx]; exact lcl_ok hc h e
theorem told_len {cs : List Cla} : ∀ {ls : List Ln} {fd : List Cla}, (told cs ls fd).length ≤ fd.length + ls.length
  | [], fd => by simp [told]
  | l :: ls, fd => by
    unfold told
    split
    · simp
    · next c e =>
      have := told_len (cs := cs) (ls := ls) (fd := fd ++ [c])
      simp only [List.length_append, List.length_cons, List.length_nil] at this ⊢
      omega
/-! ### what is resolved is true -/
theorem rsl_sat {r : List Bool} {a b c : Cla} {l : Nat} (h : rsl a b l = some c) (ha : satC r a = true) (hb : satC r b = true) : satC r c = true := by
  unfold rsl at h
  split at h
  · unfold mrg at h
    split at h
    · cases h
    · cases h
      rw [sat_set]
      unfold satC at *
      obtain ⟨u, hu, qu⟩ := List.any_eq_true.mp ha
      obtain ⟨v, hv, qv⟩ := List.any_eq_true.mp hb
      by_cases e1 : u = (l : Int) + 1
      · by_cases e2 : v = -((l : Int) + 1)
        · subst e1 e2
          rw [lit_neg (by omega), qu] at qv
          cases qv
        · rw [Bool.or_eq_true]
          exact .inr (List.any_eq_true.mpr ⟨v, List.mem_filter.mpr ⟨hv, decide_eq_true e2⟩, qv⟩)
      · rw [Bool.or_eq_true]
        exact .inl (List.any_eq_true.mpr ⟨u, List.mem_filter.mpr ⟨hu, decide_eq_true e1⟩, qu⟩)
  · cases h
theorem told_sat {r : List Bool} {cs : List Cla} (hc : ∀ c ∈ cs, satC r c = true) : ∀ {ls : List Ln} {fd : List Cla}, (∀ c ∈ fd, satC r c = true) → ∀ c ∈ told cs ls fd, satC r c = true
  | [], fd, h => h
  | l :: ls, fd, h => by
    unfold told
    split
    · exact h
    · next c e =>
      refine told_sat hc (ls := ls) fun x hx => ?_
      · rcases List.mem_append.mp hx with hx | hx
        · exact h x hx
        · rw [List.mem_singleton.mp hx]
          cases l with
          | inp i => exact hc c (List.mem_of_getElem? e)
          | res a b l =>
            simp only [lcl] at e
            split at e
            · next x y e1 e2 => exact rsl_sat e (h x (List.mem_of_getElem? e1)) (h y (List.mem_of_getElem? e2))
            · cases e
/-- the first fault of lines -/
def resF (f : Fm) (ls : List Ln) : D :=
  if (told (inp f) ls []).length < ls.length then .tuple [.str "line", .int ((told (inp f) ls []).length : Nat)] else
  if (told (inp f) ls []).getLast? = some [] then .none else .tuple [.str "goal", .int (ls.length : Nat)]
theorem resF_thm {f : Fm} (hf : f.in_ 4) {ls : List Ln} (h : resF f ls = .none) : thm f = true := by
  unfold resF at h
  split at h
  · cases h
  · split at h
    · next hg =>
      have hm : ([] : Cla) ∈ told (inp f) ls [] := List.mem_of_getLast? hg
      unfold thm
      rw [List.all_eq_true]
      intro r _
      cases q : f.val r with
      | true => rfl
      | false =>
        have hn := (nrm_val (r := r) (f := f) (s := false) hf).mpr q
        have := told_sat (r := r) (cs := inp f) (fun c hc => hn c ((List.mem_filter.mp hc).1)) (ls := ls) (fd := []) (fun _ z => nomatch z) [] hm
        cases this
    · cases h
end Lw

set_option Elab.async false
set_option linter.all false
set_option autoImplicit false
set_option maxRecDepth 100000
set_option maxHeartbeats 0
/-! PLT: the defs that read and resolve lines. -/
namespace Lw
open PySem PySem.Spec Pl L2
def isW (v : D) (w : Str) : Bool := match v with
  | .str x => decide (x = w)
  | _ => false
theorem nin_bool {a b : Bool} : (!(a && b)) = (!a || !b) := by cases a <;> cases b <;> rfl
theorem lt_int (i j : Int) : cmpD .lt (.int i) (.int j) = some (decide (i < j)) := rfl
theorem ge_int (i j : Int) : cmpD .ge (.int i) (.int j) = some (decide (j ≤ i)) := rfl
theorem ne_int (i j : Int) : cmpD .ne (.int i) (.int j) = some (!decide (i = j)) := by simp
theorem at_rows {cs : List Cla} {i : Nat} {c : Cla} (h : cs[i]? = some c) : idxD (.list (cs.map rowT)) (.int i) = some (rowT c) := by
  show atI (cs.map rowT) (i : Int) = _
  refine atI_nat ?_
  rw [List.getElem?_map, h]; rfl
section
variable {P : Prog}
theorem e_isword (h : Has P cisUword) {n : Nat} (hn : 1 ≤ n) (v : D) (w : Str) (S : Store) : P.call n "is_word" [.p v, .p (.str w)] S = .ok (.p (.bool (isW v w))) S := by
  obtain ⟨n, rfl, hm⟩ := pred hn
  rw [show ("is_word" : Str) = cisUword.name from rfl, h.call]
  cases v <;> simp [cisUword, isW]
theorem e_isline (h0 : Has P cisUwhole) (h1 : Has P cisUfrom) (hw : Has P cisUword) (gL : P.consts "LETTERS" = some (.int 4)) (h : Has P cisUline) {n : Nat} (hn : 4 ≤ n) (v : D) (S : Store) : P.call n "is_line" [.p v] S = .ok (.p (.bool (lnB v))) S := by
  obtain ⟨n, rfl, hm⟩ := pred hn
  rw [show ("is_line" : Str) = cisUline.name from rfl, h.call]
  have ew := fun v w => e_isword hw (n := n) (by omega) v w S
  have ef := fun v a b => e_isUfrom h0 h1 (n := n) (by omega) v a b S
  cases v with
  | tuple ds =>
    cases ds with
    | nil => exact run_rt rfl (ss_rt ((ite_t (S1 := S) (by simp)).trans (ss_rt (ret_ok (S1 := S) (by simp [lnB])))))
    | cons x ds =>
      have s0 : evS (P.call n) P.consts (cisUline.body.getD 0 .pass) [some (.p (.tuple (x :: ds)))] S = .ok (.nx [some (.p (.tuple (x :: ds)))]) S := ite_n (S1 := S) (by simp; omega)
      cases hi : isW x "input" with
      | true =>
        have hx : x = .str "input" := by
          unfold isW at hi
          split at hi
          · rw [of_decide_eq_true hi]
          · cases hi
        refine run_rt rfl ((ss_nx s0).trans (ss_rt ((ite_t (S1 := S) (by simp [atI_0, ew, hi])).trans (ss_rt (ret_ok (S1 := S) ?_)))))
        subst hx
        match ds with
        | [] => simp [lnB]
        | [y] => simp [lnB, atI_1, ef]
        | [y, z] => simp [lnB]
        | [y, z, u] => simp [lnB, ofStr_inj]
        | y :: z :: u :: t :: r =>
          have : ¬ ((r.length : Int) + 1 + 1 + 1 + 1 + 1 = 2) := by omega
          simp [lnB, this]
      | false =>
        have s1 : evS (P.call n) P.consts (cisUline.body.getD 1 .pass) [some (.p (.tuple (x :: ds)))] S = .ok (.nx [some (.p (.tuple (x :: ds)))]) S := ite_n (S1 := S) (by simp [atI_0, ew, hi])
        cases hr : isW x "resolve" with
        | true =>
          have hx : x = .str "resolve" := by
            unfold isW at hr
            split at hr
            · rw [of_decide_eq_true hr]
            · cases hr
          subst hx
          match ds with
          | [] => exact run_rt rfl ((ss_nx s0).trans ((ss_nx s1).trans (ss_rt ((ite_t (S1 := S) (by simp [atI_0, ew, hr])).trans (ss_rt (ret_ok (S1 := S) (by simp [lnB])))))))
          | [y] => exact run_rt rfl ((ss_nx s0).trans ((ss_nx s1).trans (ss_rt ((ite_t (S1 := S) (by simp [atI_0, ew, hr])).trans (ss_rt (ret_ok (S1 := S) (by simp [lnB, ofStr_inj])))))))
          | [y, z] => exact run_rt rfl ((ss_nx s0).trans ((ss_nx s1).trans (ss_rt ((ite_t (S1 := S) (by simp [atI_0, ew, hr])).trans (ss_rt (ret_ok (S1 := S) (by simp [lnB])))))))
          | [y, z, u] =>
            refine run_rt rfl ((ss_nx s0).trans ((ss_nx s1).trans ((ss_nx (ite_n (S1 := S) (by simp [atI_0, ew, hr]))).trans (ss_rt (ret_ok (S1 := S) ?_)))))
            refine (x_and (q := inR 0 999 y) (q' := inR 0 999 z && inR 0 3 u) (by simp [atI_1, ef]) fun _ => x_and (by simp [atI_2, ef]) fun _ => (by simp [atI_3, ef, gL])).trans ?_
            simp [lnB]
          | y :: z :: u :: t :: r =>
            have : ¬ ((r.length : Int) + 1 + 1 + 1 + 1 + 1 = 4) := by omega
            exact run_rt rfl ((ss_nx s0).trans ((ss_nx s1).trans (ss_rt ((ite_t (S1 := S) (by simp [atI_0, ew, hr, this])).trans (ss_rt (ret_ok (S1 := S) (by simp [lnB])))))))
        | false =>
          refine run_rt rfl ((ss_nx s0).trans ((ss_nx s1).trans (ss_rt ((ite_t (S1 := S) (by simp [atI_0, ew, hr])).trans (ss_rt (ret_ok (S1 := S) ?_))))))
          have : lnB (.tuple (x :: ds)) = false := by
            unfold lnB
            split
            · next w y e =>
              injection e with e; injection e with e1 e2; subst e1
              have : decide (w = Str.ofString "input") = false := hi
              rw [this]; rfl
            · next w y z u e =>
              injection e with e; injection e with e1 e2; subst e1
              have : decide (w = Str.ofString "resolve") = false := hr
              rw [this]; rfl
            · rfl
          rw [this]; rfl
  | _ => exact run_rt rfl (ss_rt ((ite_t (S1 := S) (by simp)).trans (ss_rt (ret_ok (S1 := S) (by simp [lnB])))))
theorem e_llform (hi : Has P cUlawUisUinteger) (hw : Has P cUlawUisUnumber) (h : Has P cUlawUlineUform) {n : Nat} (hn : 3 ≤ n) (v : D) (S : Store) : P.call n "_law_line_form" [.p v] S = .ok (.p (.bool (lnB v))) S := by
  obtain ⟨n, rfl, hm⟩ := pred hn
  rw [show ("_law_line_form" : Str) = cUlawUlineUform.name from rfl, h.call]
  have ef := fun v a b => e_lnum hi hw (n := n) (by omega) v a b S
  cases v with
  | tuple ds =>
    cases ds with
    | nil => exact run_rt rfl (ss_rt ((ite_t (S1 := S) (by simp)).trans (ss_rt (ret_ok (S1 := S) (by simp [lnB])))))
    | cons x ds =>
      cases x with
      | str w =>
        have s0 : evS (P.call n) P.consts (cUlawUlineUform.body.getD 0 .pass) [some (.p (.tuple (.str w :: ds)))] S = .ok (.nx [some (.p (.tuple (.str w :: ds)))]) S := ite_n (S1 := S) (by
          have : ¬ ((ds.length : Int) + 1 = 0) := by omega
          simp [atI_0, this])
        by_cases hin : w = Str.ofString "input"
        · subst hin
          refine run_rt rfl ((ss_nx s0).trans (ss_rt ((ite_t (S1 := S) (by simp [atI_0])).trans (ss_rt (ret_ok (S1 := S) ?_)))))
          match ds with
          | [] => simp [lnB]
          | [y] => simp [lnB, atI_1, ef]
          | [y, z] => simp [lnB]
          | [y, z, u] => simp [lnB, ofStr_inj]
          | y :: z :: u :: t :: r =>
            have : ¬ ((r.length : Int) + 1 + 1 + 1 + 1 + 1 = 2) := by omega
            simp [lnB, this]
        · refine run_rt rfl ((ss_nx s0).trans ((ss_nx (ite_n (S1 := S) (by simp [atI_0, hin]))).trans (ss_rt (ret_ok (S1 := S) ?_))))
          by_cases hr : w = Str.ofString "resolve"
          · subst hr
            match ds with
            | [] => simp [lnB, atI_0]
            | [y] => simp [lnB, atI_0, ofStr_inj]
            | [y, z] => simp [lnB, atI_0]
            | [y, z, u] =>
              refine (x_and (q := true) (by simp [atI_0]) fun _ => x_and (q := true) (by simp) fun _ => x_and (q := inR 0 999 y) (q' := inR 0 999 z && inR 0 3 u) (by simp [atI_1, ef]) fun _ => x_and (by simp [atI_2, ef]) fun _ => (by simp [atI_3, ef])).trans ?_
              simp [lnB]
            | y :: z :: u :: t :: r =>
              have : ¬ ((r.length : Int) + 1 + 1 + 1 + 1 + 1 = 4) := by omega
              simp [lnB, atI_0, this]
          · have : lnB (.tuple (.str w :: ds)) = false := by
              unfold lnB
              split
              · next w' y e =>
                injection e with e; injection e with e1 e2; injection e1 with e1; subst e1
                simp [hin]
              · next w' y z u e =>
                injection e with e; injection e with e1 e2; injection e1 with e1; subst e1
                simp [hr]
              · rfl
            rw [this]
            simp [atI_0, hr]
      | _ =>
        have hz : ¬ ((ds.length : Int) + 1 = 0) := by omega
        exact run_rt rfl (ss_rt ((ite_t (S1 := S) (by simp [atI_0, hz])).trans (ss_rt (ret_ok (S1 := S) (by simp [lnB])))))
  | _ => exact run_rt rfl (ss_rt ((ite_t (S1 := S) (by simp)).trans (ss_rt (ret_ok (S1 := S) (by simp [lnB])))))
theorem e_resolved (hm0 : Has P cmerged) (h : Has P cresolved) {n : Nat} (hn : 2 ≤ n) {a b : Cla} (ha : a.length ≤ 8) (hb : b.length ≤ 8) (l : Nat) (S : Store) : P.call n "resolved" [.p (rowT a), .p (rowT b), .p (.int l)] S = .ok (.p (optC (rsl a b l))) S := by
  obtain ⟨n, rfl, hm⟩ := pred hn
  rw [show ("resolved" : Str) = cresolved.name from rfl, h.call]
  have cd : ev (P.call n) P.consts (.or (.cmp .nin (.var 3) (.var 0)) (.cmp .nin (.neg (.var 3)) (.var 1))) [some (.p (rowT a)), some (.p (rowT b)), some (.p (.int l)), some (.p (.int ((l : Int) + 1))), none, none] S = .ok (.p (.bool (!(a.contains ((l : Int) + 1) && b.contains (-((l : Int) + 1)))))) S := by
    rw [nin_bool]
    exact x_or (x_cmp (x_v rfl) (x_v rfl) rfl rfl (nin_row _ _)) fun _ => x_cmp (x_neg (x_v rfl)) (x_v rfl) rfl rfl (nin_row _ _)
  have s0 : evS (P.call n) P.consts (cresolved.body.getD 0 .pass) [some (.p (rowT a)), some (.p (rowT b)), some (.p (.int l)), none, none, none] S = .ok (.nx [some (.p (rowT a)), some (.p (rowT b)), some (.p (.int l)), some (.p (.int ((l : Int) + 1))), none, none]) S := asg_ok (x_bin (x_v rfl) x_k rfl rfl rfl)
  unfold rsl
  cases q : (a.contains ((l : Int) + 1) && b.contains (-((l : Int) + 1))) with
  | false =>
    rw [q] at cd
    exact run_rt rfl ((ss_nx s0).trans (ss_rt ((ite_t cd).trans (ss_rt (ret_ok x_k)))))
  | true =>
    rw [q] at cd
    rw [if_pos rfl, ← mrgD_opt]
    have fa := List.length_filter_le (fun w : Int => decide (w ≠ (l : Int) + 1)) a
    have fb := List.length_filter_le (fun w : Int => decide (w ≠ -((l : Int) + 1))) b
    refine run_rt rfl ((ss_nx s0).trans ((ss_nx (ite_n cd)).trans ((ss_nx (asg_ok (x_t2 (d := rowT (a.filter fun w => decide (w ≠ (l : Int) + 1))) (d1 := rowT (b.filter fun w => decide (w ≠ -((l : Int) + 1))))
      (x_bi (ev_lcfM (k := PyData.int) (as := a) (p := fun w => decide (w ≠ (l : Int) + 1)) (q := PyData.int) (x_v rfl) rfl (by omega) fun w hw => ⟨_, rfl, x_cmp (x_v rfl) (x_v rfl) rfl rfl ?_, fun _ => x_v rfl⟩) rfl rfl)
      (x_bi (ev_lcfM (k := PyData.int) (as := b) (p := fun w => decide (w ≠ -((l : Int) + 1))) (q := PyData.int) (x_v rfl) rfl (by omega) fun w hw => ⟨_, rfl, x_cmp (x_v rfl) (x_neg (x_v rfl)) rfl rfl ?_, fun _ => x_v rfl⟩) rfl rfl)))).trans (ss_rt (ret_ok
      (x_c2 (x_idx (x_v rfl) x_k rfl rfl atI_0) (x_idx (x_v rfl) x_k rfl rfl atI_1) (e_merged hm0 (by omega) (by omega) S)))))))
    · rw [ne_int]; by_cases e : w = (l : Int) + 1 <;> simp [e]
    · rw [ne_int]; by_cases e : w = -((l : Int) + 1) <;> simp [e]
theorem e_lineclause (hm0 : Has P cmerged) (hr : Has P cresolved) (h : Has P clineUclause) {n : Nat} (hn : 3 ≤ n) {cs fd : List Cla} (hc : ∀ c ∈ cs, OkC c) (hf : ∀ c ∈ fd, OkC c) (l : Ln) {fv : Vl} (S : Store) (hrd : rd S fv = some (.list (fd.map rowT))) :
    P.call n "line_clause" [.p (.list (cs.map rowT)), fv, .p l.d] S = .ok (.p (optC (lcl cs fd l))) S := by
  obtain ⟨n, rfl, hm⟩ := pred hn
  rw [show ("line_clause" : Str) = clineUclause.name from rfl, h.call]
  cases l with
  | inp i =>
    have i0 : idxD (Ln.inp i).d (.int 0) = some (.str "input") := atI_0
    have i1 : idxD (Ln.inp i).d (.int 1) = some (.int i) := atI_1
    rw [show lcl cs fd (.inp i) = cs[i]? from rfl]
    generalize (Ln.inp i).d = ld at i0 i1
    refine run_rt rfl (ss_rt ((ite_t (x_cmp (x_idx (x_v rfl) x_k rfl rfl i0) x_k rfl rfl (by simp))).trans (ss_rt (ret_ok ?_))))
    by_cases hi : i < cs.length
    · have e : cs[i]? = some cs[i] := List.getElem?_eq_getElem hi
      rw [e]
      refine x_it (x_cmp (x_idx (x_v rfl) x_k rfl rfl i1) (x_bi (x_v rfl) rfl bi_len) rfl rfl ?_) (x_idx (x_v rfl) (x_idx (x_v rfl) x_k rfl rfl i1) rfl rfl (at_rows e))
      rw [lt_int, List.length_map]
      simp; omega
    · have e : cs[i]? = none := List.getElem?_eq_none (by omega)
      rw [e]
      refine x_if (x_cmp (x_idx (x_v rfl) x_k rfl rfl i1) (x_bi (x_v rfl) rfl bi_len) rfl rfl ?_) x_k
      rw [lt_int, List.length_map]
      simp; omega
  | res a b l =>
    have i0 : idxD (Ln.res a b l).d (.int 0) = some (.str "resolve") := atI_0
    have i1 : idxD (Ln.res a b l).d (.int 1) = some (.int a) := atI_1
    have i2 : idxD (Ln.res a b l).d (.int 2) = some (.int b) := atI_2
    have i3 : idxD (Ln.res a b l).d (.int 3) = some (.int l) := atI_3
    have res : lcl cs fd (.res a b l) = match fd[a]?, fd[b]? with | some x, some y => rsl x y l | _, _ => none := rfl
    rw [res]
    generalize (Ln.res a b l).d = ld at i0 i1 i2 i3
    have s0 : evS (P.call n) P.consts (clineUclause.body.getD 0 .pass) [some (.p (.list (cs.map rowT))), some fv, some (.p ld)] S = .ok (.nx [some (.p (.list (cs.map rowT))), some fv, some (.p ld)]) S := ite_n (x_cmp (x_idx (x_v rfl) x_k rfl rfl i0) x_k rfl rfl (by simp [ofStr_inj]))
    have cd : ev (P.call n) P.consts (.or (.cmp .ge (.idx (.var 2) (.con (.int 1))) (.bi .len [(.var 1)])) (.cmp .ge (.idx (.var 2) (.con (.int 2))) (.bi .len [(.var 1)]))) [some (.p (.list (cs.map rowT))), some fv, some (.p ld)] S = .ok (.p (.bool (decide ((fd.length : Int) ≤ a) || decide ((fd.length : Int) ≤ b)))) S := by
      refine x_or (x_cmp (x_idx (x_v rfl) x_k rfl rfl i1) (x_bi (x_v rfl) hrd bi_len) rfl rfl ?_) fun _ => x_cmp (x_idx (x_v rfl) x_k rfl rfl i2) (x_bi (x_v rfl) hrd bi_len) rfl rfl ?_
      · rw [ge_int, List.length_map]
      · rw [ge_int, List.length_map]
    by_cases h1 : a < fd.length
    · by_cases h2 : b < fd.length
      · have e1 : fd[a]? = some fd[a] := List.getElem?_eq_getElem h1
        have e2 : fd[b]? = some fd[b] := List.getElem?_eq_getElem h2
        rw [e1, e2]
        rw [show (decide ((fd.length : Int) ≤ a) || decide ((fd.length : Int) ≤ b)) = false by simp; omega] at cd
        exact run_rt rfl ((ss_nx s0).trans ((ss_nx (ite_n cd)).trans (ss_rt (ret_ok (x_c3 (x_idx (x_v rfl) (x_idx (x_v rfl) x_k rfl rfl i1) hrd rfl (at_rows e1)) (x_idx (x_v rfl) (x_idx (x_v rfl) x_k rfl rfl i2) hrd rfl (at_rows e2)) (x_idx (x_v rfl) x_k rfl rfl i3)
          (e_resolved hm0 hr (by omega) (hf _ (List.mem_of_getElem? e1)).len (hf _ (List.mem_of_getElem? e2)).len l S))))))
      · have e2 : fd[b]? = none := List.getElem?_eq_none (by omega)
        rw [e2, show (match fd[a]?, (none : Option Cla) with | some x, some y => rsl x y l | _, _ => none) = none by cases fd[a]? <;> rfl]
        rw [show (decide ((fd.length : Int) ≤ a) || decide ((fd.length : Int) ≤ b)) = true by simp; omega] at cd
        exact run_rt rfl ((ss_nx s0).trans (ss_rt ((ite_t cd).trans (ss_rt (ret_ok x_k)))))
    · have e1 : fd[a]? = none := List.getElem?_eq_none (by omega)
      rw [e1]
      rw [show (decide ((fd.length : Int) ≤ a) || decide ((fd.length : Int) ≤ b)) = true by simp; omega] at cd
      exact run_rt rfl ((ss_nx s0).trans (ss_rt ((ite_t cd).trans (ss_rt (ret_ok x_k)))))
end
end Lw

set_option Elab.async false
set_option linter.all false
set_option autoImplicit false
set_option maxRecDepth 100000
set_option maxHeartbeats 0
/-! PLU: lines read one behind the other. -/
namespace Lw
open PySem PySem.Spec Pl L2
theorem cut_last {α : Type} (xs : List α) : cutD xs (some (-1)) none = xs.getLast?.toList := by
  rcases List.eq_nil_or_concat xs with rfl | ⟨l, c, rfl⟩
  · rfl
  · rw [List.concat_eq_append]
    unfold cutD
    have h1 : HT.sIx (l ++ [c]).length 0 (some (-1)) = l.length := by
      unfold HT.sIx
      simp
      omega
    have h2 : HT.sIx (l ++ [c]).length (l ++ [c]).length none = l.length + 1 := by
      unfold HT.sIx
      simp
    rw [h1, h2]
    simp
theorem told_early {cs : List Cla} : ∀ {ls : List Ln} {fd : List Cla}, (told cs ls fd).length = fd.length + ls.length ∨ (told cs ls fd).length < fd.length + ls.length := fun {ls fd} => by
  have := told_len (cs := cs) (ls := ls) (fd := fd)
  omega
section
variable {P : Prog}
theorem e_told (hm0 : Has P cmerged) (hn0 : Has P cnormal) (hw : Has P cisUwithin) (hi : Has P cinputs) (hr : Has P cresolved) (hl : Has P clineUclause) (h : Has P cclausesUtold) {n : Nat} {f : Fm} (hf : f.in_ 4) (hk : wok f false = true) (hz : wl f false < 64) (hn : f.ht + 5 ≤ n) {ls : List Ln} (h4 : ls.length ≤ 50000) (S : Store) :
    P.call n "clauses_told" [.p f.d, .p (.tuple (ls.map Ln.d))] S = .ok (.p (.list ((told (inp f) ls []).map rowT))) S := by
  obtain ⟨n, rfl, hm⟩ := pred (n := n) (k := f.ht + 4) (by omega)
  rw [show ("clauses_told" : Str) = cclausesUtold.name from rfl, h.call]
  have e0 := e_inputs hm0 hn0 hw hi (n := n) hf hk (by omega) hz S
  have hc : ∀ c ∈ inp f, OkC c := fun c hc => inp_ok hf hc
  generalize inp f = cs at e0 hc ⊢
  have loop : ∀ (todo : List Ln) (fd : List Cla) (v4 v5 : Option Vl), fd.length + todo.length ≤ 50000 → (∀ c ∈ fd, OkC c) → ∃ fl S', forR (fun d ρ S => match bindT ρ [4] false d with
      | some ρ2 => evSs (P.call n) P.consts [.asg 5 (.call "line_clause" [(.var 2), (.var 3), (.var 4)]), .ite (.cmp .is_ (.var 5) (.con .none)) [.ret (.frz (.var 3))] [], .exp (.met .append (.var 3) [(.var 5)])] ρ2 S
      | none => .bad) (todo.map Ln.d) [some (.p f.d), some (.p (.tuple (ls.map Ln.d))), some (.p (.list (cs.map rowT))), some (.r S.length), v4, v5] (S ++ [.lst (fd.map rowT)]) = .ok fl S' ∧ S'.take S.length = S ∧
      (fl = .rt (.p (.list ((told cs todo fd).map rowT))) ∨ ∃ v4 v5, fl = .nx [some (.p f.d), some (.p (.tuple (ls.map Ln.d))), some (.p (.list (cs.map rowT))), some (.r S.length), v4, v5] ∧ S' = S ++ [.lst ((told cs todo fd).map rowT)]) := by
    intro todo
    induction todo with
    | nil => intro fd v4 v5 _ _; exact ⟨_, _, rfl, by simp, .inr ⟨_, _, rfl, rfl⟩⟩
    | cons l todo ih =>
      intro fd v4 v5 hlen hfd
      simp only [List.length_cons] at hlen
      have hm1 : (S ++ [Cell.lst (fd.map rowT)])[S.length]? = some (.lst (fd.map rowT)) := by simp
      have e1 := e_lineclause hm0 hr hl (n := n) (by omega) hc hfd l (fv := .r S.length) _ (rd_lst hm1)
      have a1 : evS (P.call n) P.consts (.asg 5 (.call "line_clause" [(.var 2), (.var 3), (.var 4)])) [some (.p f.d), some (.p (.tuple (ls.map Ln.d))), some (.p (.list (cs.map rowT))), some (.r S.length), some (.p l.d), v5] (S ++ [.lst (fd.map rowT)]) = .ok (.nx [some (.p f.d), some (.p (.tuple (ls.map Ln.d))), some (.p (.list (cs.map rowT))), some (.r S.length), some (.p l.d), some (.p (optC (lcl cs fd l)))]) (S ++ [.lst (fd.map rowT)]) := asg_ok (x_c3 (x_v rfl) (x_v rfl) (x_v rfl) e1)
      cases q : lcl cs fd l with
      | none =>
        rw [q] at a1
        refine ⟨.rt (.p (.list ((told cs (l :: todo) fd).map rowT))), (S ++ [Cell.lst (fd.map rowT)]).set S.length .dead, ?_, by rw [set_last]; simp, .inl rfl⟩
        rw [show told cs (l :: todo) fd = fd by unfold told; rw [q]]
        have : evSs (P.call n) P.consts [.asg 5 (.call "line_clause" [(.var 2), (.var 3), (.var 4)]), .ite (.cmp .is_ (.var 5) (.con .none)) [.ret (.frz (.var 3))] [], .exp (.met .append (.var 3) [(.var 5)])] [some (.p f.d), some (.p (.tuple (ls.map Ln.d))), some (.p (.list (cs.map rowT))), some (.r S.length), some (.p l.d), v5] (S ++ [.lst (fd.map rowT)]) = .ok (.rt (.p (.list (fd.map rowT)))) ((S ++ [Cell.lst (fd.map rowT)]).set S.length .dead) :=
          (ss_nx a1).trans (ss_rt ((ite_t (x_cmp (x_v rfl) x_k rfl rfl rfl)).trans (ss_rt (ret_ok (x_frz rfl hm1)))))
        rw [List.map_cons, forR]
        simp only [bindT, List.set_cons_zero, List.set_cons_succ]
        rw [this]
        rfl
      | some c =>
        rw [q] at a1
        obtain ⟨fl, S', e2, e3, e4⟩ := ih (fd ++ [c]) (some (.p l.d)) (some (.p (rowT c))) (by simp only [List.length_append, List.length_cons, List.length_nil]; omega) (fun x hx => by
          rcases List.mem_append.mp hx with hx | hx
          · exact hfd x hx
          · rw [List.mem_singleton.mp hx]; exact lcl_ok hc hfd q)
        rw [show told cs (l :: todo) fd = told cs todo (fd ++ [c]) by rw [told, q]]
        refine ⟨fl, S', (forR_nx (ρ1 := [some (.p f.d), some (.p (.tuple (ls.map Ln.d))), some (.p (.list (cs.map rowT))), some (.r S.length), some (.p l.d), some (.p (rowT c))]) (S1 := S ++ [.lst ((fd ++ [c]).map rowT)]) ?_).trans e2, e3, e4⟩
        refine (ss_nx a1).trans ((ss_nx (ite_n (x_cmp (x_v rfl) x_k rfl rfl rfl))).trans ((ss_nx (s_app rfl (x_v rfl) hm1 (by rw [List.length_map]; omega))).trans ?_))
        rw [set_last, List.map_append]
        rfl
  obtain ⟨fl, S', e1, e2, e3⟩ := loop ls [] none none (by simpa using h4) (fun _ z => nomatch z)
  have pre : ∀ {X : Res Fl}, evSs (P.call n) P.consts (cclausesUtold.body.drop 2) [some (.p f.d), some (.p (.tuple (ls.map Ln.d))), some (.p (.list (cs.map rowT))), some (.r S.length), none, none] (S ++ [.lst []]) = X → evSs (P.call n) P.consts cclausesUtold.body ([Vl.p f.d, .p (.tuple (ls.map Ln.d))].map some ++ List.replicate (cclausesUtold.slots - 2) none) S = X := fun hX =>
    (ss_nx (asg_ok (x_c1 (x_v rfl) e0))).trans ((ss_nx (asg_ok x_mls0)).trans hX)
  rcases e3 with rfl | ⟨v4, v5, rfl, rfl⟩
  · exact run_re rfl ⟨S', pre (ss_rt (for_ok (x_v rfl) rfl e1)), e2⟩
  · exact run_re rfl ⟨_, pre ((ss_nx (for_ok (x_v rfl) rfl e1)).trans (ss_rt (ret_ok (x_frz rfl (by simp))))), by rw [set_last]; simp⟩
/-- the law's line -/
theorem e_llclause (h : Has P cUlawUlineUclause) {n : Nat} (hn : 1 ≤ n) {cs fd : List Cla} (hc : ∀ c ∈ cs, OkC c) (hf : ∀ c ∈ fd, OkC c) (l : Ln) {fv : Vl} (S : Store) (hrd : rd S fv = some (.list (fd.map rowT))) :
    P.call n "_law_line_clause" [.p (.list (cs.map rowT)), fv, .p l.d] S = .ok (.p (optC (lcl cs fd l))) S := by
  obtain ⟨n, rfl, hm⟩ := pred hn
  rw [show ("_law_line_clause" : Str) = cUlawUlineUclause.name from rfl, h.call]
  cases l with
  | inp i =>
    have i0 : idxD (Ln.inp i).d (.int 0) = some (.str "input") := atI_0
    have i1 : idxD (Ln.inp i).d (.int 1) = some (.int i) := atI_1
    rw [show lcl cs fd (.inp i) = cs[i]? from rfl]
    generalize (Ln.inp i).d = ld at i0 i1
    refine run_rt rfl (ss_rt ((ite_t (x_cmp (x_idx (x_v rfl) x_k rfl rfl i0) x_k rfl rfl (by simp))).trans (ss_rt (ret_ok ?_))))
    by_cases hi : i < cs.length
    · have e : cs[i]? = some cs[i] := List.getElem?_eq_getElem hi
      rw [e]
      refine x_it (x_cmp (x_idx (x_v rfl) x_k rfl rfl i1) (x_bi (x_v rfl) rfl bi_len) rfl rfl ?_) (x_idx (x_v rfl) (x_idx (x_v rfl) x_k rfl rfl i1) rfl rfl (at_rows e))
      rw [lt_int, List.length_map]
      simp; omega
    · have e : cs[i]? = none := List.getElem?_eq_none (by omega)
      rw [e]
      refine x_if (x_cmp (x_idx (x_v rfl) x_k rfl rfl i1) (x_bi (x_v rfl) rfl bi_len) rfl rfl ?_) x_k
      rw [lt_int, List.length_map]
      simp; omega
  | res a b l =>
    have i0 : idxD (Ln.res a b l).d (.int 0) = some (.str "resolve") := atI_0
    have i1 : idxD (Ln.res a b l).d (.int 1) = some (.int a) := atI_1
    have i2 : idxD (Ln.res a b l).d (.int 2) = some (.int b) := atI_2
    have i3 : idxD (Ln.res a b l).d (.int 3) = some (.int l) := atI_3
    have res : lcl cs fd (.res a b l) = match fd[a]?, fd[b]? with | some x, some y => rsl x y l | _, _ => none := rfl
    rw [res]
    generalize (Ln.res a b l).d = ld at i0 i1 i2 i3
    have s0 : evS (P.call n) P.consts (cUlawUlineUclause.body.getD 0 .pass) [some (.p (.list (cs.map rowT))), some fv, some (.p ld), none, none, none, none, none] S = .ok (.nx [some (.p (.list (cs.map rowT))), some fv, some (.p ld), none, none, none, none, none]) S := ite_n (x_cmp (x_idx (x_v rfl) x_k rfl rfl i0) x_k rfl rfl (by simp [ofStr_inj]))
    have cd : ev (P.call n) P.consts (.cmp .ge (.bi .max [(.idx (.var 2) (.con (.int 1))), (.idx (.var 2) (.con (.int 2)))]) (.bi .len [(.var 1)])) [some (.p (.list (cs.map rowT))), some fv, some (.p ld), none, none, none, none, none] S = .ok (.p (.bool (decide ((fd.length : Int) ≤ a) || decide ((fd.length : Int) ≤ b)))) S := by
      have mx : ev (P.call n) P.consts (.bi .max [(.idx (.var 2) (.con (.int 1))), (.idx (.var 2) (.con (.int 2)))]) [some (.p (.list (cs.map rowT))), some fv, some (.p ld), none, none, none, none, none] S = .ok (.p (.int (if (a : Int) < (b : Int) then (b : Int) else (a : Int)))) S := by simp [i1, i2]
      refine x_cmp mx (x_bi (x_v rfl) hrd bi_len) rfl rfl ?_
      rw [ge_int, List.length_map]
      congr 1
      rw [Bool.eq_iff_iff, Bool.or_eq_true, decide_eq_true_eq, decide_eq_true_eq, decide_eq_true_eq]
      split <;> omega
    by_cases h1 : a < fd.length
    · by_cases h2 : b < fd.length
      · have e1 : fd[a]? = some fd[a] := List.getElem?_eq_getElem h1
        have e2 : fd[b]? = some fd[b] := List.getElem?_eq_getElem h2
        have k1 := hf _ (List.mem_of_getElem? e1)
        have k2 := hf _ (List.mem_of_getElem? e2)
        rw [e1, e2]
        rw [show (decide ((fd.length : Int) ≤ a) || decide ((fd.length : Int) ≤ b)) = false by simp; omega] at cd
        generalize fd[a] = x at e1 k1 ⊢
        generalize fd[b] = y at e2 k2 ⊢
        have p2 : evS (P.call n) P.consts (cUlawUlineUclause.body.getD 2 .pass) [some (.p (.list (cs.map rowT))), some fv, some (.p ld), none, none, none, none, none] S = .ok (.nx [some (.p (.list (cs.map rowT))), some fv, some (.p ld), none, some (.p (rowT x)), some (.p (rowT y)), some (.p (.int ((l : Int) + 1))), none]) S := by
          have q1 := x_idx (g := P.consts) (cl := P.call n) (a := .var 1) (b := .idx (.var 2) (.con (.int 1))) (ρ := [some (.p (.list (cs.map rowT))), some fv, some (.p ld), none, none, none, none, none]) (x_v rfl) (x_idx (x_v rfl) x_k rfl rfl i1) hrd rfl (at_rows e1)
          have q2 := x_idx (g := P.consts) (cl := P.call n) (a := .var 1) (b := .idx (.var 2) (.con (.int 2))) (ρ := [some (.p (.list (cs.map rowT))), some fv, some (.p ld), none, none, none, none, none]) (x_v rfl) (x_idx (x_v rfl) x_k rfl rfl i2) hrd rfl (at_rows e2)
          have q3 := x_bin (g := P.consts) (cl := P.call n) (o := .add) (a := .idx (.var 2) (.con (.int 3))) (b := .con (.int 1)) (ρ := [some (.p (.list (cs.map rowT))), some fv, some (.p ld), none, none, none, none, none]) (r := .int ((l : Int) + 1)) (x_idx (x_v rfl) x_k rfl rfl i3) (x_k (S := S)) rfl rfl rfl
          have q4 := ev_sc q1 (ev_sc q2 (ev_sc q3 ev_sn))
          show evS _ _ (.par [4, 5, 6] [_, _, _]) _ _ = _
          rw [qevS_3, q4, bind_ok]
          rfl
        have cd2 : ev (P.call n) P.consts (.or (.cmp .nin (.var 6) (.var 4)) (.cmp .nin (.bin .sub (.con (.int 0)) (.var 6)) (.var 5))) [some (.p (.list (cs.map rowT))), some fv, some (.p ld), none, some (.p (rowT x)), some (.p (rowT y)), some (.p (.int ((l : Int) + 1))), none] S = .ok (.p (.bool (!(x.contains ((l : Int) + 1) && y.contains (-((l : Int) + 1)))))) S := by
          rw [nin_bool]
          refine x_or (x_cmp (x_v rfl) (x_v rfl) rfl rfl (nin_row _ _)) fun _ => x_cmp (x_bin x_k (x_v rfl) rfl rfl rfl) (x_v rfl) rfl rfl ?_
          rw [Int.zero_sub]
          exact nin_row _ _
        show runFn _ _ _ _ _ = Res.ok (.p (optC (rsl x y l))) S
        cases q : (x.contains ((l : Int) + 1) && y.contains (-((l : Int) + 1))) with
        | false =>
          rw [q] at cd2
          rw [show rsl x y l = none by unfold rsl; rw [q]; rfl]
          exact run_rt rfl ((ss_nx s0).trans ((ss_nx (ite_n cd)).trans ((ss_nx p2).trans (ss_rt ((ite_t cd2).trans (ss_rt (ret_ok x_k)))))))
        | true =>
          rw [q] at cd2
          rw [show rsl x y l = mrg (x.filter fun w => decide (w ≠ (l : Int) + 1)) (y.filter fun w => decide (w ≠ -((l : Int) + 1))) by unfold rsl; rw [q]; rfl]
          have fa := List.length_filter_le (fun w : Int => decide (w ≠ (l : Int) + 1)) x
          have fb := List.length_filter_le (fun w : Int => decide (w ≠ -((l : Int) + 1))) y
          have l1 := k1.len
          have l2 := k2.len
          have eA := ev_lcfM (cl := P.call n) (g := P.consts) (ρ := [some (.p (.list (cs.map rowT))), some fv, some (.p ld), none, some (.p (rowT x)), some (.p (rowT y)), some (.p (.int ((l : Int) + 1))), none]) (S := S) (S1 := S) (it := .var 4) (vs := [7]) (ts := [7]) (tup := false) (c := .cmp .ne (.var 7) (.var 6)) (e := .var 7)
            (x := .p (rowT x)) (k := PyData.int) (as := x) (p := fun w => decide (w ≠ (l : Int) + 1)) (q := PyData.int) (x_v rfl) rfl (by omega) (fun w hw => ⟨_, rfl, x_cmp (x_v rfl) (x_v rfl) rfl rfl (by rw [ne_int]; by_cases e : w = (l : Int) + 1 <;> simp [e]), fun _ => x_v rfl⟩)
          have eB := ev_lcfM (cl := P.call n) (g := P.consts) (ρ := [some (.p (.list (cs.map rowT))), some fv, some (.p ld), none, some (.p (rowT x)), some (.p (rowT y)), some (.p (.int ((l : Int) + 1))), none]) (S := S) (S1 := S) (it := .var 5) (vs := [7]) (ts := [7]) (tup := false) (c := .cmp .ne (.var 7) (.bin .sub (.con (.int 0)) (.var 6))) (e := .var 7)
            (x := .p (rowT y)) (k := PyData.int) (as := y) (p := fun w => decide (w ≠ -((l : Int) + 1))) (q := PyData.int) (x_v rfl) rfl (by omega) (fun w hw => ⟨_, rfl, x_cmp (x_v rfl) (x_bin x_k (x_v rfl) rfl rfl rfl) rfl rfl (by rw [ne_int, Int.zero_sub]; by_cases e : w = -((l : Int) + 1) <;> simp [e]), fun _ => x_v rfl⟩)
          generalize x.filter (fun w : Int => decide (w ≠ (l : Int) + 1)) = A at fa eA ⊢
          generalize y.filter (fun w : Int => decide (w ≠ -((l : Int) + 1))) = B at fb eB ⊢
          have eC : ev (P.call n) P.consts (.bi .tuple [.sset (.bin .add (.lc [7] [7] false (.var 4) [.cmp .ne (.var 7) (.var 6)] (.var 7)) (.lc [7] [7] false (.var 5) [.cmp .ne (.var 7) (.bin .sub (.con (.int 0)) (.var 6))] (.var 7)))]) [some (.p (.list (cs.map rowT))), some fv, some (.p ld), none, some (.p (rowT x)), some (.p (rowT y)), some (.p (.int ((l : Int) + 1))), none] S = .ok (.p (rowT (setI (A ++ B)))) S := by
            refine x_bi (d := .list ((setI (A ++ B)).map .int)) (x_ss (d := .list ((A ++ B).map .int)) (x_bin eA eB rfl rfl ?_) rfl ?_) rfl rfl
            · rw [List.map_append]
              exact add_lists _ _ (by rw [List.length_map, List.length_map]; omega)
            · show (match intsOf ((A ++ B).map PyData.int) with
                | some ns => if ns.length < 64 then some (PyData.list ((setI ns).map .int)) else none
                | none => match rowsI ((A ++ B).map PyData.int) with
                  | some rs => if rs.length < 64 then some (.list ((setR rs).map rowT)) else none
                  | none => none) = _
              rw [intsOf_map]
              simp only
              rw [if_pos (by rw [List.length_append]; omega)]
          have hcl := setI_len (A ++ B)
          rw [List.length_append] at hcl
          unfold mrg
          generalize setI (A ++ B) = c at eC hcl ⊢
          refine run_rt rfl ((ss_nx s0).trans ((ss_nx (ite_n cd)).trans ((ss_nx p2).trans ((ss_nx (ite_n cd2)).trans ((ss_nx (asg_ok eC)).trans (ss_rt (ret_ok ?_)))))))
          have : optC (if taut c = true then none else some c) = if !taut c then rowT c else .none := by cases taut c <;> rfl
          rw [this]
          refine x_ite (x_cmp (x_bi (ev_lcfM (k := PyData.int) (as := c) (p := fun w => c.contains (0 - w)) (q := PyData.int) (x_v rfl) rfl (by omega) fun w hw => ⟨_, rfl, x_cmp (x_bin x_k (x_v rfl) rfl rfl rfl) (x_v rfl) rfl rfl (in_row _ _), fun _ => x_v rfl⟩) rfl bi_len) x_k rfl rfl ?_) (fun _ => x_v rfl) (fun _ => x_k)
          rw [List.length_map, eq_int, taut_filter]
      · have e2 : fd[b]? = none := List.getElem?_eq_none (by omega)
        rw [e2, show (match fd[a]?, (none : Option Cla) with | some x, some y => rsl x y l | _, _ => none) = none by cases fd[a]? <;> rfl]
        rw [show (decide ((fd.length : Int) ≤ a) || decide ((fd.length : Int) ≤ b)) = true by simp; omega] at cd
        exact run_rt rfl ((ss_nx s0).trans (ss_rt ((ite_t cd).trans (ss_rt (ret_ok x_k)))))
    · have e1 : fd[a]? = none := List.getElem?_eq_none (by omega)
      rw [e1]
      rw [show (decide ((fd.length : Int) ≤ a) || decide ((fd.length : Int) ≤ b)) = true by simp; omega] at cd
      exact run_rt rfl ((ss_nx s0).trans (ss_rt ((ite_t cd).trans (ss_rt (ret_ok x_k)))))
end
end Lw

set_option Elab.async false
set_option linter.all false
set_option autoImplicit false
set_option maxRecDepth 100000
set_option maxHeartbeats 0
/-! PLW: clauses refuted by a tree of cases. -/
namespace Lw
open PySem PySem.Spec Pl L2
theorem range_split {n : Nat} {pre post : List D} {x : D} (h : rangeD 0 (n : Int) = pre ++ x :: post) : x = .int (pre.length : Nat) ∧ pre.length < n := by
  rw [rangeD_nat] at h
  have hl := congrArg List.length h
  simp at hl
  have h2 : ((List.range n).map fun k => PyData.int (k : Nat))[pre.length]? = some x := by rw [h]; simp
  rw [List.getElem?_map, List.getElem?_range (by omega)] at h2
  exact ⟨by simpa using h2.symm, by omega⟩
def optI : Option Nat → D
  | some k => .int (k : Nat)
  | none => .none
theorem isNon_optI {o : Option Nat} : Pl.isNon (optI o) = o.isNone := by cases o <;> rfl
section
variable {P : Prog}
/-- first_true -/
theorem e_first (h : Has P cfirstUtrue) {n : Nat} (hn : 1 ≤ n) {m : Nat} (hm : m ≤ 4000) (p : Nat → Bool) (S : Store) : P.call n "first_true" [.p (.list ((List.range m).map fun k => .bool (p k)))] S = .ok (.p (optI ((List.range m).find? p))) S := by
  obtain ⟨n, rfl, hm⟩ := pred hn
  rw [show ("first_true" : Str) = cfirstUtrue.name from rfl, h.call]
  have hr : rngOk (m : Int) = true := by
    unfold rngOk
    exact Nat.ble_eq_true_of_le (by omega)
  have key : sat (evSs (P.call n) P.consts cfirstUtrue.body [some (.p (.list ((List.range m).map fun k => .bool (p k)))), none] S) fun fl S' => S' = S ∧ (fl = .rt (.p (optI ((List.range m).find? p)))) := by
    simp [cfirstUtrue, rng0, hr]
    refine for_satL (fun pre ρ S' => S' = S ∧ (∀ i, i < pre.length → p i = false) ∧ ∃ y, ρ = [some (.p (.list ((List.range m).map fun k => .bool (p k)))), y]) (all := rangeD 0 (m : Int)) (pre := []) ?_ ?_ rfl ⟨rfl, by simp, _, rfl⟩
    · intro pre x post e ρ S' ⟨q1, q2, y, q3⟩
      subst q1 q3
      obtain ⟨rfl, hlt⟩ := range_split e
      have ha : atI ((List.range m).map fun k => PyData.bool (p k)) (pre.length : Int) = some (.bool (p pre.length)) := atI_nat (by rw [List.getElem?_map, List.getElem?_range hlt]; rfl)
      cases hp : p pre.length with
      | true =>
        rw [hp] at ha
        have hf : (List.range m).find? p = some pre.length := by
          rw [List.find?_range_eq_some]
          exact ⟨hp, List.mem_range.mpr hlt, fun j hj => by simp [q2 j hj]⟩
        simp [ha, hf, optI]
      | false =>
        rw [hp] at ha
        simp [ha]
        intro i hi
        rcases Nat.lt_succ_iff_lt_or_eq.mp hi with hi | rfl
        · exact q2 i hi
        · exact hp
    · intro ρ S' ⟨q1, q2, y, q3⟩
      subst q1 q3
      have hf : (List.range m).find? p = none := by
        rw [List.find?_eq_none]
        intro i hi
        have := q2 i (by rw [rangeD_nat]; simpa using hi)
        simp [this]
      simp [hf, optI]
  obtain ⟨v, S', e, q1, q2⟩ := run_sat (fn := cfirstUtrue) (vs := [.p (.list ((List.range m).map fun k => .bool (p k)))]) (S := S) (Q := fun v S' => v = .p (optI ((List.range m).find? p)) ∧ S' = S) rfl (by
    rw [sat_bind]
    refine sat_mono key fun fl S' ⟨q1, q2⟩ => ?_
    subst q1 q2
    simp)
  subst q1 q2
  exact e

end
/-! ### two lists that grow -/
def put (S : Store) (kl kf : Nat) (ls : List Ln) (fd : List Cla) : Store := (S.set kl (.lst (ls.map Ln.d))).set kf (.lst (fd.map rowT))
structure Two (S : Store) (kl kf : Nat) (ls : List Ln) (fd : List Cla) : Prop where
  l : S[kl]? = some (.lst (ls.map Ln.d))
  f : S[kf]? = some (.lst (fd.map rowT))
  ne : kl ≠ kf
section
variable {S : Store} {kl kf : Nat} {ls ls' : List Ln} {fd fd' : List Cla}
theorem Two.ll (h : Two S kl kf ls fd) : kl < S.length := (List.getElem?_eq_some_iff.mp h.l).1
theorem Two.fl (h : Two S kl kf ls fd) : kf < S.length := (List.getElem?_eq_some_iff.mp h.f).1
theorem Two.put (h : Two S kl kf ls fd) : Two (put S kl kf ls' fd') kl kf ls' fd' := by
  refine ⟨?_, ?_, h.ne⟩
  · unfold Lw.put
    rw [List.getElem?_set_ne (Ne.symm h.ne), List.getElem?_set_self h.ll]
  · unfold Lw.put
    rw [List.getElem?_set_self (by rw [List.length_set]; exact h.fl)]
theorem put_put (hne : kl ≠ kf) : put (put S kl kf ls fd) kl kf ls' fd' = put S kl kf ls' fd' := by
  unfold put
  rw [List.set_comm _ _ hne.symm, List.set_set, List.set_set]
theorem put_app (h : Two S kl kf ls fd) {T : Store} : put (S ++ T) kl kf ls' fd' = put S kl kf ls' fd' ++ T := by
  unfold put
  rw [List.set_append_left _ _ h.ll, List.set_append_left _ _ (by rw [List.length_set]; exact h.fl)]
theorem put_len : (put S kl kf ls fd).length = S.length := by unfold put; rw [List.length_set, List.length_set]
theorem put_get {i : Nat} (h1 : i ≠ kl) (h2 : i ≠ kf) : (put S kl kf ls fd)[i]? = S[i]? := by
  unfold put
  rw [List.getElem?_set_ne h2.symm, List.getElem?_set_ne h1.symm]
theorem put_same (h : Two S kl kf ls fd) : put S kl kf ls fd = S := by
  unfold put
  have h1 : S.set kl (.lst (ls.map Ln.d)) = S := by
    refine List.ext_getElem? fun i => ?_
    by_cases e : i = kl
    · subst e; rw [List.getElem?_set_self h.ll, h.l]
    · rw [List.getElem?_set_ne (Ne.symm e)]
  rw [h1]
  refine List.ext_getElem? fun i => ?_
  by_cases e : i = kf
  · subst e; rw [List.getElem?_set_self h.fl, h.f]
  · rw [List.getElem?_set_ne (Ne.symm e)]
theorem Two.app (h : Two S kl kf ls fd) {T : Store} : Two (S ++ T) kl kf ls fd := ⟨by rw [List.getElem?_append_left h.ll]; exact h.l, by rw [List.getElem?_append_left h.fl]; exact h.f, h.ne⟩
end
theorem run_rg {cl : CallF} {g : Str → Option D} {S S' S2 : Store} {fn : Fn} {vs : List Vl} {d : D} (hl : vs.length = fn.params) (h : evSs cl g fn.body (vs.map some ++ List.replicate (fn.slots - vs.length) none) S = .ok (.rt (.p d)) S') (hS : S'.take S.length = S2) : runFn cl g fn vs S = .ok (.p d) S2 := by
  unfold runFn
  rw [if_pos hl, h]
  simp [hS]
/-! ### places of clauses -/
theorem lay_row (c : Cla) : (rowT c).canLay0 = true := by
  have : PyData.canLayAll0 (c.map .int) = true := by
    induction c with
    | nil => rfl
    | cons w c ih => rw [List.map_cons, PyData.canLayAll0, ih, PyData.canLay0]; rfl
  show PyData.canLay0 (.tuple _) = true
  rw [PyData.canLay0]
  exact this
theorem shaped_row (c : Cla) : PySem.SeqAt.shaped (rowT c) = true := by
  have : (rowT c).depth = 1 := by show PyData.depth (.tuple _) = 1; rw [PyData.depth, depth_ints0]
  simp [PySem.SeqAt.shaped, lay_row, this]
theorem shaped_rows (cs : List Cla) : PySem.SeqAt.shaped (.list (cs.map rowT)) = true := by
  have h1 : PyData.canLayAll0 (cs.map rowT) = true := by
    induction cs with
    | nil => rfl
    | cons c cs ih => rw [List.map_cons, PyData.canLayAll0, ih, lay_row]; rfl
  have h2 := depth_rows cs
  simp [PySem.SeqAt.shaped, PyData.canLay0, PyData.depth, h1]
  omega
theorem place_row {c : Cla} : ∀ {cs : List Cla}, c ∈ cs → ∃ j, PySem.SeqAt.dataPlace (cs.map rowT) (rowT c) = some j ∧ cs[j]? = some c
  | [], h => nomatch h
  | x :: cs, h => by
    unfold PySem.SeqAt.dataPlace
    rw [List.map_cons, List.findIdx?_cons, eqv_row2]
    by_cases e : x = c
    · subst e
      exact ⟨0, by simp, by simp⟩
    · obtain ⟨j, e1, e2⟩ := place_row ((List.mem_cons.mp h).resolve_left (Ne.symm e))
      unfold PySem.SeqAt.dataPlace at e1
      exact ⟨j + 1, by simp [e, e1], by simpa using e2⟩
theorem inx_row {c : Cla} {cs : List Cla} (h : c ∈ cs) : ∃ j : Nat, inxD (.list (cs.map rowT)) (rowT c) = some (.int (j : Nat)) ∧ cs[j]? = some c := by
  obtain ⟨j, e1, e2⟩ := place_row h
  exact ⟨j, by simp [inxD, shaped_rows, shaped_row, e1], e2⟩
/-! ### broken by what is settled -/
def broS (σ : Env) (c : Cla) : Bool := c.all fun w => decide (look σ (w.natAbs - 1) = some (decide (w < 0)))
theorem broS_iff {σ : Env} {c : Cla} : broS σ c = true ↔ ∀ w ∈ c, look σ (w.natAbs - 1) = some (decide (w < 0)) := by
  unfold broS
  rw [List.all_eq_true]
  simp
theorem bro_taut {σ : Env} {c : Cla} (h0 : ∀ w ∈ c, w ≠ 0) (h : broS σ c = true) : taut c = false := by
  rw [broS_iff] at h
  unfold taut
  rw [Bool.eq_false_iff]
  intro ht
  obtain ⟨w, hw, hn⟩ := List.any_eq_true.mp ht
  have hn : -w ∈ c := by simpa using hn
  have h1 := h w hw
  have h2 := h (-w) hn
  rw [Int.natAbs_neg, h1] at h2
  have h3 := decide_eq_decide.mp (Option.some.inj h2)
  have := h0 w hw
  omega
theorem bro_set {σ : Env} {a b : Cla} (ha : broS σ a = true) (hb : broS σ b = true) : broS σ (setI (a ++ b)) = true := by
  rw [broS_iff] at *
  intro w hw
  rw [setI_mem, List.mem_append] at hw
  rcases hw with hw | hw
  · exact ha w hw
  · exact hb w hw
theorem sure_bro {σ : Env} {k : Nat} : ∀ {f : Fm} {b : Bool}, f.in_ k → sure σ f = some b → ∃ c ∈ nrm f (!b), broS σ c = true
  | .lt i, b, _, h => by
    refine ⟨[sgn (!b) * ((i : Int) + 1)], by simp [nrm], ?_⟩
    rw [broS_iff]
    intro w hw
    rw [List.mem_singleton.mp hw]
    cases b
    · simp only [Bool.not_false, sgn]
      rw [show (1 * ((i : Int) + 1)).natAbs - 1 = i by omega, show decide (1 * ((i : Int) + 1) < 0) = false by simp; omega]
      exact h
    · simp only [Bool.not_true, sgn]
      rw [show (-1 * ((i : Int) + 1)).natAbs - 1 = i by omega, show decide (-1 * ((i : Int) + 1) < 0) = true by simp <;> omega]
      exact h
  | .ff, b, _, h => by
    have : some false = some b := h
    have : b = false := (Option.some.inj this).symm
    subst this
    exact ⟨[], by simp [nrm], rfl⟩
  | .bi q x y, b, hf, h => by
    have hx := fun b => sure_bro (σ := σ) (f := x) (b := b) hf.1
    have hy := fun b => sure_bro (σ := σ) (f := y) (b := b) hf.2
    simp only [sure] at h
    have sum : ∀ s, isSum q s = true → (sure σ x = some (!flipS q s) ∨ sure σ y = some (!s)) → ∃ c ∈ nrm (.bi q x y) s, broS σ c = true := by
      intro s hs h
      unfold nrm
      rw [hs, if_pos rfl]
      rcases h with h | h
      · obtain ⟨c, hc, hb⟩ := hx _ h
        rw [Bool.not_not] at hc
        exact ⟨c, by rw [setR_mem, List.mem_append]; exact .inl hc, hb⟩
      · obtain ⟨c, hc, hb⟩ := hy _ h
        rw [Bool.not_not] at hc
        exact ⟨c, by rw [setR_mem, List.mem_append]; exact .inr hc, hb⟩
    have pro : ∀ s, isSum q s = false → sure σ x = some (!flipS q s) → sure σ y = some (!s) → ∃ c ∈ nrm (.bi q x y) s, broS σ c = true := by
      intro s hs h1 h2
      unfold nrm
      rw [hs, if_neg (by simp)]
      obtain ⟨a, ha, qa⟩ := hx _ h1
      obtain ⟨c, hc, qc⟩ := hy _ h2
      rw [Bool.not_not] at ha hc
      refine ⟨setI (a ++ c), ?_, bro_set qa qc⟩
      rw [setR_mem, prod_mem]
      refine ⟨a, ha, c, hc, rfl, bro_taut (fun w hw => ?_) (bro_set qa qc)⟩
      rw [setI_mem, List.mem_append] at hw
      rcases hw with hw | hw
      · exact (nrm_wish hf.1 ha w hw).1
      · exact (nrm_wish hf.2 hc w hw).1
    generalize sure σ x = u at h sum pro
    generalize sure σ y = v at h sum pro
    rcases u with _ | u <;> rcases v with _ | v <;> cases q <;> cases b <;> (try cases u) <;> (try cases v) <;> simp [sureC, noB, andB, orB] at h <;>
      first | exact sum _ rfl (.inl rfl) | exact sum _ rfl (.inr rfl) | exact pro _ rfl rfl rfl
theorem leaf_bro {σ : Env} {f : Fm} {k : Nat} (hf : f.in_ k) (h : sure σ f = some true) : ∃ c ∈ inp f, broS σ c = true :=
  inp_some (Q := fun c => broS σ c = true) (fun a b hw hb => by
    rw [broS_iff] at *
    intro w hwa
    have := List.all_eq_true.mp hw w hwa
    exact hb w (by simpa using this)) (sure_bro hf h)
theorem bro_less {σ : Env} {i : Nat} {b : Bool} (hn : look σ i = none) {c : Cla} (h : broS (σ ++ [(i, b)]) c = true) {w : Int} (hw : w ∈ c) (h0 : w ≠ 0) (hne : w ≠ (if b then -((i : Int) + 1) else (i : Int) + 1)) : look σ (w.natAbs - 1) = some (decide (w < 0)) := by
  rw [broS_iff] at h
  have := h w hw
  rw [look_snoc] at this
  by_cases e : i = w.natAbs - 1
  · rw [← e, hn] at this
    simp only [Option.none_or, if_true, Option.some.injEq] at this
    exfalso
    cases b
    · have h2 : ¬ w < 0 := of_decide_eq_false this.symm
      simp only [Bool.false_eq_true, if_false] at hne
      omega
    · have h2 : w < 0 := of_decide_eq_true this.symm
      simp only [if_true] at hne
      omega
  · rw [if_neg e] at this
    simpa using this
end Lw

set_option Elab.async false
set_option linter.all false
set_option autoImplicit false
set_option maxRecDepth 100000
set_option maxHeartbeats 0
/-! PLX: how a tree of cases refutes clauses. -/
namespace Lw
open PySem PySem.Spec Pl L2
theorem told_snoc {cs : List Cla} {l : Ln} : ∀ {ls : List Ln} {fd : List Cla}, (told cs ls fd).length = fd.length + ls.length → told cs (ls ++ [l]) fd = match lcl cs (told cs ls fd) l with
    | none => told cs ls fd
    | some c => told cs ls fd ++ [c]
  | [], fd, _ => by
    show told cs [l] fd = _
    unfold told
    cases lcl cs fd l <;> rfl
  | k :: ls, fd, h => by
    rw [List.cons_append]
    unfold told
    unfold told at h
    cases q : lcl cs fd k with
    | none => rw [q] at h; simp only [List.length_cons] at h; omega
    | some c =>
      rw [q] at h
      simp only at h ⊢
      refine told_snoc ?_
      simp only [List.length_cons, List.length_append, List.length_nil] at h ⊢
      omega
/-- lines that were read whole -/
structure Lns (cs : List Cla) (ls : List Ln) (fd : List Cla) : Prop where
  told : told cs ls [] = fd
  len : ls.length = fd.length
  ok : ∀ l ∈ ls, l.ok
  cla : ∀ c ∈ fd, OkC c
theorem Lns.nil {cs : List Cla} : Lns cs [] [] := ⟨rfl, rfl, (fun _ z => nomatch z), (fun _ z => nomatch z)⟩
theorem Lns.snoc {cs : List Cla} {ls : List Ln} {fd : List Cla} {l : Ln} {c : Cla} (h : Lns cs ls fd) (hc : ∀ c ∈ cs, OkC c) (hl : l.ok) (e : lcl cs fd l = some c) : Lns cs (ls ++ [l]) (fd ++ [c]) := by
  refine ⟨?_, by simp [h.len], fun x hx => ?_, fun x hx => ?_⟩
  · rw [told_snoc (by rw [h.told, ← h.len]; simp), h.told, e]
  · rcases List.mem_append.mp hx with hx | hx
    · exact h.ok x hx
    · rw [List.mem_singleton.mp hx]; exact hl
  · rcases List.mem_append.mp hx with hx | hx
    · exact h.cla x hx
    · rw [List.mem_singleton.mp hx]; exact lcl_ok hc h.cla e
section
variable {P : Prog}
theorem e_withline (h : Has P cwithUline) {n : Nat} (hn : 1 ≤ n) {S : Store} {kl kf : Nat} {ls : List Ln} {fd : List Cla} (T : Two S kl kf ls fd) (hz : ls.length ≤ 50000 ∧ fd.length ≤ 50000) (l : Ln) (c : Cla) :
    ∃ (j : Nat) (ls' : List Ln) (fd' : List Cla), P.call n "with_line" [.r kl, .r kf, .p l.d, .p (rowT c)] S = .ok (.p (.int (j : Nat))) (put S kl kf ls' fd') ∧ fd'[j]? = some c ∧ (c ∈ fd ∧ ls' = ls ∧ fd' = fd ∨ (c ∉ fd ∧ j = fd.length) ∧ ls' = ls ++ [l] ∧ fd' = fd ++ [c]) := by
  obtain ⟨n, rfl, hm⟩ := pred hn
  rw [show ("with_line" : Str) = cwithUline.name from rfl, h.call]
  have cd : ev (P.call n) P.consts (.cmp .in_ (.var 3) (.var 1)) [some (.r kl), some (.r kf), some (.p l.d), some (.p (rowT c))] S = .ok (.p (.bool (fd.contains c))) S := x_cmp (x_v rfl) (x_v rfl) rfl (rd_lst T.f) (in_rows _ _)
  cases q : fd.contains c with
  | true =>
    rw [q] at cd
    have hc : c ∈ fd := by simpa using q
    obtain ⟨j, e1, e2⟩ := inx_row hc
    refine ⟨j, ls, fd, ?_, e2, .inl ⟨hc, rfl, rfl⟩⟩
    rw [put_same T]
    refine run_rt rfl (ss_rt ((ite_t cd).trans (ss_rt (ret_ok ?_))))
    have hls : isLs (.r kf) S = true := by simp [isLs, rd_lst T.f]
    rw [qev_30, x_v rfl, bind_ok, if_pos hls, x_v rfl, bind_ok]
    simp only [rd_lst T.f, e1, pOpt_some]
  | false =>
    rw [q] at cd
    refine ⟨fd.length, ls ++ [l], fd ++ [c], ?_, by simp, .inr ⟨⟨by simpa using q, rfl⟩, rfl, rfl⟩⟩
    have g2 : (S.set kl (.lst (ls.map Ln.d ++ [l.d])))[kf]? = some (.lst (fd.map rowT)) := by rw [List.getElem?_set_ne T.ne, T.f]
    have g3 : ((S.set kl (.lst (ls.map Ln.d ++ [l.d]))).set kf (.lst (fd.map rowT ++ [rowT c])))[kf]? = some (.lst (fd.map rowT ++ [rowT c])) := List.getElem?_set_self (by rw [List.length_set]; exact T.fl)
    refine run_rg rfl ((ss_nx (ite_n cd)).trans ((ss_nx (s_app rfl (x_v rfl) T.l (by rw [List.length_map]; omega))).trans ((ss_nx (s_app rfl (x_v rfl) g2 (by rw [List.length_map]; omega))).trans (ss_rt (ret_ok (x_bin (r := .int (fd.length : Nat)) (x_bi (x_v rfl) (rd_lst g3) Lw.bi_len) x_k rfl rfl ?_)))))) ?_
    · rw [List.length_append, List.length_map]
      show some (PyData.int (((fd.length + [rowT c].length : Nat) : Int) - 1)) = _
      congr 2
      simp only [List.length_cons, List.length_nil]
      omega
    · rw [List.take_of_length_le (by rw [List.length_set, List.length_set]; exact Nat.le_refl _)]
      unfold put
      rw [List.map_append, List.map_append]
      rfl
def nds : Tr → Nat
  | .leaf => 1
  | .nd _ a b => nds a + nds b + 1
theorem at_cl {fd : List Cla} {j : Nat} {c : Cla} (h : fd[j]? = some c) : idxD (.list (fd.map rowT)) (.int j) = some (rowT c) := at_rows h
theorem int_lt (w : Int) : biD .int [.bool (decide (w < 0))] = some (.int (Lw.bi (decide (w < 0)))) := rfl
theorem eq_opt (o : Option Bool) (b : Bool) : cmpD .eq (optB o) (.int (Lw.bi b)) = some (decide (o = some b)) := by
  rcases o with _ | o
  · cases b <;> simp [optB, Lw.bi, PyData.eqv, show cmpOk .none = true from rfl]
  · cases o <;> cases b <;> simp [optB, Lw.bi]
/-- with_line: the line was there, or it is new -/
def Put (l : Ln) (c : Cla) (ls : List Ln) (fd : List Cla) (j : Nat) (ls' : List Ln) (fd' : List Cla) : Prop := fd'[j]? = some c ∧ (c ∈ fd ∧ ls' = ls ∧ fd' = fd ∨ (c ∉ fd ∧ j = fd.length) ∧ ls' = ls ++ [l] ∧ fd' = fd ++ [c])
/-- what refuted does: the lines before, the place that it returns, the lines behind -/
inductive Rf (f : Fm) : Tr → Env → List Ln → List Cla → Nat → List Ln → List Cla → Prop
  | leaf {σ : Env} {ls ls' : List Ln} {fd fd' : List Cla} {i j : Nat} {c : Cla} : (inp f)[i]? = some c → broS σ c = true → Put (.inp i) c ls fd j ls' fd' → Rf f .leaf σ ls fd j ls' fd'
  | low {σ : Env} {ls ls1 : List Ln} {fd fd1 : List Cla} {i j1 : Nat} {a b : Tr} {c1 : Cla} : Rf f a (σ ++ [(i, false)]) ls fd j1 ls1 fd1 → fd1[j1]? = some c1 → c1.contains ((i : Int) + 1) = false → Rf f (.nd i a b) σ ls fd j1 ls1 fd1
  | high {σ : Env} {ls ls1 ls2 : List Ln} {fd fd1 fd2 : List Cla} {i j1 j2 : Nat} {a b : Tr} {c1 c2 : Cla} : Rf f a (σ ++ [(i, false)]) ls fd j1 ls1 fd1 → fd1[j1]? = some c1 → c1.contains ((i : Int) + 1) = true → Rf f b (σ ++ [(i, true)]) ls1 fd1 j2 ls2 fd2 → fd2[j2]? = some c2 → c2.contains (-((i : Int) + 1)) = false → Rf f (.nd i a b) σ ls fd j2 ls2 fd2
  | res {σ : Env} {ls ls1 ls2 ls' : List Ln} {fd fd1 fd2 fd' : List Cla} {i j1 j2 j : Nat} {a b : Tr} {c1 c2 c : Cla} : Rf f a (σ ++ [(i, false)]) ls fd j1 ls1 fd1 → fd1[j1]? = some c1 → c1.contains ((i : Int) + 1) = true → Rf f b (σ ++ [(i, true)]) ls1 fd1 j2 ls2 fd2 → fd2[j2]? = some c2 → c2.contains (-((i : Int) + 1)) = true → rsl c1 c2 i = some c → broS σ c = true → Put (.res j1 j2 i) c ls2 fd2 j ls' fd' → Rf f (.nd i a b) σ ls fd j ls' fd'
theorem e_refuted (hm0 : Has P cmerged) (hn0 : Has P cnormal) (hw : Has P cisUwithin) (hi : Has P cinputs) (hft : Has P cfirstUtrue) (hr : Has P cresolved) (hwl : Has P cwithUline) (h : Has P crefuted) {f : Fm} (hf : f.in_ 4) (hk : wok f false = true) (hz : wl f false < 64) :
    ∀ (t : Tr) (σ : Env) (ks kl kf n : Nat) (S : Store) (ls : List Ln) (fd : List Cla), Settles f t σ → σ.length + t.ht ≤ 100 → t.ht + f.ht + 5 ≤ n → S[ks]? = some (.dct (envD σ)) → ks ≠ kl → ks ≠ kf → Two S kl kf ls fd → Lns (inp f) ls fd → ls.length + nds t ≤ 900 →
    ∃ (j : Nat) (ls' : List Ln) (fd' : List Cla) (c : Cla), P.call n "refuted" [.p f.d, .p t.d, .r ks, .r kl, .r kf] S = .ok (.p (.int (j : Nat))) (put S kl kf ls' fd') ∧ Lns (inp f) ls' fd' ∧ fd'[j]? = some c ∧ broS σ c = true ∧ ls'.length ≤ ls.length + nds t ∧ (∃ more, fd' = fd ++ more) ∧ Rf f t σ ls fd j ls' fd'
  | .leaf, σ, ks, kl, kf, n, S, ls, fd, hs, hl, hn, hks, k1, k2, T, L, hlen => by
    obtain ⟨n, rfl, hm⟩ := pred (n := n) (k := f.ht + 4) (by simp only [Tr.ht] at hn; omega)
    rw [show ("refuted" : Str) = crefuted.name from rfl, h.call]
    have e0 := e_inputs hm0 hn0 hw hi (n := n) hf hk (by omega) hz S
    have hci : ∀ c ∈ inp f, OkC c := fun c hc => inp_ok hf hc
    have hfew : (inp f).length ≤ 63 := by
      have h1 := List.length_filter_le (fun c => !(nrm f false).any fun o => decide (o ≠ c) && within o c) (nrm f false)
      have h2 := nrm_len f false
      unfold inp
      omega
    obtain ⟨c0, hc0, hb0⟩ := leaf_bro hf (show sure σ f = some true from hs)
    generalize hcs : inp f = cs at e0 hci hfew hc0 L ⊢
    have hrd : rd S (.r ks) = some (.dict (envD σ)) := by simp [rd, hks]
    have hdc : isDct (.r ks) S = true := by simp [isDct, hrd]
    -- the first one that is broken
    have e1 : ev (P.call n) P.consts (.lc [12] [12] false (.var 8) [] (.bi .all [(.lc [13] [13] false (.var 12) [] (.cmp .eq (.dgt (.var 2) (.bin .sub (.bi .abs [(.var 13)]) (.con (.int 1)))) (.bi .int [(.cmp .lt (.var 13) (.con (.int 0)))])))])) [some (.p f.d), some (.p Tr.leaf.d), some (.r ks), some (.r kl), some (.r kf), none, none, none, some (.p (.list (cs.map rowT))), none, none, none, none, none] S =
        .ok (.p (.list (cs.map fun c => .bool (broS σ c)))) S := by
      refine ev_lcmM (k := rowT) (as := cs) (q := fun c => .bool (broS σ c)) (x_v rfl) rfl (by omega) fun c hc => ⟨_, rfl, x_bi (ev_lcmM (k := PyData.int) (as := c) (q := fun w => .bool (decide (look σ (w.natAbs - 1) = some (decide (w < 0))))) (x_v rfl) rfl (by have := (hci c hc).len; omega) fun w hw => ⟨_, rfl, ?_⟩) rfl (bi_all _ _)⟩
      have hw0 := ((hci c hc).2 w hw).1
      have ea : ev (P.call n) P.consts (.dgt (.var 2) (.bin .sub (.bi .abs [(.var 13)]) (.con (.int 1)))) [some (.p f.d), some (.p Tr.leaf.d), some (.r ks), some (.r kl), some (.r kf), none, none, none, some (.p (.list (cs.map rowT))), none, none, none, some (.p (rowT c)), some (.p (.int w))] S = .ok (.p (optB (look σ (w.natAbs - 1)))) S := by
        rw [qev_33, x_v rfl, bind_ok, if_pos hdc, x_bin (r := .int ((w.natAbs - 1 : Nat) : Int)) (x_bi (r := .int (if w < 0 then -w else w)) (x_v rfl) rfl rfl) x_k rfl rfl ?_, bind_ok]
        · simp only [hrd, rd_p, get_env, pOpt_some]
        · show some (PyData.int ((if w < 0 then -w else w) - 1)) = _
          congr 2
          split <;> omega
      exact x_cmp ea (x_bi (x_cmp (x_v rfl) x_k rfl rfl (lt_int w 0)) rfl (int_lt w)) rfl rfl (eq_opt _ _)
    have emap : (cs.map fun c => PyData.bool (broS σ c)) = (List.range cs.length).map fun k => .bool (broS σ (cs.getD k [])) := by
      refine List.ext_getElem (by simp) fun i h1 h2 => ?_
      simp at h1
      simp [h1]
    rw [emap] at e1
    have e2 := e_first hft (n := n) (by omega) (m := cs.length) (by omega) (fun k => broS σ (cs.getD k [])) S
    obtain ⟨i0, hi0, ei0⟩ := List.getElem_of_mem hc0
    cases hfd : (List.range cs.length).find? fun k => broS σ (cs.getD k []) with
    | none =>
      rw [List.find?_eq_none] at hfd
      have := hfd i0 (List.mem_range.mpr hi0)
      rw [List.getD_eq_getElem?_getD, List.getElem?_eq_getElem hi0, ei0] at this
      simp [hb0] at this
    | some at_ =>
      rw [hfd] at e2
      have hat := List.mem_range.mp (List.mem_of_find?_eq_some hfd)
      have hbr := List.find?_some hfd
      have ec : cs[at_]? = some (cs.getD at_ []) := by rw [List.getD_eq_getElem?_getD, List.getElem?_eq_getElem hat]; rfl
      generalize cs.getD at_ [] = c at ec hbr
      obtain ⟨j, ls', fd', w1, w2, w3⟩ := e_withline hwl (n := n) (by omega) T (by have := L.len; omega) (.inp at_) c
      have pre : evSs (P.call n) P.consts crefuted.body ([Vl.p f.d, .p Tr.leaf.d, .r ks, .r kl, .r kf].map some ++ List.replicate (crefuted.slots - 5) none) S = .ok (.rt (.p (.int (j : Nat)))) (put S kl kf ls' fd') := by
        refine ss_rt ((ite_t (x_cmp (x_bi (x_v rfl) rfl (rfl : biD .len [Tr.leaf.d] = some (.int ((0 : Nat) : Int)))) x_k rfl rfl (eq_int _ _))).trans ((ss_nx (asg_ok (x_c1 (x_v rfl) e0))).trans ((ss_nx (asg_ok (x_c1 e1 e2))).trans (ss_rt (ret_ok ?_)))))
        refine (show ev (P.call n) P.consts (.call "with_line" [(.var 3), (.var 4), (.tup [(.con (.str "input")), (.var 9)]), (.idx (.var 8) (.var 9))]) _ S = _ from ?_)
        have b1 : ev (P.call n) P.consts (.tup [(.con (.str "input")), (.var 9)]) [some (.p f.d), some (.p Tr.leaf.d), some (.r ks), some (.r kl), some (.r kf), none, none, none, some (.p (.list (cs.map rowT))), some (.p (.int (at_ : Nat))), none, none, none, none] S = .ok (.p (Ln.inp at_).d) S := x_t2 x_k (x_v rfl)
        have b2 : ev (P.call n) P.consts (.idx (.var 8) (.var 9)) [some (.p f.d), some (.p Tr.leaf.d), some (.r ks), some (.r kl), some (.r kf), none, none, none, some (.p (.list (cs.map rowT))), some (.p (.int (at_ : Nat))), none, none, none, none] S = .ok (.p (rowT c)) S := x_idx (x_v rfl) (x_v rfl) rfl rfl (at_rows ec)
        show ev (P.call n) P.consts _ [some (.p f.d), some (.p Tr.leaf.d), some (.r ks), some (.r kl), some (.r kf), none, none, none, some (.p (.list (cs.map rowT))), some (.p (.int (at_ : Nat))), none, none, none, none] S = _
        rw [qev_12, qevs_2, x_v rfl, bind_ok, qevs_2, x_v rfl, bind_ok, qevs_2, b1, bind_ok, qevs_2, b2, bind_ok, qevs_1]
        simp only [bind_ok]
        exact w1
      have hln : Lns cs ls' fd' ∧ ls'.length ≤ ls.length + 1 ∧ ∃ more, fd' = fd ++ more := by
        rcases w3 with ⟨_, rfl, rfl⟩ | ⟨_, rfl, rfl⟩
        · exact ⟨L, by omega, [], by simp⟩
        · exact ⟨L.snoc hci (show at_ ≤ 999 by omega) ec, by simp, [c], rfl⟩
      exact ⟨j, ls', fd', c, run_rg rfl pre (by rw [List.take_of_length_le (by rw [put_len]; exact Nat.le_refl _)]), hln.1, w2, hbr, hln.2.1, hln.2.2, .leaf (by rw [hcs]; exact ec) hbr ⟨w2, w3⟩⟩
  | .nd i a b, σ, ks, kl, kf, n, S, ls, fd, hs, hl, hn, hks, k1, k2, T, L, hlen => by
    simp only [Tr.ht] at hn hl
    simp only [nds] at hlen ⊢
    obtain ⟨hno, hi4, hsa, hsb⟩ := hs
    obtain ⟨n, rfl, hm⟩ := pred (n := n) (k := max a.ht b.ht + f.ht + 5) (by omega)
    rw [show ("refuted" : Str) = crefuted.name from rfl, h.call]
    have i0 : idxD (Tr.nd i a b).d (.int 0) = some (.int i) := by simp [Tr.d, atI_0]
    have i1 : idxD (Tr.nd i a b).d (.int 1) = some a.d := by simp [Tr.d, atI_1]
    have i2 : idxD (Tr.nd i a b).d (.int 2) = some b.d := by simp [Tr.d, atI_2]
    have il : biD .len [(Tr.nd i a b).d] = some (.int 3) := rfl
    generalize (Tr.nd i a b).d = td at i0 i1 i2 il
    have hci : ∀ c ∈ inp f, OkC c := fun c hc => inp_ok hf hc
    have hrd : rd S (.r ks) = some (.dict (envD σ)) := by simp [rd, hks]
    have hrd1 : rd (S ++ [Cell.dct (envD σ)]) (.r ks) = some (.dict (envD σ)) := by
      have : ks < S.length := (List.getElem?_eq_some_iff.mp hks).1
      simp [rd, List.getElem?_append_left this, hks]
    have z1 : (S ++ [Cell.dct (envD σ), Cell.dct (envD σ)])[S.length]? = some (.dct (envD σ)) := by simp
    have q1 := put_dct (b := false) (i := i) z1 (by rw [env_len]; omega)
    have z2 : (S ++ [Cell.dct (envD (σ ++ [(i, false)])), Cell.dct (envD σ)])[S.length + 1]? = some (.dct (envD σ)) := by simp
    have q2 := put_dct (b := true) (i := i) z2 (by rw [env_len]; omega)
    rw [put_new hno, set_a, show Lw.bi false = 0 from rfl] at q1
    rw [put_new hno, set_b, show Lw.bi true = 1 from rfl] at q2
    have gA : ∀ U : Store, U.length = S.length → (U ++ [Cell.dct (envD (σ ++ [(i, false)])), Cell.dct (envD (σ ++ [(i, true)]))])[S.length]? = some (.dct (envD (σ ++ [(i, false)]))) := fun U hU => by rw [← hU]; simp
    have gB : ∀ U : Store, U.length = S.length → (U ++ [Cell.dct (envD (σ ++ [(i, false)])), Cell.dct (envD (σ ++ [(i, true)]))])[S.length + 1]? = some (.dct (envD (σ ++ [(i, true)]))) := fun U hU => by rw [← hU]; simp
    have r1 := e_refuted hm0 hn0 hw hi hft hr hwl h hf hk hz a (σ ++ [(i, false)]) S.length kl kf n (S ++ [Cell.dct (envD (σ ++ [(i, false)])), Cell.dct (envD (σ ++ [(i, true)]))]) ls fd hsa (by simp; omega) (by omega) (gA S rfl) (by have := T.ll; omega) (by have := T.fl; omega) T.app L (by omega)
    obtain ⟨j1, ls1, fd1, c1, w1, L1, v1, b1, n1, ⟨m1, p1⟩, R1⟩ := r1
    rw [put_app T] at w1
    have T1 : Two (put S kl kf ls1 fd1) kl kf ls1 fd1 := T.put
    have l1 : (put S kl kf ls1 fd1).length = S.length := put_len
    have r2 := e_refuted hm0 hn0 hw hi hft hr hwl h hf hk hz b (σ ++ [(i, true)]) (S.length + 1) kl kf n (put S kl kf ls1 fd1 ++ [Cell.dct (envD (σ ++ [(i, false)])), Cell.dct (envD (σ ++ [(i, true)]))]) ls1 fd1 hsb (by simp; omega) (by omega) (gB _ l1) (by have := T.ll; omega) (by have := T.fl; omega) T1.app L1 (by omega)
    obtain ⟨j2, ls2, fd2, c2, w2, L2', v2, b2, n2, ⟨m2, p2⟩, R2⟩ := r2
    rw [put_app T1, put_put T.ne] at w2
    have T2 : Two (put S kl kf ls2 fd2) kl kf ls2 fd2 := T.put
    generalize hA : Cell.dct (envD (σ ++ [(i, false)])) = A at q1 q2 w1 w2
    generalize hB : Cell.dct (envD (σ ++ [(i, true)])) = B at q1 q2 w1 w2
    have hoc1 := L1.cla c1 (List.mem_of_getElem? v1)
    have hoc2 := L2'.cla c2 (List.mem_of_getElem? v2)
    have tk : ∀ U : Store, U.length = S.length → (U ++ [A, B]).take S.length = U := fun U hU => by rw [← hU]; simp
    have rf : ∀ {ls fd}, Two (put S kl kf ls fd) kl kf ls fd → rd (put S kl kf ls fd ++ [A, B]) (.r kf) = some (.list (fd.map rowT)) := fun t => rd_lst t.app.f
    -- the way to the first call
    have pre : ∀ {X : Res Fl}, evSs (P.call n) P.consts (crefuted.body.drop 6) [some (.p f.d), some (.p td), some (.r ks), some (.r kl), some (.r kf), some (.p (.int i)), some (.p (.int (j1 : Nat))), none, none, none, some (.r S.length), some (.r (S.length + 1)), none, none] (put S kl kf ls1 fd1 ++ [A, B]) = X →
        evSs (P.call n) P.consts crefuted.body ([Vl.p f.d, .p td, .r ks, .r kl, .r kf].map some ++ List.replicate (crefuted.slots - 5) none) S = X := fun {X} hX => by
      refine (ss_nx (ite_n (x_cmp (x_bi (x_v rfl) rfl il) x_k rfl rfl (by simp)))).trans ((ss_nx (asg_ok (x_idx (x_v rfl) x_k rfl rfl i0))).trans
        ((ss_nx (ρ1 := [some (.p f.d), some (.p td), some (.r ks), some (.r kl), some (.r kf), some (.p (.int i)), none, none, none, none, some (.r S.length), some (.r (S.length + 1)), none, none]) (S1 := S ++ [.dct (envD σ), .dct (envD σ)]) ?_).trans ?_))
      · show evS _ _ (.par [10, 11] [.mdd (.var 2), .mdd (.var 2)]) [some (.p f.d), some (.p td), some (.r ks), some (.r kl), some (.r kf), some (.p (.int i)), none, none, none, none, none, none, none, none] S = _
        simp [hrd, hrd1, setV]
      · generalize Cell.dct (envD σ) = Z at q1 q2
        refine (ss_nx (ρ1 := [some (.p f.d), some (.p td), some (.r ks), some (.r kl), some (.r kf), some (.p (.int i)), none, none, none, none, some (.r S.length), some (.r (S.length + 1)), none, none]) (S1 := S ++ [A, Z]) (by simp [q1, -qputR])).trans
          ((ss_nx (ρ1 := [some (.p f.d), some (.p td), some (.r ks), some (.r kl), some (.r kf), some (.p (.int i)), none, none, none, none, some (.r S.length), some (.r (S.length + 1)), none, none]) (S1 := S ++ [A, B]) (by simp [q2, -qputR])).trans ((ss_nx (asg_ok ?_)).trans hX))
        rw [qev_12, qevs_2, x_v rfl, bind_ok, qevs_2, x_idx (x_v rfl) x_k rfl rfl i1, bind_ok, qevs_2, x_v rfl, bind_ok, qevs_2, x_v rfl, bind_ok, qevs_2, x_v rfl, bind_ok, qevs_1]
        simp only [bind_ok]
        exact w1
    have cd1 : ev (P.call n) P.consts (.cmp .nin (.bin .add (.var 5) (.con (.int 1))) (.idx (.var 4) (.var 6))) [some (.p f.d), some (.p td), some (.r ks), some (.r kl), some (.r kf), some (.p (.int i)), some (.p (.int (j1 : Nat))), none, none, none, some (.r S.length), some (.r (S.length + 1)), none, none] (put S kl kf ls1 fd1 ++ [A, B]) = .ok (.p (.bool (!c1.contains ((i : Int) + 1)))) (put S kl kf ls1 fd1 ++ [A, B]) :=
      x_cmp (x_bin (x_v rfl) x_k rfl rfl rfl) (x_idx (x_v rfl) (x_v rfl) (rf T1) rfl (at_rows v1)) rfl rfl (nin_row _ _)
    cases hq1 : c1.contains ((i : Int) + 1) with
    | false =>
      rw [hq1] at cd1
      refine ⟨j1, ls1, fd1, c1, run_rg rfl (pre (ss_rt ((ite_t cd1).trans (ss_rt (ret_ok (x_v rfl)))))) (tk _ l1), L1, v1, ?_, by omega, ⟨m1, p1⟩, .low R1 v1 hq1⟩
      rw [broS_iff]
      intro w hw'
      refine bro_less hno b1 hw' (hoc1.2 w hw').1 ?_
      simp only [Bool.false_eq_true, if_false]
      rintro rfl
      rw [List.contains_iff_mem.mpr hw'] at hq1
      cases hq1
    | true =>
      rw [hq1] at cd1
      have pre2 : ∀ {X : Res Fl}, evSs (P.call n) P.consts (crefuted.body.drop 8) [some (.p f.d), some (.p td), some (.r ks), some (.r kl), some (.r kf), some (.p (.int i)), some (.p (.int (j1 : Nat))), some (.p (.int (j2 : Nat))), none, none, some (.r S.length), some (.r (S.length + 1)), none, none] (put S kl kf ls2 fd2 ++ [A, B]) = X →
          evSs (P.call n) P.consts crefuted.body ([Vl.p f.d, .p td, .r ks, .r kl, .r kf].map some ++ List.replicate (crefuted.slots - 5) none) S = X := fun {X} hX => by
        refine pre ((ss_nx (ite_n cd1)).trans ((ss_nx (asg_ok ?_)).trans hX))
        rw [qev_12, qevs_2, x_v rfl, bind_ok, qevs_2, x_idx (x_v rfl) x_k rfl rfl i2, bind_ok, qevs_2, x_v rfl, bind_ok, qevs_2, x_v rfl, bind_ok, qevs_2, x_v rfl, bind_ok, qevs_1]
        simp only [bind_ok]
        exact w2
      have cd2 : ev (P.call n) P.consts (.cmp .nin (.bin .sub (.neg (.var 5)) (.con (.int 1))) (.idx (.var 4) (.var 7))) [some (.p f.d), some (.p td), some (.r ks), some (.r kl), some (.r kf), some (.p (.int i)), some (.p (.int (j1 : Nat))), some (.p (.int (j2 : Nat))), none, none, some (.r S.length), some (.r (S.length + 1)), none, none] (put S kl kf ls2 fd2 ++ [A, B]) = .ok (.p (.bool (!c2.contains (-((i : Int) + 1))))) (put S kl kf ls2 fd2 ++ [A, B]) := by
        refine x_cmp (x_bin (x_neg (x_v rfl)) x_k rfl rfl rfl) (x_idx (x_v rfl) (x_v rfl) (rf T2) rfl (at_rows v2)) rfl rfl ?_
        rw [show -(i : Int) - 1 = -((i : Int) + 1) by omega]
        exact nin_row _ _
      have hp : fd2 = fd ++ (m1 ++ m2) := by rw [p2, p1, List.append_assoc]
      cases hq2 : c2.contains (-((i : Int) + 1)) with
      | false =>
        rw [hq2] at cd2
        refine ⟨j2, ls2, fd2, c2, run_rg rfl (pre2 (ss_rt ((ite_t cd2).trans (ss_rt (ret_ok (x_v rfl)))))) (tk _ put_len), L2', v2, ?_, by omega, ⟨m1 ++ m2, hp⟩, .high R1 v1 hq1 R2 v2 hq2⟩
        rw [broS_iff]
        intro w hw'
        refine bro_less hno b2 hw' (hoc2.2 w hw').1 ?_
        simp only [if_true]
        rintro rfl
        rw [List.contains_iff_mem.mpr hw'] at hq2
        cases hq2
      | true =>
        rw [hq2] at cd2
        have v1' : fd2[j1]? = some c1 := by
          rw [p2, List.getElem?_append_left (List.getElem?_eq_some_iff.mp v1).1]
          exact v1
        -- the clause resolved
        have hA1 : broS σ (c1.filter fun w => decide (w ≠ (i : Int) + 1)) = true := by
          rw [broS_iff]
          intro w hw'
          obtain ⟨hw1, hw2⟩ := List.mem_filter.mp hw'
          exact bro_less hno b1 hw1 (hoc1.2 w hw1).1 (by simpa using hw2)
        have hB1 : broS σ (c2.filter fun w => decide (w ≠ -((i : Int) + 1))) = true := by
          rw [broS_iff]
          intro w hw'
          obtain ⟨hw1, hw2⟩ := List.mem_filter.mp hw'
          exact bro_less hno b2 hw1 (hoc2.2 w hw1).1 (by simpa using hw2)
        have hAB := bro_set hA1 hB1
        have hres : rsl c1 c2 i = some (setI ((c1.filter fun w => decide (w ≠ (i : Int) + 1)) ++ (c2.filter fun w => decide (w ≠ -((i : Int) + 1))))) := by
          unfold rsl
          rw [hq1, hq2]
          show mrg _ _ = _
          unfold mrg
          rw [bro_taut (fun w hw' => ?_) hAB]
          · rfl
          · rw [setI_mem, List.mem_append] at hw'
            rcases hw' with hw' | hw'
            · exact (hoc1.2 w (List.mem_filter.mp hw').1).1
            · exact (hoc2.2 w (List.mem_filter.mp hw').1).1
        generalize setI ((c1.filter fun w => decide (w ≠ (i : Int) + 1)) ++ (c2.filter fun w => decide (w ≠ -((i : Int) + 1)))) = c at hAB hres
        have hj1 : j1 < ls2.length := by rw [L2'.len]; exact (List.getElem?_eq_some_iff.mp v1').1
        have hj2 : j2 < ls2.length := by rw [L2'.len]; exact (List.getElem?_eq_some_iff.mp v2).1
        have er := e_resolved hm0 hr (n := n) (by omega) hoc1.len hoc2.len i (put S kl kf ls2 (fd2) ++ [A, B])
        rw [hres] at er
        obtain ⟨j, ls', fd', w1', w2', w3⟩ := e_withline hwl (n := n) (by omega) (T2.app (T := [A, B])) (by have := L2'.len; omega) (.res j1 j2 i) c
        rw [put_app T2, put_put T.ne] at w1'
        refine ⟨j, ls', fd', c, run_rg rfl (pre2 ((ss_nx (ite_n cd2)).trans (ss_rt (ret_ok ?_)))) (tk _ put_len), ?_, w2', hAB, ?_, ?_, .res R1 v1 hq1 R2 v2 hq2 hres hAB ⟨w2', w3⟩⟩
        · have bt : ev (P.call n) P.consts (.tup [(.con (.str "resolve")), (.var 6), (.var 7), (.var 5)]) [some (.p f.d), some (.p td), some (.r ks), some (.r kl), some (.r kf), some (.p (.int i)), some (.p (.int (j1 : Nat))), some (.p (.int (j2 : Nat))), none, none, some (.r S.length), some (.r (S.length + 1)), none, none] (put S kl kf ls2 (fd2) ++ [A, B]) = .ok (.p (Ln.res j1 j2 i).d) (put S kl kf ls2 (fd2) ++ [A, B]) :=
            ev_t (ds := [.str "resolve", .int j1, .int j2, .int i]) (ev_sc x_k (ev_sc (x_v rfl) (ev_sc (x_v rfl) (ev_sc (x_v rfl) ev_sn)))) (by simp)
          rw [qev_12, qevs_2, x_v rfl, bind_ok, qevs_2, x_v rfl, bind_ok, qevs_2, bt, bind_ok, qevs_2, x_c3 (x_idx (x_v rfl) (x_v rfl) (rf T2) rfl (at_rows v1')) (x_idx (x_v rfl) (x_v rfl) (rf T2) rfl (at_rows v2)) (x_v rfl) er, bind_ok, qevs_1]
          simp only [bind_ok]
          exact w1'
        · rcases w3 with ⟨_, rfl, rfl⟩ | ⟨_, rfl, rfl⟩
          · exact L2'
          · refine L2'.snoc hci ⟨by omega, by omega, hi4⟩ ?_
            simp only [lcl, v1', v2]
            exact hres
        · rcases w3 with ⟨_, rfl, rfl⟩ | ⟨_, rfl, rfl⟩
          · omega
          · simp only [List.length_append, List.length_cons, List.length_nil]; omega
        · rcases w3 with ⟨_, _, e⟩ | ⟨_, _, e⟩
          · exact ⟨m1 ++ m2, by rw [e, hp]⟩
          · exact ⟨m1 ++ m2 ++ [c], by rw [e, hp]; simp only [List.append_assoc]⟩
end
end Lw

set_option Elab.async false
set_option linter.all false
set_option autoImplicit false
set_option maxRecDepth 100000
set_option maxHeartbeats 0
/-! PLY: a refutation of clauses from a tree of cases. -/
namespace Lw
open PySem PySem.Spec Pl L2
theorem told_pre {cs : List Cla} : ∀ {ls : List Ln} {fd : List Cla}, ∃ more, told cs ls fd = fd ++ more
  | [], fd => ⟨[], by simp [told]⟩
  | l :: ls, fd => by
    unfold told
    cases lcl cs fd l with
    | none => exact ⟨[], by simp⟩
    | some c =>
      obtain ⟨m, h⟩ := told_pre (cs := cs) (ls := ls) (fd := fd ++ [c])
      exact ⟨c :: m, by simp only [h, List.append_assoc, List.singleton_append]⟩
theorem told_take {cs : List Cla} : ∀ {ls : List Ln} {fd : List Cla} {k : Nat}, (told cs ls fd).length = fd.length + ls.length → told cs (ls.take k) fd = (told cs ls fd).take (fd.length + k)
  | [], fd, k, _ => by
    simp only [List.take_nil, told]
    exact (List.take_of_length_le (by omega)).symm
  | l :: ls, fd, 0, h => by
    obtain ⟨m, e⟩ := told_pre (cs := cs) (ls := l :: ls) (fd := fd)
    rw [e]
    simp [told]
  | l :: ls, fd, k + 1, h => by
    rw [List.take_succ_cons]
    unfold told
    unfold told at h
    cases q : lcl cs fd l with
    | none => rw [q] at h; simp only [List.length_cons] at h; omega
    | some c =>
      rw [q] at h
      simp only at h ⊢
      have := told_take (cs := cs) (ls := ls) (fd := fd ++ [c]) (k := k) (by simp only [List.length_cons, List.length_append, List.length_nil] at h ⊢; omega)
      rw [this]
      congr 1
      simp only [List.length_append, List.length_cons, List.length_nil]
      omega
theorem bro_nil {c : Cla} (h : broS [] c = true) : c = [] := by
  cases c with
  | nil => rfl
  | cons w c =>
    have := broS_iff.mp h w List.mem_cons_self
    cases this
theorem nds_bnd : ∀ {t : Tr} {k : Nat}, t.ht ≤ k → nds t < 2 ^ (k + 1)
  | .leaf, k, _ => by
    have : 2 ^ (k + 1) = 2 ^ k * 2 := Nat.pow_succ ..
    have := Nat.one_le_two_pow (n := k)
    simp only [nds]
    omega
  | .nd i a b, k, h => by
    simp only [Tr.ht] at h
    obtain ⟨k, rfl, hm⟩ := pred (n := k) (k := max a.ht b.ht) (by omega)
    have h1 := nds_bnd (t := a) (k := k) (by omega)
    have h2 := nds_bnd (t := b) (k := k) (by omega)
    have : 2 ^ (k + 1 + 1) = 2 ^ (k + 1) * 2 := Nat.pow_succ ..
    simp only [nds]
    omega
theorem whole_lines {f : Fm} {ls : List Ln} {fd : List Cla} {j : Nat} (h : Lns (inp f) ls fd) (hj : fd[j]? = some []) : resF f (ls.take (j + 1)) = .none := by
  have hl : j < fd.length := (List.getElem?_eq_some_iff.mp hj).1
  have hlen := h.len
  have e : told (inp f) (ls.take (j + 1)) [] = fd.take (j + 1) := by
    rw [told_take (by rw [h.told, ← h.len]; simp), h.told]
    simp
  unfold resF
  rw [e, if_neg (by simp only [List.length_take]; omega), if_pos]
  rw [List.getLast?_eq_getElem?, List.length_take, Nat.min_eq_left (by omega), List.getElem?_take_of_lt (by omega)]
  exact hj
section
variable {P : Prog}
theorem e_from (hm0 : Has P cmerged) (hn0 : Has P cnormal) (hw : Has P cisUwithin) (hi : Has P cinputs) (hft : Has P cfirstUtrue) (hr : Has P cresolved) (hwl : Has P cwithUline) (hrf : Has P crefuted) (h : Has P cfromUcases) {f : Fm} (hf : f.in_ 4) (hk : wok f false = true) (hz : wl f false < 64)
    {t : Tr} (hs : Settles f t []) (ht : t.ht ≤ 4) {n : Nat} (hn : f.ht + 10 ≤ n) (S : Store) :
    ∃ (ls : List Ln) (lw : List Ln) (fd : List Cla) (j : Nat), P.call n "from_cases" [.p f.d, .p t.d] S = .ok (.p (.tuple (ls.map Ln.d))) S ∧ ((∀ l ∈ ls, l.ok) ∧ ls.length ≤ 900 ∧ resF f ls = .none) ∧ Rf f t [] [] [] j lw fd ∧ Lns (inp f) lw fd ∧ fd[j]? = some [] ∧ ls = lw.take (j + 1) := by
  obtain ⟨n, rfl, hm⟩ := pred (n := n) (k := f.ht + 9) (by omega)
  have hnd : nds t < 32 := nds_bnd (t := t) (k := 4) ht
  have T : Two (S ++ [Cell.lst [], Cell.lst [], Cell.dct []]) S.length (S.length + 1) [] [] := ⟨by simp, by simp, by omega⟩
  obtain ⟨j, ls, fd, c, e1, L, e2, e3, e4, _, R⟩ := e_refuted hm0 hn0 hw hi hft hr hwl hrf hf hk hz t [] (S.length + 2) S.length (S.length + 1) n _ [] [] hs (by simp; omega) (by omega) (show (S ++ [Cell.lst [], Cell.lst [], Cell.dct []])[S.length + 2]? = some (.dct (envD [])) by simp [envD]) (by omega) (by omega) T Lns.nil (by simp; omega)
  have hc := bro_nil e3
  subst hc
  have hj : j < ls.length := by rw [L.len]; exact (List.getElem?_eq_some_iff.mp e2).1
  simp only [List.length_nil] at e4
  have T' := T.put (ls' := ls) (fd' := fd)
  have hlen : (put (S ++ [Cell.lst [], Cell.lst [], Cell.dct []]) S.length (S.length + 1) ls fd).take S.length = S := by
    unfold put
    rw [List.set_append_right _ _ (by omega), List.set_append_right _ _ (by omega)]
    simp
  generalize put (S ++ [Cell.lst [], Cell.lst [], Cell.dct []]) S.length (S.length + 1) ls fd = S' at e1 T' hlen
  refine ⟨ls.take (j + 1), ls, fd, j, ?_, ⟨fun l hl => L.ok l (List.mem_of_mem_take hl), by rw [List.length_take]; omega, whole_lines L e2⟩, R, L, e2, rfl⟩
  rw [show ("from_cases" : Str) = cfromUcases.name from rfl, h.call]
  refine run_rk rfl ((ss_nx (ρ1 := [some (.p f.d), some (.p t.d), none, some (.r S.length), some (.r (S.length + 1))]) (S1 := S ++ [.lst [], .lst []]) (by simp [setV]; rfl)).trans ((ss_nx (asg_ok (v := .p (.int (j : Nat))) (S1 := S') ?_)).trans (ss_rt (ret_ok (S1 := S') (x_bi (x := .p (.list ((ls.take (j + 1)).map Ln.d))) ?_ rfl bi_tup))))) hlen
  · have em : ev (P.call n) P.consts .mdc [some (.p f.d), some (.p t.d), none, some (.r S.length), some (.r (S.length + 1))] (S ++ [.lst [], .lst []]) = .ok (.r (S.length + 2)) (S ++ [.lst [], .lst [], .dct []]) := by simp
    rw [qev_12, qevs_2, x_v rfl, bind_ok, qevs_2, x_v rfl, bind_ok, qevs_2, em, bind_ok, qevs_2, x_v rfl, bind_ok, qevs_2, x_v rfl, bind_ok, qevs_1]
    simp only [bind_ok]
    exact e1
  · have eb : ev (P.call n) P.consts (.bin .add (.var 2) (.con (.int 1))) [some (.p f.d), some (.p t.d), some (.p (.int (j : Nat))), some (.r S.length), some (.r (S.length + 1))] S' = .ok (.p (.int ((j + 1 : Nat) : Int))) S' := x_bin (x_v rfl) x_k rfl rfl rfl
    show ev (P.call n) P.consts (.slH (.var 3) (.bin .add (.var 2) (.con (.int 1)))) [some (.p f.d), some (.p t.d), some (.p (.int (j : Nat))), some (.r S.length), some (.r (S.length + 1))] S' = _
    have hcut := cut_take (r := ls.map Ln.d) (k := j + 1) (by rw [List.length_map]; omega)
    simp only [qev_18, x_v (cl := P.call n) (g := P.consts) (i := 3) (ρ := [some (.p f.d), some (.p t.d), some (.p (.int (j : Nat))), some (.r S.length), some (.r (S.length + 1))]) (x := .r S.length) rfl, bind_ok, eb, rd_lst T'.l, slD, hcut, pOpt_some, List.map_take]
end
end Lw

set_option Elab.async false
set_option linter.all false
set_option autoImplicit false
set_option maxRecDepth 100000
/-! The codes of the defs (printed by gen.py). -/
namespace C03
open PySem Pl Lw
def fns : List Str := (["is_whole", "is_from", "is_word", "letters_in", "joined_value", "value_of", "rows_of", "against", "is_theorem", "first_true", "sure_value", "grown", "proof_cases", "merged", "normal", "inputs", "is_within", "is_line", "resolved", "line_clause", "clauses_told", "fault", "with_line", "refuted", "from_cases", "proof_clauses", "_law_is_integer", "_law_same", "_law_pool", "_law_spread", "_law_draw", "_law_pick", "_law_bent", "_law_booled", "_law_listed", "_law_odd_values", "_law_is_number", "_law_not", "_law_letters", "_law_value", "_law_rows", "_law_true", "_law_some", "_law_formula", "_law_theorem", "_law_swapped", "_law_changed", "_law_bends", "_law_normal", "_law_inputs", "_law_line_form", "_law_line_clause", "_law_f_clauses", "_law_made", "law"] : List String).map Str.ofString
def ck (N : List Str) : Ck := ⟨N, fns, ["FORM", "LEAF", "LETTERS"], ["abs", "all", "any", "bool", "dict", "int", "isinstance", "len", "list", "max", "min", "range", "set", "sorted", "str", "tuple"], ["NotAllowed"]⟩
/-- proof_cases -/
def cproofUcases : Fn := ⟨"proof_cases", 1, 1, [
  .ite (.not (.call "is_theorem" [(.var 0)])) [.raise "NotAllowed" (.con (.str "no theorem"))] [],
  .ret (.call "grown" [(.var 0), .mdc])]⟩
/-- fault -/
def cfault : Fn := ⟨"fault", 2, 4, [
  .ite (.or (.not (.isi (.var 1) .tuple)) (.not (.bi .all [(.lc [3] [3] false (.var 1) [] (.call "is_line" [(.var 3)]))]))) [.ret (.glob "FORM")] [],
  .asg 2 (.call "clauses_told" [(.var 0), (.var 1)]),
  .ite (.cmp .lt (.bi .len [(.var 2)]) (.bi .len [(.var 1)])) [.ret (.tup [(.con (.str "line")), (.bi .len [(.var 2)])])] [],
  .ret (.ite (.cmp .in_ (.tup []) (.slL (.var 2) (.neg (.con (.int 1))))) (.con .none) (.tup [(.con (.str "goal")), (.bi .len [(.var 1)])]))]⟩
/-- proof_clauses -/
def cproofUclauses : Fn := ⟨"proof_clauses", 1, 1, [
  .ite (.not (.call "is_theorem" [(.var 0)])) [.raise "NotAllowed" (.con (.str "no theorem"))] [],
  .ret (.call "from_cases" [(.var 0), (.call "proof_cases" [(.var 0)])])]⟩
/-- _law_f_clauses -/
def cUlawUfUclauses : Fn := ⟨"_law_f_clauses", 2, 6, [
  .ite (.or (.not (.isi (.var 1) .tuple)) (.cmp .gt (.bi .len [(.lc [4] [4] false (.var 1) [(.not (.call "_law_line_form" [(.var 4)]))] (.var 4))]) (.con (.int 0)))) [.ret (.tup [(.con (.str "form")), (.con (.int 0))])] [],
  .asg 2 (.call "_law_inputs" [(.var 0)]),
  .asg 3 (.mls []),
  .for_ [4] false (.var 1) [.asg 5 (.call "_law_line_clause" [(.var 2), (.var 3), (.var 4)]), .ite (.cmp .is_ (.var 5) (.con .none)) [.ret (.tup [(.con (.str "line")), (.bi .len [(.var 3)])])] [], .exp (.met .append (.var 3) [(.var 5)])],
  .ret (.ite (.and (.cmp .ne (.var 3) (.lst [])) (.cmp .eq (.idx (.var 3) (.neg (.con (.int 1)))) (.tup []))) (.con .none) (.tup [(.con (.str "goal")), (.bi .len [(.var 1)])]))]⟩
/-- _law_made -/
def cUlawUmade : Fn := ⟨"_law_made", 1, 1, [
  .try_ [.ret (.lst [(.call "proof_clauses" [(.var 0)])])] [("NotAllowed", .none)] ["NotAllowed"]]⟩
/-- law -/
def claw : Fn := ⟨"law", 1, 10, [
  .asg 1 (.call "_law_pool" [(.var 0)]),
  .forr 2 [] (.con (.int 3)) [.asg 3 (.ite (.cmp .lt (.var 2) (.con (.int 2))) (.call "_law_theorem" [(.var 1)]) (.call "_law_formula" [(.var 1)])), .asg 4 (.call "_law_made" [(.var 3)]), .ite (.cmp .ne (.cmp .is_ (.var 4) (.con .none)) (.not (.call "_law_true" [(.var 3)]))) [.ret (.con (.bool false))] [], .ite (.and (.cmp .isn (.var 4) (.con .none)) (.or (.not (.call "_law_true" [(.var 3)])) (.cmp .isn (.call "_law_f_clauses" [(.var 3), (.idx (.var 4) (.con (.int 0)))]) (.con .none)))) [.ret (.con (.bool false))] [], .asg 5 (.ite (.cmp .isn (.var 4) (.con .none)) (.idx (.var 4) (.con (.int 0))) (.tup [(.con (.str "ifin")), (.tup [(.con (.str "letter")), (.con (.int 0))]), (.tup [(.con (.str "assume")), (.tup [(.con (.str "letter")), (.con (.int 0))])])])), .asg 6 (.call "_law_formula" [(.var 1)]), .for_ [7] false (.bin .add (.bin .add (.lst [(.var 5)]) (.call "_law_bends" [(.var 1), (.var 5)])) (.call "_law_odd_values" [])) [.for_ [8] false (.tup [(.var 3), (.var 6)]) [.asg 9 (.call "_law_f_clauses" [(.var 8), (.var 7)]), .ite (.or (.not (.call "_law_same" [(.call "fault" [(.var 8), (.var 7)]), (.var 9)])) (.and (.cmp .is_ (.var 9) (.con .none)) (.not (.call "_law_true" [(.var 8)])))) [.ret (.con (.bool false))] []]]],
  .ret (.con (.bool true))]⟩
def gs (x : Str) : Option D :=
  if x = "FORM" then some (.tuple [.str "form", .int 0]) else
  if x = "LEAF" then some (.tuple []) else
  if x = "LETTERS" then some (.int 4) else
  if x = "DEEPEST" then some (.int 8) else
  if x = "MOST_KNOTS" then some (.int 24) else
  if x = "PAIRS" then some (.tuple [.str "if", .str "and", .str "or"]) else
  if x = "FALSE" then some (.tuple [.str "false"]) else
  none
def pr : Prog := ⟨[cisUwhole, cisUfrom, cisUword, clettersUin, cjoinedUvalue, cvalueUof, crowsUof, cagainst, cisUtheorem, cfirstUtrue, csureUvalue, cgrown, cproofUcases, cmerged, cnormal, cinputs, cisUwithin, cisUline, cresolved, clineUclause, cclausesUtold, cfault, cwithUline, crefuted, cfromUcases, cproofUclauses, cUlawUisUinteger, cUlawUsame, cUlawUpool, cUlawUspread, cUlawUdraw, cUlawUpick, cUlawUbent, cUlawUbooled, cUlawUlisted, cUlawUoddUvalues, cUlawUisUnumber, cUlawUnot, cUlawUletters, cUlawUvalue, cUlawUrows, cUlawUtrue, cUlawUsome, cUlawUformula, cUlawUtheorem, cUlawUswapped, cUlawUchanged, cUlawUbends, cUlawUnormal, cUlawUinputs, cUlawUlineUform, cUlawUlineUclause, cUlawUfUclauses, cUlawUmade, claw], gs⟩
end C03

set_option Elab.async false
set_option linter.all false
set_option autoImplicit false
set_option maxRecDepth 100000
/-! The checks that the codes are the defs (printed by gen.py). -/
namespace C03
open PySem Pl Lw
def top (i : Nat) : Stmt := PySem.Challenge.pw_everyproof_k03_whole_clauses.main.body.getD i (.Pass ⟨0, 0, 0, 0⟩)
theorem k_cisUwhole : dcB (ck ["value"]) ["value"] cisUwhole (top 5) = true := by decide +kernel
theorem k_cisUfrom : dcB (ck ["value", "low", "high"]) ["value", "low", "high"] cisUfrom (top 6) = true := by decide +kernel
theorem k_cisUword : dcB (ck ["value", "word"]) ["value", "word"] cisUword (top 7) = true := by decide +kernel
theorem k_clettersUin : dcB (ck ["formula"]) ["formula"] clettersUin (top 8) = true := by decide +kernel
theorem k_cjoinedUvalue : dcB (ck ["word", "one", "two"]) ["word", "one", "two"] cjoinedUvalue (top 9) = true := by decide +kernel
theorem k_cvalueUof : dcB (ck ["formula", "row"]) ["formula", "row"] cvalueUof (top 10) = true := by decide +kernel
theorem k_crowsUof : dcB (ck ["letters", "found", "letter", "row"]) ["letters"] crowsUof (top 11) = true := by decide +kernel
theorem k_cagainst : dcB (ck ["formula", "row"]) ["formula"] cagainst (top 12) = true := by decide +kernel
theorem k_cisUtheorem : dcB (ck ["formula"]) ["formula"] cisUtheorem (top 13) = true := by decide +kernel
theorem k_cfirstUtrue : dcB (ck ["flags", "k"]) ["flags"] cfirstUtrue (top 14) = true := by decide +kernel
theorem k_csureUvalue : dcB (ck ["formula", "settled", "strong", "one", "two"]) ["formula", "settled"] csureUvalue (top 17) = true := by decide +kernel
theorem k_cgrown : dcB (ck ["formula", "settled", "letter", "zero", "one", "other"]) ["formula", "settled"] cgrown (top 18) = true := by decide +kernel
theorem k_cproofUcases : dcB (ck ["formula"]) ["formula"] cproofUcases (top 19) = true := by decide +kernel
theorem k_cmerged : dcB (ck ["one", "two", "found", "wish"]) ["one", "two"] cmerged (top 23) = true := by decide +kernel
theorem k_cnormal : dcB (ck ["formula", "sign", "one", "two", "both", "a", "b", "clause"]) ["formula", "sign"] cnormal (top 24) = true := by decide +kernel
theorem k_cinputs : dcB (ck ["formula", "every", "clause", "other"]) ["formula"] cinputs (top 25) = true := by decide +kernel
theorem k_cisUwithin : dcB (ck ["one", "two", "wish"]) ["one", "two"] cisUwithin (top 26) = true := by decide +kernel
theorem k_cisUline : dcB (ck ["value"]) ["value"] cisUline (top 27) = true := by decide +kernel
theorem k_cresolved : dcB (ck ["one", "two", "letter", "wish", "rest", "other"]) ["one", "two", "letter"] cresolved (top 28) = true := by decide +kernel
theorem k_clineUclause : dcB (ck ["clauses", "found", "line"]) ["clauses", "found", "line"] clineUclause (top 29) = true := by decide +kernel
theorem k_cclausesUtold : dcB (ck ["formula", "lines", "clauses", "found", "line", "clause"]) ["formula", "lines"] cclausesUtold (top 30) = true := by decide +kernel
theorem k_cfault : dcB (ck ["formula", "value", "found", "line"]) ["formula", "value"] cfault (top 31) = true := by decide +kernel
theorem k_cwithUline : dcB (ck ["lines", "found", "line", "clause"]) ["lines", "found", "line", "clause"] cwithUline (top 32) = true := by decide +kernel
theorem k_crefuted : dcB (ck ["formula", "tree", "settled", "lines", "found", "letter", "low", "high", "clauses", "at", "zero", "one", "clause", "wish"]) ["formula", "tree", "settled", "lines", "found"] crefuted (top 33) = true := by decide +kernel
theorem k_cfromUcases : dcB (ck ["formula", "tree", "last", "lines", "found"]) ["formula", "tree"] cfromUcases (top 34) = true := by decide +kernel
theorem k_cproofUclauses : dcB (ck ["formula"]) ["formula"] cproofUclauses (top 35) = true := by decide +kernel
theorem k_cUlawUisUinteger : dcB (ck ["actual"]) ["actual"] cUlawUisUinteger (top 38) = true := by decide +kernel
theorem k_cUlawUsame : dcB (ck ["actual", "due", "k"]) ["actual", "due"] cUlawUsame (top 39) = true := by decide +kernel
theorem k_cUlawUpool : dcB (ck ["script", "salt", "cell"]) ["script"] cUlawUpool (top 40) = true := by decide +kernel
theorem k_cUlawUspread : dcB (ck ["cell", "mixed", "total", "k"]) ["cell"] cUlawUspread (top 41) = true := by decide +kernel
theorem k_cUlawUdraw : dcB (ck ["pool", "many", "value", "cell", "mixed"]) ["pool", "many"] cUlawUdraw (top 42) = true := by decide +kernel
theorem k_cUlawUpick : dcB (ck ["pool", "items"]) ["pool", "items"] cUlawUpick (top 43) = true := by decide +kernel
theorem k_cUlawUbent : dcB (ck ["pool", "value", "turn", "at", "other", "items"]) ["pool", "value"] cUlawUbent (top 44) = true := by decide +kernel
theorem k_cUlawUbooled : dcB (ck ["value", "one"]) ["value"] cUlawUbooled (top 45) = true := by decide +kernel
theorem k_cUlawUlisted : dcB (ck ["value", "deep", "one"]) ["value", "deep"] cUlawUlisted (top 46) = true := by decide +kernel
theorem k_cUlawUoddUvalues : dcB (ck ["deep", "k"]) [] cUlawUoddUvalues (top 47) = true := by decide +kernel
theorem k_cUlawUisUnumber : dcB (ck ["value", "low", "high"]) ["value", "low", "high"] cUlawUisUnumber (top 48) = true := by decide +kernel
theorem k_cUlawUnot : dcB (ck ["formula"]) ["formula"] cUlawUnot (top 49) = true := by decide +kernel
theorem k_cUlawUletters : dcB (ck ["formula"]) ["formula"] cUlawUletters (top 50) = true := by decide +kernel
theorem k_cUlawUvalue : dcB (ck ["formula", "row", "one", "two"]) ["formula", "row"] cUlawUvalue (top 51) = true := by decide +kernel
theorem k_cUlawUrows : dcB (ck ["letters", "rows", "number", "row", "k"]) ["letters"] cUlawUrows (top 52) = true := by decide +kernel
theorem k_cUlawUtrue : dcB (ck ["formula", "row"]) ["formula"] cUlawUtrue (top 53) = true := by decide +kernel
theorem k_cUlawUsome : dcB (ck ["pool", "deep", "letters"]) ["pool", "deep", "letters"] cUlawUsome (top 54) = true := by decide +kernel
theorem k_cUlawUformula : dcB (ck ["pool"]) ["pool"] cUlawUformula (top 55) = true := by decide +kernel
theorem k_cUlawUtheorem : dcB (ck ["pool", "turn", "made", "found", "a", "b", "c"]) ["pool"] cUlawUtheorem (top 56) = true := by decide +kernel
theorem k_cUlawUswapped : dcB (ck ["pool", "value", "at", "other", "row"]) ["pool", "value"] cUlawUswapped (top 57) = true := by decide +kernel
theorem k_cUlawUchanged : dcB (ck ["pool", "value", "things", "at"]) ["pool", "value", "things"] cUlawUchanged (top 58) = true := by decide +kernel
theorem k_cUlawUbends : dcB (ck ["pool", "sample", "things", "found", "k"]) ["pool", "sample"] cUlawUbends (top 59) = true := by decide +kernel
theorem k_cUlawUnormal : dcB (ck ["formula", "sign", "one", "two", "found", "a", "b", "wishes", "wish"]) ["formula", "sign"] cUlawUnormal (top 60) = true := by decide +kernel
theorem k_cUlawUinputs : dcB (ck ["formula", "every", "clause", "other", "wish"]) ["formula"] cUlawUinputs (top 61) = true := by decide +kernel
theorem k_cUlawUlineUform : dcB (ck ["value"]) ["value"] cUlawUlineUform (top 62) = true := by decide +kernel
theorem k_cUlawUlineUclause : dcB (ck ["clauses", "found", "line", "both", "one", "two", "wish", "other"]) ["clauses", "found", "line"] cUlawUlineUclause (top 63) = true := by decide +kernel
theorem k_cUlawUfUclauses : dcB (ck ["formula", "value", "clauses", "found", "line", "clause"]) ["formula", "value"] cUlawUfUclauses (top 64) = true := by decide +kernel
theorem k_cUlawUmade : dcB (ck ["formula"]) ["formula"] cUlawUmade (top 65) = true := by decide +kernel
theorem k_claw : dcB (ck ["script", "pool", "turn", "formula", "found", "shown", "other", "value", "here", "wrong"]) ["script"] claw (top 66) = true := by decide +kernel
end C03

set_option Elab.async false
set_option linter.all false
set_option autoImplicit false
set_option maxRecDepth 100000
set_option maxHeartbeats 0
/-! K03L: the fault of lines, as the program and as the law tell it. -/
namespace C03
open PySem PySem.Spec Pl Lw L2
def clB : D → Bool
  | .tuple ds => ds.all lnB
  | _ => false
def FORM : D := .tuple [.str "form", .int 0]
def Sm1 (v : D) : Prop := ∀ ds, v = .tuple ds → ds.length ≤ 4000
theorem last_map (fd : List Cla) : (fd.map rowT).getLast?.toList = (fd.getLast?.toList).map rowT := by
  rw [List.getLast?_map]
  cases fd.getLast? <;> rfl
theorem last_nil (fd : List Cla) : (fd.getLast?.toList).contains ([] : Cla) = decide (fd.getLast? = some []) := by
  cases fd.getLast? with
  | none => rfl
  | some c => cases c <;> simp
theorem x_slL {cl : CallF} {g : Str → Option D} {ρ : Rho} {S S1 S2 : Store} {a b : Ex} {x : Vl} {d r : D} {i : Int} (h : ev cl g a ρ S = .ok x S1) (h' : ev cl g b ρ S1 = .ok (.p (.int i)) S2) (hx : rd S2 x = some d) (hr : slD d (some i) none = some r) : ev cl g (.slL a b) ρ S = .ok (.p r) S2 := by
  rw [qev_17, h, bind_ok, h', bind_ok]
  simp only [hx, hr, pOpt_some]
section
variable {P : Prog}
theorem e_fault (gF : P.consts "FORM" = some FORM) (gL : P.consts "LETTERS" = some (.int 4)) (h0 : Has P cisUwhole) (h1 : Has P cisUfrom) (hwd : Has P cisUword) (hil : Has P cisUline) (hm0 : Has P cmerged) (hn0 : Has P cnormal) (hw : Has P cisUwithin) (hi : Has P cinputs) (hr : Has P cresolved) (hl : Has P clineUclause) (ht : Has P cclausesUtold) (h : Has P cfault)
    {n : Nat} {f : Fm} (hf : f.in_ 4) (hk : wok f false = true) (hz : wl f false < 64) (hn : f.ht + 6 ≤ n) {v : D} (hv : Sm1 v) (S : Store) :
    P.call n "fault" [.p f.d, .p v] S = .ok (.p FORM) S ∧ clB v = false ∨ ∃ ls : List Ln, v = .tuple (ls.map Ln.d) ∧ (∀ l ∈ ls, l.ok) ∧ P.call n "fault" [.p f.d, .p v] S = .ok (.p (resF f ls)) S := by
  obtain ⟨n, rfl, hm⟩ := pred (n := n) (k := f.ht + 5) (by omega)
  rw [show ("fault" : Str) = cfault.name from rfl, h.call]
  cases v with
  | tuple ds =>
    have h4 := hv ds rfl
    have cd : ev (P.call n) P.consts (.or (.not (.isi (.var 1) .tuple)) (.not (.bi .all [(.lc [3] [3] false (.var 1) [] (.call "is_line" [(.var 3)]))]))) [some (.p f.d), some (.p (.tuple ds)), none, none] S = .ok (.p (.bool (!clB (.tuple ds)))) S :=
      x_or (q := false) (x_not (q := true) (x_isi (x_v rfl) rfl rfl)) fun _ => x_not (x_bi (ev_lcm (q := fun d => .bool (lnB d)) (x_v rfl) rfl (by omega) fun d hd => ⟨_, rfl, x_c1 (x_v rfl) (e_isline h0 h1 hwd gL hil (by omega) d S)⟩) rfl (bi_all _ _))
    cases q : clB (.tuple ds) with
    | false =>
      rw [q] at cd
      exact .inl ⟨run_rt rfl (ss_rt ((ite_t cd).trans (ss_rt (ret_ok (x_g gF))))), rfl⟩
    | true =>
      rw [q] at cd
      obtain ⟨ls, rfl, hok⟩ := lns_of q
      refine .inr ⟨ls, rfl, hok, ?_⟩
      rw [List.length_map] at h4
      have et := e_told hm0 hn0 hw hi hr hl ht (n := n) hf hk hz (by omega) (ls := ls) (by omega) S
      have hle := told_len (cs := inp f) (ls := ls) (fd := [])
      unfold resF
      generalize told (inp f) ls [] = fd at et hle ⊢
      have s1 : evS (P.call n) P.consts (cfault.body.getD 1 .pass) [some (.p f.d), some (.p (.tuple (ls.map Ln.d))), none, none] S = .ok (.nx [some (.p f.d), some (.p (.tuple (ls.map Ln.d))), some (.p (.list (fd.map rowT))), none]) S := asg_ok (x_c2 (x_v rfl) (x_v rfl) et)
      have c2 : ev (P.call n) P.consts (.cmp .lt (.bi .len [(.var 2)]) (.bi .len [(.var 1)])) [some (.p f.d), some (.p (.tuple (ls.map Ln.d))), some (.p (.list (fd.map rowT))), none] S = .ok (.p (.bool (decide (fd.length < ls.length)))) S := by
        refine x_cmp (x_bi (x_v rfl) rfl Lw.bi_len) (x_bi (x_v rfl) rfl bi_lenT) rfl rfl ?_
        rw [lt_int, List.length_map, List.length_map]
        congr 1
        exact decide_eq_decide.mpr (by omega)
      refine run_rt rfl ((ss_nx (ite_n cd)).trans ((ss_nx s1).trans ?_))
      by_cases hlt : fd.length < ls.length
      · rw [if_pos hlt]
        rw [decide_eq_true hlt] at c2
        refine ss_rt ((ite_t c2).trans (ss_rt (ret_ok (x_t2 x_k (x_bi (x_v rfl) rfl ?_)))))
        rw [Lw.bi_len, List.length_map]
      · rw [if_neg hlt]
        rw [decide_eq_false hlt] at c2
        refine (ss_nx (ite_n c2)).trans (ss_rt (ret_ok ?_))
        have : (if fd.getLast? = some [] then PyData.none else .tuple [.str "goal", .int (ls.length : Nat)]) = if decide (fd.getLast? = some []) then PyData.none else .tuple [.str "goal", .int (ls.length : Nat)] := by
          by_cases z : fd.getLast? = some [] <;> simp [z]
        rw [this]
        refine x_ite (x_cmp x_t0 (x_slL (x_v rfl) (x_neg x_k) rfl rfl) rfl rfl ?_) (fun _ => x_k) (fun _ => x_t2 x_k (x_bi (x_v rfl) rfl ?_))
        · rw [cut_last, last_map, show PyData.tuple [] = rowT [] from rfl, in_rows, last_nil]
        · rw [bi_lenT, List.length_map]
  | _ => exact .inl ⟨run_rt rfl (ss_rt ((ite_t (S1 := S) (by simp)).trans (ss_rt (ret_ok (x_g gF))))), rfl⟩
theorem last_at {fd : List Cla} {c : Cla} (h : fd.getLast? = some c) : idxD (.list (fd.map rowT)) (.int (-1)) = some (rowT c) := by
  rcases List.eq_nil_or_concat fd with rfl | ⟨l, b, rfl⟩
  · cases h
  · rw [List.concat_eq_append] at *
    have : b = c := by simpa using h
    subst this
    have hx : ixN (((l ++ [b]).map rowT).length) (-1) = some l.length := by
      unfold ixN
      simp
      omega
    show atI ((l ++ [b]).map rowT) (-1) = _
    unfold atI
    rw [hx]
    simp
theorem e_lfault (hi : Has P cUlawUisUinteger) (hnum : Has P cUlawUisUnumber) (hlf : Has P cUlawUlineUform) (hn0 : Has P cUlawUnormal) (hin : Has P cUlawUinputs) (hlc : Has P cUlawUlineUclause) (h : Has P cUlawUfUclauses)
    {n : Nat} {f : Fm} (hf : f.in_ 4) (hk : wok f false = true) (hz : wl f false < 64) (hn : f.ht + 6 ≤ n) {v : D} (hv : Sm1 v) (S : Store) :
    P.call n "_law_f_clauses" [.p f.d, .p v] S = .ok (.p FORM) S ∧ clB v = false ∨ ∃ ls : List Ln, v = .tuple (ls.map Ln.d) ∧ (∀ l ∈ ls, l.ok) ∧ P.call n "_law_f_clauses" [.p f.d, .p v] S = .ok (.p (resF f ls)) S := by
  obtain ⟨n, rfl, hm⟩ := pred (n := n) (k := f.ht + 5) (by omega)
  rw [show ("_law_f_clauses" : Str) = cUlawUfUclauses.name from rfl, h.call]
  cases v with
  | tuple ds =>
    have h4 := hv ds rfl
    have cd : ev (P.call n) P.consts (.or (.not (.isi (.var 1) .tuple)) (.cmp .gt (.bi .len [(.lc [4] [4] false (.var 1) [(.not (.call "_law_line_form" [(.var 4)]))] (.var 4))]) (.con (.int 0)))) [some (.p f.d), some (.p (.tuple ds)), none, none, none, none] S = .ok (.p (.bool (!clB (.tuple ds)))) S := by
      refine x_or (q := false) (x_not (q := true) (x_isi (x_v rfl) rfl rfl)) fun _ => x_cmp (x_bi (ev_lcf (p := fun d => !lnB d) (q := id) (x_v rfl) rfl (by omega) fun d hd => ⟨_, rfl, x_not (x_c1 (x_v rfl) (e_llform hi hnum hlf (by omega) d S)), fun _ => x_v rfl⟩) rfl Lw.bi_len) x_k rfl rfl ?_
      show some (decide ((0 : Int) < (((ds.filter fun d => !lnB d).map id).length : Nat))) = some (!ds.all lnB)
      congr 1
      rw [List.map_id]
      have h1 := none_filter ds fun d => !lnB d
      have h2 : ds.all lnB = !ds.any fun d => !lnB d := by rw [List.not_any_eq_all_not]; simp
      rw [h2, Bool.not_not]
      have h3 : ∀ m : Nat, decide ((0 : Int) < (m : Nat)) = !decide ((m : Int) = 0) := fun m => by
        rw [Bool.eq_iff_iff, Bool.not_eq_true', decide_eq_true_eq, decide_eq_false_iff_not]
        omega
      rw [h3, h1, Bool.not_not]
    cases q : clB (.tuple ds) with
    | false =>
      rw [q] at cd
      exact .inl ⟨run_rt rfl (ss_rt ((ite_t cd).trans (ss_rt (ret_ok (x_t2 x_k x_k))))), rfl⟩
    | true =>
      rw [q] at cd
      obtain ⟨ls, rfl, hok⟩ := lns_of q
      refine .inr ⟨ls, rfl, hok, ?_⟩
      rw [List.length_map] at h4
      have e0 := e_linputs hn0 hin (n := n) hf hk (by omega) hz S
      have hc : ∀ c ∈ inp f, OkC c := fun c hc => inp_ok hf hc
      unfold resF
      generalize inp f = cs at e0 hc ⊢
      have loop : ∀ (todo : List Ln) (fd : List Cla) (v4 v5 : Option Vl), fd.length + todo.length ≤ 50000 → (∀ c ∈ fd, OkC c) → ∃ fl S', forR (fun d ρ S => match bindT ρ [4] false d with
          | some ρ2 => evSs (P.call n) P.consts [.asg 5 (.call "_law_line_clause" [(.var 2), (.var 3), (.var 4)]), .ite (.cmp .is_ (.var 5) (.con .none)) [.ret (.tup [(.con (.str "line")), (.bi .len [(.var 3)])])] [], .exp (.met .append (.var 3) [(.var 5)])] ρ2 S
          | none => .bad) (todo.map Ln.d) [some (.p f.d), some (.p (.tuple (ls.map Ln.d))), some (.p (.list (cs.map rowT))), some (.r S.length), v4, v5] (S ++ [.lst (fd.map rowT)]) = .ok fl S' ∧ S'.take S.length = S ∧
          (fl = .rt (.p (.tuple [.str "line", .int ((told cs todo fd).length : Nat)])) ∧ (told cs todo fd).length < fd.length + todo.length ∨ ∃ v4 v5, fl = .nx [some (.p f.d), some (.p (.tuple (ls.map Ln.d))), some (.p (.list (cs.map rowT))), some (.r S.length), v4, v5] ∧ S' = S ++ [.lst ((told cs todo fd).map rowT)] ∧ (told cs todo fd).length = fd.length + todo.length) := by
        intro todo
        induction todo with
        | nil => intro fd v4 v5 _ _; exact ⟨_, _, rfl, by simp, .inr ⟨_, _, rfl, rfl, rfl⟩⟩
        | cons l todo ih =>
          intro fd v4 v5 hlen hfd
          simp only [List.length_cons] at hlen
          have hm1 : (S ++ [Cell.lst (fd.map rowT)])[S.length]? = some (.lst (fd.map rowT)) := by simp
          have e1 := e_llclause hlc (n := n) (by omega) hc hfd l (fv := .r S.length) _ (rd_lst hm1)
          have a1 : evS (P.call n) P.consts (.asg 5 (.call "_law_line_clause" [(.var 2), (.var 3), (.var 4)])) [some (.p f.d), some (.p (.tuple (ls.map Ln.d))), some (.p (.list (cs.map rowT))), some (.r S.length), some (.p l.d), v5] (S ++ [.lst (fd.map rowT)]) = .ok (.nx [some (.p f.d), some (.p (.tuple (ls.map Ln.d))), some (.p (.list (cs.map rowT))), some (.r S.length), some (.p l.d), some (.p (optC (lcl cs fd l)))]) (S ++ [.lst (fd.map rowT)]) := asg_ok (x_c3 (x_v rfl) (x_v rfl) (x_v rfl) e1)
          cases q : lcl cs fd l with
          | none =>
            rw [q] at a1
            have et : told cs (l :: todo) fd = fd := by unfold told; rw [q]
            refine ⟨.rt (.p (.tuple [.str "line", .int ((told cs (l :: todo) fd).length : Nat)])), S ++ [Cell.lst (fd.map rowT)], ?_, by simp, .inl ⟨rfl, ?_⟩⟩
            · rw [et]
              have : evSs (P.call n) P.consts [.asg 5 (.call "_law_line_clause" [(.var 2), (.var 3), (.var 4)]), .ite (.cmp .is_ (.var 5) (.con .none)) [.ret (.tup [(.con (.str "line")), (.bi .len [(.var 3)])])] [], .exp (.met .append (.var 3) [(.var 5)])] [some (.p f.d), some (.p (.tuple (ls.map Ln.d))), some (.p (.list (cs.map rowT))), some (.r S.length), some (.p l.d), v5] (S ++ [.lst (fd.map rowT)]) = .ok (.rt (.p (.tuple [.str "line", .int (fd.length : Nat)]))) (S ++ [Cell.lst (fd.map rowT)]) := by
                refine (ss_nx a1).trans (ss_rt ((ite_t (x_cmp (x_v rfl) x_k rfl rfl rfl)).trans (ss_rt (ret_ok (x_t2 x_k (x_bi (x_v rfl) (rd_lst hm1) ?_))))))
                rw [Lw.bi_len, List.length_map]
              rw [List.map_cons, forR]
              simp only [bindT, List.set_cons_zero, List.set_cons_succ]
              rw [this]
              rfl
            · rw [et, List.length_cons]; omega
          | some c =>
            rw [q] at a1
            obtain ⟨fl, S', e2, e3, e4⟩ := ih (fd ++ [c]) (some (.p l.d)) (some (.p (rowT c))) (by simp only [List.length_append, List.length_cons, List.length_nil]; omega) (fun x hx => by
              rcases List.mem_append.mp hx with hx | hx
              · exact hfd x hx
              · rw [List.mem_singleton.mp hx]; exact lcl_ok hc hfd q)
            rw [show told cs (l :: todo) fd = told cs todo (fd ++ [c]) by rw [told, q]]
            rw [show fd.length + (l :: todo).length = (fd ++ [c]).length + todo.length by simp only [List.length_append, List.length_cons, List.length_nil]; omega]
            refine ⟨fl, S', (forR_nx (ρ1 := [some (.p f.d), some (.p (.tuple (ls.map Ln.d))), some (.p (.list (cs.map rowT))), some (.r S.length), some (.p l.d), some (.p (rowT c))]) (S1 := S ++ [.lst ((fd ++ [c]).map rowT)]) ?_).trans e2, e3, e4⟩
            refine (ss_nx a1).trans ((ss_nx (ite_n (x_cmp (x_v rfl) x_k rfl rfl rfl))).trans ((ss_nx (s_app rfl (x_v rfl) hm1 (by rw [List.length_map]; omega))).trans ?_))
            rw [set_last, List.map_append]
            rfl
      obtain ⟨fl, S', e1, e2, e3⟩ := loop ls [] none none (by simp; omega) (fun _ z => nomatch z)
      have pre : ∀ {X : Res Fl}, evSs (P.call n) P.consts (cUlawUfUclauses.body.drop 3) [some (.p f.d), some (.p (.tuple (ls.map Ln.d))), some (.p (.list (cs.map rowT))), some (.r S.length), none, none] (S ++ [.lst []]) = X → evSs (P.call n) P.consts cUlawUfUclauses.body ([Vl.p f.d, .p (.tuple (ls.map Ln.d))].map some ++ List.replicate (cUlawUfUclauses.slots - 2) none) S = X := fun hX =>
        (ss_nx (ite_n cd)).trans ((ss_nx (asg_ok (x_c1 (x_v rfl) e0))).trans ((ss_nx (asg_ok x_mls0)).trans hX))
      rcases e3 with ⟨rfl, hlt⟩ | ⟨v4, v5, rfl, rfl, heq⟩
      · rw [if_pos (by simpa using hlt)]
        exact run_re rfl ⟨S', pre (ss_rt (for_ok (x_v rfl) rfl e1)), e2⟩
      · rw [if_neg (by simp at heq; omega)]
        generalize told cs ls [] = fd at e1 heq ⊢
        have hm1 : (S ++ [Cell.lst (fd.map rowT)])[S.length]? = some (.lst (fd.map rowT)) := by simp
        refine run_re rfl ⟨S ++ [Cell.lst (fd.map rowT)], pre ((ss_nx (for_ok (x_v rfl) rfl e1)).trans (ss_rt (ret_ok ?_))), take_1⟩
        have : (if fd.getLast? = some [] then PyData.none else .tuple [.str "goal", .int (ls.length : Nat)]) = if (decide (fd ≠ []) && decide (fd.getLast? = some [])) then PyData.none else .tuple [.str "goal", .int (ls.length : Nat)] := by
          by_cases z : fd.getLast? = some []
          · have : fd ≠ [] := by rintro rfl; cases z
            simp [z, this]
          · simp [z]
        rw [this]
        refine x_ite (x_and (x_cmp (x_v rfl) x_l0 (rd_lst hm1) rfl ?_) fun hne => ?_) (fun _ => x_k) (fun _ => x_t2 x_k (x_bi (x_v rfl) rfl ?_))
        · show (if cmpOk (.list (fd.map rowT)) && cmpOk (.list []) then some (!PyData.eqv (.list (fd.map rowT)) (.list [])) else none) = _
          rw [ok_rowsL]
          cases fd <;> simp [PyData.eqv, eqvA_nn, eqvA_cn, show cmpOk (.list []) = true from rfl]
        · have hne := of_decide_eq_true hne
          obtain ⟨c, hc⟩ : ∃ c, fd.getLast? = some c := ⟨fd.getLast hne, List.getLast?_eq_some_getLast hne⟩
          rw [hc]
          refine x_cmp (x_idx (x_v rfl) (x_neg x_k) (rd_lst hm1) rfl (last_at hc)) x_t0 rfl rfl ?_
          show (if cmpOk (rowT c) && cmpOk (rowT []) then some (PyData.eqv (rowT c) (rowT [])) else none) = _
          rw [ok_row, ok_row, eqv_row2]
          cases c <;> simp
        · rw [bi_lenT, List.length_map]
  | _ => exact .inl ⟨run_rt rfl (ss_rt ((ite_t (S1 := S) (by simp)).trans (ss_rt (ret_ok (x_t2 x_k x_k))))), rfl⟩
end
end C03

set_option Elab.async false
set_option linter.all false
set_option autoImplicit false
set_option maxRecDepth 100000
set_option maxHeartbeats 0
/-! K03M: the law. -/
namespace C03
open PySem PySem.Spec Pl Lw L2
theorem find_own' : ∀ fn ∈ pr.fns, pr.fns.find? (fun y => y.name == fn.name) = some fn := find_nodup (by decide +kernel)
theorem has {fn : Fn} (h : fn ∈ pr.fns := by simp [pr]) : Has pr fn := ⟨find_own' fn h⟩
theorem gsOk : Gs pr := ⟨rfl, rfl, rfl, rfl, rfl⟩
theorem gd_ln {l : Ln} : Gd 1 l.d := by
  have hs : ∀ (x : String), (Str.ofString x).length ≤ 1000 → Gd 0 (.str x) := fun x h => .str _ h
  cases l with
  | inp i =>
    refine .tup _ (by simp) fun d hd => ?_
    simp only [List.mem_cons, List.not_mem_nil, or_false] at hd
    rcases hd with rfl | rfl
    · exact .str _ (by decide +kernel)
    · exact .int _
  | res a b i =>
    refine .tup _ (by simp) fun d hd => ?_
    simp only [List.mem_cons, List.not_mem_nil, or_false] at hd
    rcases hd with rfl | rfl | rfl | rfl
    · exact .str _ (by decide +kernel)
    · exact .int _
    · exact .int _
    · exact .int _
theorem gd_lns {ls : List Ln} (h : ls.length ≤ 900) : Gd 2 (.tuple (ls.map Ln.d)) := .tup _ (by rw [List.length_map]; omega) fun d hd => by
  obtain ⟨l, _, rfl⟩ := List.mem_map.mp hd
  exact gd_ln
theorem map_inj : ∀ {a b : List Ln}, a.map Ln.d = b.map Ln.d → a = b
  | [], [], _ => rfl
  | [], _ :: _, h => by cases h
  | _ :: _, [], h => by cases h
  | x :: a, y :: b, h => by
    rw [List.map_cons, List.map_cons, List.cons.injEq] at h
    rw [Ln.inj h.1, map_inj h.2]
theorem cl_lns {ls : List Ln} (h : ∀ l ∈ ls, l.ok) : clB (.tuple (ls.map Ln.d)) = true := by
  show (ls.map Ln.d).all lnB = true
  rw [List.all_eq_true]
  intro d hd
  obtain ⟨l, hl, rfl⟩ := List.mem_map.mp hd
  exact ln_form (h l hl)
theorem res_fine {f : Fm} {ls : List Ln} : fine (resF f ls) = true ∧ (resF f ls).depth ≤ 5 := by
  unfold resF
  split
  · exact ⟨by simp [fine, fineAll], by simp [PyData.depth, PyData.depthAll]⟩
  · split
    · exact ⟨rfl, by simp [PyData.depth]⟩
    · exact ⟨by simp [fine, fineAll], by simp [PyData.depth, PyData.depthAll]⟩
theorem odd_sm {v : D} (h : Odd v) : Sm1 v := fun ds e => by
  subst e
  rcases h with h | ⟨es, h⟩
  · have h : (decide (ds.length ≤ 4000) && ds.all (ncB 92)) = true := h
    rw [Bool.and_eq_true] at h
    exact of_decide_eq_true h.1
  · cases h
theorem wl_64 {f : Fm} (h : wok f false = true) : wl f false < 64 := by
  cases f with
  | lt i => simp [wl]
  | ff => simp [wl]
  | bi q x y =>
    unfold wok at h
    rw [Bool.and_eq_true] at h
    exact of_decide_eq_true h.1
section
variable {n : Nat}
theorem e_pcases {f : Fm} (hf : f.in_ 4) (h4 : f.ht ≤ 4) (ht : thm f = true) (hn : 30 ≤ n) (S : Store) : pr.call n "proof_cases" [.p f.d] S = .ok (.p (gr 5 f []).d) S := by
  obtain ⟨n, rfl, hm⟩ := pred (n := n) (k := 29) (by omega)
  rw [show ("proof_cases" : Str) = cproofUcases.name from rfl, (has (fn := cproofUcases)).call]
  have et := e_theorem gsOk (has (fn := clettersUin)) (has (fn := crowsUof)) (has (fn := cjoinedUvalue)) (has (fn := cvalueUof)) (has (fn := cagainst)) (has (fn := cisUtheorem)) (n := n) f hf (by omega) S
  rw [ht] at et
  have hz : (S ++ [Cell.dct (envD [])])[S.length]? = some (.dct (envD [])) := get_top
  have eg := e_grown (P := pr) rfl (has (fn := clettersUin)) (has (fn := csureUvalue)) (has (fn := cgrown)) hf ht 5 [] S.length n _ hz (free_4 hf) (by simp) (by omega)
  rw [show envD [] = [] from rfl] at eg
  exact run_re rfl ⟨S ++ [.dct []], (ss_nx (ite_n (S1 := S) (by simp [et]))).trans (ss_rt (ret_ok (by simp [eg]))), take_1⟩
theorem e_proof {f : Fm} (hf : f.in_ 4) (h4 : f.ht ≤ 4) (hk : wok f false = true) (hn : 40 ≤ n) (S : Store) : ∃ ls : List Ln, pr.call n "proof_clauses" [.p f.d] S = (if thm f then .ok (.p (.tuple (ls.map Ln.d))) S else .exn (.plain "NotAllowed") S) ∧ (thm f = true → (∀ l ∈ ls, l.ok) ∧ ls.length ≤ 900 ∧ resF f ls = .none) := by
  obtain ⟨n, rfl, hm⟩ := pred (n := n) (k := 39) (by omega)
  rw [show ("proof_clauses" : Str) = cproofUclauses.name from rfl, (has (fn := cproofUclauses)).call]
  have et := e_theorem gsOk (has (fn := clettersUin)) (has (fn := crowsUof)) (has (fn := cjoinedUvalue)) (has (fn := cvalueUof)) (has (fn := cagainst)) (has (fn := cisUtheorem)) (n := n) f hf (by omega) S
  cases q : thm f with
  | false =>
    rw [q] at et
    exact ⟨[], run_xn rfl (ss_xn ((ite_t (S1 := S) (by simp [et])).trans (ss_xn (by simp)))), fun z => nomatch z⟩
  | true =>
    rw [q] at et
    have ep := e_pcases (n := n) hf h4 q (by omega) S
    obtain ⟨g1, g2⟩ := gr_settles hf q 5 [] (free_4 hf)
    have g3 := free_4 hf
    obtain ⟨ls, _, _, _, e1, e2, _⟩ := e_from (P := pr) (has (fn := cmerged)) (has (fn := cnormal)) (has (fn := cisUwithin)) (has (fn := cinputs)) (has (fn := cfirstUtrue)) (has (fn := cresolved)) (has (fn := cwithUline)) (has (fn := crefuted)) (has (fn := cfromUcases)) hf hk (wl_64 hk) g2 (by omega) (n := n) (by omega) S
    exact ⟨ls, run_rt rfl ((ss_nx (ite_n (x_not (q := true) (x_c1 (x_v rfl) et)))).trans (ss_rt (ret_ok (x_c2 (x_v rfl) (x_c1 (x_v rfl) ep) e1)))), fun _ => e2⟩
theorem e_made {f : Fm} (hf : f.in_ 4) (h4 : f.ht ≤ 4) (hk : wok f false = true) (hn : 41 ≤ n) (S : Store) : ∃ ls : List Ln, pr.call n "_law_made" [.p f.d] S = .ok (.p (if thm f then .list [.tuple (ls.map Ln.d)] else .none)) S ∧ (thm f = true → (∀ l ∈ ls, l.ok) ∧ ls.length ≤ 900 ∧ resF f ls = .none) := by
  obtain ⟨n, rfl, hm⟩ := pred (n := n) (k := 40) (by omega)
  rw [show ("_law_made" : Str) = cUlawUmade.name from rfl, (has (fn := cUlawUmade)).call]
  obtain ⟨ls, ep, e2⟩ := e_proof hf h4 hk hm S
  refine ⟨ls, ?_, e2⟩
  cases q : thm f with
  | false =>
    rw [q] at ep
    exact run_rt rfl (ss_rt (by simp [ep, List.lookup, Xn.cls]))
  | true =>
    rw [q] at ep
    exact run_rt rfl (ss_rt (by simp [ep]))
theorem lf {f : Fm} (h : Drawn f) {v : D} (hv : Sm1 v) (S : Store) : pr.call 200 "_law_f_clauses" [.p f.d, .p v] S = .ok (.p FORM) S ∧ clB v = false ∨ ∃ ls : List Ln, v = .tuple (ls.map Ln.d) ∧ (∀ l ∈ ls, l.ok) ∧ pr.call 200 "_law_f_clauses" [.p f.d, .p v] S = .ok (.p (resF f ls)) S :=
  e_lfault (P := pr) (has (fn := cUlawUisUinteger)) (has (fn := cUlawUisUnumber)) (has (fn := cUlawUlineUform)) (has (fn := cUlawUnormal)) (has (fn := cUlawUinputs)) (has (fn := cUlawUlineUclause)) (has (fn := cUlawUfUclauses)) h.in4 h.wok (wl_64 h.wok) (by have := h.small.2; omega) hv S
theorem whole : Whole pr "_law_f_clauses" where
  hpool := has
  hdraw := has
  hspread := has
  hsome := has
  hpick := has
  hnot := has
  hle := has
  hro := has
  hva := has
  htr := has
  hth := has
  hfo := has
  hin := has
  hbo := has
  hli := has
  hch := has
  hsw := has
  hbe := has
  hbs := has
  hod := has
  hsa := has
  made f h S := by
    obtain ⟨ls, e1, e2⟩ := e_made (n := 200) h.in4 h.small.2 h.wok (by omega) S
    refine ⟨_, e1, fun q => ?_⟩
    obtain ⟨q1, q2, q3⟩ := e2 q
    refine ⟨⟨_, rfl, (gd_lns q2).mono (by omega)⟩, fun S => ?_⟩
    rcases lf h (v := .tuple (ls.map Ln.d)) (fun ds e => by cases e; rw [List.length_map]; omega) S with ⟨_, e⟩ | ⟨ls', e, _, e3⟩
    · rw [cl_lns q1] at e
      cases e
    · rw [PyData.tuple.injEq] at e
      rw [e3, ← map_inj e, q3]
  flt f h v hv S := by
    have e1 := e_fault (P := pr) rfl rfl (has (fn := cisUwhole)) (has (fn := cisUfrom)) (has (fn := cisUword)) (has (fn := cisUline)) (has (fn := cmerged)) (has (fn := cnormal)) (has (fn := cisUwithin)) (has (fn := cinputs)) (has (fn := cresolved)) (has (fn := clineUclause)) (has (fn := cclausesUtold)) (has (fn := cfault)) h.in4 h.wok (wl_64 h.wok) (n := 200) (by have := h.small.2; omega) (odd_sm hv) S
    have e2 := lf h (odd_sm hv) S
    rcases e1 with ⟨e1, q1⟩ | ⟨ls, rfl, ok, e1⟩
    · rcases e2 with ⟨e2, q2⟩ | ⟨ls, rfl, ok, e2⟩
      · exact ⟨_, e1, e2, by simp [FORM, fine, fineAll], by simp [FORM, PyData.depth, PyData.depthAll], fun z => nomatch z⟩
      · rw [cl_lns ok] at q1
        cases q1
    · rcases e2 with ⟨e2, q2⟩ | ⟨ls', e, _, e2⟩
      · rw [cl_lns ok] at q2
        cases q2
      · rw [PyData.tuple.injEq] at e
        have := map_inj e
        subst this
        have := (res_fine (f := f) (ls := ls)).2
        refine ⟨_, e1, e2, res_fine.1, by omega, fun z => resF_thm h.in4 (ls := ls) ?_⟩
        revert z
        unfold resF
        split
        · exact fun z => nomatch z
        · split
          · exact fun _ => rfl
          · exact fun z => nomatch z
theorem main (ns : List Int) (hl : ns.length ≤ 63) : ∃ S, pr.call (200 + 1) "law" [.s ns] [] = .ok (.p (.bool true)) S := whole_main whole (has (fn := claw)) ns hl
end
end C03

set_option Elab.async false
set_option linter.all false
set_option autoImplicit false
set_option maxRecDepth 100000
namespace C03
open PySem Pl Lw PyProof.Rows
section
variable {K : PySem.W.Frag} {mg : Str → Option Value} {h : Heap}
theorem find_all : ∀ x ∈ fns, ∃ fn, pr.fns.find? (fun y => y.name == x) = some fn := by
  have q : fns.all (fun x => (pr.fns.find? (fun y => y.name == x)).isSome) = true := by decide +kernel
  intro x hx
  exact Option.isSome_iff_exists.mp (List.all_eq_true.mp q x hx)
theorem name_all : pr.fns.map (·.name) = fns := rfl
theorem law_mem : claw ∈ pr.fns := by
  show claw ∈ [cisUwhole, cisUfrom, cisUword, clettersUin, cjoinedUvalue, cvalueUof, crowsUof, cagainst, cisUtheorem, cfirstUtrue, csureUvalue, cgrown, cproofUcases, cmerged, cnormal, cinputs, cisUwithin, cisUline, cresolved, clineUclause, cclausesUtold, cfault, cwithUline, crefuted, cfromUcases, cproofUclauses, cUlawUisUinteger, cUlawUsame, cUlawUpool, cUlawUspread, cUlawUdraw, cUlawUpick, cUlawUbent, cUlawUbooled, cUlawUlisted, cUlawUoddUvalues, cUlawUisUnumber, cUlawUnot, cUlawUletters, cUlawUvalue, cUlawUrows, cUlawUtrue, cUlawUsome, cUlawUformula, cUlawUtheorem, cUlawUswapped, cUlawUchanged, cUlawUbends, cUlawUnormal, cUlawUinputs, cUlawUlineUform, cUlawUlineUclause, cUlawUfUclauses, cUlawUmade, claw]
  simp
theorem find_own : ∀ fn ∈ pr.fns, pr.fns.find? (fun y => y.name == fn.name) = some fn := find_nodup (by rw [name_all]; decide +kernel)
theorem defs_all (d0 : DefAt K mg (ck []) cisUwhole) (d1 : DefAt K mg (ck []) cisUfrom) (d2 : DefAt K mg (ck []) cisUword) (d3 : DefAt K mg (ck []) clettersUin) (d4 : DefAt K mg (ck []) cjoinedUvalue) (d5 : DefAt K mg (ck []) cvalueUof) (d6 : DefAt K mg (ck []) crowsUof) (d7 : DefAt K mg (ck []) cagainst) (d8 : DefAt K mg (ck []) cisUtheorem) (d9 : DefAt K mg (ck []) cfirstUtrue) (d10 : DefAt K mg (ck []) csureUvalue) (d11 : DefAt K mg (ck []) cgrown) (d12 : DefAt K mg (ck []) cproofUcases) (d13 : DefAt K mg (ck []) cmerged) (d14 : DefAt K mg (ck []) cnormal) (d15 : DefAt K mg (ck []) cinputs) (d16 : DefAt K mg (ck []) cisUwithin) (d17 : DefAt K mg (ck []) cisUline) (d18 : DefAt K mg (ck []) cresolved) (d19 : DefAt K mg (ck []) clineUclause) (d20 : DefAt K mg (ck []) cclausesUtold) (d21 : DefAt K mg (ck []) cfault) (d22 : DefAt K mg (ck []) cwithUline) (d23 : DefAt K mg (ck []) crefuted) (d24 : DefAt K mg (ck []) cfromUcases) (d25 : DefAt K mg (ck []) cproofUclauses) (d26 : DefAt K mg (ck []) cUlawUisUinteger) (d27 : DefAt K mg (ck []) cUlawUsame) (d28 : DefAt K mg (ck []) cUlawUpool) (d29 : DefAt K mg (ck []) cUlawUspread) (d30 : DefAt K mg (ck []) cUlawUdraw) (d31 : DefAt K mg (ck []) cUlawUpick) (d32 : DefAt K mg (ck []) cUlawUbent) (d33 : DefAt K mg (ck []) cUlawUbooled) (d34 : DefAt K mg (ck []) cUlawUlisted) (d35 : DefAt K mg (ck []) cUlawUoddUvalues) (d36 : DefAt K mg (ck []) cUlawUisUnumber) (d37 : DefAt K mg (ck []) cUlawUnot) (d38 : DefAt K mg (ck []) cUlawUletters) (d39 : DefAt K mg (ck []) cUlawUvalue) (d40 : DefAt K mg (ck []) cUlawUrows) (d41 : DefAt K mg (ck []) cUlawUtrue) (d42 : DefAt K mg (ck []) cUlawUsome) (d43 : DefAt K mg (ck []) cUlawUformula) (d44 : DefAt K mg (ck []) cUlawUtheorem) (d45 : DefAt K mg (ck []) cUlawUswapped) (d46 : DefAt K mg (ck []) cUlawUchanged) (d47 : DefAt K mg (ck []) cUlawUbends) (d48 : DefAt K mg (ck []) cUlawUnormal) (d49 : DefAt K mg (ck []) cUlawUinputs) (d50 : DefAt K mg (ck []) cUlawUlineUform) (d51 : DefAt K mg (ck []) cUlawUlineUclause) (d52 : DefAt K mg (ck []) cUlawUfUclauses) (d53 : DefAt K mg (ck []) cUlawUmade) (d54 : DefAt K mg (ck []) claw) : ∀ fn ∈ pr.fns, DefAt K mg (ck []) fn :=
  List.forall_mem_cons.mpr ⟨d0, List.forall_mem_cons.mpr ⟨d1, List.forall_mem_cons.mpr ⟨d2, List.forall_mem_cons.mpr ⟨d3, List.forall_mem_cons.mpr ⟨d4, List.forall_mem_cons.mpr ⟨d5, List.forall_mem_cons.mpr ⟨d6, List.forall_mem_cons.mpr ⟨d7, List.forall_mem_cons.mpr ⟨d8, List.forall_mem_cons.mpr ⟨d9, List.forall_mem_cons.mpr ⟨d10, List.forall_mem_cons.mpr ⟨d11, List.forall_mem_cons.mpr ⟨d12, List.forall_mem_cons.mpr ⟨d13, List.forall_mem_cons.mpr ⟨d14, List.forall_mem_cons.mpr ⟨d15, List.forall_mem_cons.mpr ⟨d16, List.forall_mem_cons.mpr ⟨d17, List.forall_mem_cons.mpr ⟨d18, List.forall_mem_cons.mpr ⟨d19, List.forall_mem_cons.mpr ⟨d20, List.forall_mem_cons.mpr ⟨d21, List.forall_mem_cons.mpr ⟨d22, List.forall_mem_cons.mpr ⟨d23, List.forall_mem_cons.mpr ⟨d24, List.forall_mem_cons.mpr ⟨d25, List.forall_mem_cons.mpr ⟨d26, List.forall_mem_cons.mpr ⟨d27, List.forall_mem_cons.mpr ⟨d28, List.forall_mem_cons.mpr ⟨d29, List.forall_mem_cons.mpr ⟨d30, List.forall_mem_cons.mpr ⟨d31, List.forall_mem_cons.mpr ⟨d32, List.forall_mem_cons.mpr ⟨d33, List.forall_mem_cons.mpr ⟨d34, List.forall_mem_cons.mpr ⟨d35, List.forall_mem_cons.mpr ⟨d36, List.forall_mem_cons.mpr ⟨d37, List.forall_mem_cons.mpr ⟨d38, List.forall_mem_cons.mpr ⟨d39, List.forall_mem_cons.mpr ⟨d40, List.forall_mem_cons.mpr ⟨d41, List.forall_mem_cons.mpr ⟨d42, List.forall_mem_cons.mpr ⟨d43, List.forall_mem_cons.mpr ⟨d44, List.forall_mem_cons.mpr ⟨d45, List.forall_mem_cons.mpr ⟨d46, List.forall_mem_cons.mpr ⟨d47, List.forall_mem_cons.mpr ⟨d48, List.forall_mem_cons.mpr ⟨d49, List.forall_mem_cons.mpr ⟨d50, List.forall_mem_cons.mpr ⟨d51, List.forall_mem_cons.mpr ⟨d52, List.forall_mem_cons.mpr ⟨d53, List.forall_mem_cons.mpr ⟨d54, (fun _ z => nomatch z)⟩⟩⟩⟩⟩⟩⟩⟩⟩⟩⟩⟩⟩⟩⟩⟩⟩⟩⟩⟩⟩⟩⟩⟩⟩⟩⟩⟩⟩⟩⟩⟩⟩⟩⟩⟩⟩⟩⟩⟩⟩⟩⟩⟩⟩⟩⟩⟩⟩⟩⟩⟩⟩⟩⟩
theorem cons_all (c0 : ConAt K mg gs "FORM") (c1 : ConAt K mg gs "LEAF") (c2 : ConAt K mg gs "LETTERS") : ∀ x ∈ (ck []).cs, ConAt K mg gs x :=
  List.forall_mem_cons.mpr ⟨c0, List.forall_mem_cons.mpr ⟨c1, List.forall_mem_cons.mpr ⟨c2, (fun _ z => nomatch z)⟩⟩⟩
theorem bis_all (b0 : mg "abs" = none) (b1 : mg "all" = none) (b2 : mg "any" = none) (b3 : mg "bool" = none) (b4 : mg "dict" = none) (b5 : mg "int" = none) (b6 : mg "isinstance" = none) (b7 : mg "len" = none) (b8 : mg "list" = none) (b9 : mg "max" = none) (b10 : mg "min" = none) (b11 : mg "range" = none) (b12 : mg "set" = none) (b13 : mg "sorted" = none) (b14 : mg "str" = none) (b15 : mg "tuple" = none) : ∀ x ∈ (ck []).bis, mg x = none :=
  List.forall_mem_cons.mpr ⟨b0, List.forall_mem_cons.mpr ⟨b1, List.forall_mem_cons.mpr ⟨b2, List.forall_mem_cons.mpr ⟨b3, List.forall_mem_cons.mpr ⟨b4, List.forall_mem_cons.mpr ⟨b5, List.forall_mem_cons.mpr ⟨b6, List.forall_mem_cons.mpr ⟨b7, List.forall_mem_cons.mpr ⟨b8, List.forall_mem_cons.mpr ⟨b9, List.forall_mem_cons.mpr ⟨b10, List.forall_mem_cons.mpr ⟨b11, List.forall_mem_cons.mpr ⟨b12, List.forall_mem_cons.mpr ⟨b13, List.forall_mem_cons.mpr ⟨b14, List.forall_mem_cons.mpr ⟨b15, (fun _ z => nomatch z)⟩⟩⟩⟩⟩⟩⟩⟩⟩⟩⟩⟩⟩⟩⟩⟩
theorem xcs_all (x0 : XcAt K mg "NotAllowed") : ∀ x ∈ (ck []).xs, XcAt K mg x :=
  List.forall_mem_cons.mpr ⟨x0, (fun _ z => nomatch z)⟩
theorem xms_all (m0 : XmAt K "NotAllowed" "NotAllowed") : ∀ x ∈ (ck []).xs, ∀ y ∈ (ck []).xs, XmAt K x y :=
  List.forall_mem_cons.mpr ⟨List.forall_mem_cons.mpr ⟨m0, (fun _ z => nomatch z)⟩, (fun _ z => nomatch z)⟩
end
end C03
open PySem PySem.W PyProof.Rows
set_option maxHeartbeats 0 in
theorem PySem.Challenge.cw_everyproof_k03_whole_clauses_holds : PySem.Challenge.rw_everyproof_k03_whole_clauses.Holds := by
  w_on; o_law; k_head; (case hw => w_witness2)
  k_fill
  refine Pl.walkX (l := PySem.Challenge.rw_everyproof_k03_whole_clauses) (x := "script") (C03.pr.call (200 + 1)) (200 + 6) rfl rfl ⟨rfl, by decide, by decide⟩ (fun w h Y => PySem.W.kIn_of Y) C03.main ?F
  case F =>
    intro w mg fa h KX G hmg
    refine' Pl.law_mk (pr := C03.pr) (k := C03.ck []) (N := ["script", "pool", "turn", "formula", "found", "shown", "other", "value", "here", "wrong"]) (fn := C03.claw) (st := C03.top 66) (y := "script") 200 KX G hmg (C03.defs_all ?d0 ?d1 ?d2 ?d3 ?d4 ?d5 ?d6 ?d7 ?d8 ?d9 ?d10 ?d11 ?d12 ?d13 ?d14 ?d15 ?d16 ?d17 ?d18 ?d19 ?d20 ?d21 ?d22 ?d23 ?d24 ?d25 ?d26 ?d27 ?d28 ?d29 ?d30 ?d31 ?d32 ?d33 ?d34 ?d35 ?d36 ?d37 ?d38 ?d39 ?d40 ?d41 ?d42 ?d43 ?d44 ?d45 ?d46 ?d47 ?d48 ?d49 ?d50 ?d51 ?d52 ?d53 ?d54) C03.find_all C03.find_own (C03.cons_all ?c0 ?c1 ?c2) (C03.bis_all ?b0 ?b1 ?b2 ?b3 ?b4 ?b5 ?b6 ?b7 ?b8 ?b9 ?b10 ?b11 ?b12 ?b13 ?b14 ?b15) (C03.xcs_all ?x0) (C03.xms_all ?m0) ?a ?l ?c ?k rfl C03.law_mem (fun _ _ _ _ _ _ _ _ => .of_eq rfl) C03.k_claw
    (case a => k_is); (case l => k_is); (case c => k_is); (case k => k_is)
    case d0 =>
      refine' Pl.def_mk (N := ["value"]) (ps := ["value"]) (st := C03.top 5) (x := "is_whole") KX G ?a ?l ?c ?k rfl (fun _ _ _ _ _ _ us hl => match us, hl with | [_], _ => rfl) C03.k_cisUwhole
      (case a => k_is); (case l => k_is); (case c => k_is); (case k => k_is)
    case d1 =>
      refine' Pl.def_mk (N := ["value", "low", "high"]) (ps := ["value", "low", "high"]) (st := C03.top 6) (x := "is_from") KX G ?a ?l ?c ?k rfl (fun _ _ _ _ _ _ us hl => match us, hl with | [_, _, _], _ => rfl) C03.k_cisUfrom
      (case a => k_is); (case l => k_is); (case c => k_is); (case k => k_is)
    case d2 =>
      refine' Pl.def_mk (N := ["value", "word"]) (ps := ["value", "word"]) (st := C03.top 7) (x := "is_word") KX G ?a ?l ?c ?k rfl (fun _ _ _ _ _ _ us hl => match us, hl with | [_, _], _ => rfl) C03.k_cisUword
      (case a => k_is); (case l => k_is); (case c => k_is); (case k => k_is)
    case d3 =>
      refine' Pl.def_mk (N := ["formula"]) (ps := ["formula"]) (st := C03.top 8) (x := "letters_in") KX G ?a ?l ?c ?k rfl (fun _ _ _ _ _ _ us hl => match us, hl with | [_], _ => rfl) C03.k_clettersUin
      (case a => k_is); (case l => k_is); (case c => k_is); (case k => k_is)
    case d4 =>
      refine' Pl.def_mk (N := ["word", "one", "two"]) (ps := ["word", "one", "two"]) (st := C03.top 9) (x := "joined_value") KX G ?a ?l ?c ?k rfl (fun _ _ _ _ _ _ us hl => match us, hl with | [_, _, _], _ => rfl) C03.k_cjoinedUvalue
      (case a => k_is); (case l => k_is); (case c => k_is); (case k => k_is)
    case d5 =>
      refine' Pl.def_mk (N := ["formula", "row"]) (ps := ["formula", "row"]) (st := C03.top 10) (x := "value_of") KX G ?a ?l ?c ?k rfl (fun _ _ _ _ _ _ us hl => match us, hl with | [_, _], _ => rfl) C03.k_cvalueUof
      (case a => k_is); (case l => k_is); (case c => k_is); (case k => k_is)
    case d6 =>
      refine' Pl.def_mk (N := ["letters", "found", "letter", "row"]) (ps := ["letters"]) (st := C03.top 11) (x := "rows_of") KX G ?a ?l ?c ?k rfl (fun _ _ _ _ _ _ us hl => match us, hl with | [_], _ => rfl) C03.k_crowsUof
      (case a => k_is); (case l => k_is); (case c => k_is); (case k => k_is)
    case d7 =>
      refine' Pl.def_mk (N := ["formula", "row"]) (ps := ["formula"]) (st := C03.top 12) (x := "against") KX G ?a ?l ?c ?k rfl (fun _ _ _ _ _ _ us hl => match us, hl with | [_], _ => rfl) C03.k_cagainst
      (case a => k_is); (case l => k_is); (case c => k_is); (case k => k_is)
    case d8 =>
      refine' Pl.def_mk (N := ["formula"]) (ps := ["formula"]) (st := C03.top 13) (x := "is_theorem") KX G ?a ?l ?c ?k rfl (fun _ _ _ _ _ _ us hl => match us, hl with | [_], _ => rfl) C03.k_cisUtheorem
      (case a => k_is); (case l => k_is); (case c => k_is); (case k => k_is)
    case d9 =>
      refine' Pl.def_mk (N := ["flags", "k"]) (ps := ["flags"]) (st := C03.top 14) (x := "first_true") KX G ?a ?l ?c ?k rfl (fun _ _ _ _ _ _ us hl => match us, hl with | [_], _ => rfl) C03.k_cfirstUtrue
      (case a => k_is); (case l => k_is); (case c => k_is); (case k => k_is)
    case d10 =>
      refine' Pl.def_mk (N := ["formula", "settled", "strong", "one", "two"]) (ps := ["formula", "settled"]) (st := C03.top 17) (x := "sure_value") KX G ?a ?l ?c ?k rfl (fun _ _ _ _ _ _ us hl => match us, hl with | [_, _], _ => rfl) C03.k_csureUvalue
      (case a => k_is); (case l => k_is); (case c => k_is); (case k => k_is)
    case d11 =>
      refine' Pl.def_mk (N := ["formula", "settled", "letter", "zero", "one", "other"]) (ps := ["formula", "settled"]) (st := C03.top 18) (x := "grown") KX G ?a ?l ?c ?k rfl (fun _ _ _ _ _ _ us hl => match us, hl with | [_, _], _ => rfl) C03.k_cgrown
      (case a => k_is); (case l => k_is); (case c => k_is); (case k => k_is)
    case d12 =>
      refine' Pl.def_mk (N := ["formula"]) (ps := ["formula"]) (st := C03.top 19) (x := "proof") KX G ?a ?l ?c ?k rfl (fun _ _ _ _ _ _ us hl => match us, hl with | [_], _ => rfl) C03.k_cproofUcases
      (case a => k_is); (case l => k_is); (case c => k_is); (case k => k_is)
    case d13 =>
      refine' Pl.def_mk (N := ["one", "two", "found", "wish"]) (ps := ["one", "two"]) (st := C03.top 23) (x := "merged") KX G ?a ?l ?c ?k rfl (fun _ _ _ _ _ _ us hl => match us, hl with | [_, _], _ => rfl) C03.k_cmerged
      (case a => k_is); (case l => k_is); (case c => k_is); (case k => k_is)
    case d14 =>
      refine' Pl.def_mk (N := ["formula", "sign", "one", "two", "both", "a", "b", "clause"]) (ps := ["formula", "sign"]) (st := C03.top 24) (x := "normal") KX G ?a ?l ?c ?k rfl (fun _ _ _ _ _ _ us hl => match us, hl with | [_, _], _ => rfl) C03.k_cnormal
      (case a => k_is); (case l => k_is); (case c => k_is); (case k => k_is)
    case d15 =>
      refine' Pl.def_mk (N := ["formula", "every", "clause", "other"]) (ps := ["formula"]) (st := C03.top 25) (x := "inputs") KX G ?a ?l ?c ?k rfl (fun _ _ _ _ _ _ us hl => match us, hl with | [_], _ => rfl) C03.k_cinputs
      (case a => k_is); (case l => k_is); (case c => k_is); (case k => k_is)
    case d16 =>
      refine' Pl.def_mk (N := ["one", "two", "wish"]) (ps := ["one", "two"]) (st := C03.top 26) (x := "is_within") KX G ?a ?l ?c ?k rfl (fun _ _ _ _ _ _ us hl => match us, hl with | [_, _], _ => rfl) C03.k_cisUwithin
      (case a => k_is); (case l => k_is); (case c => k_is); (case k => k_is)
    case d17 =>
      refine' Pl.def_mk (N := ["value"]) (ps := ["value"]) (st := C03.top 27) (x := "is_line") KX G ?a ?l ?c ?k rfl (fun _ _ _ _ _ _ us hl => match us, hl with | [_], _ => rfl) C03.k_cisUline
      (case a => k_is); (case l => k_is); (case c => k_is); (case k => k_is)
    case d18 =>
      refine' Pl.def_mk (N := ["one", "two", "letter", "wish", "rest", "other"]) (ps := ["one", "two", "letter"]) (st := C03.top 28) (x := "resolved") KX G ?a ?l ?c ?k rfl (fun _ _ _ _ _ _ us hl => match us, hl with | [_, _, _], _ => rfl) C03.k_cresolved
      (case a => k_is); (case l => k_is); (case c => k_is); (case k => k_is)
    case d19 =>
      refine' Pl.def_mk (N := ["clauses", "found", "line"]) (ps := ["clauses", "found", "line"]) (st := C03.top 29) (x := "line_clause") KX G ?a ?l ?c ?k rfl (fun _ _ _ _ _ _ us hl => match us, hl with | [_, _, _], _ => rfl) C03.k_clineUclause
      (case a => k_is); (case l => k_is); (case c => k_is); (case k => k_is)
    case d20 =>
      refine' Pl.def_mk (N := ["formula", "lines", "clauses", "found", "line", "clause"]) (ps := ["formula", "lines"]) (st := C03.top 30) (x := "clauses_told") KX G ?a ?l ?c ?k rfl (fun _ _ _ _ _ _ us hl => match us, hl with | [_, _], _ => rfl) C03.k_cclausesUtold
      (case a => k_is); (case l => k_is); (case c => k_is); (case k => k_is)
    case d21 =>
      refine' Pl.def_mk (N := ["formula", "value", "found", "line"]) (ps := ["formula", "value"]) (st := C03.top 31) (x := "fault") KX G ?a ?l ?c ?k rfl (fun _ _ _ _ _ _ us hl => match us, hl with | [_, _], _ => rfl) C03.k_cfault
      (case a => k_is); (case l => k_is); (case c => k_is); (case k => k_is)
    case d22 =>
      refine' Pl.def_mk (N := ["lines", "found", "line", "clause"]) (ps := ["lines", "found", "line", "clause"]) (st := C03.top 32) (x := "with_line") KX G ?a ?l ?c ?k rfl (fun _ _ _ _ _ _ us hl => match us, hl with | [_, _, _, _], _ => rfl) C03.k_cwithUline
      (case a => k_is); (case l => k_is); (case c => k_is); (case k => k_is)
    case d23 =>
      refine' Pl.def_mk (N := ["formula", "tree", "settled", "lines", "found", "letter", "low", "high", "clauses", "at", "zero", "one", "clause", "wish"]) (ps := ["formula", "tree", "settled", "lines", "found"]) (st := C03.top 33) (x := "refuted") KX G ?a ?l ?c ?k rfl (fun _ _ _ _ _ _ us hl => match us, hl with | [_, _, _, _, _], _ => rfl) C03.k_crefuted
      (case a => k_is); (case l => k_is); (case c => k_is); (case k => k_is)
    case d24 =>
      refine' Pl.def_mk (N := ["formula", "tree", "last", "lines", "found"]) (ps := ["formula", "tree"]) (st := C03.top 34) (x := "from_cases") KX G ?a ?l ?c ?k rfl (fun _ _ _ _ _ _ us hl => match us, hl with | [_, _], _ => rfl) C03.k_cfromUcases
      (case a => k_is); (case l => k_is); (case c => k_is); (case k => k_is)
    case d25 =>
      refine' Pl.def_mk (N := ["formula"]) (ps := ["formula"]) (st := C03.top 35) (x := "proof") KX G ?a ?l ?c ?k rfl (fun _ _ _ _ _ _ us hl => match us, hl with | [_], _ => rfl) C03.k_cproofUclauses
      (case a => k_is); (case l => k_is); (case c => k_is); (case k => k_is)
    case d26 =>
      refine' Pl.def_mk (N := ["actual"]) (ps := ["actual"]) (st := C03.top 38) (x := "_law_is_integer") KX G ?a ?l ?c ?k rfl (fun _ _ _ _ _ _ us hl => match us, hl with | [_], _ => rfl) C03.k_cUlawUisUinteger
      (case a => k_is); (case l => k_is); (case c => k_is); (case k => k_is)
    case d27 =>
      refine' Pl.def_mk (N := ["actual", "due", "k"]) (ps := ["actual", "due"]) (st := C03.top 39) (x := "_law_same") KX G ?a ?l ?c ?k rfl (fun _ _ _ _ _ _ us hl => match us, hl with | [_, _], _ => rfl) C03.k_cUlawUsame
      (case a => k_is); (case l => k_is); (case c => k_is); (case k => k_is)
    case d28 =>
      refine' Pl.def_mk (N := ["script", "salt", "cell"]) (ps := ["script"]) (st := C03.top 40) (x := "_law_pool") KX G ?a ?l ?c ?k rfl (fun _ _ _ _ _ _ us hl => match us, hl with | [_], _ => rfl) C03.k_cUlawUpool
      (case a => k_is); (case l => k_is); (case c => k_is); (case k => k_is)
    case d29 =>
      refine' Pl.def_mk (N := ["cell", "mixed", "total", "k"]) (ps := ["cell"]) (st := C03.top 41) (x := "_law_spread") KX G ?a ?l ?c ?k rfl (fun _ _ _ _ _ _ us hl => match us, hl with | [_], _ => rfl) C03.k_cUlawUspread
      (case a => k_is); (case l => k_is); (case c => k_is); (case k => k_is)
    case d30 =>
      refine' Pl.def_mk (N := ["pool", "many", "value", "cell", "mixed"]) (ps := ["pool", "many"]) (st := C03.top 42) (x := "_law_draw") KX G ?a ?l ?c ?k rfl (fun _ _ _ _ _ _ us hl => match us, hl with | [_, _], _ => rfl) C03.k_cUlawUdraw
      (case a => k_is); (case l => k_is); (case c => k_is); (case k => k_is)
    case d31 =>
      refine' Pl.def_mk (N := ["pool", "items"]) (ps := ["pool", "items"]) (st := C03.top 43) (x := "_law_pick") KX G ?a ?l ?c ?k rfl (fun _ _ _ _ _ _ us hl => match us, hl with | [_, _], _ => rfl) C03.k_cUlawUpick
      (case a => k_is); (case l => k_is); (case c => k_is); (case k => k_is)
    case d32 =>
      refine' Pl.def_mk (N := ["pool", "value", "turn", "at", "other", "items"]) (ps := ["pool", "value"]) (st := C03.top 44) (x := "_law_bent") KX G ?a ?l ?c ?k rfl (fun _ _ _ _ _ _ us hl => match us, hl with | [_, _], _ => rfl) C03.k_cUlawUbent
      (case a => k_is); (case l => k_is); (case c => k_is); (case k => k_is)
    case d33 =>
      refine' Pl.def_mk (N := ["value", "one"]) (ps := ["value"]) (st := C03.top 45) (x := "_law_booled") KX G ?a ?l ?c ?k rfl (fun _ _ _ _ _ _ us hl => match us, hl with | [_], _ => rfl) C03.k_cUlawUbooled
      (case a => k_is); (case l => k_is); (case c => k_is); (case k => k_is)
    case d34 =>
      refine' Pl.def_mk (N := ["value", "deep", "one"]) (ps := ["value", "deep"]) (st := C03.top 46) (x := "_law_listed") KX G ?a ?l ?c ?k rfl (fun _ _ _ _ _ _ us hl => match us, hl with | [_, _], _ => rfl) C03.k_cUlawUlisted
      (case a => k_is); (case l => k_is); (case c => k_is); (case k => k_is)
    case d35 =>
      refine' Pl.def_mk (N := ["deep", "k"]) (ps := []) (st := C03.top 47) (x := "_law_odd_values") KX G ?a ?l ?c ?k rfl (fun _ _ _ _ _ _ us hl => match us, hl with | [], _ => rfl) C03.k_cUlawUoddUvalues
      (case a => k_is); (case l => k_is); (case c => k_is); (case k => k_is)
    case d36 =>
      refine' Pl.def_mk (N := ["value", "low", "high"]) (ps := ["value", "low", "high"]) (st := C03.top 48) (x := "_law_is_number") KX G ?a ?l ?c ?k rfl (fun _ _ _ _ _ _ us hl => match us, hl with | [_, _, _], _ => rfl) C03.k_cUlawUisUnumber
      (case a => k_is); (case l => k_is); (case c => k_is); (case k => k_is)
    case d37 =>
      refine' Pl.def_mk (N := ["formula"]) (ps := ["formula"]) (st := C03.top 49) (x := "_law_not") KX G ?a ?l ?c ?k rfl (fun _ _ _ _ _ _ us hl => match us, hl with | [_], _ => rfl) C03.k_cUlawUnot
      (case a => k_is); (case l => k_is); (case c => k_is); (case k => k_is)
    case d38 =>
      refine' Pl.def_mk (N := ["formula"]) (ps := ["formula"]) (st := C03.top 50) (x := "_law_letters") KX G ?a ?l ?c ?k rfl (fun _ _ _ _ _ _ us hl => match us, hl with | [_], _ => rfl) C03.k_cUlawUletters
      (case a => k_is); (case l => k_is); (case c => k_is); (case k => k_is)
    case d39 =>
      refine' Pl.def_mk (N := ["formula", "row", "one", "two"]) (ps := ["formula", "row"]) (st := C03.top 51) (x := "_law_value") KX G ?a ?l ?c ?k rfl (fun _ _ _ _ _ _ us hl => match us, hl with | [_, _], _ => rfl) C03.k_cUlawUvalue
      (case a => k_is); (case l => k_is); (case c => k_is); (case k => k_is)
    case d40 =>
      refine' Pl.def_mk (N := ["letters", "rows", "number", "row", "k"]) (ps := ["letters"]) (st := C03.top 52) (x := "_law_rows") KX G ?a ?l ?c ?k rfl (fun _ _ _ _ _ _ us hl => match us, hl with | [_], _ => rfl) C03.k_cUlawUrows
      (case a => k_is); (case l => k_is); (case c => k_is); (case k => k_is)
    case d41 =>
      refine' Pl.def_mk (N := ["formula", "row"]) (ps := ["formula"]) (st := C03.top 53) (x := "_law_true") KX G ?a ?l ?c ?k rfl (fun _ _ _ _ _ _ us hl => match us, hl with | [_], _ => rfl) C03.k_cUlawUtrue
      (case a => k_is); (case l => k_is); (case c => k_is); (case k => k_is)
    case d42 =>
      refine' Pl.def_mk (N := ["pool", "deep", "letters"]) (ps := ["pool", "deep", "letters"]) (st := C03.top 54) (x := "_law_some") KX G ?a ?l ?c ?k rfl (fun _ _ _ _ _ _ us hl => match us, hl with | [_, _, _], _ => rfl) C03.k_cUlawUsome
      (case a => k_is); (case l => k_is); (case c => k_is); (case k => k_is)
    case d43 =>
      refine' Pl.def_mk (N := ["pool"]) (ps := ["pool"]) (st := C03.top 55) (x := "_law_formula") KX G ?a ?l ?c ?k rfl (fun _ _ _ _ _ _ us hl => match us, hl with | [_], _ => rfl) C03.k_cUlawUformula
      (case a => k_is); (case l => k_is); (case c => k_is); (case k => k_is)
    case d44 =>
      refine' Pl.def_mk (N := ["pool", "turn", "made", "found", "a", "b", "c"]) (ps := ["pool"]) (st := C03.top 56) (x := "_law_theorem") KX G ?a ?l ?c ?k rfl (fun _ _ _ _ _ _ us hl => match us, hl with | [_], _ => rfl) C03.k_cUlawUtheorem
      (case a => k_is); (case l => k_is); (case c => k_is); (case k => k_is)
    case d45 =>
      refine' Pl.def_mk (N := ["pool", "value", "at", "other", "row"]) (ps := ["pool", "value"]) (st := C03.top 57) (x := "_law_swapped") KX G ?a ?l ?c ?k rfl (fun _ _ _ _ _ _ us hl => match us, hl with | [_, _], _ => rfl) C03.k_cUlawUswapped
      (case a => k_is); (case l => k_is); (case c => k_is); (case k => k_is)
    case d46 =>
      refine' Pl.def_mk (N := ["pool", "value", "things", "at"]) (ps := ["pool", "value", "things"]) (st := C03.top 58) (x := "_law_changed") KX G ?a ?l ?c ?k rfl (fun _ _ _ _ _ _ us hl => match us, hl with | [_, _, _], _ => rfl) C03.k_cUlawUchanged
      (case a => k_is); (case l => k_is); (case c => k_is); (case k => k_is)
    case d47 =>
      refine' Pl.def_mk (N := ["pool", "sample", "things", "found", "k"]) (ps := ["pool", "sample"]) (st := C03.top 59) (x := "_law_bends") KX G ?a ?l ?c ?k rfl (fun _ _ _ _ _ _ us hl => match us, hl with | [_, _], _ => rfl) C03.k_cUlawUbends
      (case a => k_is); (case l => k_is); (case c => k_is); (case k => k_is)
    case d48 =>
      refine' Pl.def_mk (N := ["formula", "sign", "one", "two", "found", "a", "b", "wishes", "wish"]) (ps := ["formula", "sign"]) (st := C03.top 60) (x := "_law_normal") KX G ?a ?l ?c ?k rfl (fun _ _ _ _ _ _ us hl => match us, hl with | [_, _], _ => rfl) C03.k_cUlawUnormal
      (case a => k_is); (case l => k_is); (case c => k_is); (case k => k_is)
    case d49 =>
      refine' Pl.def_mk (N := ["formula", "every", "clause", "other", "wish"]) (ps := ["formula"]) (st := C03.top 61) (x := "_law_inputs") KX G ?a ?l ?c ?k rfl (fun _ _ _ _ _ _ us hl => match us, hl with | [_], _ => rfl) C03.k_cUlawUinputs
      (case a => k_is); (case l => k_is); (case c => k_is); (case k => k_is)
    case d50 =>
      refine' Pl.def_mk (N := ["value"]) (ps := ["value"]) (st := C03.top 62) (x := "_law_line_form") KX G ?a ?l ?c ?k rfl (fun _ _ _ _ _ _ us hl => match us, hl with | [_], _ => rfl) C03.k_cUlawUlineUform
      (case a => k_is); (case l => k_is); (case c => k_is); (case k => k_is)
    case d51 =>
      refine' Pl.def_mk (N := ["clauses", "found", "line", "both", "one", "two", "wish", "other"]) (ps := ["clauses", "found", "line"]) (st := C03.top 63) (x := "_law_line_clause") KX G ?a ?l ?c ?k rfl (fun _ _ _ _ _ _ us hl => match us, hl with | [_, _, _], _ => rfl) C03.k_cUlawUlineUclause
      (case a => k_is); (case l => k_is); (case c => k_is); (case k => k_is)
    case d52 =>
      refine' Pl.def_mk (N := ["formula", "value", "clauses", "found", "line", "clause"]) (ps := ["formula", "value"]) (st := C03.top 64) (x := "_law_f_clauses") KX G ?a ?l ?c ?k rfl (fun _ _ _ _ _ _ us hl => match us, hl with | [_, _], _ => rfl) C03.k_cUlawUfUclauses
      (case a => k_is); (case l => k_is); (case c => k_is); (case k => k_is)
    case d53 =>
      refine' Pl.def_mk (N := ["formula"]) (ps := ["formula"]) (st := C03.top 65) (x := "_law_made") KX G ?a ?l ?c ?k rfl (fun _ _ _ _ _ _ us hl => match us, hl with | [_], _ => rfl) C03.k_cUlawUmade
      (case a => k_is); (case l => k_is); (case c => k_is); (case k => k_is)
    case d54 =>
      refine' Pl.def_mk (N := ["script", "pool", "turn", "formula", "found", "shown", "other", "value", "here", "wrong"]) (ps := ["script"]) (st := C03.top 66) (x := "law") KX G ?a ?l ?c ?k rfl (fun _ _ _ _ _ _ us hl => match us, hl with | [_], _ => rfl) C03.k_claw
      (case a => k_is); (case l => k_is); (case c => k_is); (case k => k_is)
    case c0 =>
      refine' Pl.con_tup KX G ?z0 ?l0 ?q0 ?s0 rfl
      (case z0 => k_is); (case l0 => k_is); (case q0 => rfl); (case s0 => decide +kernel)
    case c1 =>
      refine' Pl.con_tup KX G ?z1 ?l1 ?q1 ?s1 rfl
      (case z1 => k_is); (case l1 => k_is); (case q1 => rfl); (case s1 => decide +kernel)
    case c2 =>
      refine' Pl.con_int KX G ?z2 rfl
      (case z2 => k_is)
    case x0 =>
      refine' Pl.xc_mk KX G ?xa ?xe ?xp ?xs ?xt
      (case xa => k_is); (case xe => k_exc); (case xp => k_is); (case xs => k_is); (case xt => k_is)
    case m0 =>
      refine' Pl.xm_mk ?ma ?mb ?ms ?mi ?mt ?mq
      (case ma => k_is); (case mb => k_is); (case ms => k_is); (case mi => k_is); (case mt => k_is); (case mq => first | rfl | k_is)
    case b0 => exact PySem.W.mg_none_of KX G (by k_is)
    case b1 => exact PySem.W.mg_none_of KX G (by k_is)
    case b2 => exact PySem.W.mg_none_of KX G (by k_is)
    case b3 => exact PySem.W.mg_none_of KX G (by k_is)
    case b4 => exact PySem.W.mg_none_of KX G (by k_is)
    case b5 => exact PySem.W.mg_none_of KX G (by k_is)
    case b6 => exact PySem.W.mg_none_of KX G (by k_is)
    case b7 => exact PySem.W.mg_none_of KX G (by k_is)
    case b8 => exact PySem.W.mg_none_of KX G (by k_is)
    case b9 => exact PySem.W.mg_none_of KX G (by k_is)
    case b10 => exact PySem.W.mg_none_of KX G (by k_is)
    case b11 => exact PySem.W.mg_none_of KX G (by k_is)
    case b12 => exact PySem.W.mg_none_of KX G (by k_is)
    case b13 => exact PySem.W.mg_none_of KX G (by k_is)
    case b14 => exact PySem.W.mg_none_of KX G (by k_is)
    case b15 => exact PySem.W.mg_none_of KX G (by k_is)

