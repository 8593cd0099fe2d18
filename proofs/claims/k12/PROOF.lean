import PyProof.Rows.All
import Wide.All
import OpenK.AllK
import Wide.FinOn
import PyProof.P3Statements
import PyProof.EqLayable
import KE.SortData
import HandS.ForMost
import HandS.Exc
import HandS.ExcOwn
import HandS.WordsExc
import HandS.Deep
import HandS.TupAny
import HandS.TupMul
import HandS.IsInst
import HandS.Wide
import HandS.Walk
import HandS.Zip
import HandS.DictComp
import HandS.SortOrd
import HandS.TupSets
import HandS.RaiseMore
import HandS.SetFor
import KE.GoesMore
import KE.KIndexOf
import KE.KeyNested
import HandS.Sort
import HandS.MapSum
import PyProof.SumWalkG
import KE.SortKeyHeap
import HandS.Conv
import HandS.HeadHook1
import HandS.HeadHook2
import HandS.HeadHook4
import HandS.HeadEnd
import HandS.Head0
import HandS.Head1
import HandS.Head2
import PySem.Challenge.RW_thingmakers_k12_whole_facts_of_makers

section
set_option linter.all false
set_option autoImplicit false
/-! The plain language: data, stores, expressions and statements by slots, and what they come to. No machine here. -/
namespace PP
open PySem

/-- plain data; mut: the i-th cell of the store -/
inductive D where
  | non | bl (b : Bool) | int (i : Int) | str (x : Str)
  | lst (xs : List D) | tup (xs : List D)
  | dct (kvs : List (D × D))
  | cel (i : Nat)
  | frz (xs : List D)
  | tpn (xs : List D)
  deriving Inhabited

inductive Cell where
  | lst (xs : List D)
  | dct (kvs : List (D × D))
  deriving Inhabited
abbrev Sto := List Cell
abbrev Env := List (Option D)

inductive Res (α : Type) where
  | ok (a : α) (st : Sto)
  | err (c : Nat) (st : Sto)
  | stuck

@[inline] def Res.bind {α β : Type} (r : Res α) (f : α → Sto → Res β) : Res β :=
  match r with
  | .ok a st => f a st
  | .err c st => .err c st
  | .stuck => .stuck

@[simp] theorem Res.bind_ok {α β : Type} (a : α) (st : Sto) (f : α → Sto → Res β) : (Res.ok a st).bind f = f a st := rfl
@[simp] theorem Res.bind_err {α β : Type} (c : Nat) (st : Sto) (f : α → Sto → Res β) : (Res.err c st : Res α).bind f = .err c st := rfl
@[simp] theorem Res.bind_stuck {α β : Type} (f : α → Sto → Res β) : (Res.stuck : Res α).bind f = .stuck := rfl
theorem Res.bind_bind {α β γ : Type} (r : Res α) (f : α → Sto → Res β) (g : β → Sto → Res γ) : (r.bind f).bind g = r.bind fun a st => (f a st).bind g := by
  cases r <;> rfl

/-- no error is let out -/
def Res.calm {α : Type} : Res α → Res α
  | .ok a st => .ok a st
  | .err _ _ => .stuck
  | .stuck => .stuck
def ofO {α : Type} (o : Option α) (st : Sto) : Res α := match o with
  | some a => .ok a st
  | none => .stuck
@[simp] theorem ofO_some {α : Type} (a : α) (st : Sto) : ofO (some a) st = .ok a st := rfl
@[simp] theorem ofO_none {α : Type} (st : Sto) : ofO (none : Option α) st = .stuck := rfl

/-! ### equality and order of data -/
mutual
def toPy : D → PyData
  | .non => .none
  | .bl b => .bool b
  | .int i => .int i
  | .str x => .str x
  | .lst xs => .list (toPys xs)
  | .tup xs => .tuple (toPys xs)
  | .dct _ => .dict []
  | .cel _ => .dict []
  | .frz _ => .dict []
  | .tpn _ => .dict []
def toPys : List D → List PyData
  | [] => []
  | x :: xs => toPy x :: toPys xs
end
theorem toPys_map (xs : List D) : toPys xs = xs.map toPy := by
  induction xs with
  | nil => simp [toPys]
  | cons x xs ih => simp [toPys, ih]

mutual
/-- no dict, no cell within -/
def isD : D → Bool
  | .non | .bl _ | .int _ | .str _ => true
  | .lst xs | .tup xs => isDs xs
  | .dct _ | .cel _ | .frz _ | .tpn _ => false
def isDs : List D → Bool
  | [] => true
  | x :: xs => isD x && isDs xs
end
theorem isDs_all (xs : List D) : isDs xs = xs.all isD := by
  induction xs with
  | nil => simp [isDs]
  | cons x xs ih => simp [isDs, ih]

mutual
def dep : D → Nat
  | .lst xs | .tup xs => deps xs + 1
  | _ => 0
def deps : List D → Nat
  | [] => 0
  | x :: xs => max (dep x) (deps xs)
end

mutual
/-- Python's == -/
def eqD : D → D → Bool
  | .non, .non => true
  | .bl a, .bl b => a == b
  | .bl a, .int j => (if a then 1 else 0) == j
  | .int i, .bl b => i == (if b then 1 else 0)
  | .int i, .int j => i == j
  | .str x, .str y => x == y
  | .lst xs, .lst ys => eqDs xs ys
  | .tup xs, .tup ys => eqDs xs ys
  | _, _ => false
def eqDs : List D → List D → Bool
  | [], [] => true
  | x :: xs, y :: ys => eqD x y && eqDs xs ys
  | _, _ => false
end

mutual
/-- the same data, kind by kind -/
def eqS : D → D → Bool
  | .non, .non => true
  | .bl a, .bl b => a == b
  | .int i, .int j => i == j
  | .str x, .str y => x == y
  | .lst xs, .lst ys => eqSs xs ys
  | .tup xs, .tup ys => eqSs xs ys
  | _, _ => false
def eqSs : List D → List D → Bool
  | [], [] => true
  | x :: xs, y :: ys => eqS x y && eqSs xs ys
  | _, _ => false
end

mutual
/-- Python's <, where it is defined here -/
def ltD : D → D → Option Bool
  | .int i, .int j => some (decide (i < j))
  | .str x, .str y => some (decide (x.cps.toList < y.cps.toList))
  | .tup xs, .tup ys => ltDs xs ys
  | _, _ => none
def ltDs : List D → List D → Option Bool
  | [], [] => some false
  | [], _ :: _ => some true
  | _ :: _, [] => some false
  | x :: xs, y :: ys => if eqD x y then ltDs xs ys else ltD x y
end

def lim : Nat := 1000000
def dlim : Nat := 60

/-- what stands at a cell, or the data itself -/
def deref (d : D) (st : Sto) : D := match d with
  | .cel i => match st[i]? with
    | some (.lst xs) => .lst xs
    | some (.dct kvs) => .dct kvs
    | none => .cel i
  | .tpn xs => .tup xs
  | d => d

theorem deref_cel (i : Nat) (st : Sto) : deref (.cel i) st = match st[i]? with
    | some (.lst xs) => .lst xs
    | some (.dct kvs) => .dct kvs
    | none => .cel i := rfl
def eqR (a b : D) (st : Sto) : Res Bool :=
  let a := deref a st
  let b := deref b st
  if isD a && isD b && (decide (dep a ≤ dlim) || decide (dep b ≤ dlim)) then .ok (eqD a b) st else .stuck

def inR (x : D) (c : D) (st : Sto) : Res Bool :=
  match deref c st with
  | .lst ys | .tup ys =>
    let x := deref x st
    if isD x && isDs ys && decide (dep x ≤ dlim) then .ok (ys.any fun y => eqD y x) st else .stuck
  | .str z => match x with
    | .str y => .ok (!(Builtin.Str.occurrences z y 0 z.length 1).isEmpty) st
    | _ => .stuck
  | .dct kvs => match x with
    | .int _ | .str _ => .ok (kvs.any fun kv => eqS kv.1 x) st
    | _ => .stuck
  | _ => .stuck

def ltR (a b : D) (st : Sto) : Res Bool :=
  if decide (dep a ≤ dlim) && decide (dep b ≤ dlim) && isD a && isD b then ofO (ltD a b) st else .stuck

inductive BOp where
  | add | sub | mul | mod | fdiv | pow
  deriving DecidableEq
inductive COp where
  | eq | ne | lt | le | gt | ge | isin | notin
  deriving DecidableEq

def rep {α : Type} (n : Nat) (xs : List α) : List α := (List.replicate n xs).flatten

def binR (op : BOp) (a b : D) (st : Sto) : Res D :=
  match op, a, b with
  | .add, .int i, .int j => .ok (.int (i + j)) st
  | .sub, .int i, .int j => .ok (.int (i - j)) st
  | .mul, .int i, .int j => if decide (-(2 ^ 64) < i) && decide (i < 2 ^ 64) || decide (-(2 ^ 64) < j) && decide (j < 2 ^ 64) then .ok (.int (i * j)) st else .stuck
  | .mod, .int i, .int j => if 0 < j then .ok (.int (i % j)) st else .stuck
  | .fdiv, .int i, .int j => if 0 < j ∧ j < 2 ^ 64 then .ok (.int (i / j)) st else .stuck
  | .pow, .int i, .int j => if decide (0 ≤ j) && decide (j ≤ 1000) && decide (0 ≤ i) && decide (i ≤ 100) then .ok (.int (i ^ j.toNat)) st else .stuck
  | .add, .str x, .str y => if x.length + y.length ≤ lim then .ok (.str (x ++ y)) st else .stuck
  | .add, .tup xs, .tup ys => if xs.length + ys.length ≤ lim then .ok (.tup (xs ++ ys)) st else .stuck
  | .mul, .tup xs, .int j => if decide (2 ≤ j) && decide (j ≤ 100) && decide (xs.length ≤ 1000) then .ok (.tup (rep j.toNat xs)) st else .stuck
  | .add, a, b => match deref a st, deref b st with
    | .lst xs, .lst ys => if xs.length + ys.length ≤ lim then .ok (.lst (xs ++ ys)) st else .stuck
    | _, _ => .stuck
  | _, _, _ => .stuck

def cmpR (op : COp) (a b : D) (st : Sto) : Res Bool :=
  match op with
  | .eq => eqR a b st
  | .ne => (eqR a b st).bind fun r st => .ok (!r) st
  | .lt => ltR a b st
  | .le => match a, b with
    | .int i, .int j => .ok (decide (i ≤ j)) st
    | _, _ => .stuck
  | .gt => match a, b with
    | .int i, .int j => .ok (decide (j < i)) st
    | _, _ => .stuck
  | .ge => match a, b with
    | .int i, .int j => .ok (decide (j ≤ i)) st
    | _, _ => .stuck
  | .isin => inR a b st
  | .notin => (inR a b st).bind fun r st => .ok (!r) st

/-- the place of an index, of any sign -/
def ixAt (n : Nat) (i : Int) : Option Nat :=
  if 0 ≤ i then (if i.toNat < n then some i.toNat else none) else (if (-i).toNat ≤ n then some (n - (-i).toNat) else none)
def idxR (a i : D) (st : Sto) : Res D :=
  match deref a st, i with
  | .lst xs, .int k | .tup xs, .int k | .frz xs, .int k => ofO ((ixAt xs.length k).bind fun j => xs[j]?) st
  | .str z, .int k => if z.length ≤ lim then ofO ((ixAt z.length k).bind fun j => z.cps[j]?.map fun c => .str ⟨#[c]⟩) st else .stuck
  | .dct kvs, k => match k with
    | .int _ | .str _ => ofO ((kvs.find? fun kv => eqS kv.1 k).map (·.2)) st
    | _ => .stuck
  | _, _ => .stuck

/-- where a slice's bound lies -/
def bnd (n : Nat) (dflt : Nat) : Option Int → Nat
  | none => dflt
  | some i => if 0 ≤ i then min i.toNat n else n - (-i).toNat
def sliceL {α : Type} (xs : List α) (lo hi : Option Int) : List α :=
  (xs.drop (bnd xs.length 0 lo)).take (bnd xs.length xs.length hi - bnd xs.length 0 lo)
def asInt : D → Option Int
  | .int i => some i
  | _ => none
def sliceR (a : D) (lo hi : Option Int) (st : Sto) : Res D :=
  match deref a st with
  | .lst xs => .ok (.lst (sliceL xs lo hi)) st
  | .tup xs => .ok (.tup (sliceL xs lo hi)) st
  | .str z => if z.length ≤ lim then .ok (.str ⟨(sliceL z.cps.toList lo hi).toArray⟩) st else .stuck
  | _ => .stuck
/-- x[n:], a new tuple -/
def slcNR (n : Nat) (a : D) (st : Sto) : Res D := match a with
  | .tup xs => if decide (1 ≤ n) && decide (n < xs.length) then .ok (.tpn (xs.drop n)) st else .stuck
  | _ => .stuck
def revR (a : D) (st : Sto) : Res D :=
  match a with
  | .tup xs => .ok (.tup xs.reverse) st
  | _ => .stuck

def rangeL (lo hi : Int) : List D := (List.range (hi - lo).toNat).map fun (k : Nat) => D.int (lo + (k : Int))
def isTp : D → Bool
  | .tup _ => true
  | _ => false
/-! ### built-ins by values -/
inductive Ty where
  | int | bool | tuple | list | str
  deriving DecidableEq
def hasTy (t : Ty) (d : D) (st : Sto) : Bool := match t, deref d st with
  | .int, .int _ | .int, .bl _ | .bool, .bl _ | .tuple, .tup _ | .list, .lst _ | .str, .str _ => true
  | _, _ => false
def isAny (ts : List Ty) (d : D) (st : Sto) : Bool := ts.any fun t => hasTy t d st
def isiR (ts : List Ty) (d : D) (st : Sto) : Res D := match deref d st with
  | .frz _ | .cel _ => .stuck
  | _ => .ok (.bl (isAny ts d st)) st

mutual
/-- what may be sorted here: whole numbers, texts, tuples of such -/
def ordk : D → Bool
  | .int _ | .str _ => true
  | .tup xs => ordks xs
  | _ => false
def ordks : List D → Bool
  | [] => true
  | x :: xs => ordk x && ordks xs
end
mutual
/-- what may be a member of a set here -/
def hshk : D → Bool
  | .int _ | .str _ | .bl _ => true
  | .tup xs => hshks xs
  | _ => false
def hshks : List D → Bool
  | [] => true
  | x :: xs => hshk x && hshks xs
end
def intsD : List D → Option (List Int)
  | [] => some []
  | .int i :: xs => (intsD xs).map (i :: ·)
  | _ :: _ => none
/-- sorted -/
def insD (le : D → D → Bool) (x : D) : List D → List D
  | [] => [x]
  | y :: ys => if le x y then x :: y :: ys else y :: insD le x ys
def isort (le : D → D → Bool) : List D → List D
  | [] => []
  | x :: xs => insD le x (isort le xs)
def sortD (xs : List D) : List D := isort (PySem.W.dataLe false toPy) xs
def lenD : D → Nat
  | .tup xs | .lst xs => xs.length
  | _ => 0
def alikeD (x y : D) : Bool := PySem.W.alike (toPy x) (toPy y)
def sortable (xs : List D) : Bool := (xs.all fun x => xs.all fun y => alikeD x y) && (xs.all (fun x => decide (dep x ≤ dlim))) &&
  ((xs.all fun x => match x with | .tup (_ :: _) => true | _ => false) || (xs.all fun x => match x with | .non | .tup _ => false | _ => true) || (decide (xs.length ≤ 1) && xs.all isTp))
def dedup : List D → List D
  | [] => []
  | x :: xs => x :: (dedup xs).filter fun y => !eqD x y
def settable (xs : List D) : Bool := ((intsD xs).isSome || (xs.all hshk && xs.all isTp && xs.all (fun x => decide (dep x ≤ 8)))) && decide (xs.length < 64)
def elems (d : D) (st : Sto) : Option (List D) := match deref d st with
  | .lst xs | .tup xs => some xs
  | _ => none

/-- what a walk over it meets: no cell -/
def elemsI (d : D) : Option (List D) := match d with
  | .lst xs | .tup xs | .frz xs => some xs
  | _ => none
inductive Bi where
  | len | list | tuple | sorted | sortedSet | sortedTupSet | lenSet | all | any | sum | abs | min2 | max2 | maxl | int | bool | str | dedupe | sortLen | listRg
  deriving DecidableEq

def boolsD : List D → Option (List Bool)
  | [] => some []
  | .bl b :: xs => (boolsD xs).map (b :: ·)
  | _ :: _ => none
def maxI (a : Int) : List Int → Int
  | [] => a
  | b :: bs => maxI (if b > a then b else a) bs

def biR (b : Bi) (as : List D) (st : Sto) : Res D :=
  match b, as with
  | .len, [d] => match deref d st with
    | .lst xs => .ok (.int xs.length) st
    | .tup xs => .ok (.int xs.length) st
    | .str z => if z.length ≤ lim then .ok (.int z.length) st else .stuck
    | .dct kvs => .ok (.int kvs.length) st
    | .frz xs => .ok (.int xs.length) st
    | _ => .stuck
  | .list, [d] => ofO ((elems d st).map D.lst) st
  | .tuple, [d] => ofO ((elems d st).map D.tup) st
  | .sorted, [d] => match elems d st with
    | some xs => if sortable xs && decide (xs.length ≤ lim) then .ok (.lst (sortD xs)) st else .stuck
    | none => .stuck
  | .sortedSet, [d] => match elems d st with
    | some xs => if sortable xs && settable xs && decide (xs.length ≤ 60) then .ok (.lst (sortD (dedup xs))) st else .stuck
    | none => .stuck
  | .lenSet, [d] => match elems d st with
    | some xs => if settable xs && decide (xs.length ≤ 60) then .ok (.int (dedup xs).length) st else .stuck
    | none => .stuck
  | .all, [d] => match deref d st with
    | .lst xs => ofO ((boolsD xs).map fun bs => .bl (bs.all id)) st
    | _ => .stuck
  | .any, [d] => match deref d st with
    | .lst xs => ofO ((boolsD xs).map fun bs => .bl (bs.any id)) st
    | _ => .stuck
  | .sum, [d] => match deref d st with
    | .lst xs => ofO ((intsD xs).map fun ns => .int ns.sum) st
    | _ => .stuck
  | .maxl, [d] => match deref d st with
    | .lst xs => match intsD xs with
      | some (n :: ns) => .ok (.int (maxI n ns)) st
      | _ => .stuck
    | _ => .stuck
  | .abs, [.int n] => .ok (.int (if n < 0 then -n else n)) st
  | .min2, [.int m, .int n] => .ok (.int (if n < m then n else m)) st
  | .max2, [.int m, .int n] => .ok (.int (if n > m then n else m)) st
  | .int, [.int n] => .ok (.int n) st
  | .int, [.bl b] => .ok (.int (if b then 1 else 0)) st
  | .bool, [.bl b] => .ok (.bl b) st
  | .str, [.int n] => if n.natAbs.log2 < 1920 then .ok (.str (toString n : String)) st else .stuck
  | .str, [.str x] => .ok (.str x) st
  | .dedupe, [d] => match d with
    | .lst xs => if (xs.all hshk && xs.all isTp && xs.all fun x => decide (dep x ≤ 8)) && decide (xs.length ≤ lim) then .ok (.lst (dedup xs)) st else .stuck
    | _ => .stuck
  | .sortLen, [d] => match d with
    | .lst xs => if xs.all isTp && decide (xs.length ≤ lim) then .ok (.lst (isort (fun a b => decide (lenD a ≤ lenD b)) xs)) st else .stuck
    | _ => .stuck
  | .listRg, [.int n] => if decide (0 ≤ n) && decide (n ≤ 1000) then .ok (.lst (rangeL 0 n)) st else .stuck
  | _, _ => .stuck

/-- methods -/
inductive Mt where
  | append | pop | count | index | join | split
  deriving DecidableEq
/-- the receiver's kind -/
def mtOk (m : Mt) (o : D) (st : Sto) : Bool := match m, deref o st with
  | .append, .lst _ | .pop, .lst _ | .count, .lst _ | .join, .str _ | .split, .str _ => true
  | .index, .tup _ => (match o with | .tpn _ => true | _ => false)
  | _, _ => false
def idxOf (x : D) : List D → Option Nat
  | [] => none
  | y :: ys => if eqD y x then some 0 else (idxOf x ys).map (· + 1)
def mtR (m : Mt) (o : D) (as : List D) (st : Sto) : Res D :=
  match m, o, as with
  | .append, .cel i, [x] => match st[i]? with
    | some (.lst xs) => if xs.length < lim then .ok .non (st.set i (.lst (xs ++ [x]))) else .stuck
    | _ => .stuck
  | .pop, .cel i, [] => match st[i]? with
    | some (.lst xs) => match xs.getLast? with
      | some x => .ok x (st.set i (.lst xs.dropLast))
      | none => .stuck
    | _ => .stuck
  | .index, o, [.int k] => match o with
    | .tpn xs => match intsD xs with
      | some ns => if decide (k ∈ ns) then .ok (.int (ns.idxOf k : Nat)) st else .stuck
      | none => .stuck
    | _ => .stuck
  | .count, o, [.int k] => match deref o st with
    | .lst xs => match intsD xs with
      | some ns => .ok (.int (ns.count k)) st
      | none => .stuck
    | _ => .stuck
  | _, _, _ => .stuck

def isNon : D → Bool
  | .non => true
  | _ => false
def isDct : D → Bool
  | .dct _ => true
  | _ => false
def getR (o k d : D) (st : Sto) : Res D := match o, k with
  | .dct kvs, .str k => .ok (((kvs.find? fun kv => eqS kv.1 (.str k)).map (·.2)).getD d) st
  | .dct kvs, .int k => .ok (((kvs.find? fun kv => eqS kv.1 (.int k)).map (·.2)).getD d) st
  | _, _ => .stuck
/-! ### expressions -/
mutual
inductive Tg where
  | name (i : Nat)
  | tup (ts : Tgs)
inductive Tgs where
  | nil
  | cons (t : Tg) (ts : Tgs)
end
mutual
inductive E where
  | slot (i : Nat)
  | lit (d : D)
  | tup (es : Es) | lst (es : Es) | mlst (es : Es)
  | dsp (ks : List Str) (es : Es)
  | bin (op : BOp) (a b : E)
  | neg (a : E)
  | cmp (op : COp) (a b : E)
  | rng (lo x hi : E)
  | and (a b : E) | or (a b : E) | not (a : E)
  | ife (t a b : E)
  | idx (a i : E)
  | slc (a lo hi : E) | slcF (a lo : E) | slcT (a hi : E)
  | slcN (n : Nat) (a : E)
  | rev (a : E)
  | call (f : Nat) (es : Es)
  | bi (b : Bi) (es : Es)
  | isi (ts : List Ty) (a : E)
  | mt (m : Mt) (o : E) (es : Es)
  | isn (b : Bool) (a : E)
  | isf (a : E)
  | get2 (o k d : E)
  | sumV (a : E)
  | sp (b : Bi) (a : E)
  | ddp (j : Nat) (a : E)
  | never
  | lc (elt : E) (tg : Tg) (it : It) (cond : E) (own : List Nat)
  | lc2 (elt : E) (tg : Tg) (it : It) (cond : E) (tg2 : Tg) (it2 : It) (cond2 : E) (own own2 : List Nat)
  | dc (k v : E) (tg : Tg) (it : It) (own : List Nat)
inductive Es where
  | nil
  | cons (e : E) (es : Es)
inductive It where
  | ex (e : E)
  | range (a : E)
  | range2 (a b : E)
  | enum (a : E)
  | zip (a b : E)
  | items (a : E)
end

def getS (env : Env) (i : Nat) : Option D := (env[i]?).join
mutual
def asg : Tg → D → Env → Option Env
  | .name i, d, env => some (env.set i (some d))
  | .tup ts, d, env => match d with
    | .tup xs => asgs ts xs env
    | .lst xs => asgs ts xs env
    | _ => none
def asgs : Tgs → List D → Env → Option Env
  | .nil, [], env => some env
  | .cons t ts, d :: ds, env => (asg t d env).bind fun env => asgs ts ds env
  | _, _, _ => none
end
def setAll : List Nat → List D → Env → Option Env
  | [], [], env => some env
  | i :: is, d :: ds, env => setAll is ds (env.set i (some d))
  | _, _, _ => none
def wipeE (env : Env) : List Nat → Env
  | [] => env
  | v :: vs => (wipeE env vs).set v none

def enumL (n : Nat) : List D → List D
  | [] => []
  | x :: xs => .tup [.int n, x] :: enumL (n + 1) xs
def zipL : List D → List D → List D
  | x :: xs, y :: ys => .tup [x, y] :: zipL xs ys
  | _, _ => []

/-- what a walk gives, and the cells that must stay as they are -/
structure Wk where
  xs : List D
  gd : List (Nat × List D)
def gdOk (gd : List (Nat × List D)) (st : Sto) : Bool := gd.all fun c => match st[c.1]? with
  | some (.lst ys) => eqSs c.2 ys
  | _ => false
def wkOf (d : D) (st : Sto) : Option Wk := match d with
  | .lst xs | .tup xs | .frz xs => some ⟨xs, []⟩
  | .dct kvs => some ⟨kvs.map (·.1), []⟩
  | .cel c => match st[c]? with
    | some (.lst xs) => some ⟨xs, [(c, xs)]⟩
    | _ => none
  | _ => none
def enumW (d : D) (st : Sto) : Option Wk := match d with
  | .dct _ => none
  | d => (wkOf d st).map fun w => ⟨enumL 0 w.xs, w.gd⟩
def zipW (x y : D) (st : Sto) : Option Wk := match x, y with
  | .dct _, _ => none
  | _, .dct _ => none
  | x, y => if isTp x == isTp y then (wkOf x st).bind fun v => (wkOf y st).map fun w => ⟨zipL v.xs w.xs, v.gd ++ w.gd⟩ else none
def itemsW (x : D) : Option Wk := match x with
  | .dct kvs => some ⟨kvs.map fun kv => .tup [kv.1, kv.2], []⟩
  | _ => none
def sumR (x : D) (st : Sto) : Res D := match x with
  | .dct kvs => ofO ((intsD (kvs.map (·.2))).map fun ns => .int ns.sum) st
  | _ => .stuck
/-- a comprehension: each item through f -/
def lcGo (g : Sto → Bool) (f : D → Sto → Res (Option D)) : List D → List D → Sto → Res D
  | [], acc, st => if g st then .ok (.lst acc) st else .stuck
  | x :: xs, acc, st => if g st then (f x st).bind fun r st => match r with
      | some y => if acc.length < lim then lcGo g f xs (acc ++ [y]) st else .stuck
      | none => lcGo g f xs acc st
    else .stuck
/-- two clauses: the outer item gives the list, which goes on -/
def lcGo2 (g : Sto → Bool) (f : D → List D → Sto → Res D) : List D → List D → Sto → Res D
  | [], acc, st => if g st then .ok (.lst acc) st else .stuck
  | x :: xs, acc, st => if g st then (f x acc st).bind fun r st => match r with
      | .lst acc => lcGo2 g f xs acc st
      | _ => .stuck
    else .stuck
def putD (k v : D) : List (D × D) → List (D × D)
  | [] => [(k, v)]
  | kv :: kvs => if eqS kv.1 k then (kv.1, v) :: kvs else kv :: putD k v kvs
def dcGo (g : Sto → Bool) (f : D → Sto → Res (D × D)) : List D → List (D × D) → Sto → Res D
  | [], acc, st => if g st then .ok (.dct acc) st else .stuck
  | x :: xs, acc, st => if g st then (f x st).bind fun kv st => match kv.1 with
      | .int _ => if acc.length < lim then dcGo g f xs (putD kv.1 kv.2 acc) st else .stuck
      | _ => .stuck
    else .stuck

def asB (d : D) (st : Sto) : Res Bool := match d with
  | .bl b => .ok b st
  | _ => .stuck
def asI (d : D) (st : Sto) : Res Int := match d with
  | .int i => .ok i st
  | _ => .stuck

section
variable (call : Nat → List D → Sto → Res D)
mutual
def ev : E → Env → Sto → Res D
  | .slot i, env, st => ofO (getS env i) st
  | .lit d, _, st => .ok d st
  | .tup es, env, st => (evs es env st).bind fun ds st => .ok (.tup ds) st
  | .lst es, env, st => (evs es env st).bind fun ds st => .ok (.lst ds) st
  | .mlst es, env, st => (evs es env st).bind fun ds st => .ok (.cel st.length) (st ++ [.lst ds])
  | .dsp ks es, env, st => (evs es env st).bind fun ds st => if ks.length = ds.length ∧ ks.Nodup then .ok (.dct (List.zip (ks.map D.str) ds)) st else .stuck
  | .bin op a b, env, st => (ev a env st).bind fun x st => (ev b env st).bind fun y st => binR op x y st
  | .neg a, env, st => (ev a env st).bind fun x st => (asI x st).bind fun i st => .ok (.int (-i)) st
  | .cmp op a b, env, st => (ev a env st).bind fun x st => (ev b env st).bind fun y st => (cmpR op x y st).bind fun r st => .ok (.bl r) st
  | .rng lo x hi, env, st => (ev lo env st).bind fun l st => (ev x env st).bind fun y st => (cmpR .le l y st).bind fun r st =>
      if r then (ev hi env st).bind fun h st => (cmpR .le y h st).bind fun r st => .ok (.bl r) st else .ok (.bl false) st
  | .and a b, env, st => (ev a env st).bind fun x st => (asB x st).bind fun p st => if p then ev b env st else .ok (.bl false) st
  | .or a b, env, st => (ev a env st).bind fun x st => (asB x st).bind fun p st => if p then .ok (.bl true) st else ev b env st
  | .not a, env, st => (ev a env st).bind fun x st => (asB x st).bind fun p st => .ok (.bl (!p)) st
  | .ife t a b, env, st => (ev t env st).bind fun x st => (asB x st).bind fun p st => if p then ev a env st else ev b env st
  | .idx a i, env, st => (ev a env st).bind fun x st => (ev i env st).bind fun y st => idxR x y st
  | .slc a lo hi, env, st => (ev a env st).bind fun x st => (ev lo env st).bind fun l st => (asI l st).bind fun l st => (ev hi env st).bind fun h st => (asI h st).bind fun h st => sliceR x (some l) (some h) st
  | .slcF a lo, env, st => (ev a env st).bind fun x st => (ev lo env st).bind fun l st => (asI l st).bind fun l st => sliceR x (some l) none st
  | .slcT a hi, env, st => (ev a env st).bind fun x st => (ev hi env st).bind fun h st => (asI h st).bind fun h st => sliceR x none (some h) st
  | .slcN n a, env, st => (ev a env st).bind fun x st => slcNR n x st
  | .rev a, env, st => (ev a env st).bind fun x st => revR x st
  | .call f es, env, st => (evs es env st).bind fun ds st => call f ds st
  | .bi b es, env, st => (evs es env st).bind fun ds st => biR b ds st
  | .isi ts a, env, st => (ev a env st).bind fun x st => isiR ts x st
  | .mt m o es, env, st => (ev o env st).bind fun x st => if mtOk m x st then (evs es env st).bind fun ds st => mtR m x ds st else .stuck
  | .isn b a, env, st => (ev a env st).bind fun x st => .ok (.bl (b != isNon x)) st
  | .isf a, env, st => (ev a env st).bind fun x st => (asB x st).bind fun p st => .ok (.bl (!p)) st
  | .get2 o k d, env, st => (ev o env st).bind fun x st => if isDct x then (ev k env st).bind fun y st => (ev d env st).bind fun z st => getR x y z st else .stuck
  | .sumV a, env, st => (ev a env st).bind fun x st => sumR x st
  | .sp b a, env, st => (ev a env st).bind fun x st => biR b [x] st
  | .ddp j a, env, st => (ev a env st).bind fun x st => if j < env.length then biR .dedupe [x] st else .stuck
  | .never, _, _ => .stuck
  | .lc elt tg it cond own, env, st => (evI it env st).bind fun w st =>
      (lcGo (gdOk w.gd) (fun x st => (ofO (asg tg x (wipeE env own)) st).bind fun env st => (ev cond env st).bind fun c st => (asB c st).bind fun c st =>
        if c then (ev elt env st).bind fun y st => .ok (some y) st else .ok none st) w.xs [] st).calm
  | .lc2 elt tg it cond tg2 it2 cond2 own own2, env, st => (evI it env st).bind fun w st =>
      (lcGo2 (gdOk w.gd) (fun x acc st => (ofO (asg tg x (wipeE env own)) st).bind fun env st => (ev cond env st).bind fun c st => (asB c st).bind fun c st =>
        if c then (evI it2 env st).bind fun v st =>
          lcGo (gdOk v.gd) (fun y st => (ofO (asg tg2 y (wipeE env own2)) st).bind fun env st => (ev cond2 env st).bind fun c st => (asB c st).bind fun c st =>
            if c then (ev elt env st).bind fun z st => .ok (some z) st else .ok none st) v.xs acc st
        else .ok (.lst acc) st) w.xs [] st).calm
  | .dc k v tg it own, env, st => (evI it env st).bind fun w st =>
      (dcGo (gdOk w.gd) (fun x st => (ofO (asg tg x (wipeE env own)) st).bind fun env st => (ev k env st).bind fun kd st => (ev v env st).bind fun vd st => .ok (kd, vd) st) w.xs [] st).calm
def evs : Es → Env → Sto → Res (List D)
  | .nil, _, st => .ok [] st
  | .cons e es, env, st => (ev e env st).bind fun d st => (evs es env st).bind fun ds st => .ok (d :: ds) st
def evI : It → Env → Sto → Res Wk
  | .ex e, env, st => (ev e env st).bind fun d st => ofO (wkOf d st) st
  | .range a, env, st => (ev a env st).bind fun d st => (asI d st).bind fun n st => if decide (-(2 ^ 62) ≤ n) && decide (n < 2 ^ 62) then .ok ⟨rangeL 0 n, []⟩ st else .stuck
  | .range2 a b, env, st => (ev a env st).bind fun d st => (asI d st).bind fun m st => (ev b env st).bind fun d st => (asI d st).bind fun n st =>
      if decide (-(2 ^ 62) ≤ m) && decide (m < 2 ^ 62) && decide (-(2 ^ 62) ≤ n) && decide (n < 2 ^ 62) then .ok ⟨rangeL m n, []⟩ st else .stuck
  | .enum a, env, st => (ev a env st).bind fun d st => ofO (enumW d st) st
  | .zip a b, env, st => (ev a env st).bind fun x st => (ev b env st).bind fun y st => ofO (zipW x y st) st
  | .items a, env, st => (ev a env st).bind fun x st => ofO (itemsW x) st
end

/-! ### statements -/
inductive Out where
  | nx (env : Env) | rt (d : D) | bk (env : Env) | ct (env : Env)
end
mutual
inductive S where
  | set (tg : Tg) (e : E)
  | par (is : List Nat) (es : Es)
  | aug (i : Nat) (op : BOp) (e : E)
  | ex (e : E)
  | ret (e : E) | retN
  | ite (c : E) (a b : Ss)
  | for_ (tg : Tg) (it : It) (body : Ss)
  | while_ (c : E) (body : Ss)
  | raise (c : Nat)
  | put (o i e : E)
  | pass | brk | cont | never
inductive Ss where
  | nil
  | cons (s : S) (ss : Ss)
end

def forGo (g : Sto → Bool) (f : D → Env → Sto → Res Out) : List D → Env → Sto → Res Out
  | [], env, st => if g st then .ok (.nx env) st else .stuck
  | x :: xs, env, st => if g st then (f x env st).bind fun o st => match o with
      | .nx env | .ct env => forGo g f xs env st
      | .bk env => .ok (.nx env) st
      | .rt d => .ok (.rt d) st
    else .stuck
def whileGo (f : Env → Sto → Res Out) (c : Env → Sto → Res Bool) : Nat → Env → Sto → Res Out
  | 0, _, _ => .stuck
  | n + 1, env, st => (c env st).bind fun b st => if b then (f env st).bind fun o st => match o with
      | .nx env | .ct env => whileGo f c n env st
      | .bk env => .ok (.nx env) st
      | .rt d => .ok (.rt d) st
    else .ok (.nx env) st
def augR (op : BOp) (x y : D) (st : Sto) : Res D := match op, x, y with
  | .add, .int i, .int j => .ok (.int (i + j)) st
  | .sub, .int i, .int j => .ok (.int (i - j)) st
  | _, _, _ => .stuck
def putR (o i v : D) (st : Sto) : Res Unit :=
  match o, i with
  | .cel a, .int k => match st[a]? with
    | some (.lst xs) => match ixAt xs.length k with
      | some j => .ok () (st.set a (.lst (xs.set j v)))
      | none => .stuck
    | _ => .stuck
  | _, _ => .stuck

section
variable (call : Nat → List D → Sto → Res D) (wf : Nat)
mutual
def exS : S → Env → Sto → Res Out
  | .set tg e, env, st => (ev call e env st).bind fun d st => (ofO (asg tg d env) st).bind fun env st => .ok (.nx env) st
  | .par is es, env, st => (evs call es env st).bind fun ds st => (ofO (setAll is ds env) st).bind fun env st => .ok (.nx env) st
  | .aug i op e, env, st => (ofO (getS env i) st).bind fun x st => (ev call e env st).bind fun y st => (augR op x y st).bind fun z st => .ok (.nx (env.set i (some z))) st
  | .ex e, env, st => (ev call e env st).bind fun _ st => .ok (.nx env) st
  | .ret e, env, st => (ev call e env st).bind fun d st => .ok (.rt d) st
  | .retN, _, st => .ok (.rt .non) st
  | .ite c a b, env, st => (ev call c env st).bind fun x st => (asB x st).bind fun p st => if p then exSs a env st else exSs b env st
  | .for_ tg it body, env, st => (evI call it env st).bind fun w st =>
      forGo (gdOk w.gd) (fun x env st => (ofO (asg tg x env) st).bind fun env st => exSs body env st) w.xs env st
  | .while_ c body, env, st => whileGo (fun env st => exSs body env st) (fun env st => (ev call c env st).bind fun x st => asB x st) wf env st
  | .raise c, _, st => .err c st
  | .put o i e, env, st => (ev call e env st).bind fun v st => (ev call o env st).bind fun x st => (ev call i env st).bind fun y st => (putR x y v st).bind fun _ st => .ok (.nx env) st
  | .pass, env, st => .ok (.nx env) st
  | .brk, env, st => .ok (.bk env) st
  | .cont, env, st => .ok (.ct env) st
  | .never, _, _ => .stuck
def exSs : Ss → Env → Sto → Res Out
  | .nil, env, st => .ok (.nx env) st
  | .cons s ss, env, st => (exS s env st).bind fun o st => match o with
    | .nx env => exSs ss env st
    | o => .ok o st
end
end

/-! ### programs -/
structure Fn where
  np : Nat
  ns : Nat
  body : Ss
abbrev Prg := Nat → Option (Fn ⊕ ((Nat → List D → Sto → Res D) → List D → Sto → Res D))
def outR : Res Out → Res D
  | .ok (.rt d) st => .ok d st
  | .ok (.nx _) st => .ok .non st
  | .ok _ _ => .stuck
  | .err c st => .err c st
  | .stuck => .stuck
def startE (n : Nat) (args : List D) : Env := args.map some ++ List.replicate (n - args.length) none
def callN (wf : Nat) (P : Prg) : Nat → Nat → List D → Sto → Res D
  | 0, _, _, _ => .stuck
  | n + 1, i, args, st => match P i with
    | some (.inl f) => if args.length = f.np then outR (exSs (callN wf P n) wf f.body (startE f.ns args) st) else .stuck
    | some (.inr g) => g (callN wf P n) args st
    | none => .stuck
end PP
end

section
set_option linter.all false
set_option autoImplicit false
set_option maxRecDepth 100000
set_option Elab.async false
/-! How plain data lie in the machine's heap; what a result promises. -/
namespace PP
open PySem PySem.Spec PyProof.Rows L2

def kD : Key → D
  | .inl i => .int i
  | .inr x => .str x
def keyOk : Key → Prop
  | .inl _ => True
  | .inr x => PyData.strOk x = true

mutual
inductive Rp (K : PySem.W.Frag) (im : Hp) (am : List Addr) : D → V → Prop
  | non : Rp K im am .non .non
  | bl (b : Bool) : Rp K im am (.bl b) (.bl b)
  | int (i : Int) : Rp K im am (.int i) (.int i)
  | str (x : Str) (h : PyData.strOk x = true) : Rp K im am (.str x) (.str x)
  | lst {a : Addr} {vs : List V} {ds : List D} : im a = some (.lst vs) → RpAll K im am ds vs → Rp K im am (.lst ds) (.ref a)
  | frz {a : Addr} {vs : List V} {ds : List D} : SqL K im a vs → RpAll K im am ds vs → Rp K im am (.frz ds) (.ref a)
  | tup {a : Addr} {vs : List V} {ds : List D} : SqT K im a vs → RpAll K im am ds vs → Rp K im am (.tup ds) (.ref a)
  | tpn {a : Addr} {o : Obj} {vs : List V} {ds : List D} : im a = some (.frz o (.tup vs)) → o.dict = none → RpAll K im am ds vs → Rp K im am (.tpn ds) (.ref a)
  | dct {a : Addr} {o : Obj} {ks : List (Key × V)} {ds : List (D × D)} : im a = some (.frz o (.dK ks)) → RpKs K im am ds ks → Rp K im am (.dct ds) (.ref a)
  | cel {i : Nat} {a : Addr} : am[i]? = some a → Rp K im am (.cel i) (.ref a)
inductive RpAll (K : PySem.W.Frag) (im : Hp) (am : List Addr) : List D → List V → Prop
  | nil : RpAll K im am [] []
  | cons {d : D} {v : V} {ds : List D} {vs : List V} : Rp K im am d v → RpAll K im am ds vs → RpAll K im am (d :: ds) (v :: vs)
inductive RpKs (K : PySem.W.Frag) (im : Hp) (am : List Addr) : List (D × D) → List (Key × V) → Prop
  | nil : RpKs K im am [] []
  | cons {k : Key} {d : D} {v : V} {ds : List (D × D)} {ks : List (Key × V)} : keyOk k → Rp K im am d v → RpKs K im am ds ks → RpKs K im am ((kD k, d) :: ds) ((k, v) :: ks)
end

theorem Same.seqT {K : PySem.W.Frag} {H H' : Hp} {a : Addr} {xs : List V} (e : Same H H') (h : SqT K H a xs) : SqT K H' a xs := by
  rcases h with (h | ⟨o, h⟩) | h
  · exact .inl (.inl (e _ _ h))
  · exact .inl (.inr ⟨o, e _ _ h⟩)
  · exact .inr h

section
variable {K : PySem.W.Frag} {im im' : Hp} {am am' : List Addr}
theorem pre_get {l l' : List Addr} (p : l <+: l') {i : Nat} {a : Addr} (h : l[i]? = some a) : l'[i]? = some a := by
  obtain ⟨t, rfl⟩ := p
  rw [List.getElem?_append_left (List.getElem?_eq_some_iff.mp h).1]
  exact h
mutual
theorem Rp.mono (hs : Same im im') (hp : am <+: am') : ∀ (d : D) (v : V), Rp K im am d v → Rp K im' am' d v
  | .non, _, h => by cases h; exact .non
  | .bl _, _, h => by cases h; exact .bl _
  | .int _, _, h => by cases h; exact .int _
  | .str _, _, h => by cases h with | str _ q => exact .str _ q
  | .lst ds, _, h => by cases h with | lst q r => exact .lst (hs _ _ q) (RpAll.mono hs hp ds _ r)
  | .frz ds, _, h => by cases h with | frz q r => exact .frz (Same.seq hs q) (RpAll.mono hs hp ds _ r)
  | .tpn ds, _, h => by cases h with | tpn q n r => exact .tpn (hs _ _ q) n (RpAll.mono hs hp ds _ r)
  | .tup ds, _, h => by cases h with | tup q r => exact .tup (Same.seqT hs q) (RpAll.mono hs hp ds _ r)
  | .dct ds, _, h => by cases h with | dct q r => exact .dct (hs _ _ q) (RpKs.mono hs hp ds _ r)
  | .cel _, _, h => by cases h with | cel q => exact .cel (pre_get hp q)
theorem RpAll.mono (hs : Same im im') (hp : am <+: am') : ∀ (ds : List D) (vs : List V), RpAll K im am ds vs → RpAll K im' am' ds vs
  | [], _, h => by cases h; exact .nil
  | d :: ds, _, h => by cases h with | cons q r => exact .cons (Rp.mono hs hp d _ q) (RpAll.mono hs hp ds _ r)
theorem RpKs.mono (hs : Same im im') (hp : am <+: am') : ∀ (ds : List (D × D)) (ks : List (Key × V)), RpKs K im am ds ks → RpKs K im' am' ds ks
  | [], _, h => by cases h; exact .nil
  | (k, d) :: ds, _, h => by cases h with | cons o q r => exact .cons o (Rp.mono hs hp d _ q) (RpKs.mono hs hp ds _ r)
end
theorem RpAll.length {ds : List D} {vs : List V} (h : RpAll K im am ds vs) : ds.length = vs.length := by
  induction ds generalizing vs with
  | nil => cases h; rfl
  | cons d ds ih => cases h with | cons q r => simp [ih r]
theorem RpKs.length {ds : List (D × D)} {ks : List (Key × V)} (h : RpKs K im am ds ks) : ds.length = ks.length := by
  induction ds generalizing ks with
  | nil => cases h; rfl
  | cons d ds ih => cases h with | cons o q r => simp [ih r]
theorem RpAll.get {ds : List D} {vs : List V} (h : RpAll K im am ds vs) {i : Nat} {d : D} (e : ds[i]? = some d) : ∃ v, vs[i]? = some v ∧ Rp K im am d v := by
  induction ds generalizing vs i with
  | nil => simp at e
  | cons x ds ih =>
    cases h with
    | cons q r =>
      cases i with
      | zero => simp at e; subst e; exact ⟨_, rfl, q⟩
      | succ i => simpa using ih r (i := i) (by simpa using e)
theorem RpAll.getV {ds : List D} {vs : List V} (h : RpAll K im am ds vs) {i : Nat} {v : V} (e : vs[i]? = some v) : ∃ d, ds[i]? = some d ∧ Rp K im am d v := by
  induction ds generalizing vs i with
  | nil => cases h; simp at e
  | cons x ds ih =>
    cases h with
    | cons q r =>
      cases i with
      | zero => simp at e; subst e; exact ⟨_, rfl, q⟩
      | succ i => simpa using ih r (i := i) (by simpa using e)
theorem RpAll.append {ds es : List D} {vs us : List V} (h : RpAll K im am ds vs) (g : RpAll K im am es us) : RpAll K im am (ds ++ es) (vs ++ us) := by
  induction ds generalizing vs with
  | nil => cases h; exact g
  | cons d ds ih => cases h with | cons q r => exact .cons q (ih r)
theorem RpAll.take {ds : List D} {vs : List V} (h : RpAll K im am ds vs) (n : Nat) : RpAll K im am (ds.take n) (vs.take n) := by
  induction ds generalizing vs n with
  | nil => cases h; simp; exact .nil
  | cons d ds ih =>
    cases h with
    | cons q r => cases n with
      | zero => exact .nil
      | succ n => exact .cons q (ih r n)
theorem RpAll.drop {ds : List D} {vs : List V} (h : RpAll K im am ds vs) (n : Nat) : RpAll K im am (ds.drop n) (vs.drop n) := by
  induction ds generalizing vs n with
  | nil => cases h; simp; exact .nil
  | cons d ds ih =>
    cases h with
    | cons q r => cases n with
      | zero => exact .cons q r
      | succ n => exact ih r n
theorem RpAll.reverse {ds : List D} {vs : List V} (h : RpAll K im am ds vs) : RpAll K im am ds.reverse vs.reverse := by
  induction ds generalizing vs with
  | nil => cases h; exact .nil
  | cons d ds ih =>
    cases h with
    | cons q r => rw [List.reverse_cons, List.reverse_cons]; exact (ih r).append (.cons q .nil)
theorem RpAll.set {ds : List D} {vs : List V} (h : RpAll K im am ds vs) {d : D} {v : V} (q : Rp K im am d v) (i : Nat) : RpAll K im am (ds.set i d) (vs.set i v) := by
  induction ds generalizing vs i with
  | nil => cases h; exact .nil
  | cons x ds ih =>
    cases h with
    | cons q' r => cases i with
      | zero => exact .cons q r
      | succ i => exact .cons q' (ih r i)
theorem RpAll.rep {ds : List D} {vs : List V} (h : RpAll K im am ds vs) (n : Nat) : RpAll K im am (rep n ds) (List.replicate n vs).flatten := by
  unfold PP.rep
  induction n with
  | zero => exact .nil
  | succ n ih => rw [List.replicate_succ, List.replicate_succ, List.flatten_cons, List.flatten_cons]; exact h.append ih
theorem RpAll.snoc {ds : List D} {vs : List V} (h : RpAll K im am ds vs) {d : D} {v : V} (q : Rp K im am d v) : RpAll K im am (ds ++ [d]) (vs ++ [v]) := h.append (.cons q .nil)
end

/-! ### the store in the heap -/
def CellOk (K : PySem.W.Frag) (im : Hp) (am : List Addr) (H : Hp) (a : Addr) : Cell → Prop
  | .lst ds => ∃ vs, H a = some (.lst vs) ∧ RpAll K im am ds vs
  | .dct ds => ∃ ks, H a = some (.dK ks) ∧ RpKs K im am ds ks

structure StOk (K : PySem.W.Frag) (st : Sto) (im : Hp) (am : List Addr) (H : Hp) : Prop where
  same : Same im H
  len : am.length = st.length
  nd : am.Nodup
  out : ∀ a ∈ am, im a = none
  cell : ∀ (i : Nat) (a : Addr) (c : Cell), am[i]? = some a → st[i]? = some c → CellOk K im am H a c

structure Ext (im : Hp) (am : List Addr) (H im' : Hp) (am' : List Addr) (H' : Hp) : Prop where
  same : Same im im'
  pre : am <+: am'
  fr : ∀ b o, H b = some o → b ∉ am → H' b = some o
  new : ∀ a ∈ am', a ∈ am ∨ H a = none
  nw : ∀ b o, H b = some o → b ∉ am → im b = none → im' b = none

section
variable {K : PySem.W.Frag} {im im1 im2 : Hp} {am am1 am2 : List Addr} {H H1 H2 : Hp} {st st1 : Sto}
theorem Ext.refl : Ext im am H im am H := ⟨Same.refl _, List.prefix_refl _, fun _ _ h _ => h, fun _ h => .inl h, fun _ _ _ _ h => h⟩
theorem Ext.trans (a : Ext im am H im1 am1 H1) (b : Ext im1 am1 H1 im2 am2 H2) : Ext im am H im2 am2 H2 := by
  refine ⟨a.same.trans b.same, a.pre.trans b.pre, fun c o h hc => ?_, fun c hc => ?_, fun c o h hc hi => ?_⟩
  · refine b.fr c o (a.fr c o h hc) fun h1 => ?_
    rcases a.new c h1 with q | q
    · exact hc q
    · rw [h] at q; cases q
  · by_cases hm : c ∈ am
    · exact .inl hm
    · refine .inr ?_
      rcases b.new c hc with q | q
      · rcases a.new c q with q | q
        · exact absurd q hm
        · exact q
      · cases e : H c with
        | none => rfl
        | some o => rw [a.fr c o e hm] at q; cases q
  · refine b.nw c o (a.fr c o h hc) (fun h1 => ?_) (a.nw c o h hc hi)
    rcases a.new c h1 with q | q
    · exact hc q
    · rw [h] at q; cases q
theorem same_upd {H : Hp} {p : Addr} {o : HO} (h : H p = none) : Same H (upd H p o) := fun b x e => by
  rw [upd_ne (ne_of_none e h)]; exact e
theorem StOk.imn (s : StOk K st im am H) {p : Addr} (h : H p = none) : im p = none := Same.free s.same h
theorem StOk.amn (s : StOk K st im am H) {p : Addr} (h : H p = none) : p ∉ am := fun hp => by
  obtain ⟨i, hi⟩ := List.mem_iff_getElem?.mp hp
  have hl : i < st.length := by rw [← s.len]; exact (List.getElem?_eq_some_iff.mp hi).1
  have hc := s.cell i p st[i] hi (List.getElem?_eq_getElem hl)
  cases e : st[i] with
  | lst ds => rw [e] at hc; obtain ⟨vs, q, _⟩ := hc; rw [h] at q; cases q
  | dct ds => rw [e] at hc; obtain ⟨vs, q, _⟩ := hc; rw [h] at q; cases q
theorem CellOk.mono (hs : Same im im1) (hp : am <+: am1) {a : Addr} (hH : ∀ o, H a = some o → H1 a = some o) : ∀ {c : Cell}, CellOk K im am H a c → CellOk K im1 am1 H1 a c
  | .lst _, ⟨vs, q, r⟩ => ⟨vs, hH _ q, r.mono hs hp _ _⟩
  | .dct _, ⟨ks, q, r⟩ => ⟨ks, hH _ q, r.mono hs hp _ _⟩
/-- a new object that stays as it is -/
theorem StOk.add (s : StOk K st im am H) {p : Addr} {o : HO} (h : H p = none) : StOk K st (upd im p o) am (upd H p o) := by
  have hi := s.imn h
  have ha := s.amn h
  refine ⟨fun b x e => ?_, s.len, s.nd, fun a m => ?_, fun i a c e1 e2 => ?_⟩
  · by_cases hb : b = p
    · subst hb; rw [upd_same] at e ⊢; exact e
    · rw [upd_ne hb] at e ⊢; exact s.same b x e
  · have : a ≠ p := fun e => ha (e ▸ m)
    rw [upd_ne this]; exact s.out a m
  · have m : a ∈ am := List.mem_of_getElem? e1
    have : a ≠ p := fun e => ha (e ▸ m)
    exact (s.cell i a c e1 e2).mono (same_upd hi) (List.prefix_refl _) fun o e => by rw [upd_ne this]; exact e
theorem Ext.add (s : StOk K st im am H) {p : Addr} {o : HO} (h : H p = none) : Ext im am H (upd im p o) am (upd H p o) :=
  ⟨same_upd (s.imn h), List.prefix_refl _, fun b x e _ => by rw [upd_ne (ne_of_none e h)]; exact e, fun _ m => .inl m, fun b x e _ hi => by rw [upd_ne (ne_of_none e h)]; exact hi⟩
/-- a new cell -/
theorem StOk.cellNew (s : StOk K st im am H) {p : Addr} {o : HO} {c : Cell} (h : H p = none) (hc : CellOk K im (am ++ [p]) (upd H p o) p c) : StOk K (st ++ [c]) im (am ++ [p]) (upd H p o) := by
  have hi := s.imn h
  have ha := s.amn h
  refine ⟨fun b x e => ?_, by simp [s.len], ?_, fun a m => ?_, fun i a c' e1 e2 => ?_⟩
  · have : b ≠ p := fun e' => by rw [e', hi] at e; cases e
    rw [upd_ne this]; exact s.same b x e
  · rw [List.nodup_append]
    exact ⟨s.nd, by simp, fun a m b hb => by
      have e : b = p := by simpa using hb
      subst e
      exact fun e' => ha (e' ▸ m)⟩
  · rcases List.mem_append.mp m with m | m
    · exact s.out a m
    · have e : a = p := by simpa using m
      rw [e]; exact hi
  · by_cases hl : i < am.length
    · rw [List.getElem?_append_left hl] at e1
      rw [List.getElem?_append_left (by rw [← s.len]; exact hl)] at e2
      have m : a ∈ am := List.mem_of_getElem? e1
      have : a ≠ p := fun e => ha (e ▸ m)
      exact (s.cell i a c' e1 e2).mono (Same.refl _) (List.prefix_append _ _) fun o e => by rw [upd_ne this]; exact e
    · have e : i = am.length := by
        have := (List.getElem?_eq_some_iff.mp e1).1
        simp at this; omega
      subst e
      have e1' : p = a := by simpa using e1
      have e2' : c = c' := by simpa [s.len] using e2
      subst e1'; subst e2'; exact hc
theorem Ext.cellNew (s : StOk K st im am H) {p : Addr} {o : HO} (h : H p = none) : Ext im am H im (am ++ [p]) (upd H p o) :=
  ⟨Same.refl _, List.prefix_append _ _, fun b x e _ => by rw [upd_ne (ne_of_none e h)]; exact e, fun a m => by
    rcases List.mem_append.mp m with m | m
    · exact .inl m
    · exact .inr (by have e : a = p := by simpa using m
                     rw [e]; exact h), fun _ _ _ _ h => h⟩
/-- a cell is written -/
theorem StOk.write (s : StOk K st im am H) {i : Nat} {a : Addr} {o : HO} {c : Cell} (ha : am[i]? = some a) (hc : CellOk K im am (upd H a o) a c) : StOk K (st.set i c) im am (upd H a o) := by
  have m : a ∈ am := List.mem_of_getElem? ha
  refine ⟨fun b x e => ?_, by simp [s.len], s.nd, s.out, fun j b c' e1 e2 => ?_⟩
  · have : b ≠ a := fun e' => by rw [e', s.out a m] at e; cases e
    rw [upd_ne this]; exact s.same b x e
  · by_cases hj : j = i
    · subst hj
      rw [ha] at e1; cases e1
      have hl : j < st.length := by rw [← s.len]; exact (List.getElem?_eq_some_iff.mp ha).1
      rw [List.getElem?_set_self hl] at e2; cases e2
      exact hc
    · rw [List.getElem?_set_ne (Ne.symm hj)] at e2
      have hne : b ≠ a := fun e => hj (by
        subst e
        exact (List.getElem?_inj (List.getElem?_eq_some_iff.mp e1).1 s.nd).mp (e1.trans ha.symm))
      exact (s.cell j b c' e1 e2).mono (Same.refl _) (List.prefix_refl _) fun o e => by rw [upd_ne hne]; exact e
theorem Ext.write {i : Nat} {a : Addr} {o : HO} (ha : am[i]? = some a) : Ext im am H im am (upd H a o) :=
  ⟨Same.refl _, List.prefix_refl _, fun b x e nb => by
    have : b ≠ a := fun e' => nb (e' ▸ List.mem_of_getElem? ha)
    rw [upd_ne this]; exact e, fun _ m => .inl m, fun _ _ _ _ h => h⟩
end

/-! ### what a result promises -/
section
variable (K : PySem.W.Frag) (ca : Nat → Addr)
def Wp {α β : Type} (R : Hp → List Addr → α → β → Prop) (E : XK) (im : Hp) (am : List Addr) (H : Hp) (r : Res α) (Q : β → Hp → Prop) : Prop := match r with
  | .ok a st => ∀ im' am' H' b, Ext im am H im' am' H' → StOk K st im' am' H' → R im' am' a b → Q b H'
  | .err c st => ∀ im' am' H', Ext im am H im' am' H' → StOk K st im' am' H' → E (.ref (ca c)) none H'
  | .stuck => False
end
section
variable {K : PySem.W.Frag} {ca : Nat → Addr} {α β γ δ : Type} {R : Hp → List Addr → α → β → Prop} {S : Hp → List Addr → γ → δ → Prop} {E : XK} {im im1 : Hp} {am am1 : List Addr} {H H1 : Hp} {r : Res α} {Q Q' : β → Hp → Prop} {Q2 : δ → Hp → Prop}
theorem Wp.ext (e : Ext im am H im1 am1 H1) (h : Wp K ca R E im am H r Q) : Wp K ca R E im1 am1 H1 r Q := by
  cases r with
  | ok a st => exact fun im' am' H' b x s q => h im' am' H' b (e.trans x) s q
  | err c st => exact fun im' am' H' x s => h im' am' H' (e.trans x) s
  | stuck => exact h
theorem Wp.mono (h : Wp K ca R E im am H r Q) (f : ∀ b H, Q b H → Q' b H) : Wp K ca R E im am H r Q' := by
  cases r with
  | ok a st => exact fun im' am' H' b x s q => f _ _ (h im' am' H' b x s q)
  | err c st => exact h
  | stuck => exact h
/-- a result, and what follows -/
theorem Wp.seq {f : α → Sto → Res γ} (h : Wp K ca S E im am H (r.bind f) Q2)
    (k : ∀ b H1 im1 am1 a st1, Ext im am H im1 am1 H1 → StOk K st1 im1 am1 H1 → R im1 am1 a b → Wp K ca S E im1 am1 H1 (f a st1) Q2 → Q b H1) : Wp K ca R E im am H r Q := by
  cases r with
  | ok a st => exact fun im' am' H' b x s q => k b H' im' am' a st x s q (Wp.ext x h)
  | err c st => exact h
  | stuck => exact h
theorem Wp.fin {a : α} {b : β} {st : Sto} (h : Wp K ca R E im am H (.ok a st) Q) (s : StOk K st im am H) (q : R im am a b) : Q b H := h im am H b Ext.refl s q
theorem Wp.fin1 {a : α} {b : β} {st : Sto} (h : Wp K ca R E im am H (.ok a st) Q) (x : Ext im am H im1 am1 H1) (s : StOk K st im1 am1 H1) (q : R im1 am1 a b) : Q b H1 := h im1 am1 H1 b x s q
end

/-! ### slots -/
structure EnvOk (K : PySem.W.Frag) (im : Hp) (am : List Addr) (env : Env) (σ : L2.St) : Prop where
  len : env.length = σ.length
  at_ : ∀ (i : Nat) (d : D), env[i]? = some (some d) → ∃ v, σ[i]? = some (some v) ∧ Rp K im am d v
section
variable {K : PySem.W.Frag} {im im1 : Hp} {am am1 : List Addr} {H H1 : Hp} {env : Env} {σ : L2.St}
theorem EnvOk.ext (o : EnvOk K im am env σ) (e : Ext im am H im1 am1 H1) : EnvOk K im1 am1 env σ :=
  ⟨o.len, fun i d h => let ⟨v, q, r⟩ := o.at_ i d h; ⟨v, q, Rp.mono e.same e.pre _ _ r⟩⟩
theorem EnvOk.set (o : EnvOk K im am env σ) {d : D} {v : V} (r : Rp K im am d v) (i : Nat) : EnvOk K im am (env.set i (some d)) (σ.set i (some v)) := by
  refine ⟨by simp [o.len], fun j d' h => ?_⟩
  by_cases hj : i = j
  · subst hj
    by_cases hl : i < env.length
    · rw [List.getElem?_set_self hl] at h
      have e : d = d' := by simpa using h
      subst e
      exact ⟨v, List.getElem?_set_self (by rw [← o.len]; exact hl), r⟩
    · rw [List.getElem?_eq_none (by simpa using hl)] at h; cases h
  · rw [List.getElem?_set_ne hj] at h ⊢
    exact o.at_ j d' h
theorem EnvOk.wipe (o : EnvOk K im am env σ) : ∀ vs : List Nat, EnvOk K im am (wipeE env vs) (wipe σ vs)
  | [] => o
  | w :: vs => by
    have ih := EnvOk.wipe o vs
    unfold wipeE L2.wipe
    refine ⟨by simp [ih.len], fun j d' h => ?_⟩
    by_cases hj : w = j
    · subst hj
      by_cases hl : w < (wipeE env vs).length
      · rw [List.getElem?_set_self hl] at h; cases h
      · rw [List.getElem?_eq_none (by simpa using hl)] at h; cases h
    · rw [List.getElem?_set_ne hj] at h ⊢
      exact ih.at_ j d' h
theorem EnvOk.get (o : EnvOk K im am env σ) {i : Nat} {d : D} (h : getS env i = some d) : ∃ v, σ[i]? = some (some v) ∧ Rp K im am d v := by
  unfold getS at h
  cases e : env[i]? with
  | none => rw [e] at h; cases h
  | some x =>
    rw [e] at h
    have : x = some d := h
    subst this
    exact o.at_ i d e
end

/-! ### readings by plain results -/
section
variable (K : PySem.W.Frag) (ca : Nat → Addr) (E : XK)
def tE (m : Env → Sto → Res D) : TE := fun σ H Q => ∃ im am env st, EnvOk K im am env σ ∧ StOk K st im am H ∧ Wp K ca (Rp K) E im am H (m env st) Q
def tA (m : Env → Sto → Res (List D)) : TA := fun σ H Q => ∃ im am env st, EnvOk K im am env σ ∧ StOk K st im am H ∧ Wp K ca (RpAll K) E im am H (m env st) Q
def RB : Hp → List Addr → Bool → Bool → Prop := fun _ _ a b => a = b
def tT (m : Env → Sto → Res D) : TT := fun σ H Q => ∃ im am env st, EnvOk K im am env σ ∧ StOk K st im am H ∧ Wp K ca RB E im am H ((m env st).bind asB) Q
end
theorem PE.imp {X : Cx} {e : Expr} {t t' : TE} (h : PE X e t) (f : ∀ σ H Q, t' σ H Q → t σ H Q) : PE X e t' := ⟨fun pins s σ H Q I w => h.run pins s σ H Q I (f σ H Q w)⟩
theorem PT.imp {X : Cx} {e : Expr} {t t' : TT} (h : PT X e t) (f : ∀ σ H Q, t' σ H Q → t σ H Q) : PT X e t' := ⟨fun pins s σ H Q I w => h.run pins s σ H Q I (f σ H Q w)⟩
theorem PW.imp {X : Cx} {e : Expr} {t t' : TT} (h : PW X e t) (f : ∀ σ H Q, t' σ H Q → t σ H Q) : PW X e t' := ⟨fun wh pins s σ H Q I w => h.run wh pins s σ H Q I (f σ H Q w)⟩
theorem PA.imp {X : Cx} {es : List Expr} {t t' : TA} (h : PA X es t) (f : ∀ σ H Q, t' σ H Q → t σ H Q) : PA X es t' := ⟨fun pos pins s σ H Q I w => h.run pos pins s σ H Q I (f σ H Q w)⟩
theorem PS.imp {X : Cx} {e : Stmt} {t t' : TS} (h : PS X e t) (f : ∀ D σ H, t' D σ H → t D σ H) : PS X e t' := ⟨fun pins s σ H D I w => h.run pins s σ H D I (f D σ H w)⟩
theorem PSs.imp {X : Cx} {e : List Stmt} {t t' : TS} (h : PSs X e t) (f : ∀ D σ H, t' D σ H → t D σ H) : PSs X e t' := ⟨fun pins s σ H D I w => h.run pins s σ H D I (f D σ H w)⟩
end PP
end

section
set_option linter.all false
set_option autoImplicit false
set_option maxRecDepth 100000
set_option Elab.async false
/-! Operators by values. -/
namespace PP
open PySem PySem.Spec PyProof.Rows L2

section
variable {K : PySem.W.Frag} {im : Hp} {am : List Addr} {H : Hp} {st : Sto} {d : D} {v : V}
theorem lim_size {n : Nat} (h : n ≤ lim) : n ≤ sizeLine := by rw [sizeLine_eq]; unfold lim at h; omega
theorem deref_lst (s : StOk K st im am H) (r : Rp K im am d v) {xs : List D} (e : deref d st = .lst xs) : ∃ a vs, v = .ref a ∧ H a = some (.lst vs) ∧ RpAll K im am xs vs := by
  cases r with
  | lst q r => cases e; exact ⟨_, _, rfl, s.same _ _ q, r⟩
  | @cel i a q =>
    rw [deref_cel] at e
    cases hc : st[i]? with
    | none => rw [hc] at e; cases e
    | some c =>
      rw [hc] at e
      cases c with
      | lst ys => cases e; obtain ⟨vs, h1, h2⟩ := s.cell i a _ q hc; exact ⟨a, vs, rfl, h1, h2⟩
      | dct ys => cases e
  | _ => cases e
theorem deref_tup (s : StOk K st im am H) (r : Rp K im am d v) {xs : List D} (e : deref d st = .tup xs) : ∃ a vs, v = .ref a ∧ SqT K H a vs ∧ RpAll K im am xs vs := by
  cases r with
  | tup q r => cases e; exact ⟨_, _, rfl, Same.seqT s.same q, r⟩
  | tpn q n r => cases e; exact ⟨_, _, rfl, .inl (.inr ⟨_, s.same _ _ q⟩), r⟩
  | @cel i a q =>
    rw [deref_cel] at e
    cases hc : st[i]? with
    | none => rw [hc] at e; cases e
    | some c =>
      rw [hc] at e
      cases c <;> cases e
  | _ => cases e
theorem tp_of (r : Rp K im am d v) {xs : List D} (e : deref d st = .tup xs) : Rp K im am (.tup xs) v := by
  cases r with
  | tup q r => cases e; exact .tup q r
  | tpn q n r => cases e; exact .tup (.inl (.inr ⟨_, q⟩)) r
  | @cel i a q =>
    rw [deref_cel] at e
    cases hc : st[i]? with
    | none => rw [hc] at e; cases e
    | some c =>
      rw [hc] at e
      cases c <;> cases e
  | _ => cases e
theorem deref_frz (s : StOk K st im am H) (r : Rp K im am d v) {xs : List D} (e : deref d st = .frz xs) : ∃ a vs, v = .ref a ∧ SqL K H a vs ∧ RpAll K im am xs vs := by
  cases r with
  | frz q r => cases e; exact ⟨_, _, rfl, Same.seq s.same q, r⟩
  | @cel i a q =>
    rw [deref_cel] at e
    cases hc : st[i]? with
    | none => rw [hc] at e; cases e
    | some c =>
      rw [hc] at e
      cases c <;> cases e
  | _ => cases e
theorem deref_dct (s : StOk K st im am H) (r : Rp K im am d v) {xs : List (D × D)} (e : deref d st = .dct xs) : ∃ a ks, v = .ref a ∧ Rd H a (.dK ks) ∧ RpKs K im am xs ks := by
  cases r with
  | dct q r => cases e; exact ⟨_, _, rfl, .inr ⟨_, s.same _ _ q⟩, r⟩
  | @cel i a q =>
    rw [deref_cel] at e
    cases hc : st[i]? with
    | none => rw [hc] at e; cases e
    | some c =>
      rw [hc] at e
      cases c with
      | lst ys => cases e
      | dct ys => cases e; obtain ⟨vs, h1, h2⟩ := s.cell i a _ q hc; exact ⟨a, vs, rfl, .inl h1, h2⟩
  | _ => cases e
theorem dgetR {H : Hp} {a : Addr} {kvs : List (Key × V)} {k : Key} (e : Rd H a (.dK kvs)) : DGet H a (kV k) (valV kvs k) := .inl ⟨kvs, k, e, rfl, rfl⟩
theorem deref_flat (r : Rp K im am d v) (h : (match deref d st with | .lst _ | .tup _ | .dct _ | .frz _ | .cel _ => false | _ => true) = true) : deref d st = d ∧ (match d with | .lst _ | .tup _ | .dct _ | .frz _ | .cel _ => false | _ => true) = true := by
  cases d with
  | cel i =>
    exfalso
    rw [deref_cel] at h
    cases hc : st[i]? with
    | none => rw [hc] at h; cases h
    | some c => rw [hc] at h; cases c <;> cases h
  | tpn xs => cases h
  | _ => exact ⟨rfl, h⟩

/-! ### plain data, as the library reads them -/
mutual
theorem Rp.dp (hs : Same im H) : ∀ (d : D) (v : V), Rp K im am d v → isD d = true → Dp K H v (toPy d) ∧ (toPy d).canLay0 = true
  | .non, _, h, _ => by cases h; exact ⟨.non, by simp [toPy, PyData.canLay0]⟩
  | .bl _, _, h, _ => by cases h; exact ⟨.bl _, by simp [toPy, PyData.canLay0]⟩
  | .int _, _, h, _ => by cases h; exact ⟨.int _, by simp [toPy, PyData.canLay0]⟩
  | .str x, _, h, _ => by cases h with | str _ q => exact ⟨.str _, by simpa [toPy, PyData.canLay0] using q⟩
  | .lst ds, _, h, e => by
    cases h with
    | lst q r =>
      obtain ⟨h1, h2⟩ := RpAll.dp hs ds _ r (by simpa [isD] using e)
      exact ⟨by rw [toPy]; exact .lst (.of (hs _ _ q)) h1, by simpa [toPy, PyData.canLay0] using h2⟩
  | .tup ds, _, h, e => by
    cases h with
    | tup q r =>
      obtain ⟨h1, h2⟩ := RpAll.dp hs ds _ r (by simpa [isD] using e)
      exact ⟨by rw [toPy]; exact .tup (Same.seqT hs q) h1, by simpa [toPy, PyData.canLay0] using h2⟩
  | .dct _, _, _, e => by simp [isD] at e
  | .cel _, _, _, e => by simp [isD] at e
  | .frz _, _, _, e => by simp [isD] at e
  | .tpn _, _, _, e => by simp [isD] at e
theorem RpAll.dp (hs : Same im H) : ∀ (ds : List D) (vs : List V), RpAll K im am ds vs → isDs ds = true → DpAll K H vs (toPys ds) ∧ PyData.canLayAll0 (toPys ds) = true
  | [], _, h, _ => by cases h; exact ⟨by rw [toPys]; exact .nil, by simp [toPys, PyData.canLayAll0]⟩
  | d :: ds, _, h, e => by
    cases h with
    | cons q r =>
      have e' : isD d = true ∧ isDs ds = true := by simpa [isDs] using e
      obtain ⟨a1, a2⟩ := Rp.dp hs d _ q e'.1
      obtain ⟨b1, b2⟩ := RpAll.dp hs ds _ r e'.2
      exact ⟨by rw [toPys]; exact .cons a1 b1, by simp [toPys, PyData.canLayAll0, a2, b2]⟩
end
theorem deref_dp (s : StOk K st im am H) (r : Rp K im am d v) (e : isD (deref d st) = true) : Dp K H v (toPy (deref d st)) ∧ (toPy (deref d st)).canLay0 = true := by
  cases d with
  | cel i =>
    cases hc : deref (.cel i) st with
    | lst xs =>
      rw [hc] at e
      obtain ⟨a, vs, rfl, h1, h2⟩ := deref_lst s r hc
      obtain ⟨b1, b2⟩ := RpAll.dp s.same xs vs h2 (by simpa [isD] using e)
      exact ⟨by rw [toPy]; exact .lst (.of h1) b1, by simpa [toPy, PyData.canLay0] using b2⟩
    | tup xs =>
      rw [hc] at e
      obtain ⟨a, vs, rfl, h1, h2⟩ := deref_tup s r hc
      obtain ⟨b1, b2⟩ := RpAll.dp s.same xs vs h2 (by simpa [isD] using e)
      exact ⟨by rw [toPy]; exact .tup h1 b1, by simpa [toPy, PyData.canLay0] using b2⟩
    | dct xs => rw [hc] at e; simp [isD] at e
    | cel j => rw [hc] at e; simp [isD] at e
    | frz j => rw [hc] at e; simp [isD] at e
    | tpn j => rw [hc] at e; simp [isD] at e
    | non => exfalso; rw [deref_cel] at hc; cases q : st[i]? with
      | none => rw [q] at hc; cases hc
      | some c => rw [q] at hc; cases c <;> cases hc
    | bl b => exfalso; rw [deref_cel] at hc; cases q : st[i]? with
      | none => rw [q] at hc; cases hc
      | some c => rw [q] at hc; cases c <;> cases hc
    | int b => exfalso; rw [deref_cel] at hc; cases q : st[i]? with
      | none => rw [q] at hc; cases hc
      | some c => rw [q] at hc; cases c <;> cases hc
    | str b => exfalso; rw [deref_cel] at hc; cases q : st[i]? with
      | none => rw [q] at hc; cases hc
      | some c => rw [q] at hc; cases c <;> cases hc
  | tpn xs =>
    cases r with
    | tpn q n r =>
      have e : isD (.tup xs) = true := e
      have : Rp K im am (.tup xs) (.ref _) := .tup (.inl (.inr ⟨_, q⟩)) r
      exact Rp.dp s.same _ _ this e
  | _ => exact Rp.dp s.same _ _ r e
mutual
theorem dep_py : ∀ d : D, isD d = true → (toPy d).depth = dep d
  | .non, _ => by simp [toPy, PyData.depth, dep]
  | .bl _, _ => by simp [toPy, PyData.depth, dep]
  | .int _, _ => by simp [toPy, PyData.depth, dep]
  | .str _, _ => by simp [toPy, PyData.depth, dep]
  | .lst ds, e => by simp [toPy, PyData.depth, dep, deps_py ds (by simpa [isD] using e)]
  | .tup ds, e => by simp [toPy, PyData.depth, dep, deps_py ds (by simpa [isD] using e)]
  | .dct _, e => by simp [isD] at e
  | .cel _, e => by simp [isD] at e
  | .frz _, e => by simp [isD] at e
  | .tpn _, e => by simp [isD] at e
theorem deps_py : ∀ ds : List D, isDs ds = true → PyData.depthAll (toPys ds) = deps ds
  | [], _ => by simp [toPys, PyData.depthAll, deps]
  | d :: ds, e => by
    have e' : isD d = true ∧ isDs ds = true := by simpa [isDs] using e
    simp [toPys, PyData.depthAll, deps, dep_py d e'.1, deps_py ds e'.2]
end
mutual
theorem eq_py : ∀ d e : D, isD d = true → isD e = true → PyData.eqv (toPy d) (toPy e) = eqD d e
  | .non, e, _, h => by cases e <;> simp [toPy, PyData.eqv, eqD, isD] at h ⊢
  | .bl _, e, _, h => by cases e <;> simp [toPy, PyData.eqv, eqD, isD] at h ⊢
  | .int _, e, _, h => by cases e <;> simp [toPy, PyData.eqv, eqD, isD] at h ⊢
  | .str _, e, _, h => by cases e <;> simp [toPy, PyData.eqv, eqD, isD] at h ⊢
  | .lst ds, e, h1, h => by
    cases e with
    | lst es => simp [toPy, PyData.eqv, eqD, eqs_py ds es (by simpa [isD] using h1) (by simpa [isD] using h)]
    | _ => simp [toPy, PyData.eqv, eqD, isD] at h ⊢
  | .tup ds, e, h1, h => by
    cases e with
    | tup es => simp [toPy, PyData.eqv, eqD, eqs_py ds es (by simpa [isD] using h1) (by simpa [isD] using h)]
    | _ => simp [toPy, PyData.eqv, eqD, isD] at h ⊢
  | .dct _, _, e, _ => by simp [isD] at e
  | .cel _, _, e, _ => by simp [isD] at e
  | .frz _, _, e, _ => by simp [isD] at e
  | .tpn _, _, e, _ => by simp [isD] at e
theorem eqs_py : ∀ ds es : List D, isDs ds = true → isDs es = true → PyData.eqvAll (toPys ds) (toPys es) = eqDs ds es
  | [], [], _, _ => by simp [toPys, PyData.eqvAll, eqDs]
  | [], e :: es, _, _ => by simp [toPys, PyData.eqvAll, eqDs]
  | d :: ds, [], _, _ => by simp [toPys, PyData.eqvAll, eqDs]
  | d :: ds, e :: es, h1, h2 => by
    have a : isD d = true ∧ isDs ds = true := by simpa [isDs] using h1
    have b : isD e = true ∧ isDs es = true := by simpa [isDs] using h2
    simp [toPys, PyData.eqvAll, eqDs, eq_py d e a.1 b.1, eqs_py ds es a.2 b.2]
end
end

/-! ### rules -/
section
variable {X : Cx} {ca : Nat → Addr} {E : XK}
abbrev Got1 (X : Cx) (ca : Nat → Addr) (E : XK) (f : D → Sto → Res D) : V → Hp → VK → Prop := fun x H Q => ∃ im am st d, StOk X.K st im am H ∧ Rp X.K im am d x ∧ Wp X.K ca (Rp X.K) E im am H (f d st) Q
abbrev Got2 (X : Cx) (ca : Nat → Addr) (E : XK) (f : D → D → Sto → Res D) : R2 := fun x y H Q => ∃ im am st d e, StOk X.K st im am H ∧ Rp X.K im am d x ∧ Rp X.K im am e y ∧ Wp X.K ca (Rp X.K) E im am H (f d e st) Q

/-- == of data -/
theorem op_eqR (hu : X.A.units + 64 < cLine) : OpR X (compareOp .Eq) (Got2 X ca E fun d e st => (eqR d e st).bind fun r st => .ok (.bl r) st) := by
  intro pins s σ H x y v u Q I rx ry ⟨im, am, st, d, e, so, rd, re, w⟩
  simp only [eqR] at w
  split at w
  · rename_i hc
    simp only [Bool.and_eq_true, Bool.or_eq_true, decide_eq_true_eq] at hc
    obtain ⟨⟨h1, h2⟩, h3⟩ := hc
    obtain ⟨a1, a2⟩ := deref_dp so rd h1
    obtain ⟨b1, b2⟩ := deref_dp so re h2
    obtain ⟨as, r1⟩ := Dp.reads I _ x v a1 rx
    obtain ⟨bs, r2⟩ := Dp.reads I _ y u b1 ry
    refine SeqAt.compareEq_reads r1 r2 a2 b2 ?_ ⟨.bl _, H, I, rfl, ?_⟩
    · rw [dep_py _ h1, dep_py _ h2]; unfold dlim at h3; omega
    · have q := w.fin so (.bl _)
      rw [eq_py _ _ h1 h2]
      exact q
  · exact w.elim
theorem op_neR (hu : X.A.units + 64 < cLine) : OpR X (compareOp .NotEq) (Got2 X ca E fun d e st => (eqR d e st).bind fun r st => .ok (.bl (!r)) st) := by
  intro pins s σ H x y v u Q I rx ry ⟨im, am, st, d, e, so, rd, re, w⟩
  simp only [eqR] at w
  split at w
  · rename_i hc
    simp only [Bool.and_eq_true, Bool.or_eq_true, decide_eq_true_eq] at hc
    obtain ⟨⟨h1, h2⟩, h3⟩ := hc
    obtain ⟨a1, a2⟩ := deref_dp so rd h1
    obtain ⟨b1, b2⟩ := deref_dp so re h2
    obtain ⟨as, r1⟩ := Dp.reads I _ x v a1 rx
    obtain ⟨bs, r2⟩ := Dp.reads I _ y u b1 ry
    refine SeqAt.compareNe_reads r1 r2 a2 b2 ?_ ⟨.bl _, H, I, rfl, ?_⟩
    · rw [dep_py _ h1, dep_py _ h2]; unfold dlim at h3; omega
    · have q := w.fin so (.bl _)
      rw [eq_py _ _ h1 h2]
      exact q
  · exact w.elim
end
end PP
end

section
set_option linter.all false
set_option autoImplicit false
set_option maxRecDepth 100000
set_option maxHeartbeats 4000000
set_option Elab.async false
/-! < of nested data. -/
namespace PP
open PySem PySem.Spec PyProof.Rows L2

def LtAt (A : Around) (s : Shared) (a b : Value) (r : Bool) : Prop :=
  ∀ (prog : Program) (w : World) (E : Value → Shared → Prop) (Q : Value → Shared → Prop), Q (.bool r) s → wpAny (model prog w) A (richCompare .Lt a b) Q E s
inductive PLt (A : Around) (s : Shared) : List Value → List Value → Bool → Prop
  | nn : PLt A s [] [] false
  | nc {w : Value} {ws : List Value} : PLt A s [] (w :: ws) true
  | cn {v : Value} {vs : List Value} : PLt A s (v :: vs) [] false
  | eq {v w : Value} {vs ws : List Value} {r : Bool} : SeqAt.EqAt A s v w true → PLt A s vs ws r → PLt A s (v :: vs) (w :: ws) r
  | ne {v w : Value} {vs ws : List Value} {r : Bool} : SeqAt.EqAt A s v w false → LtAt A s v w r → PLt A s (v :: vs) (w :: ws) r
section
open PySem.SeqAt
open PySem.AutoSeq1 (wpAny_loadPart')
open PySem.MeetsSeq PySem.MeetsSeq2 PySem.MeetsSeq3
theorem tuple_lt_gen (l b : Addr) (items items2 : Array Value) (n n2 : Nat) (dd dd2 : Option Addr) (sl sl2 : Array (Option Value)) (r : Bool) :
    Meets (Builtin.«tuple.__lt__» ⟨[.ref l, .ref b], []⟩)
      (fun A R s => s.heap.get? l = some { cls := .type "tuple", dict := dd, data := .seq items n, slots := sl } ∧ s.heap.get? b = some { cls := .type "tuple", dict := dd2, data := .seq items2 n2, slots := sl2 } ∧
        PLt A.in1 s items.toList items2.toList r ∧ R (.ok (.ret (.bool r))) s) :=
  .of_wp fun prog w A R s h => by
    obtain ⟨hp, g, d, tk, os⟩ := s; obtain ⟨hl, hb, hP, h⟩ := h
    have f2 := AutoSeq1.sub_tuple_tuple
    wp_walk using wpAny_loadPart' hl, wpAny_loadPart' hb, wpAny_forIn_list _ (fun rest b s' => b.1 = none ∧ s' = ⟨hp, g, d, tk, os⟩ ∧ ∃ (vs ws : List Value), rest = vs.zip ws ∧
      vs.length + items2.size = ws.length + items.size ∧ PLt A.in1 ⟨hp, g, d, tk, os⟩ vs ws r) _
    case turn =>
      rintro ⟨y, x⟩ rest b s' ⟨hb', rfl, vs, ws, hz, hlen, hR⟩
      cases hR with
      | nn => cases hz
      | nc => rw [List.zip_nil_left] at hz; cases hz
      | cn => rw [List.zip_nil_right] at hz; cases hz
      | eq he hR' =>
        rw [List.zip_cons_cons] at hz
        injection hz with hyx hrest
        injection hyx with hy hx
        subst hy hx
        simp only [List.length_cons] at hlen
        refine wpAny_bind (he prog w _ _ ?_)
        wp_walk
        exact ⟨rfl, rfl, _, _, hrest, by omega, hR'⟩
      | ne he hL =>
        rw [List.zip_cons_cons] at hz
        injection hz with hyx hrest
        injection hyx with hy hx
        subst hy hx
        simp only [List.length_cons] at hlen
        refine wpAny_bind (he prog w _ _ ?_)
        have hri := fun E Q => hL prog w E Q
        wp_walk using hri
        exact ⟨_, rfl, by simpa using h⟩
    case fin =>
      rintro ⟨b1, b2⟩ s' ⟨hb', rfl, vs, ws, hz, hlen, hR⟩
      simp only at hb'
      subst hb'
      have hv : r = decide (items.size < items2.size) := by
        cases hR with
        | nn => simp only [List.length_nil] at hlen; exact (decide_eq_false (by omega)).symm
        | nc => simp only [List.length_nil, List.length_cons] at hlen; exact (decide_eq_true (by omega)).symm
        | cn => simp only [List.length_nil, List.length_cons] at hlen; exact (decide_eq_false (by omega)).symm
        | eq he hR' => rw [List.zip_cons_cons] at hz; cases hz
        | ne he hL => rw [List.zip_cons_cons] at hz; cases hz
      rw [hv] at h
      wp_walk
      exact ⟨_, rfl, by simpa [Builtin.Tuple.tupleCompareSizes] using h⟩
    case h =>
      exact ⟨rfl, rfl, items.toList, items2.toList, rfl, by simp; omega, hP⟩
theorem lt_tuple {A : Around} {s : Shared} {l b : Addr} {items items2 : Array Value} {r : Bool} (hl : IsTup s.heap l items) (hb : IsTup s.heap b items2) (hP : PLt A.in1 s items.toList items2.toList r) (hu : A.units < cLine) : LtAt A s (.ref l) (.ref b) r := by
  intro prog w E Q h
  obtain ⟨⟨cls, dd, data, sl⟩, ho, hc, n, hd⟩ := id hl
  obtain ⟨⟨cls2, dd2, data2, sl2⟩, ho2, hc2, n2, hd2⟩ := id hb
  simp only at hc hd hc2 hd2
  subst hc hd hc2 hd2
  exact richCompare_meets_room (op := .Lt) ⟨_, ho, rfl⟩ ⟨_, ho2, rfl⟩ PySem.F.slot_tuple_lt PySem.F.entry_tuple_lt (PySem.F.args_tuple_lt_2 _ _) (tuple_lt_gen l b items items2 n n2 dd dd2 sl sl2 r)
    ⟨ho, ho2, hP, show Value.bool r ≠ Value.notImplemented ∧ Q (.bool r) s from ⟨(fun x => nomatch x), h⟩⟩ hu
end
mutual
theorem lt_reads : ∀ (d e : D) (A : Around) (s : Shared) (a b : Value) (as bs : List Addr) (r : Bool), Reads s.heap a (toPy d) as → Reads s.heap b (toPy e) bs → isD d = true → isD e = true → (toPy d).canLay0 = true → (toPy e).canLay0 = true →
    A.units + dep d < cLine → ltD d e = some r → LtAt A s a b r
  | .int i, e, A, s, a, b, as, bs, r, ra, rb, _, _, _, _, hu, h => by
    cases e with
    | int j =>
      simp only [toPy] at ra rb
      cases ra; cases rb
      simp only [ltD, Option.some.injEq] at h
      subst h
      exact fun prog w E Q q => (PyProof.Rows.lt_int q : wpAny (model prog w) A (compareOp .Lt (.int i _) (.int j _)) Q E s)
    | _ => simp [ltD] at h
  | .str x, e, A, s, a, b, as, bs, r, ra, rb, _, _, _, _, hu, h => by
    cases e with
    | str y =>
      simp only [toPy] at ra rb
      cases ra; cases rb
      simp only [ltD, Option.some.injEq] at h
      subst h
      exact fun prog w E Q q => (PySem.P.lt_str q : wpAny (model prog w) A (compareOp .Lt (.str x _) (.str y _)) Q E s)
    | _ => simp [ltD] at h
  | .tup xs, e, A, s, a, b, as, bs, r, ra, rb, id1, ie1, cd, ce, hu, h => by
    cases e with
    | tup ys =>
      simp only [toPy] at ra rb
      cases ra with
      | tuple ho hc hd hr =>
        cases rb with
        | tuple ho2 hc2 hd2 hr2 =>
          refine lt_tuple ⟨_, ho, hc, _, hd⟩ ⟨_, ho2, hc2, _, hd2⟩ (lts_reads xs ys A.in1 s _ _ _ _ r hr hr2 (by simpa [isD] using id1) (by simpa [isD] using ie1) (by simpa [toPy, PyData.canLay0] using cd) (by simpa [toPy, PyData.canLay0] using ce) ?_ (by simpa [ltD] using h)) (by omega)
          show A.units + 1 + deps xs < cLine
          simp only [dep] at hu; omega
    | _ => simp [ltD] at h
  | .non, e, _, _, _, _, _, _, _, _, _, _, _, _, _, _, h => by simp [ltD] at h
  | .bl _, e, _, _, _, _, _, _, _, _, _, _, _, _, _, _, h => by simp [ltD] at h
  | .lst _, e, _, _, _, _, _, _, _, _, _, _, _, _, _, _, h => by simp [ltD] at h
  | .dct _, e, _, _, _, _, _, _, _, _, _, _, _, _, _, _, h => by simp [ltD] at h
  | .cel _, e, _, _, _, _, _, _, _, _, _, _, _, _, _, _, h => by simp [ltD] at h
  | .frz _, e, _, _, _, _, _, _, _, _, _, _, _, _, _, _, h => by simp [ltD] at h
  | .tpn _, e, _, _, _, _, _, _, _, _, _, _, _, _, _, _, h => by simp [ltD] at h
theorem lts_reads : ∀ (ds es : List D) (A : Around) (s : Shared) (vs ws : List Value) (as bs : List Addr) (r : Bool), ReadsAll s.heap vs (toPys ds) as → ReadsAll s.heap ws (toPys es) bs → isDs ds = true → isDs es = true → PyData.canLayAll0 (toPys ds) = true → PyData.canLayAll0 (toPys es) = true →
    A.units + deps ds < cLine → ltDs ds es = some r → PLt A s vs ws r
  | [], [], _, _, _, _, _, _, _, ra, rb, _, _, _, _, _, h => by
    simp only [toPys] at ra rb
    cases ra; cases rb
    simp only [ltDs, Option.some.injEq] at h; subst h; exact .nn
  | [], _ :: _, _, _, _, _, _, _, _, ra, rb, _, _, _, _, _, h => by
    simp only [toPys] at ra rb
    cases ra; cases rb
    simp only [ltDs, Option.some.injEq] at h; subst h; exact .nc
  | _ :: _, [], _, _, _, _, _, _, _, ra, rb, _, _, _, _, _, h => by
    simp only [toPys] at ra rb
    cases ra; cases rb
    simp only [ltDs, Option.some.injEq] at h; subst h; exact .cn
  | d :: ds, e :: es, A, s, vs, ws, as, bs, r, ra, rb, id1, ie1, cd, ce, hu, h => by
    simp only [toPys] at ra rb cd ce
    have i1 : isD d = true ∧ isDs ds = true := by simpa [isDs] using id1
    have i2 : isD e = true ∧ isDs es = true := by simpa [isDs] using ie1
    have c1 : (toPy d).canLay0 = true ∧ PyData.canLayAll0 (toPys ds) = true := by simpa [PyData.canLayAll0] using cd
    have c2 : (toPy e).canLay0 = true ∧ PyData.canLayAll0 (toPys es) = true := by simpa [PyData.canLayAll0] using ce
    have u1 : A.units + dep d < cLine := by simp only [deps] at hu; omega
    have u2 : A.units + deps ds < cLine := by simp only [deps] at hu; omega
    cases ra with
    | cons q1 q2 =>
      cases rb with
      | cons p1 p2 =>
        have he := SeqAt.eqAt_reads _ _ A s _ _ _ _ q1 p1 c1.1 c2.1 (by rw [dep_py d i1.1]; omega)
        rw [eq_py d e i1.1 i2.1] at he
        rw [ltDs] at h
        cases hq : eqD d e with
        | true => rw [hq] at he h; exact .eq he (lts_reads ds es A s _ _ _ _ r q2 p2 i1.2 i2.2 c1.2 c2.2 u2 (by simpa using h))
        | false => rw [hq] at he h; exact .ne he (lt_reads d e A s _ _ _ _ r q1 p1 i1.1 i2.1 c1.1 c2.1 u1 (by simpa using h))
end
end PP
end

section
set_option linter.all false
set_option autoImplicit false
set_option maxRecDepth 100000
set_option Elab.async false
/-! Operators by values, on. -/
namespace PP
open PySem PySem.Spec PyProof.Rows L2

theorem tuple_mulW0 (l : Addr) (items : Array Value) (n : Nat) (dd : Option Addr) (sl : Array (Option Value)) (x : Int) (u : Tok) (c0 : (decide (x < -(2 ^ 63)) || decide (x ≥ 2 ^ 63)) = false) (c1 : (items.isEmpty || x == 1) = true) :
    Meets (Builtin.«tuple.__mul__» ⟨[.ref l, .int x u], []⟩) (fun _ R s => s.heap.get? l = some { cls := .type "tuple", dict := dd, data := .seq items n, slots := sl } ∧
      R (.ok (.ret (Value.ref l))) s) :=
  .of_wp fun prog w A R s h => by
    obtain ⟨hp, g, d, tk, os⟩ := s
    obtain ⟨hl, h⟩ := h
    have f1 := AutoSeq1.idx_int
    wp_walk using AutoSeq1.wpAny_loadPart' hl
    repeat (first
      | (refine wpAny_ite_false (decide_eq_false (by rw [c0]; exact Bool.false_ne_true)) ?_; wp_walk using AutoSeq1.wpAny_loadPart' hl)
      | (refine wpAny_ite_true (decide_eq_true c1) ?_; wp_walk using AutoSeq1.wpAny_loadPart' hl))
    exact ⟨_, rfl, h⟩
section
variable {X : Cx} {ca : Nat → Addr} {E : XK}
abbrev bw (f : D → D → Sto → Res Bool) : D → D → Sto → Res D := fun d e st => (f d e st).bind fun r st => .ok (.bl r) st

theorem op_ltR (hu : X.A.units + 64 < cLine) : OpR X (compareOp .Lt) (Got2 X ca E (bw ltR)) := by
  intro pins s σ H x y v u Q I rx ry ⟨im, am, st, d, e, so, rd, re, w⟩
  simp only [bw, ltR] at w
  split at w
  · rename_i hc
    simp only [Bool.and_eq_true, decide_eq_true_eq] at hc
    obtain ⟨⟨⟨h1, h2⟩, h3⟩, h4⟩ := hc
    cases hl : ltD d e with
    | none => rw [hl] at w; exact w.elim
    | some r =>
      rw [hl] at w
      obtain ⟨a1, a2⟩ := Rp.dp so.same _ _ rd h3
      obtain ⟨b1, b2⟩ := Rp.dp so.same _ _ re h4
      obtain ⟨as, r1⟩ := Dp.reads I _ x v a1 rx
      obtain ⟨bs, r2⟩ := Dp.reads I _ y u b1 ry
      exact (lt_reads d e X.A s v u _ _ r r1 r2 h3 h4 a2 b2 (by unfold dlim at h1; omega) hl) _ _ _ _ ⟨.bl r, H, I, rfl, Wp.fin (st := st) w so (.bl _)⟩
  · exact w.elim
theorem op_leR : OpR X (compareOp .LtE) (Got2 X ca E (bw (cmpR .le))) := by
  intro pins s σ H x y v u Q I rx ry ⟨im, am, st, d, e, so, rd, re, w⟩
  simp only [bw, cmpR] at w
  split at w
  · cases rd; cases re
    exact op_le pins s σ H _ _ v u Q I rx ry ⟨_, _, rfl, rfl, Wp.fin (st := st) w so (.bl _)⟩
  · exact w.elim
theorem op_gtR : OpR X (compareOp .Gt) (Got2 X ca E (bw (cmpR .gt))) := by
  intro pins s σ H x y v u Q I rx ry ⟨im, am, st, d, e, so, rd, re, w⟩
  simp only [bw, cmpR] at w
  split at w
  · cases rd; cases re
    exact op_gt pins s σ H _ _ v u Q I rx ry ⟨_, _, rfl, rfl, Wp.fin (st := st) w so (.bl _)⟩
  · exact w.elim
theorem op_geR : OpR X (compareOp .GtE) (Got2 X ca E (bw (cmpR .ge))) := by
  intro pins s σ H x y v u Q I rx ry ⟨im, am, st, d, e, so, rd, re, w⟩
  simp only [bw, cmpR] at w
  split at w
  · cases rd; cases re
    exact op_ge pins s σ H _ _ v u Q I rx ry ⟨_, _, rfl, rfl, Wp.fin (st := st) w so (.bl _)⟩
  · exact w.elim

theorem kD_inj {k l : Key} (h : kD k = kD l) : k = l := by
  cases k <;> cases l <;> simp [kD] at h <;> rw [h]
theorem eqS_key (k : Key) (l : Key) : eqS (kD k) (kD l) = decide (k = l) := by
  cases k <;> cases l <;> simp [kD, eqS, Bool.beq_eq_decide_eq]
theorem RpKs.find {K : PySem.W.Frag} {im : Hp} {am : List Addr} (l : Key) : ∀ (ds : List (D × D)) (ks : List (Key × V)), RpKs K im am ds ks →
    (∀ d, (ds.find? fun kv => eqS kv.1 (kD l)).map (·.2) = some d → ∃ v, valV ks l = some v ∧ Rp K im am d v) ∧ ((ds.find? fun kv => eqS kv.1 (kD l)).map (·.2) = none → valV ks l = none)
  | [], _, h => by cases h; exact ⟨fun d e => by simp at e, fun _ => rfl⟩
  | _ :: ds, _, h => by
    cases h with
    | @cons k d v _ ks ok r t =>
      have ih := RpKs.find l ds ks t
      unfold valV
      rw [List.find?_cons, List.find?_cons]
      simp only [eqS_key]
      by_cases e : k = l
      · simp only [e, decide_true]
        exact ⟨fun d' q => by simp at q; subst q; exact ⟨v, rfl, r⟩, fun q => by simp at q⟩
      · simp only [e, decide_false]
        exact ih
theorem RpKs.any {K : PySem.W.Frag} {im : Hp} {am : List Addr} (l : Key) : ∀ (ds : List (D × D)) (ks : List (Key × V)), RpKs K im am ds ks → (ds.any fun kv => eqS kv.1 (kD l)) = (valV ks l).isSome
  | [], _, h => by cases h; rfl
  | _ :: ds, _, h => by
    cases h with
    | @cons k d v _ ks ok r t =>
      have ih := RpKs.any l ds ks t
      unfold valV
      rw [List.any_cons, List.find?_cons]
      simp only [eqS_key]
      by_cases e : k = l
      · simp [e]
      · simp only [e, decide_false, Bool.false_or]; exact ih

theorem op_inR (hu : X.A.units + 65 < cLine) : OpR X (compareOp .In) (Got2 X ca E (bw inR)) := by
  intro pins s σ H x y v u Q I rx ry ⟨im, am, st, d, e, so, rd, re, w⟩
  simp only [bw, inR] at w
  cases hd : deref e st with
  | lst ys =>
    rw [hd] at w
    simp only at w
    split at w
    · rename_i hc
      simp only [Bool.and_eq_true, decide_eq_true_eq] at hc
      obtain ⟨⟨h1, h2⟩, h3⟩ := hc
      obtain ⟨a1, a2⟩ := deref_dp so rd h1
      obtain ⟨a, vs, rfl, q1, q2⟩ := deref_lst so re hd
      obtain ⟨b1, b2⟩ := RpAll.dp so.same ys vs q2 h2
      obtain ⟨as, r1⟩ := Dp.reads I _ x v a1 rx
      obtain ⟨bs, r2⟩ := Dp.reads I (.list (toPys ys)) _ u (.lst (.of q1) b1) ry
      refine SeqAt.in_list_reads r2 r1 b2 a2 ?_ ⟨.bl _, H, I, rfl, ?_⟩
      · rw [dep_py _ h1]; unfold dlim at h3; omega
      · have q := Wp.fin (st := st) w so (.bl _)
        rw [toPys_map, List.any_map]
        have : ys.any ((fun y => y.eqv (toPy (deref d st))) ∘ toPy) = ys.any fun y => eqD y (deref d st) := by
          rw [isDs_all] at h2
          have h2' := List.all_eq_true.mp h2
          apply Bool.eq_iff_iff.mpr
          rw [List.any_eq_true, List.any_eq_true]
          constructor
          · rintro ⟨z, hz, q⟩; exact ⟨z, hz, by rw [← eq_py z _ (h2' z hz) h1]; exact q⟩
          · rintro ⟨z, hz, q⟩; exact ⟨z, hz, by show (toPy z).eqv _ = true; rw [eq_py z _ (h2' z hz) h1]; exact q⟩
        rw [this]
        exact q
    · exact w.elim
  | tup ys =>
    rw [hd] at w
    simp only at w
    split at w
    · rename_i hc
      simp only [Bool.and_eq_true, decide_eq_true_eq] at hc
      obtain ⟨⟨h1, h2⟩, h3⟩ := hc
      obtain ⟨a1, a2⟩ := deref_dp so rd h1
      obtain ⟨a, vs, rfl, q1, q2⟩ := deref_tup so re hd
      obtain ⟨b1, b2⟩ := RpAll.dp so.same ys vs q2 h2
      obtain ⟨as, r1⟩ := Dp.reads I _ x v a1 rx
      obtain ⟨bs, r2⟩ := Dp.reads I (.tuple (toPys ys)) _ u (.tup q1 b1) ry
      refine SeqAt.in_tuple_reads r2 r1 b2 a2 ?_ ⟨.bl _, H, I, rfl, ?_⟩
      · rw [dep_py _ h1]; unfold dlim at h3; omega
      · have q := Wp.fin (st := st) w so (.bl _)
        rw [toPys_map, List.any_map]
        have : ys.any ((fun y => y.eqv (toPy (deref d st))) ∘ toPy) = ys.any fun y => eqD y (deref d st) := by
          rw [isDs_all] at h2
          have h2' := List.all_eq_true.mp h2
          apply Bool.eq_iff_iff.mpr
          rw [List.any_eq_true, List.any_eq_true]
          constructor
          · rintro ⟨z, hz, q⟩; exact ⟨z, hz, by rw [← eq_py z _ (h2' z hz) h1]; exact q⟩
          · rintro ⟨z, hz, q⟩; exact ⟨z, hz, by show (toPy z).eqv _ = true; rw [eq_py z _ (h2' z hz) h1]; exact q⟩
        rw [this]
        exact q
    · exact w.elim
  | str z =>
    rw [hd] at w
    have e1 : e = .str z := by
      have := deref_flat (st := st) re (by rw [hd])
      rw [this.1] at hd; exact hd
    subst e1
    cases re
    cases d with
    | str y => cases rd; exact op_in_str pins s σ H _ _ v u Q I rx ry ⟨_, _, rfl, rfl, Wp.fin (st := st) w so (.bl _)⟩
    | _ => exact w.elim
  | dct kvs =>
    rw [hd] at w
    obtain ⟨a, ks, rfl, q1, q2⟩ := deref_dct so re hd
    obtain rfl : u = Value.ref a := ry
    cases d with
    | int k =>
      cases rd
      have e := RpKs.any (.inl k) kvs ks q2
      exact d_in (by omega) I (dgetR (k := .inl k) q1) rx fun s3 I3 => ⟨.bl (valV ks (Sum.inl k)).isSome, H, I3, rfl, by rw [← e]; exact Wp.fin (st := st) w so (.bl _)⟩
    | str k =>
      cases rd
      have e := RpKs.any (.inr k) kvs ks q2
      exact d_in (by omega) I (dgetR (k := .inr k) q1) rx fun s3 I3 => ⟨.bl (valV ks (Sum.inr k)).isSome, H, I3, rfl, by rw [← e]; exact Wp.fin (st := st) w so (.bl _)⟩
    | _ => exact w.elim
  | _ => rw [hd] at w; exact w.elim
theorem op_notInR (hu : X.A.units + 65 < cLine) : OpR X (compareOp .NotIn) (Got2 X ca E fun d e st => (inR d e st).bind fun r st => .ok (.bl (!r)) st) := by
  intro pins s σ H x y v u Q I rx ry ⟨im, am, st, d, e, so, rd, re, w⟩
  simp only [inR] at w
  cases hd : deref e st with
  | lst ys =>
    rw [hd] at w
    simp only at w
    split at w
    · rename_i hc
      simp only [Bool.and_eq_true, decide_eq_true_eq] at hc
      obtain ⟨⟨h1, h2⟩, h3⟩ := hc
      obtain ⟨a1, a2⟩ := deref_dp so rd h1
      obtain ⟨a, vs, rfl, q1, q2⟩ := deref_lst so re hd
      obtain ⟨b1, b2⟩ := RpAll.dp so.same ys vs q2 h2
      obtain ⟨as, r1⟩ := Dp.reads I _ x v a1 rx
      obtain ⟨bs, r2⟩ := Dp.reads I (.list (toPys ys)) _ u (.lst (.of q1) b1) ry
      refine SeqAt.notIn_list_reads r2 r1 b2 a2 ?_ ⟨.bl _, H, I, rfl, ?_⟩
      · rw [dep_py _ h1]; unfold dlim at h3; omega
      · have q := Wp.fin (st := st) w so (.bl _)
        rw [toPys_map, List.any_map]
        have : ys.any ((fun y => y.eqv (toPy (deref d st))) ∘ toPy) = ys.any fun y => eqD y (deref d st) := by
          rw [isDs_all] at h2
          have h2' := List.all_eq_true.mp h2
          apply Bool.eq_iff_iff.mpr
          rw [List.any_eq_true, List.any_eq_true]
          constructor
          · rintro ⟨z, hz, q⟩; exact ⟨z, hz, by rw [← eq_py z _ (h2' z hz) h1]; exact q⟩
          · rintro ⟨z, hz, q⟩; exact ⟨z, hz, by show (toPy z).eqv _ = true; rw [eq_py z _ (h2' z hz) h1]; exact q⟩
        rw [this]
        exact q
    · exact w.elim
  | tup ys =>
    rw [hd] at w
    simp only at w
    split at w
    · rename_i hc
      simp only [Bool.and_eq_true, decide_eq_true_eq] at hc
      obtain ⟨⟨h1, h2⟩, h3⟩ := hc
      obtain ⟨a1, a2⟩ := deref_dp so rd h1
      obtain ⟨a, vs, rfl, q1, q2⟩ := deref_tup so re hd
      obtain ⟨b1, b2⟩ := RpAll.dp so.same ys vs q2 h2
      obtain ⟨as, r1⟩ := Dp.reads I _ x v a1 rx
      obtain ⟨bs, r2⟩ := Dp.reads I (.tuple (toPys ys)) _ u (.tup q1 b1) ry
      refine SeqAt.notIn_tuple_reads r2 r1 b2 a2 ?_ ⟨.bl _, H, I, rfl, ?_⟩
      · rw [dep_py _ h1]; unfold dlim at h3; omega
      · have q := Wp.fin (st := st) w so (.bl _)
        rw [toPys_map, List.any_map]
        have : ys.any ((fun y => y.eqv (toPy (deref d st))) ∘ toPy) = ys.any fun y => eqD y (deref d st) := by
          rw [isDs_all] at h2
          have h2' := List.all_eq_true.mp h2
          apply Bool.eq_iff_iff.mpr
          rw [List.any_eq_true, List.any_eq_true]
          constructor
          · rintro ⟨z, hz, q⟩; exact ⟨z, hz, by rw [← eq_py z _ (h2' z hz) h1]; exact q⟩
          · rintro ⟨z, hz, q⟩; exact ⟨z, hz, by show (toPy z).eqv _ = true; rw [eq_py z _ (h2' z hz) h1]; exact q⟩
        rw [this]
        exact q
    · exact w.elim
  | str z =>
    rw [hd] at w
    have e1 : e = .str z := by
      have := deref_flat (st := st) re (by rw [hd])
      rw [this.1] at hd; exact hd
    subst e1
    cases re
    cases d with
    | str y => cases rd; exact op_notin_str pins s σ H _ _ v u Q I rx ry ⟨_, _, rfl, rfl, Wp.fin (st := st) w so (.bl _)⟩
    | _ => exact w.elim
  | dct kvs =>
    rw [hd] at w
    obtain ⟨a, ks, rfl, q1, q2⟩ := deref_dct so re hd
    obtain rfl : u = Value.ref a := ry
    cases d with
    | int k =>
      cases rd
      have e := RpKs.any (.inl k) kvs ks q2
      exact d_notIn (by omega) I (dgetR (k := .inl k) q1) rx fun s3 I3 => ⟨.bl (!(valV ks (Sum.inl k)).isSome), H, I3, rfl, by rw [← e]; exact Wp.fin (st := st) w so (.bl _)⟩
    | str k =>
      cases rd
      have e := RpKs.any (.inr k) kvs ks q2
      exact d_notIn (by omega) I (dgetR (k := .inr k) q1) rx fun s3 I3 => ⟨.bl (!(valV ks (Sum.inr k)).isSome), H, I3, rfl, by rw [← e]; exact Wp.fin (st := st) w so (.bl _)⟩
    | _ => exact w.elim
  | _ => rw [hd] at w; exact w.elim

/-! ### arithmetic and joining -/
theorem op_repT0 {K : PySem.W.Frag} (hk : X.K = K) : OpR X (binaryOp .Mult) (fun x y H Q => ∃ l k, x = .ref l ∧ y = .int k ∧ SqT X.K H l [] ∧ 0 ≤ k ∧ k ≤ 1000 ∧ Q (.ref l) H) := by
  intro pins s σ H x y v u Q I rx ry h
  obtain ⟨l, k, rfl, rfl, hT, h1, h2, q⟩ := h
  cases rx
  obtain ⟨t, rfl⟩ := ry
  obtain ⟨its, r, ⟨⟨cls, dd, data, sl⟩, ho, hc, n, hd⟩, hs⟩ := I.tuple hT
  simp only at hc hd
  subst hc hd
  cases r
  have c0 : (decide (k < -(2 ^ 63)) || decide (k ≥ 2 ^ 63)) = false := by
    rw [decide_eq_false (by omega), decide_eq_false (by omega)] <;> rfl
  have c1 : (([] : List Value).toArray.isEmpty || k == 1) = true := by simp
  refine wpAny_binaryOp_repeat_ref (T := "tuple") (U := "int") (by decide) ⟨_, ho, rfl⟩ (fun s' => typeIs_int s' k t) noFill_tuple_mul F.fills_int_mul F.slot_int_rmul repeat_tuple F.slot_int_index.lookup
    (call_meets F.slot_int_rmul (typeIs_int s k t) F.entry_int_rmul (F.args_int_rmul_2 _ _) (int_rmul_tuple k t l ([] : List Value).toArray n dd sl)
      ⟨ho, rfl, ⟨_, ho, rfl⟩, call_meets F.slot_tuple_mul ⟨_, ho, rfl⟩ F.entry_tuple_mul (F.args_tuple_mul_2 _ _) (tuple_mulW0 l ([] : List Value).toArray n dd sl k t c0 c1) ⟨ho, ?_⟩⟩)
  exact ⟨.ref l, H, I, rfl, q⟩

theorem strOk_append {x y : Str} (hx : PyData.strOk x = true) (hy : PyData.strOk y = true) : PyData.strOk (x ++ y) = true := by
  unfold PyData.strOk at *
  show (x.cps ++ y.cps).all _ = true
  rw [Array.all_append, hx, hy]; rfl
theorem fin_new {K : PySem.W.Frag} {ca : Nat → Addr} {E : XK} {im : Hp} {am : List Addr} {H : Hp} {st : Sto} {d : D} {Q : VK} {o : HO} (w : Wp K ca (Rp K) E im am H (.ok d st) Q) (so : StOk K st im am H) {p : Addr} (hp : H p = none)
    (r : ∀ im', Same im im' → im' p = some o → Rp K im' am d (.ref p)) : Q (.ref p) (upd H p o) :=
  w _ am _ _ (Ext.add so hp) (so.add hp) (r _ (same_upd (so.imn hp)) upd_same)
theorem op_addD : OpR X (binaryOp .Add) (Got2 X ca E (binR .add)) := by
  intro pins s σ H x y v u Q I rx ry ⟨im, am, st, d, e, so, rd, re, w⟩
  have lists : ∀ {xs ys : List D}, deref d st = .lst xs → deref e st = .lst ys → Wp X.K ca (Rp X.K) E im am H (if xs.length + ys.length ≤ lim then Res.ok (.lst (xs ++ ys)) st else .stuck) Q → wpAny (model X.prog X.w) X.A (binaryOp .Add v u) (EP X pins σ Q) X.xe s := by
    intro xs ys h1 h2 w
    split at w
    · rename_i hl
      obtain ⟨a, vs, rfl, q1, q2⟩ := deref_lst so rd h1
      obtain ⟨b, us, rfl, q3, q4⟩ := deref_lst so re h2
      exact op_cat pins s σ H _ _ v u Q I rx ry ⟨a, b, vs, us, rfl, rfl, q1, q3, lim_size (by rw [← q2.length, ← q4.length]; exact hl), fun p hp =>
        fin_new w so hp fun im' hs hi => .lst hi (RpAll.mono hs (List.prefix_refl _) _ _ (q2.append q4))⟩
    · exact w.elim
  cases d with
  | int i =>
    cases e with
    | int j => cases rd; cases re; exact op_add pins s σ H _ _ v u Q I rx ry ⟨_, _, rfl, rfl, Wp.fin (st := st) w so (.int _)⟩
    | _ => exact w.elim
  | str i =>
    cases e with
    | str j =>
      cases rd with
      | str _ o1 =>
        cases re with
        | str _ o2 =>
          simp only [binR] at w
          split at w
          · rename_i hl
            exact op_add_str pins s σ H _ _ v u Q I rx ry ⟨_, _, rfl, rfl, lim_size hl, Wp.fin (st := st) w so (.str _ (strOk_append o1 o2))⟩
          · exact w.elim
    | _ => exact w.elim
  | tup xs =>
    cases e with
    | tup ys =>
      simp only [binR] at w
      split at w
      · rename_i hl
        cases rd with
        | @tup a vs _ q1 q2 =>
          cases re with
          | @tup b us _ q3 q4 =>
            have hx : xs = [] ↔ vs = [] := by rw [← List.length_eq_zero_iff, ← List.length_eq_zero_iff, q2.length]
            have hy : ys = [] ↔ us = [] := by rw [← List.length_eq_zero_iff, ← List.length_eq_zero_iff, q4.length]
            refine op_catA pins s σ H _ _ v u Q I rx ry ⟨a, b, vs, us, rfl, rfl, Same.seqT so.same q1, Same.seqT so.same q3, lim_size (by rw [← q2.length, ← q4.length]; exact hl), fun e1 => ?_, fun e1 e2 => ?_, fun e1 e2 p hp => ?_⟩
            · rw [hx.mpr e1, List.nil_append] at w; exact Wp.fin (st := st) w so (.tup q3 q4)
            · rw [hy.mpr e2, List.append_nil] at w; exact Wp.fin (st := st) w so (.tup q1 q2)
            · exact fin_new w so hp fun im' hs hi => .tup (.of hi) (RpAll.mono hs (List.prefix_refl _) _ _ (q2.append q4))
      · exact w.elim
    | _ => exact w.elim
  | lst xs =>
    cases h2 : deref e st with
    | lst ys => exact lists rfl h2 (by simp only [binR, h2] at w; exact w)
    | _ => simp only [binR, h2] at w; exact w.elim
  | cel i =>
    cases h1 : deref (.cel i) st with
    | lst xs =>
      cases h2 : deref e st with
      | lst ys => exact lists h1 h2 (by simp only [binR, h1, h2] at w; exact w)
      | _ => simp only [binR, h1, h2] at w; exact w.elim
    | _ => simp only [binR, h1] at w; exact w.elim
  | non => simp only [binR] at w; exact w.elim
  | bl b => simp only [binR] at w; exact w.elim
  | dct b => simp only [binR] at w; exact w.elim
  | frz b => simp only [binR] at w; exact w.elim
  | tpn b => simp only [binR] at w; exact w.elim
theorem op_subD : OpR X (binaryOp .Sub) (Got2 X ca E (binR .sub)) := by
  intro pins s σ H x y v u Q I rx ry ⟨im, am, st, d, e, so, rd, re, w⟩
  cases d with
  | int i =>
    cases e with
    | int j => cases rd; cases re; exact op_sub pins s σ H _ _ v u Q I rx ry ⟨_, _, rfl, rfl, Wp.fin (st := st) w so (.int _)⟩
    | _ => exact w.elim
  | _ => exact w.elim
theorem op_modD : OpR X (binaryOp .Mod) (Got2 X ca E (binR .mod)) := by
  intro pins s σ H x y v u Q I rx ry ⟨im, am, st, d, e, so, rd, re, w⟩
  cases d with
  | int i =>
    cases e with
    | int j =>
      cases rd; cases re
      simp only [binR] at w
      split at w
      · rename_i h; exact op_mod pins s σ H _ _ v u Q I rx ry ⟨_, _, rfl, rfl, h, Wp.fin (st := st) w so (.int _)⟩
      · exact w.elim
    | _ => exact w.elim
  | _ => exact w.elim
theorem op_fdivD : OpR X (binaryOp .FloorDiv) (Got2 X ca E (binR .fdiv)) := by
  intro pins s σ H x y v u Q I rx ry ⟨im, am, st, d, e, so, rd, re, w⟩
  cases d with
  | int i =>
    cases e with
    | int j =>
      cases rd; cases re
      simp only [binR] at w
      split at w
      · rename_i h; exact op_fdivW pins s σ H _ _ v u Q I rx ry ⟨_, _, rfl, rfl, wide_div (b := 64) h.1 (by omega) (by omega) (by omega), Wp.fin (st := st) w so (.int _)⟩
      · exact w.elim
    | _ => exact w.elim
  | _ => exact w.elim
theorem op_powD : OpR X (binaryOp .Pow) (Got2 X ca E (binR .pow)) := by
  intro pins s σ H x y v u Q I rx ry ⟨im, am, st, d, e, so, rd, re, w⟩
  cases d with
  | int i =>
    cases e with
    | int j =>
      cases rd; cases re
      simp only [binR] at w
      split at w
      · rename_i h
        simp only [Bool.and_eq_true, decide_eq_true_eq] at h
        exact op_pow pins s σ H _ _ v u Q I rx ry ⟨_, _, rfl, rfl, ⟨h.1.1.1, by omega, by omega⟩, Wp.fin (st := st) w so (.int _)⟩
      · exact w.elim
    | _ => exact w.elim
  | _ => exact w.elim
theorem op_mulD : OpR X (binaryOp .Mult) (Got2 X ca E (binR .mul)) := by
  intro pins s σ H x y v u Q I rx ry ⟨im, am, st, d, e, so, rd, re, w⟩
  cases d with
  | int i =>
    cases e with
    | int j =>
      cases rd; cases re
      simp only [binR] at w
      split at w
      · rename_i h
        simp only [Bool.and_eq_true, Bool.or_eq_true, decide_eq_true_eq] at h
        exact op_mul pins s σ H _ _ v u Q I rx ry ⟨_, _, rfl, rfl, h, Wp.fin (st := st) w so (.int _)⟩
      · exact w.elim
    | _ => exact w.elim
  | tup xs =>
    cases e with
    | int j =>
      cases rd with
      | @tup a vs _ q1 q2 =>
        cases re
        simp only [binR] at w
        split at w
        · rename_i h
          simp only [Bool.and_eq_true, decide_eq_true_eq] at h
          have hx : xs = [] ↔ vs = [] := by rw [← List.length_eq_zero_iff, ← List.length_eq_zero_iff, q2.length]
          by_cases hv : vs = []
          · have := hx.mpr hv
            subst this; subst hv
            have er : PP.rep j.toNat ([] : List D) = [] := by unfold PP.rep; simp
            rw [er] at w
            exact op_repT0 rfl pins s σ H _ _ v u Q I rx ry ⟨a, j, rfl, rfl, Same.seqT so.same q1, by omega, by omega, Wp.fin (st := st) w so (.tup q1 q2)⟩
          · exact op_repT pins s σ H _ _ v u Q I rx ry ⟨a, j, vs, rfl, rfl, Same.seqT so.same q1, hv, h.1.1, by omega, by rw [← q2.length]; exact h.2, fun p hp =>
              fin_new w so hp fun im' hs hi => .tup (.of hi) (RpAll.mono hs (List.prefix_refl _) _ _ (q2.rep _))⟩
        · exact w.elim
    | _ => exact w.elim
  | _ => exact w.elim

/-! ### indices and slices -/
theorem ix_atI {α : Type} {xs : List α} {k : Int} {v : α} (h : ((ixAt xs.length k).bind fun j => xs[j]?) = some v) : atI xs k = some v := by
  unfold ixAt at h
  unfold atI ixN
  split at h
  · rename_i h0
    split at h
    · rename_i h1
      rw [if_pos h0, if_pos (by omega)]; exact h
    · cases h
  · rename_i h0
    split at h
    · rename_i h1
      rw [if_neg h0, if_pos (by omega)]
      have : (k + (xs.length : Int)).toNat = xs.length - (-k).toNat := by omega
      rw [this]; exact h
    · cases h
theorem ixAt_N {n : Nat} {k : Int} {j : Nat} (h : ixAt n k = some j) : ixN n k = some j := by
  unfold ixAt at h
  unfold ixN
  split at h
  · rename_i h0
    split at h
    · rename_i h1
      rw [if_pos h0, if_pos (by omega)]; exact h
    · cases h
  · rename_i h0
    split at h
    · rename_i h1
      rw [if_neg h0, if_pos (by omega)]
      have : (k + (n : Int)).toNat = n - (-k).toNat := by omega
      rw [this]; exact h
    · cases h
theorem bnd_sIx (n d : Nat) (o : Option Int) : bnd n d o = HT.sIx n d o := by
  cases o with
  | none => rfl
  | some i =>
    by_cases h : 0 ≤ i
    · obtain ⟨k, rfl⟩ := Int.eq_ofNat_of_zero_le h
      rw [HT.sIx_nat]
      simp [bnd]
    · have := HT.clip_eq i n d
      rw [if_pos (by omega)] at this
      have h2 : bnd n d (some i) = n - (-i).toNat := by simp [bnd, h]
      rw [h2]
      omega
theorem sliceL_cutV (xs : List V) (lo hi : Option Int) : sliceL xs lo hi = cutV xs lo hi := by
  unfold sliceL cutV; rw [bnd_sIx, bnd_sIx]
theorem RpAll.slice {K : PySem.W.Frag} {im : Hp} {am : List Addr} {ds : List D} {vs : List V} (h : RpAll K im am ds vs) (lo hi : Option Int) : RpAll K im am (sliceL ds lo hi) (cutV vs lo hi) := by
  rw [← sliceL_cutV]; unfold sliceL; rw [h.length]; exact (h.drop _).take _
theorem strOk_at {z : Str} (h : PyData.strOk z = true) {j : Nat} {c : Nat} (e : z.cps[j]? = some c) : PyData.strOk ⟨#[c]⟩ = true := by
  unfold PyData.strOk at *
  have := Array.all_eq_true_iff_forall_mem.mp h c (Array.mem_of_getElem? e)
  simpa using this
end
end PP
end

section
set_option linter.all false
set_option autoImplicit false
set_option maxRecDepth 100000
set_option Elab.async false
/-! Indices, slices. -/
namespace HT
open PySem PyProof.Rows
section
variable {prog : Program} {w : World} {A : Around} {E : Value → Shared → Prop} {s : Shared}
theorem sliceApplied_rev {sl : Addr} {vl vu vs : Value} {n : Nat} {Q : Int × Int × Nat → Shared → Prop} (hs : s.heap.IsSliceOf sl vl vu vs) (pl : IsPart vl none) (pu : IsPart vu none) (ps : IsPart vs (some (-1)))
    (h : Q ((n : Int) - 1, -1, n) s) : wpAny (model prog w) A (Builtin.Slice.sliceApplied (.ref sl) (pure (n : Int))) Q E s := by
  obtain ⟨os, hos, hcs, hds⟩ := id hs
  unfold Builtin.Slice.sliceApplied Builtin.Slice.sliceFields
  refine wpAny_bind (wpAny_bind (wpAny_field hos hds (x := vl) rfl (wpAny_bind (wpAny_field hos hds (x := vu) rfl (wpAny_bind (wpAny_field hos hds (x := vs) rfl (wpAny_pure ?_)))))))
  refine wpAny_bind (slicePart_ ps ?_)
  show wpAny _ _ (if ((-1 : Int) == 0) = true then _ else _) _ _ s
  rw [if_neg (by decide)]
  refine wpAny_bind (slicePart_ pl (wpAny_bind (slicePart_ pu (wpAny_bind (wpAny_pure ?_)))))
  show wpAny _ _ (match Builtin.Slice.sliceAdjust none none (-1) (n : Int) with | (lo, hi) => pure (lo, (-1 : Int), Builtin.Slice.slicePlaces lo hi (-1))) _ _ s
  have e : Builtin.Slice.sliceAdjust none none (-1) (n : Int) = ((n : Int) - 1, -1) := by
    unfold Builtin.Slice.sliceAdjust
    simp
  rw [e]
  show wpAny _ _ (pure ((n : Int) - 1, (-1 : Int), Builtin.Slice.slicePlaces ((n : Int) - 1) (-1) (-1))) _ _ s
  have e2 : Builtin.Slice.slicePlaces ((n : Int) - 1) (-1) (-1) = n := by
    unfold Builtin.Slice.slicePlaces
    have h1 : ¬ ((-1 : Int) > 0) := by omega
    simp only [h1, if_false]
    have h2 : -(-1 : Int) = 1 := by omega
    rw [h2, Int.ediv_one]
    split <;> omega
  rw [e2]
  exact wpAny_pure h
theorem pick_rev (xs : List Value) : ((List.range xs.length).filterMap fun (m : Nat) => xs.toArray[(((xs.length : Nat) : Int) - 1 + (m : Int) * (-1)).toNat]?) = xs.reverse := by
  apply List.ext_getElem?
  intro i
  have key : ((List.range xs.length).filterMap fun (m : Nat) => xs.toArray[(((xs.length : Nat) : Int) - 1 + (m : Int) * (-1)).toNat]?) = (List.range xs.length).map fun m => xs.getD (xs.length - 1 - m) .none := by
    have : ∀ l : List Nat, (∀ m ∈ l, m < xs.length) → (l.filterMap fun (m : Nat) => xs.toArray[(((xs.length : Nat) : Int) - 1 + (m : Int) * (-1)).toNat]?) = l.map fun m => xs.getD (xs.length - 1 - m) .none := by
      intro l
      induction l with
      | nil => intro _; rfl
      | cons m l ih =>
        intro hl
        have hm := hl m List.mem_cons_self
        have e : (((xs.length : Nat) : Int) - 1 + (m : Int) * (-1)).toNat = xs.length - 1 - m := by omega
        have e2 : xs.toArray[(((xs.length : Nat) : Int) - 1 + (m : Int) * (-1)).toNat]? = some (xs.getD (xs.length - 1 - m) .none) := by
          rw [e]
          have : xs.length - 1 - m < xs.length := by omega
          simp [this]
        rw [List.filterMap_cons, e2, List.map_cons, ih fun k hk => hl k (List.mem_cons_of_mem _ hk)]
    exact this _ fun m hm => List.mem_range.mp hm
  rw [key]
  by_cases hi : i < xs.length
  · have h2 : xs.length - 1 - i < xs.length := by omega
    simp [hi, h2]
  · rw [List.getElem?_eq_none (by simp; omega), List.getElem?_eq_none (by simp; omega)]
theorem getItem_tuple_rev {t sl : Addr} {its : List Value} {vl vu vs : Value} {Q : Value → Shared → Prop} (ht : IsTup s.heap t its.toArray) (hs : s.heap.IsSliceOf sl vl vu vs) (pl : IsPart vl none) (pu : IsPart vu none) (ps : IsPart vs (some (-1)))
    (h : Q (.ref s.heap.objs.size) { s with heap := s.heap.push { cls := .type "tuple", data := .seq its.reverse.toArray } })
    (hsz : its.length ≤ sizeLine) : wpAny (model prog w) A (getItem (.ref t) (.ref sl)) Q E s := by
  have htake : sizeOk (.seq its.reverse.toArray) := by
    show its.reverse.toArray.size ≤ sizeLine
    rw [List.size_toArray, List.length_reverse]; exact hsz
  obtain ⟨os, hos, hcs, hds⟩ := id hs
  have hTs : s.TypeIs (.ref sl) "slice" := ⟨os, hos, hcs⟩
  unfold getItem
  try with_reducible refine wpAny_holding ?_
  first | refine wpAny_bind (wpAny_pure ?_) | skip
  refine wpAny_bind (wpAny_sequenceKey ht.typeIs (by decide) ?_)
  refine wpAny_bind (wpAny_callSpecial?_slot (name := Str.ofString "__getitem__") ht.typeIs PyProof.Rows.slot_tuple_getitem
    (wpAny_call_entry PyProof.Rows.slot_tuple_getitem ht.typeIs entry_tuple_getitem ?_ (args_tuple_getitem _ _)))
  show wpAny _ _ (Builtin.Tuple.tupleItemsOf (.ref t) >>= _) _ _ s
  refine wpAny_bind (tupleItemsOf_ ht ?_)
  refine wpAny_bind (wpAny_typeOf hTs ?_)
  rw [if_pos (by decide)]
  refine wpAny_bind (sliceApplied_rev (n := its.toArray.size) hs pl pu ps ?_)
  have hno : ¬ (((((its.toArray.size : Nat) : Int) - 1) == 0 && (-1 : Int) == 1 && its.toArray.size == its.toArray.size) = true) := by
    intro q
    rw [Bool.and_eq_true, Bool.and_eq_true] at q
    exact absurd q.1.2 (by decide)
  show wpAny _ _ (if ((((its.toArray.size : Nat) : Int) - 1) == 0 && (-1 : Int) == 1 && its.toArray.size == its.toArray.size) = true then _ else _) _ _ s
  rw [if_neg hno]
  have e := pick_rev its
  rw [List.size_toArray, e]
  first
    | exact wpAny_bind (m := Builtin.Tuple.tupleExact _) (wpAny_newObj_type (wpAny_pure ⟨_, rfl, wpAny_pure h⟩) htake)
    | exact wpAny_bind (m := Builtin.Tuple.tupleExact _) (wpAny_newObj_type (wpAny_bind (wpAny_pure (wpAny_pure ⟨_, rfl, wpAny_pure h⟩))) htake)
    | exact wpAny_bind (wpAny_bind (m := Builtin.Tuple.tupleExact _) (wpAny_newObj_type (wpAny_pure (wpAny_pure ⟨_, rfl, wpAny_pure h⟩)) htake))
    | exact wpAny_bind (wpAny_bind (m := Builtin.Tuple.tupleExact _) (wpAny_newObj_type (wpAny_pure ⟨_, rfl, wpAny_pure h⟩) htake))
end
end HT
namespace PP
open PySem PySem.Spec PyProof.Rows L2
section
variable {X : Cx} {ca : Nat → Addr} {E : XK}
/-- t[::-1] -/
def tRevT (K : PySem.W.Frag) (te : TE) : TE := fun σ H Q => te σ H fun x H1 => ∃ a xs, x = .ref a ∧ SqT K H1 a xs ∧ ∀ p, H1 p = none → Q (.ref p) (upd H1 p (.tup xs.reverse))
theorem pe_revT {e : Expr} {te : TE} {k : Nat} {p1 p2 p3 pos : Pos} (he : PE X e te) : PE X (.Subscript e (.Slice none none (some (.UnaryOp .USub (.Constant (.int 1) k p1) p2)) p3) pos) (tRevT X.K te) := by
  refine ⟨fun pins s σ H Q I h => ?_⟩
  refine Subscript_ (thn (he.run pins s σ H _ I h) fun v s1 ⟨x, H1, I1, r1, q1⟩ => ?_)
  obtain ⟨a, xs, ex, hx, q⟩ := q1
  subst ex
  cases r1
  have hst : PO X (some (.UnaryOp .USub (.Constant (.int 1) k p1) p2)) (tPart (tUn (rU fun i => .int (-i)) (tC (.int 1)))) := po_some (pe_un un_neg pe_int)
  refine wpAny_Slice (thn (po_none.run pins s1 σ H1 (fun o H2 => o = none ∧ H2 = H1) I1 ⟨rfl, rfl⟩) fun vl s2 ⟨l, H2, I2, pl, el, e2⟩ => ?_)
  subst el e2
  refine thn (po_none.run pins s2 σ H2 (fun o H3 => o = none ∧ H3 = H2) I2 ⟨rfl, rfl⟩) fun vu s3 ⟨u, H3, I3, pu, eu, e3⟩ => ?_
  subst eu e3
  refine thn (hst.run pins s3 σ H3 (fun o H4 => o = some (-1) ∧ H4 = H3) I3 ⟨1, rfl, -1, rfl, rfl, rfl⟩) fun vs s4 ⟨o, H4, I4, ps, eo, e4⟩ => ?_
  subst eo e4
  have I5 : Inv X pins σ H4 { s4 with heap := s4.heap.push { cls := .type "slice", data := .fields #[vl, vu, vs] } } := I4.kept (t' := s4.toks) fun b ob q => Heap.get?_push_of_some _ q
  obtain ⟨its, r, ht, hz⟩ := I5.tuple hx
  have hlen := r.length
  show wpAny (model X.prog X.w) X.A (subscriptTail e (.Slice none none (some (.UnaryOp .USub (.Constant (.int 1) k p1) p2)) p3) (.ref a) (.ref s4.heap.objs.size)) (EP X pins σ Q) X.xe { s4 with heap := s4.heap.push { cls := .type "slice", data := .fields #[vl, vu, vs] } }
  refine tail_any (ops := [.ref a, .ref s4.heap.objs.size]) ht.typeIs (PyProof.Rows.slot_tuple_getitem.lookup) ?_ (by with_unfolding_all rfl)
  refine HT.getItem_tuple_rev ht (Heap.IsSliceOf.new _ vl vu vs) pl pu ps ?_ (by omega)
  refine ⟨.ref _, _, I5.laid (t' := s4.toks) (o := .tup xs.reverse) (fun b ob q => Heap.get?_push_of_some _ q) (Nat.le_refl _) ?_, rfl, q _ (I5.hok.fresh (Nat.le_refl _))⟩
  exact ⟨by rw [List.length_reverse]; exact hz, _, r.reverse, ⟨_, Heap.get?_push_size _ rfl, rfl, _, rfl⟩⟩

theorem ix_dct : IxR X (fun x y H Q => ∃ a v, x = .ref a ∧ DGet H a y (some v) ∧ X.A.units + 1 < cLine ∧ Q v H) := by
  intro value slice pins s σ H x y v u Q I rx ry ⟨a, z, ex, g, hu, q⟩ hs
  subst ex
  obtain rfl : v = Value.ref a := rx
  have hT := dict_typeIs I g
  unfold subscriptTail
  refine wpAny_bind ?_
  rw [getitemInPython_of_ne hT.not_modules]
  refine wpAny_bind (wpAny_specialOf hT PySem.F.slot_dict_getitem.lookup ?_)
  have fin : wpAny (model X.prog X.w) X.A (subscripted slice false (.ref a) u) (fun r s₃ => wpAny (model X.prog X.w) X.A (letTemporaryGo value (.ref a) r >>= fun _ => pure r) (EP X pins σ Q) X.xe s₃) X.xe s := by
    rw [hs]
    exact wpAny_operating (wpAny_mono (d_getItem hu I g ry fun w' s3 I3 rw' => (⟨z, H, I3, rw', q⟩ : EP X pins σ Q w' s3)) (fun r s₃ h₃ => wpAny_bind (wpAny_letTemporaryGo (wpAny_pure h₃))) fun _ _ x => x)
  first
    | exact wpAny_pure (wpAny_bind fin)
    | exact wpAny_bind (wpAny_pure (wpAny_bind fin))
    | exact wpAny_bind fin

theorem ix_D (hu : X.A.units + 1 < cLine) : IxR X (Got2 X ca E idxR) := by
  intro value slice pins s σ H x y v u Q I rx ry ⟨im, am, st, d, e, so, rd, re, w⟩ hs
  simp only [idxR] at w
  have lst : ∀ {xs : List D} {vs : List V} {k : Int}, RpAll X.K im am xs vs → e = .int k → Wp X.K ca (Rp X.K) E im am H (ofO ((ixAt xs.length k).bind fun j => xs[j]?) st) Q → y = .int k ∧ ∃ z, atI vs k = some z ∧ Q z H := by
    intro xs vs k r ek w2
    subst ek
    cases re
    refine ⟨rfl, ?_⟩
    cases hj : ixAt xs.length k with
    | none => rw [hj] at w2; exact w2.elim
    | some j =>
      rw [hj] at w2
      cases hx : xs[j]? with
      | none => simp only [Option.bind_some, hx] at w2; exact w2.elim
      | some d' =>
        simp only [Option.bind_some, hx] at w2
        obtain ⟨z, hz, rz⟩ := r.get hx
        exact ⟨z, ix_atI (by rw [← r.length, hj]; exact hz), Wp.fin (st := st) w2 so rz⟩
  cases hd : deref d st with
  | lst xs =>
    rw [hd] at w
    obtain ⟨a, vs, rfl, q1, q2⟩ := deref_lst so rd hd
    cases e with
    | int k =>
      obtain ⟨rfl, z, hz, q⟩ := lst q2 rfl w
      exact ix_list value slice pins s σ H _ _ v u Q I rx ry ⟨a, vs, k, z, rfl, rfl, .of q1, hz, q⟩ hs
    | _ => exact w.elim
  | tup xs =>
    rw [hd] at w
    obtain ⟨a, vs, rfl, q1, q2⟩ := deref_tup so rd hd
    cases e with
    | int k =>
      obtain ⟨rfl, z, hz, q⟩ := lst q2 rfl w
      exact ix_tup value slice pins s σ H _ _ v u Q I rx ry ⟨a, vs, k, z, rfl, rfl, q1, hz, q⟩ hs
    | _ => exact w.elim
  | frz xs =>
    rw [hd] at w
    obtain ⟨a, vs, rfl, q1, q2⟩ := deref_frz so rd hd
    cases e with
    | int k =>
      obtain ⟨rfl, z, hz, q⟩ := lst q2 rfl w
      exact ix_list value slice pins s σ H _ _ v u Q I rx ry ⟨a, vs, k, z, rfl, rfl, q1, hz, q⟩ hs
    | _ => exact w.elim
  | str z =>
    rw [hd] at w
    have e1 : d = .str z := by
      have := deref_flat (st := st) rd (by rw [hd])
      rw [this.1] at hd; exact hd
    subst e1
    cases rd with
    | str _ ok =>
      cases e with
      | int k =>
        cases re
        simp only at w
        split at w
        · rename_i hl
          cases hj : ixAt z.length k with
          | none => rw [hj] at w; exact w.elim
          | some j =>
            rw [hj] at w
            cases hx : z.cps[j]? with
            | none => simp only [Option.bind_some, hx, Option.map_none] at w; exact w.elim
            | some c =>
              simp only [Option.bind_some, hx, Option.map_some] at w
              have hl2 : z.cps.toList.length = z.length := by simp [Str.length]
              exact ix_str value slice pins s σ H _ _ v u Q I rx ry ⟨z, k, c, rfl, rfl, lim_size hl, ix_atI (by rw [hl2, hj]; simpa using hx), Wp.fin (st := st) w so (.str _ (strOk_at ok hx))⟩ hs
        · exact w.elim
      | _ => exact w.elim
  | dct kvs =>
    rw [hd] at w
    obtain ⟨a, ks, rfl, q1, q2⟩ := deref_dct so rd hd
    have go : ∀ k : Key, e = kD k → y = kV k → Wp X.K ca (Rp X.K) E im am H (ofO ((kvs.find? fun kv => eqS kv.1 (kD k)).map (·.2)) st) Q → ∃ z, valV ks k = some z ∧ Q z H := by
      intro k _ _ w
      have f := RpKs.find k kvs ks q2
      cases hx : (kvs.find? fun kv => eqS kv.1 (kD k)).map (·.2) with
      | none => rw [hx] at w; exact w.elim
      | some d' =>
        rw [hx] at w
        obtain ⟨z, hz, rz⟩ := f.1 d' hx
        exact ⟨z, hz, Wp.fin (st := st) w so rz⟩
    cases e with
    | int k =>
      cases re
      obtain ⟨z, hz, q⟩ := go (.inl k) rfl rfl w
      exact ix_dct value slice pins s σ H _ _ v u Q I rx ry ⟨a, z, rfl, by rw [← hz]; exact dgetR (k := .inl k) q1, hu, q⟩ hs
    | str k =>
      cases re
      obtain ⟨z, hz, q⟩ := go (.inr k) rfl rfl w
      exact ix_dct value slice pins s σ H _ _ v u Q I rx ry ⟨a, z, rfl, by rw [← hz]; exact dgetR (k := .inr k) q1, hu, q⟩ hs
    | _ => exact w.elim
  | _ => rw [hd] at w; exact w.elim

theorem strOk_slice {z : Str} (h : PyData.strOk z = true) (lo hi : Option Int) : PyData.strOk ⟨(sliceL z.cps.toList lo hi).toArray⟩ = true := by
  unfold PyData.strOk at *
  have h' : ∀ c ∈ z.cps, decide (c < 0x110000) = true := Array.all_eq_true_iff_forall_mem.mp h
  refine Array.all_eq_true_iff_forall_mem.mpr fun c hc => h' c ?_
  have h1 : c ∈ sliceL z.cps.toList lo hi := by simpa using hc
  unfold sliceL at h1
  have := List.mem_of_mem_drop (List.mem_of_mem_take h1)
  simpa using this
theorem cutS_sliceL (z : Str) (lo hi : Option Int) : cutS z lo hi = ⟨(sliceL z.cps.toList lo hi).toArray⟩ := by
  unfold cutS sliceL
  rw [bnd_sIx, bnd_sIx]
  simp [Str.length]
def GotS (X : Cx) (ca : Nat → Addr) (E : XK) : V → Option Int → Option Int → Hp → VK → Prop := fun x lo hi H Q => ∃ im am st d, StOk X.K st im am H ∧ Rp X.K im am d x ∧ Wp X.K ca (Rp X.K) E im am H (sliceR d lo hi st) Q
theorem take_all {α : Type} (xs : List α) (lo hi : Option Int) (h : HT.sIx xs.length 0 lo = 0 ∧ HT.sIx xs.length xs.length hi = xs.length) : sliceL xs lo hi = xs := by
  unfold sliceL; rw [bnd_sIx, bnd_sIx, h.1, h.2]; simp
theorem sl_D : SlR X (GotS X ca E) := by
  intro pins s σ H x v vl vu lo hi sl Q I rx hs pl pu ⟨im, am, st, d, so, rd, w⟩
  simp only [sliceR] at w
  cases hd : deref d st with
  | lst xs =>
    rw [hd] at w
    obtain ⟨a, vs, rfl, q1, q2⟩ := deref_lst so rd hd
    exact sl_list pins s σ H _ v vl vu lo hi sl Q I rx hs pl pu ⟨a, vs, rfl, .of q1, fun p hp => fin_new w so hp fun im' h1 h2 => .lst h2 (RpAll.mono h1 (List.prefix_refl _) _ _ (q2.slice lo hi))⟩
  | tup xs =>
    rw [hd] at w
    have rd := tp_of rd hd
    cases rd with
    | @tup a vs _ q1 q2 =>
      dsimp only at w
      refine sl_tupA pins s σ H _ v vl vu lo hi sl Q I rx hs pl pu ⟨a, vs, rfl, Same.seqT so.same q1, fun h => ?_, fun _ p hp => ?_⟩
      · have e : sliceL xs lo hi = xs := take_all xs lo hi (by rw [q2.length]; exact h)
        rw [e] at w
        exact Wp.fin (st := st) w so (.tup q1 q2)
      · exact fin_new w so hp fun im' h1 h2 => .tup (.of h2) (RpAll.mono h1 (List.prefix_refl _) _ _ (q2.slice lo hi))
  | str z =>
    rw [hd] at w
    have e1 : d = .str z := by
      have := deref_flat (st := st) rd (by rw [hd])
      rw [this.1] at hd; exact hd
    subst e1
    cases rd with
    | str _ ok =>
      simp only at w
      split at w
      · rename_i hl
        exact sl_str pins s σ H _ v vl vu lo hi sl Q I rx hs pl pu ⟨z, rfl, lim_size hl, by rw [cutS_sliceL]; exact Wp.fin (st := st) w so (.str _ (strOk_slice ok lo hi))⟩
      · exact w.elim
  | _ => rw [hd] at w; exact w.elim
end
end PP
end

section
set_option linter.all false
set_option autoImplicit false
set_option maxRecDepth 100000
set_option Elab.async false
/-! Built-ins by values. -/
namespace PP
open PySem PySem.Spec PyProof.Rows L2
section
variable {X : Cx} {ca : Nat → Addr} {E : XK}
abbrev GotL (X : Cx) (ca : Nat → Addr) (E : XK) (f : List D → Sto → Res D) : List V → Hp → VK → Prop := fun vs H Q => ∃ im am st ds, StOk X.K st im am H ∧ RpAll X.K im am ds vs ∧ Wp X.K ca (Rp X.K) E im am H (f ds st) Q
theorem ints_all {K : PySem.W.Frag} {im : Hp} {am : List Addr} : ∀ {ds : List D} {vs : List V} {ns : List Int}, RpAll K im am ds vs → intsD ds = some ns → vs = ns.map V.int
  | [], _, ns, h, e => by cases h; simp only [intsD, Option.some.injEq] at e; subst e; rfl
  | d :: ds, _, ns, h, e => by
    cases h with
    | cons q r =>
      cases d with
      | int i =>
        cases q
        simp only [intsD] at e
        cases h2 : intsD ds with
        | none => rw [h2] at e; cases e
        | some ms => rw [h2] at e; cases e; rw [ints_all r h2]; rfl
      | _ => simp [intsD] at e
theorem bools_all {K : PySem.W.Frag} {im : Hp} {am : List Addr} : ∀ {ds : List D} {vs : List V} {ns : List Bool}, RpAll K im am ds vs → boolsD ds = some ns → vs = ns.map V.bl
  | [], _, ns, h, e => by cases h; simp only [boolsD, Option.some.injEq] at e; subst e; rfl
  | d :: ds, _, ns, h, e => by
    cases h with
    | cons q r =>
      cases d with
      | bl i =>
        cases q
        simp only [boolsD] at e
        cases h2 : boolsD ds with
        | none => rw [h2] at e; cases e
        | some ms => rw [h2] at e; cases e; rw [bools_all r h2]; rfl
      | _ => simp [boolsD] at e
theorem RpAll.one {K : PySem.W.Frag} {im : Hp} {am : List Addr} {d : D} {vs : List V} (h : RpAll K im am [d] vs) : ∃ v, vs = [v] ∧ Rp K im am d v := by
  cases h with | cons q r => cases r; exact ⟨_, rfl, q⟩
theorem RpAll.two {K : PySem.W.Frag} {im : Hp} {am : List Addr} {d e : D} {vs : List V} (h : RpAll K im am [d, e] vs) : ∃ v u, vs = [v, u] ∧ Rp K im am d v ∧ Rp K im am e u := by
  cases h with | cons q r => cases r with | cons q2 r => cases r; exact ⟨_, _, rfl, q, q2⟩
/-- one argument -/
theorem one_arg {f : List D → Sto → Res D} {K : PySem.W.Frag} {R : Hp → List Addr → D → V → Prop} {im : Hp} {am : List Addr} {H : Hp} {st : Sto} {ds : List D} {Q : VK} (g : D → Sto → Res D) (h0 : ∀ ds st, f ds st = match ds with | [d] => g d st | _ => .stuck) (w : Wp K ca R E im am H (f ds st) Q) : ∃ d, ds = [d] ∧ Wp K ca R E im am H (g d st) Q := by
  rw [h0] at w
  match ds, w with
  | [d], w => exact ⟨d, rfl, w⟩
  | [], w => exact w.elim
  | _ :: _ :: _, w => exact w.elim

theorem callLen_D : CallR X (.builtin "len") (GotL X ca E (biR .len)) := by
  intro pins s σ H xs us Q I r ⟨im, am, st, ds, so, ra, w⟩
  obtain ⟨d, ed, w1⟩ := one_arg (f := biR .len) (fun d st => match deref d st with
    | .lst xs => .ok (.int xs.length) st
    | .tup xs => .ok (.int xs.length) st
    | .str z => if z.length ≤ lim then .ok (.int z.length) st else .stuck
    | .dct kvs => .ok (.int kvs.length) st
    | .frz xs => .ok (.int xs.length) st
    | _ => .stuck) (fun ds st => by unfold biR; rcases ds with _ | ⟨d, _ | ⟨e, ds⟩⟩ <;> rfl) w
  clear w
  subst ed
  have w := w1
  clear w1
  obtain ⟨v, rfl, rd⟩ := ra.one
  cases hd : deref d st with
  | lst ys =>
    rw [hd] at w
    obtain ⟨a, vs, rfl, q1, q2⟩ := deref_lst so rd hd
    exact call_len_seq pins s σ H _ us Q I r ⟨a, vs, rfl, .inl (.of q1), by rw [← q2.length]; exact Wp.fin (st := st) w so (.int _)⟩
  | tup ys =>
    rw [hd] at w
    obtain ⟨a, vs, rfl, q1, q2⟩ := deref_tup so rd hd
    exact call_len_seq pins s σ H _ us Q I r ⟨a, vs, rfl, .inr q1, by rw [← q2.length]; exact Wp.fin (st := st) w so (.int _)⟩
  | frz ys =>
    rw [hd] at w
    obtain ⟨a, vs, rfl, q1, q2⟩ := deref_frz so rd hd
    exact call_len_seq pins s σ H _ us Q I r ⟨a, vs, rfl, .inl q1, by rw [← q2.length]; exact Wp.fin (st := st) w so (.int _)⟩
  | dct ys =>
    rw [hd] at w
    obtain ⟨a, ks, rfl, q1, q2⟩ := deref_dct so rd hd
    obtain ⟨u, rfl, ru⟩ := vals1 r
    cases ru
    exact d_len I q1 fun t s' I' => ⟨.int ks.length, H, I', ⟨t, rfl⟩, by rw [← q2.length]; exact Wp.fin (st := st) w so (.int _)⟩
  | str z =>
    rw [hd] at w
    have e1 : d = .str z := by
      have := deref_flat (st := st) rd (by rw [hd])
      rw [this.1] at hd; exact hd
    subst e1
    cases rd
    dsimp only at w
    split at w
    · rename_i hl
      exact call_len_str pins s σ H _ us Q I r ⟨z, rfl, lim_size hl, Wp.fin (st := st) w so (.int _)⟩
    · exact w.elim
  | _ => rw [hd] at w; exact w.elim
theorem elems_cases {K : PySem.W.Frag} {im : Hp} {am : List Addr} {H : Hp} {st : Sto} {d : D} {v : V} (so : StOk K st im am H) (rd : Rp K im am d v) {xs : List D} (e : elems d st = some xs) :
    (∃ a vs, v = .ref a ∧ H a = some (.lst vs) ∧ RpAll K im am xs vs) ∨ (∃ a vs, v = .ref a ∧ deref d st = .tup xs ∧ SqT K im a vs ∧ SqT K H a vs ∧ RpAll K im am xs vs) := by
  unfold elems at e
  cases hd : deref d st with
  | lst ys => rw [hd] at e; cases e; exact .inl (deref_lst so rd hd)
  | tup ys =>
    rw [hd] at e; cases e
    have rd := tp_of rd hd
    cases rd with
    | @tup a vs _ q1 q2 => exact .inr ⟨a, vs, rfl, rfl, q1, Same.seqT so.same q1, q2⟩
  | _ => rw [hd] at e; cases e
theorem callList_D : CallR X (.type "list") (GotL X ca E (biR .list)) := by
  intro pins s σ H xs us Q I r ⟨im, am, st, ds, so, ra, w⟩
  obtain ⟨d, ed, w1⟩ := one_arg (f := biR .list) (fun d st => ofO ((elems d st).map D.lst) st) (fun ds st => by unfold biR; rcases ds with _ | ⟨d, _ | ⟨e, ds⟩⟩ <;> rfl) w
  clear w
  subst ed
  have w := w1
  clear w1
  obtain ⟨v, rfl, rd⟩ := ra.one
  cases he : elems d st with
  | none => rw [he] at w; exact w.elim
  | some ys =>
    rw [he] at w
    rcases elems_cases so rd he with ⟨a, vs, rfl, q1, q2⟩ | ⟨a, vs, rfl, hdr, q0, q1, q2⟩
    · exact call_list_of pins s σ H _ us Q I r ⟨a, vs, rfl, .inl (.of q1), fun l hl => fin_new w so hl fun im' h1 h2 => .lst h2 (RpAll.mono h1 (List.prefix_refl _) _ _ q2)⟩
    · exact call_list_of pins s σ H _ us Q I r ⟨a, vs, rfl, .inr q1, fun l hl => fin_new w so hl fun im' h1 h2 => .lst h2 (RpAll.mono h1 (List.prefix_refl _) _ _ q2)⟩
theorem callTuple_D : CallR X (.type "tuple") (GotL X ca E (biR .tuple)) := by
  intro pins s σ H xs us Q I r ⟨im, am, st, ds, so, ra, w⟩
  obtain ⟨d, ed, w1⟩ := one_arg (f := biR .tuple) (fun d st => ofO ((elems d st).map D.tup) st) (fun ds st => by unfold biR; rcases ds with _ | ⟨d, _ | ⟨e, ds⟩⟩ <;> rfl) w
  clear w
  subst ed
  have w := w1
  clear w1
  obtain ⟨v, rfl, rd⟩ := ra.one
  cases he : elems d st with
  | none => rw [he] at w; exact w.elim
  | some ys =>
    rw [he] at w
    rcases elems_cases so rd he with ⟨a, vs, rfl, q1, q2⟩ | ⟨a, vs, rfl, hdr, q0, q1, q2⟩
    · exact call_tuple_of pins s σ H _ us Q I r ⟨a, vs, rfl, .inl ⟨.of q1, fun l hl => fin_new w so hl fun im' h1 h2 => .tup (.of h2) (RpAll.mono h1 (List.prefix_refl _) _ _ q2)⟩⟩
    · exact call_tuple_of pins s σ H _ us Q I r ⟨a, vs, rfl, .inr ⟨q1, Wp.fin (st := st) w so (.tup q0 q2)⟩⟩
theorem callAll_D (hc : X.calm = true) : CallR X (.builtin "all") (GotL X ca E (biR .all)) := by
  intro pins s σ H xs us Q I r ⟨im, am, st, ds, so, ra, w⟩
  obtain ⟨d, ed, w1⟩ := one_arg (f := biR .all) (fun d st => match deref d st with
    | .lst xs => ofO ((boolsD xs).map fun bs => .bl (bs.all id)) st
    | _ => .stuck) (fun ds st => by unfold biR; rcases ds with _ | ⟨d, _ | ⟨e, ds⟩⟩ <;> rfl) w
  clear w
  subst ed
  have w := w1
  clear w1
  obtain ⟨v, rfl, rd⟩ := ra.one
  cases hd : deref d st with
  | lst ys =>
    rw [hd] at w
    obtain ⟨a, vs, rfl, q1, q2⟩ := deref_lst so rd hd
    dsimp only at w
    cases hb : boolsD ys with
    | none => rw [hb] at w; exact w.elim
    | some bs =>
      rw [hb] at w
      have ev := bools_all q2 hb
      subst ev
      exact cr_all hc pins s σ H _ us Q I r ⟨a, bs, rfl, .of q1, Wp.fin (st := st) w so (.bl _)⟩
  | _ => rw [hd] at w; exact w.elim
theorem callAny_D (hc : X.calm = true) : CallR X (.builtin "any") (GotL X ca E (biR .any)) := by
  intro pins s σ H xs us Q I r ⟨im, am, st, ds, so, ra, w⟩
  obtain ⟨d, ed, w1⟩ := one_arg (f := biR .any) (fun d st => match deref d st with
    | .lst xs => ofO ((boolsD xs).map fun bs => .bl (bs.any id)) st
    | _ => .stuck) (fun ds st => by unfold biR; rcases ds with _ | ⟨d, _ | ⟨e, ds⟩⟩ <;> rfl) w
  clear w
  subst ed
  have w := w1
  clear w1
  obtain ⟨v, rfl, rd⟩ := ra.one
  cases hd : deref d st with
  | lst ys =>
    rw [hd] at w
    obtain ⟨a, vs, rfl, q1, q2⟩ := deref_lst so rd hd
    dsimp only at w
    cases hb : boolsD ys with
    | none => rw [hb] at w; exact w.elim
    | some bs =>
      rw [hb] at w
      have ev := bools_all q2 hb
      subst ev
      exact cr_any hc pins s σ H _ us Q I r ⟨a, bs, rfl, .of q1, Wp.fin (st := st) w so (.bl _)⟩
  | _ => rw [hd] at w; exact w.elim
theorem callSum_D (hc : X.calm = true) : CallR X (.builtin "sum") (GotL X ca E (biR .sum)) := by
  intro pins s σ H xs us Q I r ⟨im, am, st, ds, so, ra, w⟩
  obtain ⟨d, ed, w1⟩ := one_arg (f := biR .sum) (fun d st => match deref d st with
    | .lst xs => ofO ((intsD xs).map fun ns => .int ns.sum) st
    | _ => .stuck) (fun ds st => by unfold biR; rcases ds with _ | ⟨d, _ | ⟨e, ds⟩⟩ <;> rfl) w
  clear w
  subst ed
  have w := w1
  clear w1
  obtain ⟨v, rfl, rd⟩ := ra.one
  cases hd : deref d st with
  | lst ys =>
    rw [hd] at w
    obtain ⟨a, vs, rfl, q1, q2⟩ := deref_lst so rd hd
    dsimp only at w
    cases hb : intsD ys with
    | none => rw [hb] at w; exact w.elim
    | some bs =>
      rw [hb] at w
      have ev := ints_all q2 hb
      subst ev
      exact cr_sum hc pins s σ H _ us Q I r ⟨a, bs, rfl, .of q1, Wp.fin (st := st) w so (.int _)⟩
  | _ => rw [hd] at w; exact w.elim
theorem maxI_le (n : Int) : ∀ ns : List Int, n ≤ maxI n ns ∧ (∀ y ∈ ns, y ≤ maxI n ns) ∧ (maxI n ns = n ∨ maxI n ns ∈ ns) := by
  intro ns
  induction ns generalizing n with
  | nil => exact ⟨Int.le_refl _, fun y h => by simp at h, .inl rfl⟩
  | cons b bs ih =>
    unfold maxI
    by_cases h : b > n
    · rw [if_pos h]
      obtain ⟨h1, h2, h3⟩ := ih b
      refine ⟨by omega, fun y hy => ?_, ?_⟩
      · rcases List.mem_cons.mp hy with rfl | hy
        · exact h1
        · exact h2 y hy
      · rcases h3 with h3 | h3
        · rw [h3]; exact .inr List.mem_cons_self
        · exact .inr (List.mem_cons_of_mem _ h3)
    · rw [if_neg h]
      obtain ⟨h1, h2, h3⟩ := ih n
      refine ⟨h1, fun y hy => ?_, ?_⟩
      · rcases List.mem_cons.mp hy with rfl | hy
        · omega
        · exact h2 y hy
      · rcases h3 with h3 | h3
        · exact .inl h3
        · exact .inr (List.mem_cons_of_mem _ h3)
theorem callMaxl_D (hc : X.calm = true) : CallR X (.builtin "max") (GotL X ca E (biR .maxl)) := by
  intro pins s σ H xs us Q I r ⟨im, am, st, ds, so, ra, w⟩
  obtain ⟨d, ed, w1⟩ := one_arg (f := biR .maxl) (fun d st => match deref d st with
    | .lst xs => match intsD xs with
      | some (n :: ns) => .ok (.int (maxI n ns)) st
      | _ => .stuck
    | _ => .stuck) (fun ds st => by unfold biR; rcases ds with _ | ⟨d, _ | ⟨e, ds⟩⟩ <;> rfl) w
  clear w
  subst ed
  have w := w1
  clear w1
  obtain ⟨v, rfl, rd⟩ := ra.one
  cases hd : deref d st with
  | lst ys =>
    rw [hd] at w
    obtain ⟨a, vs, rfl, q1, q2⟩ := deref_lst so rd hd
    dsimp only at w
    cases hb : intsD ys with
    | none => rw [hb] at w; exact w.elim
    | some bs =>
      rw [hb] at w
      cases bs with
      | nil => exact w.elim
      | cons n ns =>
        have ev := ints_all q2 hb
        subst ev
        refine cr_max hc pins s σ H _ us Q I r ⟨a, n :: ns, rfl, .of q1, by simp, fun m hm hy => ?_⟩
        obtain ⟨h1, h2, h3⟩ := maxI_le n ns
        have e : m = maxI n ns := by
          have a1 : m ≤ maxI n ns := by
            rcases List.mem_cons.mp hm with rfl | hm
            · exact h1
            · exact h2 _ hm
          have a2 : maxI n ns ≤ m := by
            rcases h3 with h3 | h3
            · rw [h3]; exact hy n List.mem_cons_self
            · exact hy _ (List.mem_cons_of_mem _ h3)
          omega
        rw [e]
        exact Wp.fin (st := st) w so (.int _)
  | _ => rw [hd] at w; exact w.elim
theorem callAbs_D : CallR X (.builtin "abs") (GotL X ca E (biR .abs)) := by
  intro pins s σ H xs us Q I r ⟨im, am, st, ds, so, ra, w⟩
  match ds, ra, w with
  | [.int n], ra, w => obtain ⟨v, rfl, rd⟩ := ra.one; cases rd; exact call_abs pins s σ H _ us Q I r ⟨n, rfl, Wp.fin (st := st) w so (.int _)⟩
theorem callMin2_D (hc : X.calm = true) : CallR X (.builtin "min") (GotL X ca E (biR .min2)) := by
  intro pins s σ H xs us Q I r ⟨im, am, st, ds, so, ra, w⟩
  match ds, ra, w with
  | [.int m, .int n], ra, w => obtain ⟨v, v2, rfl, rd, rd2⟩ := ra.two; cases rd; cases rd2; exact call_min2 hc pins s σ H _ us Q I r ⟨m, n, rfl, Wp.fin (st := st) w so (.int _)⟩
theorem callMax2_D (hc : X.calm = true) : CallR X (.builtin "max") (GotL X ca E (biR .max2)) := by
  intro pins s σ H xs us Q I r ⟨im, am, st, ds, so, ra, w⟩
  match ds, ra, w with
  | [.int m, .int n], ra, w => obtain ⟨v, v2, rfl, rd, rd2⟩ := ra.two; cases rd; cases rd2; exact call_max2 hc pins s σ H _ us Q I r ⟨m, n, rfl, Wp.fin (st := st) w so (.int _)⟩
theorem callInt_D : CallR X (.type "int") (GotL X ca E (biR .int)) := by
  intro pins s σ H xs us Q I r ⟨im, am, st, ds, so, ra, w⟩
  match ds, ra, w with
  | [.int n], ra, w => obtain ⟨v, rfl, rd⟩ := ra.one; cases rd; exact call_int1 pins s σ H _ us Q I r (.inl ⟨n, rfl, Wp.fin (st := st) w so (.int _)⟩)
  | [.bl n], ra, w => obtain ⟨v, rfl, rd⟩ := ra.one; cases rd; exact call_int1 pins s σ H _ us Q I r (.inr ⟨n, rfl, Wp.fin (st := st) w so (.int _)⟩)
theorem callBool_D : CallR X (.type "bool") (GotL X ca E (biR .bool)) := by
  intro pins s σ H xs us Q I r ⟨im, am, st, ds, so, ra, w⟩
  match ds, ra, w with
  | [.bl n], ra, w => obtain ⟨v, rfl, rd⟩ := ra.one; cases rd; exact call_bool1 pins s σ H _ us Q I r (.inr ⟨n, rfl, Wp.fin (st := st) w so (.bl _)⟩)
end
end PP
end

section
set_option linter.all false
set_option autoImplicit false
set_option maxRecDepth 100000
set_option Elab.async false
/-! isinstance, str, methods. -/
namespace PP
open PySem PySem.Spec PyProof.Rows L2
def tyN : Ty → String
  | .int => "int" | .bool => "bool" | .tuple => "tuple" | .list => "list" | .str => "str"
def tyS : Ty → Str
  | .int => "int" | .bool => "bool" | .tuple => "tuple" | .list => "list" | .str => "str"
theorem tyS_boot (t : Ty) : bootBuiltins (tyS t) = some (.type (tyN t)) := by cases t <;> decide +kernel
theorem tyS_ne (t : Ty) : tyS t ≠ ("__name__" : Str) := by cases t <;> decide +kernel
theorem tyS_db (t : Ty) : (tyS t == ("__debug__" : Str)) = false := by cases t <;> decide +kernel
def noStar : Expr → Bool
  | .Starred .. => false
  | _ => true
theorem star_of {e : Expr} {es : List Expr} {env : PySem.Env} (h : noStar e = true) : starEach (e :: es) env = (false, eval e env) :: starEach es env := by
  cases e <;> first | rfl | (cases h)
theorem star_any {es : List Expr} {env : PySem.Env} {pos : Pos} (h : es.all noStar = true) : (backTo pos (starEach es env)).any (·.1) = false := by
  induction es with
  | nil => rfl
  | cons e es ih =>
    rw [List.all_cons, Bool.and_eq_true] at h
    rw [star_of h.1]
    show (false || (backTo pos (starEach es env)).any (·.1)) = false
    rw [ih h.2]; rfl
section
variable {X : Cx} {ca : Nat → Addr} {E : XK}
theorem kb_non (ty : Ty) : kitB "NoneType" (tyN ty) = some false := by cases ty <;> decide +kernel
theorem kb_bl (ty : Ty) : kitB "bool" (tyN ty) = some (match ty with | .int | .bool => true | _ => false) := by cases ty <;> decide +kernel
theorem kb_int (ty : Ty) : kitB "int" (tyN ty) = some (match ty with | .int => true | _ => false) := by cases ty <;> decide +kernel
theorem kb_str (ty : Ty) : kitB "str" (tyN ty) = some (match ty with | .str => true | _ => false) := by cases ty <;> decide +kernel
theorem kb_lst (ty : Ty) : kitB "list" (tyN ty) = some (match ty with | .list => true | _ => false) := by cases ty <;> decide +kernel
theorem kb_tup (ty : Ty) : kitB "tuple" (tyN ty) = some (match ty with | .tuple => true | _ => false) := by cases ty <;> decide +kernel
theorem kb_dct (ty : Ty) : kitB "dict" (tyN ty) = some false := by cases ty <;> decide +kernel
theorem tyx_of {K : PySem.W.Frag} {im : Hp} {am : List Addr} {H : Hp} {st : Sto} {d : D} {v : V} (so : StOk K st im am H) (rd : Rp K im am d v) (h : (match deref d st with | .frz _ | .cel _ => false | _ => true) = true) :
    ∃ t : String, TyX K H v (.type t) ∧ ∀ ty, kitB t (tyN ty) = some (hasTy ty d st) := by
  cases hd : deref d st with
  | lst ys =>
    obtain ⟨a, vs, rfl, q1, q2⟩ := deref_lst so rd hd
    exact ⟨"list", .base (.lst q1), fun ty => by rw [kb_lst]; unfold hasTy; rw [hd]; cases ty <;> rfl⟩
  | tup ys =>
    obtain ⟨a, vs, rfl, q1, q2⟩ := deref_tup so rd hd
    refine ⟨"tuple", ?_, fun ty => by rw [kb_tup]; unfold hasTy; rw [hd]; cases ty <;> rfl⟩
    rcases q1 with (q1 | ⟨o, q1⟩) | ⟨o, its, n, q1, q3, _⟩
    · exact .base (.tup q1)
    · exact .fTuple q1
    · exact .kTuple q1 q3
  | dct ys =>
    obtain ⟨a, ks, rfl, q1, q2⟩ := deref_dct so rd hd
    exact ⟨"dict", (by rcases q1 with q1 | ⟨o, q1⟩; exact .base (.dK q1); exact .fDict q1), fun ty => by rw [kb_dct]; unfold hasTy; rw [hd]; cases ty <;> rfl⟩
  | frz ys => rw [hd] at h; cases h
  | tpn ys => exfalso; cases d with
    | cel i => rw [deref_cel] at hd; cases q : st[i]? with
      | none => rw [q] at hd; cases hd
      | some c => rw [q] at hd; cases c <;> cases hd
    | _ => cases hd
  | cel ys => rw [hd] at h; cases h
  | non =>
    have e1 : d = .non := by have := deref_flat (st := st) rd (by rw [hd]); rw [this.1] at hd; exact hd
    subst e1; cases rd
    exact ⟨"NoneType", .base .non, fun ty => by rw [kb_non]; unfold hasTy; rw [hd]; cases ty <;> rfl⟩
  | bl b =>
    have e1 : d = .bl b := by have := deref_flat (st := st) rd (by rw [hd]); rw [this.1] at hd; exact hd
    subst e1; cases rd
    exact ⟨"bool", .base (.bl b), fun ty => by rw [kb_bl]; unfold hasTy; rw [hd]; cases ty <;> rfl⟩
  | int b =>
    have e1 : d = .int b := by have := deref_flat (st := st) rd (by rw [hd]); rw [this.1] at hd; exact hd
    subst e1; cases rd
    exact ⟨"int", .base (.int b), fun ty => by rw [kb_int]; unfold hasTy; rw [hd]; cases ty <;> rfl⟩
  | str b =>
    have e1 : d = .str b := by have := deref_flat (st := st) rd (by rw [hd]); rw [this.1] at hd; exact hd
    subst e1; cases rd
    exact ⟨"str", .base (.str b), fun ty => by rw [kb_str]; unfold hasTy; rw [hd]; cases ty <;> rfl⟩
theorem isiR_cases {R : Hp → List Addr → D → V → Prop} {K : PySem.W.Frag} {im : Hp} {am : List Addr} {H : Hp} {ts : List Ty} {d : D} {st : Sto} {Q : VK} (w : Wp K ca R E im am H (isiR ts d st) Q) :
    (match deref d st with | .frz _ | .cel _ => false | _ => true) = true ∧ Wp K ca R E im am H (.ok (.bl (isAny ts d st)) st) Q := by
  unfold isiR at w
  cases hd : deref d st with
  | frz _ => rw [hd] at w; exact w.elim
  | cel _ => rw [hd] at w; exact w.elim
  | _ => rw [hd] at w; exact ⟨rfl, w⟩
theorem callIsi_D : CallR X (.builtin "isinstance") (fun vs H Q => ∃ im am st d x ty, StOk X.K st im am H ∧ Rp X.K im am d x ∧ vs = [x, .ty (tyN ty)] ∧ Wp X.K ca (Rp X.K) E im am H (isiR [ty] d st) Q) := by
  intro pins s σ H xs us Q I r h
  obtain ⟨im, am, st, d, x, ty, so, rd, rfl, w⟩ := h
  obtain ⟨hf, w⟩ := isiR_cases w
  obtain ⟨t, h1, h2⟩ := tyx_of so rd hf
  refine call_isi pins s σ H _ us Q I r ⟨x, .ty (tyN ty), .type t, .type (tyN ty), hasTy ty d st, rfl, .ty _, h1, kit_ty (h2 ty), ?_⟩
  have e : isAny [ty] d st = hasTy ty d st := by simp [isAny]
  rw [e] at w
  exact Wp.fin (st := st) w so (.bl _)
theorem callIsi2_D : CallR X (.builtin "isinstance") (fun vs H Q => ∃ im am st d x ty ty2 tp, StOk X.K st im am H ∧ Rp X.K im am d x ∧ vs = [x, .ref tp] ∧ H tp = some (.tup [.ty (tyN ty), .ty (tyN ty2)]) ∧ Wp X.K ca (Rp X.K) E im am H (isiR [ty, ty2] d st) Q) := by
  intro pins s σ H xs us Q I r h
  obtain ⟨im, am, st, d, x, ty, ty2, tp, so, rd, rfl, ht, w⟩ := h
  obtain ⟨hf, w⟩ := isiR_cases w
  obtain ⟨t, h1, h2⟩ := tyx_of so rd hf
  refine call_isiT pins s σ H _ us Q I r ⟨x, tp, _, .type t, [.type (tyN ty), .type (tyN ty2)], isAny [ty, ty2] d st, rfl, ht, .cons (.ty _) (.cons (.ty _) .nil), h1, ?_, Wp.fin (st := st) w so (.bl _)⟩
  have e : isAny [ty, ty2] d st = (hasTy ty d st || hasTy ty2 d st) := by simp [isAny]
  rw [e]
  refine kitAny_cons (kit_ty (h2 ty)) (fun hb => ?_) (fun hb => by rw [hb]; rfl)
  rw [hb, Bool.false_or]
  exact kitAny_cons (kit_ty (h2 ty2)) (fun hb => by rw [hb]; rfl) (fun hb => hb)

/-! ### str -/
theorem strOk_ofString (s : String) : PyData.strOk (Str.ofString s) = true := by
  unfold PyData.strOk Str.ofString
  rw [cpsOfBytes_string, List.all_toArray, List.all_eq_true]
  intro c hc
  obtain ⟨ch, _, rfl⟩ := List.mem_map.mp hc
  have h := ch.valid
  simp only [UInt32.isValidChar, Nat.isValidChar] at h
  have : ch.toNat = ch.val.toNat := rfl
  rw [decide_eq_true_eq, this]
  omega
theorem strOk_int (n : Int) : PyData.strOk (toString n : String) = true := strOk_ofString _
theorem callStr_D : CallR X (.type "str") (GotL X ca E (biR .str)) := by
  intro pins s σ H xs us Q I r ⟨im, am, st, ds, so, ra, w⟩
  match ds, ra, w with
  | [.int n], ra, w =>
    obtain ⟨v, rfl, rd⟩ := ra.one
    cases rd
    simp only [biR] at w
    split at w
    · rename_i hl
      exact call_str_int pins s σ H _ us Q I r ⟨n, rfl, hl, Wp.fin (st := st) w so (.str _ (strOk_int n))⟩
    · exact w.elim
  | [.str n], ra, w =>
    obtain ⟨v, rfl, rd⟩ := ra.one
    cases rd with
    | str _ ok => exact SkE.call_str_str pins s σ H _ us Q I r ⟨n, rfl, Wp.fin (st := st) w so (.str _ ok)⟩

/-! ### methods -/
abbrev GotM (X : Cx) (ca : Nat → Addr) (E : XK) (f : D → List D → Sto → Res D) : V → List V → Hp → VK → Prop := fun x vs H Q => ∃ im am st d ds, StOk X.K st im am H ∧ Rp X.K im am d x ∧ RpAll X.K im am ds vs ∧ Wp X.K ca (Rp X.K) E im am H (f d ds st) Q
theorem mtAppend_D : MtR X "list.append" (GotM X ca E (mtR .append)) := by
  intro pins s σ H x xs v us Q I rx r ⟨im, am, st, d, ds, so, rd, ra, w⟩
  cases d with
  | cel i =>
    match ds, ra, w with
    | [e], ra, w =>
      obtain ⟨y, rfl, re⟩ := ra.one
      simp only [mtR] at w
      cases rd with
      | @cel _ a q =>
        cases hc : st[i]? with
        | none => rw [hc] at w; exact w.elim
        | some c =>
          rw [hc] at w
          cases c with
          | dct _ => exact w.elim
          | lst ys =>
            dsimp only at w
            split at w
            · rename_i hl
              obtain ⟨vs, h1, h2⟩ := so.cell i a _ q hc
              refine mt_append pins s σ H _ _ v us Q I rx r ⟨a, vs, y, rfl, rfl, h1, by have := h2.length; have := lim_size (n := lim) (Nat.le_refl _); omega, ?_⟩
              exact w im am _ _ (Ext.write q) (so.write q ⟨_, upd_same, h2.snoc re⟩) .non
            · exact w.elim
    | [], ra, w => simp only [mtR] at w; exact w.elim
    | _ :: _ :: _, ra, w => simp only [mtR] at w; exact w.elim
  | _ => simp only [mtR] at w; exact w.elim
theorem RpAll.dropLast {K : PySem.W.Frag} {im : Hp} {am : List Addr} {ds : List D} {vs : List V} (h : RpAll K im am ds vs) : RpAll K im am ds.dropLast vs.dropLast := by
  rw [List.dropLast_eq_take, List.dropLast_eq_take, h.length]; exact h.take _
theorem mtPop_D : MtR X "list.pop" (GotM X ca E (mtR .pop)) := by
  intro pins s σ H x xs v us Q I rx r ⟨im, am, st, d, ds, so, rd, ra, w⟩
  cases d with
  | cel i =>
    match ds, ra, w with
    | [], ra, w =>
      simp only [mtR] at w
      cases rd with
      | @cel _ a q =>
        cases ra
        cases hc : st[i]? with
        | none => rw [hc] at w; exact w.elim
        | some c =>
          rw [hc] at w
          cases c with
          | dct _ => exact w.elim
          | lst ys =>
            dsimp only at w
            cases hg : ys.getLast? with
            | none => rw [hg] at w; exact w.elim
            | some e =>
              rw [hg] at w
              obtain ⟨vs, h1, h2⟩ := so.cell i a _ q hc
              have h3 : ys[ys.length - 1]? = some e := by rw [← List.getLast?_eq_getElem?]; exact hg
              obtain ⟨y, hy, ry⟩ := h2.get h3
              refine mt_pop pins s σ H _ _ v us Q I rx r ⟨a, vs, y, rfl, rfl, h1, by rw [← h2.length]; exact hy, ?_⟩
              exact w im am _ _ (Ext.write q) (so.write q ⟨_, upd_same, h2.dropLast⟩) ry
    | _ :: _, ra, w => simp only [mtR] at w; exact w.elim
  | _ => simp only [mtR] at w; exact w.elim
theorem mtCount_D : MtR X "list.count" (GotM X ca E (mtR .count)) := by
  intro pins s σ H x xs v us Q I rx r ⟨im, am, st, d, ds, so, rd, ra, w⟩
  match ds, ra, w with
  | [.int k], ra, w =>
    obtain ⟨y, rfl, re⟩ := ra.one
    cases re
    have w : Wp X.K ca (Rp X.K) E im am H (match deref d st with
      | .lst xs => match intsD xs with
        | some ns => .ok (.int (ns.count k)) st
        | none => .stuck
      | _ => .stuck) Q := by cases d <;> exact w
    cases hd : deref d st with
    | lst ys =>
      rw [hd] at w
      dsimp only at w
      cases hn : intsD ys with
      | none => rw [hn] at w; exact w.elim
      | some ns =>
        rw [hn] at w
        obtain ⟨a, vs, rfl, h1, h2⟩ := deref_lst so rd hd
        have ev := ints_all h2 hn
        subst ev
        exact mt_lcount pins s σ H _ _ v us Q I rx r ⟨a, ns, k, rfl, rfl, .of h1, Wp.fin (st := st) w so (.int _)⟩
    | _ => rw [hd] at w; exact w.elim
end
end PP
end

section
set_option linter.all false
set_option autoImplicit false
set_option maxRecDepth 100000
set_option Elab.async false
/-! One rule a construct, at the readings by plain results. -/
namespace L2
theorem PE.im {X : Cx} {e : PySem.Expr} {t t' : TE} (h : PE X e t) (f : ∀ σ H Q, t' σ H Q → t σ H Q) : PE X e t' := ⟨fun pins s σ H Q I w => h.run pins s σ H Q I (f σ H Q w)⟩
theorem PT.im {X : Cx} {e : PySem.Expr} {t t' : TT} (h : PT X e t) (f : ∀ σ H Q, t' σ H Q → t σ H Q) : PT X e t' := ⟨fun pins s σ H Q I w => h.run pins s σ H Q I (f σ H Q w)⟩
theorem PW.im {X : Cx} {e : PySem.Expr} {t t' : TT} (h : PW X e t) (f : ∀ σ H Q, t' σ H Q → t σ H Q) : PW X e t' := ⟨fun wh pins s σ H Q I w => h.run wh pins s σ H Q I (f σ H Q w)⟩
theorem PA.im {X : Cx} {es : List PySem.Expr} {t t' : TA} (h : PA X es t) (f : ∀ σ H Q, t' σ H Q → t σ H Q) : PA X es t' := ⟨fun pos pins s σ H Q I w => h.run pos pins s σ H Q I (f σ H Q w)⟩
theorem PI.im {X : Cx} {tg e : PySem.Expr} {t t' : TI} (h : PI X tg e t) (f : ∀ σ H Q, t' σ H Q → t σ H Q) : PI X tg e t' := ⟨fun pins s σ H Q I w => h.run pins s σ H Q I (f σ H Q w)⟩
theorem PG.im {X : Cx} {tg : PySem.Expr} {t t' : TG} (h : PG X tg t) (f : ∀ v σ H Q, t' v σ H Q → t v σ H Q) : PG X tg t' := ⟨fun pins s σ H v u Q I r w => h.run pins s σ H v u Q I r (f v σ H Q w)⟩
theorem PS.im {X : Cx} {e : PySem.Stmt} {t t' : TS} (h : PS X e t) (f : ∀ D σ H, t' D σ H → t D σ H) : PS X e t' := ⟨fun pins s σ H D I w => h.run pins s σ H D I (f D σ H w)⟩
theorem PSs.im {X : Cx} {e : List PySem.Stmt} {t t' : TS} (h : PSs X e t) (f : ∀ D σ H, t' D σ H → t D σ H) : PSs X e t' := ⟨fun pins s σ H D I w => h.run pins s σ H D I (f D σ H w)⟩
end L2
namespace PP
open PySem PySem.Spec PyProof.Rows L2
section
variable {X : Cx} {ca : Nat → Addr} {E : XK} {σ : L2.St} {H : Hp}
/-- two in a row -/
theorem bin_tE {r : R2} {m1 m2 : Env → Sto → Res D} {f : D → D → Sto → Res D} {Q : VK} (hr : ∀ x y H Q, Got2 X ca E f x y H Q → r x y H Q)
    (h : tE X.K ca E (fun env st => (m1 env st).bind fun x st => (m2 env st).bind fun y st => f x y st) σ H Q) : tOp r (tE X.K ca E m1) (tE X.K ca E m2) σ H Q := by
  obtain ⟨im, am, env, st, eo, so, w⟩ := h
  refine ⟨im, am, env, st, eo, so, Wp.seq w fun x H1 im1 am1 a st1 e1 s1 r1 w1 => ?_⟩
  refine ⟨im1, am1, env, st1, eo.ext e1, s1, Wp.seq w1 fun y H2 im2 am2 b st2 e2 s2 r2 w2 => ?_⟩
  exact hr _ _ _ _ ⟨im2, am2, st2, a, b, s2, r1.mono e2.same e2.pre _ _, r2, w2⟩
/-- the same, as a test -/
theorem test_tE {m : Env → Sto → Res D} {Q : Bool → Hp → Prop} (h : tT X.K ca E m σ H Q) : ∃ Q1 : VK, tE X.K ca E m σ H Q1 ∧ ∀ x H', Q1 x H' → ∃ k, x = .bl k ∧ Q k H' := by
  refine ⟨fun x H' => ∃ k, x = .bl k ∧ Q k H', ?_, fun _ _ h => h⟩
  obtain ⟨im, am, env, st, eo, so, w⟩ := h
  refine ⟨im, am, env, st, eo, so, Wp.seq w fun x H1 im1 am1 a st1 e1 s1 r1 w1 => ?_⟩
  cases a with
  | bl b => cases r1; exact ⟨b, rfl, Wp.fin w1 s1 rfl⟩
  | _ => exact w1.elim
theorem tE.mono {m : Env → Sto → Res D} {Q Q' : VK} (h : tE X.K ca E m σ H Q) (f : ∀ x H, Q x H → Q' x H) : tE X.K ca E m σ H Q' := by
  obtain ⟨im, am, env, st, eo, so, w⟩ := h
  exact ⟨im, am, env, st, eo, so, w.mono f⟩
theorem tT_tB {m : Env → Sto → Res D} {Q : Bool → Hp → Prop} (h : tT X.K ca E m σ H Q) : tB (tE X.K ca E m) σ H Q := by
  obtain ⟨Q1, h1, h2⟩ := test_tE h
  exact h1.mono h2
theorem tT_tTest {m : Env → Sto → Res D} {Q : Bool → Hp → Prop} (h : tT X.K ca E m σ H Q) : tTest (tE X.K ca E m) σ H Q := by
  obtain ⟨Q1, h1, h2⟩ := test_tE h
  exact h1.mono h2

/-! ### what is shown of a pair -/
structure Snd (X : Cx) (ca : Nat → Addr) (E : XK) (e : Expr) (m : Env → Sto → Res D) : Prop where
  pe : PE X e (tE X.K ca E m)
  pt : PT X e (tT X.K ca E m)
  pw : ∀ op vs p, e = .BoolOp op vs p → PW X e (tT X.K ca E m)
  sw : ∀ elt gens scope pos, e = .ListComp elt gens scope pos → ∀ i y py spos, X.N[i]? = some y → X.env.scope.names.lookup y = some .local → swapsWith e (some (.Name y py)) spos.line X.env = pure true →
    PS X (.Assign [.Name y py] e spos) (tAsg (tE X.K ca E m) (gName i))
def plainT : Expr → Bool
  | .UnaryOp .Not _ _ | .BoolOp .. | .IfExp .. | .Compare .. | .ListComp .. => false
  | _ => true
theorem Snd.val {e : Expr} {m : Env → Sto → Res D} (h : PE X e (tE X.K ca E m)) (hp : plainT e = true) : Snd X ca E e m := by
  refine ⟨h, PT.im (pt_val h ?_) (fun σ H Q w => tT_tB w), fun op vs p e' => ?_, fun elt gens scope pos e' => ?_⟩
  · intro whole
    cases e with
    | UnaryOp o x p => cases o <;> first | rfl | (cases hp)
    | BoolOp o x p => cases hp
    | IfExp a b c p => cases hp
    | Compare a b c p => cases hp
    | _ => rfl
  · subst e'; cases hp
  · subst e'; cases hp
theorem Snd.cmp {a : Expr} {ops : List CmpOp} {bs : List Expr} {p : Pos} {m : Env → Sto → Res D} (h : PE X (.Compare a ops bs p) (tE X.K ca E m)) (t : PT X (.Compare a ops bs p) (tT X.K ca E m)) : Snd X ca E (.Compare a ops bs p) m :=
  ⟨h, t, (fun _ _ _ e => nomatch e), (fun _ _ _ _ e => nomatch e)⟩

/-! ### operations -/
theorem snd_op {op : Operator} {a b : Expr} {p : Pos} {m1 m2 : Env → Sto → Res D} {f : D → D → Sto → Res D} (ho : OpR X (binaryOp op) (Got2 X ca E f)) (ha : Snd X ca E a m1) (hb : Snd X ca E b m2) :
    Snd X ca E (.BinOp a op b p) (fun env st => (m1 env st).bind fun x st => (m2 env st).bind fun y st => f x y st) :=
  Snd.val ((pe_op ho ha.pe hb.pe).im fun σ H Q w => bin_tE (fun _ _ _ _ h => h) w) rfl
theorem snd_cmp {op : CmpOp} {a b : Expr} {p : Pos} {m1 m2 : Env → Sto → Res D} {f : D → D → Sto → Res D} (ho : OpR X (compareOp op) (Got2 X ca E f)) (ha : Snd X ca E a m1) (hb : Snd X ca E b m2) (hm : behindInMarks op b = false) :
    Snd X ca E (.Compare a [op] [b] p) (fun env st => (m1 env st).bind fun x st => (m2 env st).bind fun y st => f x y st) :=
  Snd.cmp ((pe_cmpR ho ha.pe hb.pe hm).im fun σ H Q w => bin_tE (fun _ _ _ _ h => h) w)
    ((pt_cmpR ho ha.pe hb.pe hm).im fun σ H Q w => by
      obtain ⟨Q1, h1, h2⟩ := test_tE w
      exact (bin_tE (r := Got2 X ca E f) (Q := fun x H' => ∃ k, x = .bl k ∧ Q k H') (fun _ _ _ _ h => h) (h1.mono h2)))
theorem cmp_of {op : CmpOp} {f g : D → D → Sto → Res D} (ho : OpR X (compareOp op) (Got2 X ca E f)) (e : f = g) : OpR X (compareOp op) (Got2 X ca E g) := e ▸ ho
/-- l <= x <= h -/
theorem chain_tE {m1 m2 m3 : Env → Sto → Res D} {Q : VK}
    (h : tE X.K ca E (fun env st => (m1 env st).bind fun l st => (m2 env st).bind fun y st => (cmpR .le l y st).bind fun r st =>
      if r then (m3 env st).bind fun h st => (cmpR .le y h st).bind fun r st => .ok (.bl r) st else .ok (.bl false) st) σ H Q) :
    tChain (Got2 X ca E (bw (cmpR .le))) (Got2 X ca E (bw (cmpR .le))) (tE X.K ca E m1) (tE X.K ca E m2) (tE X.K ca E m3) σ H Q := by
  obtain ⟨im, am, env, st, eo, so, w⟩ := h
  refine ⟨im, am, env, st, eo, so, Wp.seq w fun x H1 im1 am1 a st1 e1 s1 r1 w1 => ?_⟩
  refine ⟨im1, am1, env, st1, eo.ext e1, s1, Wp.seq w1 fun y H2 im2 am2 b st2 e2 s2 r2 w2 => ?_⟩
  refine ⟨im2, am2, st2, a, b, s2, r1.mono e2.same e2.pre _ _, r2, ?_⟩
  cases a with
  | int i =>
    cases b with
    | int j =>
      show Wp X.K ca (Rp X.K) E im2 am2 H2 (.ok (.bl (decide (i ≤ j))) st2) _
      have w2 : Wp X.K ca (Rp X.K) E im2 am2 H2 (if decide (i ≤ j) = true then (m3 env st2).bind fun h st => (cmpR .le (.int j) h st).bind fun r st => .ok (.bl r) st else .ok (.bl false) st2) Q := w2
      intro im3 am3 H3 v e3 s3 r3
      cases r3
      refine ⟨_, rfl, ?_⟩
      cases hd : decide (i ≤ j) with
      | false => rw [hd] at w2; exact w2 im3 am3 H3 _ e3 s3 (.bl false)
      | true =>
        rw [hd, if_pos rfl] at w2
        refine ⟨im3, am3, env, st2, (eo.ext (e1.trans e2)).ext e3, s3, Wp.seq (Wp.ext e3 w2) fun z H4 im4 am4 c st4 e4 s4 r4 w4 => ?_⟩
        exact ⟨im4, am4, st4, .int j, c, s4, (r2.mono e3.same e3.pre _ _).mono e4.same e4.pre _ _, r4, w4⟩
    | _ => exact w2.elim
  | _ => exact w2.elim
theorem snd_chain {a b c : Expr} {p : Pos} {m1 m2 m3 : Env → Sto → Res D} (ha : Snd X ca E a m1) (hb : Snd X ca E b m2) (hc : Snd X ca E c m3) (hm : lastMarks [.LtE, .LtE] [b, c] = false) :
    Snd X ca E (.Compare a [.LtE, .LtE] [b, c] p) (fun env st => (m1 env st).bind fun l st => (m2 env st).bind fun y st => (cmpR .le l y st).bind fun r st =>
      if r then (m3 env st).bind fun h st => (cmpR .le y h st).bind fun r st => .ok (.bl r) st else .ok (.bl false) st) :=
  Snd.cmp ((pe_chain op_leR op_leR ha.pe hb.pe hc.pe hm).im fun σ H Q w => chain_tE w)
    ((pt_chain op_leR op_leR ha.pe hb.pe hc.pe hm).im fun σ H Q w => by
      obtain ⟨Q1, h1, h2⟩ := test_tE w
      exact chain_tE (Q := fun x H' => ∃ k, x = .bl k ∧ Q k H') (h1.mono h2))
/-! ### and, or, not, if -/
def andM (m1 m2 : Env → Sto → Res D) : Env → Sto → Res D := fun env st => (m1 env st).bind fun x st => (asB x st).bind fun p st => if p then m2 env st else .ok (.bl false) st
def orM (m1 m2 : Env → Sto → Res D) : Env → Sto → Res D := fun env st => (m1 env st).bind fun x st => (asB x st).bind fun p st => if p then .ok (.bl true) st else m2 env st
def notM (m1 : Env → Sto → Res D) : Env → Sto → Res D := fun env st => (m1 env st).bind fun x st => (asB x st).bind fun p st => .ok (.bl (!p)) st
def ifM (m1 m2 m3 : Env → Sto → Res D) : Env → Sto → Res D := fun env st => (m1 env st).bind fun x st => (asB x st).bind fun p st => if p then m2 env st else m3 env st
/-- a bool, and what follows -/
theorem bool_first {R : Hp → List Addr → D → V → Prop} {α β : Type} {S : Hp → List Addr → α → β → Prop} {m1 : Env → Sto → Res D} {f : Bool → Env → Sto → Res α} {Q : β → Hp → Prop} {im : Hp} {am : List Addr} {env : Env} {st : Sto} (eo : EnvOk X.K im am env σ) (so : StOk X.K st im am H)
    (w : Wp X.K ca S E im am H ((m1 env st).bind fun x st => (asB x st).bind fun p st => f p env st) Q) :
    Wp X.K ca (Rp X.K) E im am H (m1 env st) (fun x H1 => ∃ c, x = .bl c ∧ ∃ im1 am1 st1, EnvOk X.K im1 am1 env σ ∧ StOk X.K st1 im1 am1 H1 ∧ Wp X.K ca S E im1 am1 H1 (f c env st1) Q) := by
  refine Wp.seq w fun x H1 im1 am1 a st1 e1 s1 r1 w1 => ?_
  cases a with
  | bl b => cases r1; exact ⟨b, rfl, im1, am1, st1, eo.ext e1, s1, w1⟩
  | _ => exact w1.elim
theorem bool_firstT {α β : Type} {S : Hp → List Addr → α → β → Prop} {m1 : Env → Sto → Res D} {f : Bool → Env → Sto → Res α} {Q : β → Hp → Prop} {im : Hp} {am : List Addr} {env : Env} {st : Sto} (eo : EnvOk X.K im am env σ) (so : StOk X.K st im am H)
    (w : Wp X.K ca S E im am H ((m1 env st).bind fun x st => (asB x st).bind fun p st => f p env st) Q) :
    tT X.K ca E m1 σ H (fun c H1 => ∃ im1 am1 st1, EnvOk X.K im1 am1 env σ ∧ StOk X.K st1 im1 am1 H1 ∧ Wp X.K ca S E im1 am1 H1 (f c env st1) Q) := by
  refine ⟨im, am, env, st, eo, so, ?_⟩
  rw [← Res.bind_bind] at w
  refine Wp.seq w fun x H1 im1 am1 a st1 e1 s1 r1 w1 => ?_
  cases r1
  exact ⟨im1, am1, st1, eo.ext e1, s1, w1⟩
theorem andV_tE {m1 m2 : Env → Sto → Res D} {Q : VK} (h : tE X.K ca E (andM m1 m2) σ H Q) : tAndV (tE X.K ca E m1) (tE X.K ca E m2) σ H Q := by
  obtain ⟨im, am, env, st, eo, so, w⟩ := h
  refine ⟨im, am, env, st, eo, so, (bool_first (f := fun p env st => if p then m2 env st else .ok (.bl false) st) (R := Rp X.K) eo so w).mono ?_⟩
  rintro x H1 ⟨c, rfl, im1, am1, st1, eo1, s1, w1⟩
  refine ⟨c, rfl, ?_⟩
  cases c with
  | true => exact ⟨im1, am1, env, st1, eo1, s1, w1⟩
  | false => exact Wp.fin (st := st1) w1 s1 (.bl false)
theorem orV_tE {m1 m2 : Env → Sto → Res D} {Q : VK} (h : tE X.K ca E (orM m1 m2) σ H Q) : tOrV (tE X.K ca E m1) (tE X.K ca E m2) σ H Q := by
  obtain ⟨im, am, env, st, eo, so, w⟩ := h
  refine ⟨im, am, env, st, eo, so, (bool_first (f := fun p env st => if p then .ok (.bl true) st else m2 env st) (R := Rp X.K) eo so w).mono ?_⟩
  rintro x H1 ⟨c, rfl, im1, am1, st1, eo1, s1, w1⟩
  refine ⟨c, rfl, ?_⟩
  cases c with
  | false => exact ⟨im1, am1, env, st1, eo1, s1, w1⟩
  | true => exact Wp.fin (st := st1) w1 s1 (.bl true)
theorem notV_tE {m1 : Env → Sto → Res D} {Q : VK} (h : tE X.K ca E (notM m1) σ H Q) : tNotV (tE X.K ca E m1) σ H Q := by
  obtain ⟨im, am, env, st, eo, so, w⟩ := h
  refine ⟨im, am, env, st, eo, so, (bool_first (f := fun p env st => Res.ok (D.bl (!p)) st) (R := Rp X.K) eo so w).mono ?_⟩
  rintro x H1 ⟨c, rfl, im1, am1, st1, eo1, s1, w1⟩
  exact ⟨c, rfl, Wp.fin (st := st1) w1 s1 (.bl _)⟩
theorem ifE_tE {m1 m2 m3 : Env → Sto → Res D} {Q : VK} (h : tE X.K ca E (ifM m1 m2 m3) σ H Q) : tIf (tT X.K ca E m1) (tE X.K ca E m2) (tE X.K ca E m3) σ H Q := by
  obtain ⟨im, am, env, st, eo, so, w⟩ := h
  obtain ⟨im', am', env', st', eo', so', w'⟩ := bool_firstT (f := fun p env st => if p then m2 env st else m3 env st) eo so w
  refine ⟨im', am', env', st', eo', so', w'.mono ?_⟩
  rintro c H1 ⟨im1, am1, st1, eo1, s1, w1⟩
  cases c with
  | true => exact ⟨im1, am1, env, st1, eo1, s1, w1⟩
  | false => exact ⟨im1, am1, env, st1, eo1, s1, w1⟩
theorem tT_and {m1 m2 : Env → Sto → Res D} {Q : Bool → Hp → Prop} (h : tT X.K ca E (andM m1 m2) σ H Q) : tAnd (tT X.K ca E m1) (tT X.K ca E m2) σ H Q := by
  obtain ⟨im, am, env, st, eo, so, w⟩ := h
  have w : Wp X.K ca RB E im am H ((m1 env st).bind fun x st => (asB x st).bind fun p st => (if p then m2 env st else .ok (.bl false) st).bind asB) Q := by
    simpa only [andM, Res.bind_bind] using w
  obtain ⟨im', am', env', st', eo', so', w'⟩ := bool_firstT (f := fun p env st => (if p then m2 env st else .ok (.bl false) st).bind asB) eo so w
  refine ⟨im', am', env', st', eo', so', w'.mono ?_⟩
  rintro c H1 ⟨im1, am1, st1, eo1, s1, w1⟩
  cases c with
  | true => exact ⟨im1, am1, env, st1, eo1, s1, w1⟩
  | false => exact Wp.fin (α := Bool) (st := st1) w1 s1 rfl
theorem tT_or {m1 m2 : Env → Sto → Res D} {Q : Bool → Hp → Prop} (h : tT X.K ca E (orM m1 m2) σ H Q) : tOr (tT X.K ca E m1) (tT X.K ca E m2) σ H Q := by
  obtain ⟨im, am, env, st, eo, so, w⟩ := h
  have w : Wp X.K ca RB E im am H ((m1 env st).bind fun x st => (asB x st).bind fun p st => (if p then .ok (.bl true) st else m2 env st).bind asB) Q := by
    simpa only [orM, Res.bind_bind] using w
  obtain ⟨im', am', env', st', eo', so', w'⟩ := bool_firstT (f := fun p env st => (if p then .ok (.bl true) st else m2 env st).bind asB) eo so w
  refine ⟨im', am', env', st', eo', so', w'.mono ?_⟩
  rintro c H1 ⟨im1, am1, st1, eo1, s1, w1⟩
  cases c with
  | false => exact ⟨im1, am1, env, st1, eo1, s1, w1⟩
  | true => exact Wp.fin (α := Bool) (st := st1) w1 s1 rfl
theorem tT_not {m1 : Env → Sto → Res D} {Q : Bool → Hp → Prop} (h : tT X.K ca E (notM m1) σ H Q) : tNot (tT X.K ca E m1) σ H Q := by
  obtain ⟨im, am, env, st, eo, so, w⟩ := h
  have w : Wp X.K ca RB E im am H ((m1 env st).bind fun x st => (asB x st).bind fun p st => (Res.ok (.bl (!p)) st).bind asB) Q := by
    simpa only [notM, Res.bind_bind] using w
  obtain ⟨im', am', env', st', eo', so', w'⟩ := bool_firstT (f := fun p env st => (Res.ok (.bl (!p)) st).bind asB) eo so w
  refine ⟨im', am', env', st', eo', so', w'.mono ?_⟩
  rintro c H1 ⟨im1, am1, st1, eo1, s1, w1⟩
  exact Wp.fin (α := Bool) (st := st1) w1 s1 rfl
theorem tT_if {m1 m2 m3 : Env → Sto → Res D} {Q : Bool → Hp → Prop} (h : tT X.K ca E (ifM m1 m2 m3) σ H Q) : tB (tE X.K ca E (ifM m1 m2 m3)) σ H Q := tT_tB h
theorem snd_and {a b : Expr} {p : Pos} {m1 m2 : Env → Sto → Res D} {rest : List Expr} (ha : Snd X ca E a m1) (hb : match rest with | [] => Snd X ca E b m2 | _ => Snd X ca E (.BoolOp .And (b :: rest) p) m2) : Snd X ca E (.BoolOp .And (a :: b :: rest) p) (andM m1 m2) := by
  have h1 : PE X (.BoolOp .And (b :: rest) p) (tE X.K ca E m2) := by
    cases rest with
    | nil => exact pe_one hb.pe
    | cons c r => exact hb.pe
  have h2 : PW X (.BoolOp .And (b :: rest) p) (tT X.K ca E m2) := by
    cases rest with
    | nil => exact pw_and1 hb.pt
    | cons c r => exact hb.pw _ _ _ rfl
  have hw := (pw_and ha.pt h2).im fun σ H Q w => tT_and w
  exact ⟨(pe_and ha.pe h1).im fun σ H Q w => andV_tE w, hw.pt, fun _ _ _ _ => hw, fun _ _ _ _ e => nomatch e⟩
theorem snd_or {a b : Expr} {p : Pos} {m1 m2 : Env → Sto → Res D} {rest : List Expr} (ha : Snd X ca E a m1) (hb : match rest with | [] => Snd X ca E b m2 | _ => Snd X ca E (.BoolOp .Or (b :: rest) p) m2) : Snd X ca E (.BoolOp .Or (a :: b :: rest) p) (orM m1 m2) := by
  have h1 : PE X (.BoolOp .Or (b :: rest) p) (tE X.K ca E m2) := by
    cases rest with
    | nil => exact pe_one hb.pe
    | cons c r => exact hb.pe
  have h2 : PW X (.BoolOp .Or (b :: rest) p) (tT X.K ca E m2) := by
    cases rest with
    | nil => exact pw_or1 hb.pt
    | cons c r => exact hb.pw _ _ _ rfl
  have hw := (pw_or ha.pt h2).im fun σ H Q w => tT_or w
  exact ⟨(pe_or ha.pe h1).im fun σ H Q w => orV_tE w, hw.pt, fun _ _ _ _ => hw, fun _ _ _ _ e => nomatch e⟩
theorem snd_not {a : Expr} {p : Pos} {m1 : Env → Sto → Res D} (ha : Snd X ca E a m1) : Snd X ca E (.UnaryOp .Not a p) (notM m1) :=
  ⟨(pe_not ha.pe).im fun σ H Q w => notV_tE w, (pt_not ha.pt).im fun σ H Q w => tT_not w, (fun _ _ _ e => nomatch e), (fun _ _ _ _ e => nomatch e)⟩
end
end PP
end

section
set_option linter.all false
set_option autoImplicit false
set_option maxRecDepth 100000
set_option Elab.async false
/-! Names, literals, displays, calls. -/
namespace PP
open PySem PySem.Spec PyProof.Rows L2
/-! ### the table of a program -/
structure Tb where
  fns : List (Str × (Nat × Nat))
  cns : List (Str × Int)
  bis : List Str
def visB (sc : Scope) (x : Str) : Bool := match sc.names.lookup x with
  | some .local | some .cell | some .free => true
  | _ => false
def locB (sc : Scope) (x : Str) : Bool := match sc.names.lookup x with
  | some .local | some .cell => true
  | _ => false
def lclB (sc : Scope) (x : Str) : Bool := match sc.names.lookup x with
  | some .local => true
  | _ => false
def gloB (sc : Scope) (x : Str) : Bool := match sc.names.lookup x with
  | some .globalImplicit => true
  | _ => false
def okN (x : Str) : Bool := !(x == ("__debug__" : Str)) && !(x == ("__classdict__" : Str)) && !(decide (x = ("__name__" : Str)))
theorem visB_ok {sc : Scope} {x : Str} (h : visB sc x = true) : Vis sc x := by
  unfold visB at h
  split at h
  · exact .inl (by assumption)
  · exact .inr (.inl (by assumption))
  · exact .inr (.inr (by assumption))
  · cases h
theorem locB_ok {sc : Scope} {x : Str} (h : locB sc x = true) : Loc sc x := by
  unfold locB at h
  split at h
  · exact .inl (by assumption)
  · exact .inr (by assumption)
  · cases h
theorem lclB_ok {sc : Scope} {x : Str} (h : lclB sc x = true) : sc.names.lookup x = some .local := by
  unfold lclB at h
  split at h
  · assumption
  · cases h
theorem gloB_ok {X : Cx} {x : Str} (h : gloB X.env.scope x = true) : Gl X x := by
  unfold gloB at h
  split at h
  · assumption
  · cases h
structure OkN (x : Str) : Prop where
  d : (x == ("__debug__" : Str)) = false
  c : (x == ("__classdict__" : Str)) = false
  n : x ≠ "__name__"
theorem okN_ok {x : Str} (h : okN x = true) : OkN x := by
  unfold okN at h
  simp only [Bool.and_eq_true, Bool.not_eq_true', decide_eq_false_iff_not] at h
  exact ⟨h.1.1, h.1.2, h.2⟩
/-- a def's promise -/
def spD (K : PySem.W.Frag) (ca : Nat → Addr) (a : Nat) (f : List D → Sto → Res D) : Sp := fun vs H Q E => vs.length = a ∧ ∃ im am st ds, StOk K st im am H ∧ RpAll K im am ds vs ∧ Wp K ca (Rp K) E im am H (f ds st) Q
/-- what stands around a body -/
structure Cxt (T : Tb) (N : List Str) (ca : Nat → Addr) (call : Nat → List D → Sto → Res D) (X : Cx) : Prop where
  nm : X.N = N
  nd : N.Nodup
  calm : X.calm = true
  un : X.A.units + 100 < cLine
  fn : ∀ x i a, T.fns.lookup x = some (i, a) → ∃ k f fd ps, FnOk X.prog X.w X.K X.mg X.base (L2.CX X.prog X.w) k f fd ps (spD X.K ca a (call i)) ∧ Room k X.A ∧ X.mg x = some (.ref f) ∧ PySem.W.keepIn X.K (.ref f) = true ∧ Binds X.K fd ps []
  cn : ∀ x i, T.cns.lookup x = some i → ∃ t, X.mg x = some (.int i t)
  bi : ∀ x ∈ T.bis, X.mg x = none
theorem Cxt.blk {T : Tb} {N : List Str} {ca : Nat → Addr} {call : Nat → List D → Sto → Res D} {X : Cx} (c : Cxt T N ca call X) (s : Shared) (H : Hp) (scope : Scope) (cl : List (Str × Addr)) (C : Addr) (fp : List Addr) : Cxt T N ca call (X.blk s H scope (compEnvC scope cl C X.env) fp) :=
  ⟨c.nm, c.nd, c.calm, c.un, c.fn, c.cn, c.bi⟩
section
variable {X : Cx} {ca : Nat → Addr} {E : XK} {σ : L2.St} {H : Hp} {T : Tb} {N : List Str} {call : Nat → List D → Sto → Res D}
theorem snd_slot {i : Nat} {x : Str} {p : Pos} (c : Cxt T N ca call X) (hi : N[i]? = some x) (hv : visB X.env.scope x = true) (hn : okN x = true) : Snd X ca E (.Name x p) (fun env st => ofO (getS env i) st) :=
  Snd.val (PE.im (pe_var (by rw [c.nm]; exact hi) (visB_ok hv) (okN_ok hn).d (okN_ok hn).c) fun σ H Q ⟨im, am, env, st, eo, so, w⟩ => by
    have w : Wp X.K ca (Rp X.K) E im am H (ofO (getS env i) st) Q := w
    cases h : getS env i with
    | none => rw [h] at w; exact w.elim
    | some d =>
      rw [h] at w
      obtain ⟨v, e, r⟩ := eo.get h
      exact ⟨v, e, Wp.fin w so r⟩) rfl
theorem tC_of {d : D} {v : V} {Q : VK} (r : ∀ im am, Rp X.K im am d v) (h : tE X.K ca E (fun _ st => .ok d st) σ H Q) : tC v σ H Q := by
  obtain ⟨im, am, env, st, eo, so, w⟩ := h
  exact Wp.fin w so (r im am)
def litB (T : Tb) (d : D) (sc : Scope) (e : Expr) : Bool := match d, e with
  | .int i, .Constant (.int j) _ _ => decide (i = j)
  | .int i, .Name x _ => decide (T.cns.lookup x = some i) && gloB sc x && okN x
  | .bl b, .Constant (.bool c) _ _ => b == c
  | .non, .Constant .none _ _ => true
  | .str x, .Constant (.str y) _ _ => decide (x = y) && PyData.strOk x
  | _, _ => false
theorem snd_lit {d : D} {e : Expr} (c : Cxt T N ca call X) (h : litB T d X.env.scope e = true) : Snd X ca E e (fun _ st => .ok d st) := by
  unfold litB at h
  split at h
  · obtain rfl := of_decide_eq_true h
    exact Snd.val (PE.im pe_int fun σ H Q w => tC_of (fun _ _ => .int _) w) rfl
  · rename_i i x p
    simp only [Bool.and_eq_true, decide_eq_true_eq] at h
    obtain ⟨t, ht⟩ := c.cn _ _ h.1.1
    exact Snd.val (PE.im (pe_glob (v := .int i) (gloB_ok h.1.2) ht ⟨t, rfl⟩ (okN_ok h.2).d) fun σ H Q w => tC_of (fun _ _ => .int _) w) rfl
  · obtain rfl := eq_of_beq h
    exact Snd.val (PE.im pe_bl fun σ H Q w => tC_of (fun _ _ => .bl _) w) rfl
  · exact Snd.val (PE.im pe_non fun σ H Q w => tC_of (fun _ _ => .non) w) rfl
  · simp only [Bool.and_eq_true, decide_eq_true_eq] at h
    obtain ⟨rfl, hs⟩ := h
    exact Snd.val (PE.im pe_str fun σ H Q w => tC_of (fun _ _ => .str _ hs) w) rfl
  · cases h
/-! ### argument lists -/
structure SndA (X : Cx) (ca : Nat → Addr) (E : XK) (es : List Expr) (n : Nat) (m : Env → Sto → Res (List D)) : Prop where
  pa : PA X es (tA X.K ca E m)
  ns : es.all noStar = true
  len : es.length = n
  out : ∀ env st ds st', m env st = .ok ds st' → ds.length = n
theorem snd_nil : SndA X ca E [] 0 (fun _ st => .ok [] st) :=
  ⟨PA.im pa_nil fun σ H Q ⟨im, am, env, st, eo, so, w⟩ => Wp.fin w so .nil, rfl, rfl, fun env st ds st' h => by cases h; rfl⟩
theorem snd_cons {e : Expr} {es : List Expr} {n : Nat} {m1 : Env → Sto → Res D} {m2 : Env → Sto → Res (List D)} (h1 : Snd X ca E e m1) (hn : noStar e = true) (h2 : SndA X ca E es n m2) :
    SndA X ca E (e :: es) (n + 1) (fun env st => (m1 env st).bind fun d st => (m2 env st).bind fun ds st => .ok (d :: ds) st) := by
  refine ⟨PA.im (pa_cons h1.pe h2.pa (star_of hn)) fun σ H Q ⟨im, am, env, st, eo, so, w⟩ => ?_, ?_, ?_, fun env st ds st' h => ?_⟩
  · refine ⟨im, am, env, st, eo, so, Wp.seq w fun x H1 im1 am1 a st1 e1 s1 r1 w1 => ?_⟩
    refine ⟨im1, am1, env, st1, eo.ext e1, s1, Wp.seq w1 fun y H2 im2 am2 b st2 e2 s2 r2 w2 => ?_⟩
    exact Wp.fin w2 s2 (.cons (r1.mono e2.same e2.pre _ _) r2)
  · rw [List.all_cons, hn, h2.ns]; rfl
  · rw [List.length_cons, h2.len]
  · cases e1 : m1 env st with
    | ok d s1 =>
      simp only [e1, Res.bind_ok] at h
      cases e2 : m2 env s1 with
      | ok l s2 => simp only [e2, Res.bind_ok] at h; cases h; rw [List.length_cons, h2.out _ _ _ _ e2]
      | err c s2 => simp only [e2, Res.bind_err] at h; cases h
      | stuck => simp only [e2, Res.bind_stuck] at h; cases h
    | err c s1 => simp only [e1, Res.bind_err] at h; cases h
    | stuck => simp only [e1, Res.bind_stuck] at h; cases h
/-- with the result known -/
theorem Wp.seqE {α β γ δ : Type} {K : PySem.W.Frag} {R : Hp → List Addr → α → β → Prop} {S : Hp → List Addr → γ → δ → Prop} {im : Hp} {am : List Addr} {H : Hp} {r : Res α} {Q : β → Hp → Prop} {Q2 : δ → Hp → Prop} {f : α → Sto → Res γ} (h : Wp K ca S E im am H (r.bind f) Q2)
    (k : ∀ b H1 im1 am1 a st1, r = .ok a st1 → Ext im am H im1 am1 H1 → StOk K st1 im1 am1 H1 → R im1 am1 a b → Wp K ca S E im1 am1 H1 (f a st1) Q2 → Q b H1) : Wp K ca R E im am H r Q := by
  cases r with
  | ok a st => exact fun im' am' H' b x s q => k b H' im' am' a st rfl x s q (Wp.ext x h)
  | err c st => exact h
  | stuck => exact h
theorem snd_tup {es : List Expr} {k n : Nat} {p : Pos} {m : Env → Sto → Res (List D)} (h : SndA X ca E es n m) (hn : n ≤ 1000) : Snd X ca E (.Tuple es k p) (fun env st => (m env st).bind fun ds st => .ok (.tup ds) st) :=
  Snd.val (PE.im (pe_tup h.pa) fun σ H Q ⟨im, am, env, st, eo, so, w⟩ => ⟨im, am, env, st, eo, so, Wp.seqE w fun x H1 im1 am1 a st1 he e1 s1 r1 w1 => ⟨by rw [← r1.length, h.out _ _ _ _ he]; rw [sizeLine_eq]; omega,
    fun p hp => fin_new w1 s1 hp fun im' hs hi => .tup (.of hi) (RpAll.mono hs (List.prefix_refl _) _ _ r1)⟩⟩) rfl
theorem snd_lst {es : List Expr} {n : Nat} {p : Pos} {m : Env → Sto → Res (List D)} (h : SndA X ca E es n m) (hn : n ≤ 1000) : Snd X ca E (.List es p) (fun env st => (m env st).bind fun ds st => .ok (.lst ds) st) :=
  Snd.val (PE.im (pe_lst h.pa) fun σ H Q ⟨im, am, env, st, eo, so, w⟩ => ⟨im, am, env, st, eo, so, Wp.seqE w fun x H1 im1 am1 a st1 he e1 s1 r1 w1 => ⟨by rw [← r1.length, h.out _ _ _ _ he]; rw [sizeLine_eq]; omega,
    fun p hp => fin_new w1 s1 hp fun im' hs hi => .lst hi (RpAll.mono hs (List.prefix_refl _) _ _ r1)⟩⟩) rfl
theorem snd_mlst {es : List Expr} {n : Nat} {p : Pos} {m : Env → Sto → Res (List D)} (h : SndA X ca E es n m) (hn : n ≤ 1000) : Snd X ca E (.List es p) (fun env st => (m env st).bind fun ds st => .ok (.cel st.length) (st ++ [.lst ds])) :=
  Snd.val (PE.im (pe_lst h.pa) fun σ H Q ⟨im, am, env, st, eo, so, w⟩ => ⟨im, am, env, st, eo, so, Wp.seqE w fun x H1 im1 am1 a st1 he e1 s1 r1 w1 => ⟨by rw [← r1.length, h.out _ _ _ _ he]; rw [sizeLine_eq]; omega,
    fun p hp => by
      refine Wp.fin1 w1 (Ext.cellNew s1 hp) (s1.cellNew hp ⟨x, upd_same, RpAll.mono (Same.refl _) (List.prefix_append _ _) _ _ r1⟩) (.cel ?_)
      rw [← s1.len, List.getElem?_append_right (Nat.le_refl _), Nat.sub_self]; rfl⟩⟩) rfl
/-! ### calls -/
theorem snd_bi {x : Str} {fv : Value} {id : String} {e : Expr} {es : List Expr} {n : Nat} {p pos : Pos} {m : Env → Sto → Res (List D)} {f : List D → Sto → Res D} (c : Cxt T N ca call X) (hv : bootBuiltins x = some fv) (hk : fv = .builtin id ∨ fv = .type id) (hc : CallR X fv (GotL X ca E f)) (hg : gloB X.env.scope x = true) (hb : x ∈ T.bis) (hx : okN x = true) (h : SndA X ca E (e :: es) n m) :
    Snd X ca E (.Call (.Name x p) (e :: es) [] pos) (fun env st => (m env st).bind fun ds st => f ds st) := by
  have hs := h.ns
  rw [List.all_cons, Bool.and_eq_true] at hs
  refine Snd.val ?_ rfl
  have im : ∀ σ H Q, tE X.K ca E (fun env st => (m env st).bind fun ds st => f ds st) σ H Q → tCB (GotL X ca E f) (tA X.K ca E m) σ H Q := fun σ H Q ⟨im, am, env, st, eo, so, w⟩ =>
    ⟨im, am, env, st, eo, so, Wp.seq w fun x H1 im1 am1 a st1 e1 s1 r1 w1 => ⟨im1, am1, st1, a, s1, r1, w1⟩⟩
  rcases hk with rfl | rfl
  · exact PE.im (pe_callB hc (gloB_ok hg) (c.bi _ hb) hv h.pa (okN_ok hx).n (okN_ok hx).d (star_of hs.1) (star_any hs.2)) im
  · exact PE.im (pe_callTy hc (gloB_ok hg) (c.bi _ hb) hv h.pa (okN_ok hx).n (okN_ok hx).d (star_of hs.1) (star_any hs.2)) im
theorem snd_call {x : Str} {i a : Nat} {e : Expr} {es : List Expr} {p pos : Pos} {m : Env → Sto → Res (List D)} (c : Cxt T N ca call X) (px : Passes (L2.CX X.prog X.w) X E) (hf : T.fns.lookup x = some (i, a)) (hg : gloB X.env.scope x = true) (hx : okN x = true) (h : SndA X ca E (e :: es) a m) :
    Snd X ca E (.Call (.Name x p) (e :: es) [] pos) (fun env st => (m env st).bind fun ds st => call i ds st) := by
  have hs := h.ns
  rw [List.all_cons, Bool.and_eq_true] at hs
  obtain ⟨k, f, fd, ps, F, hr, hm, hk, hb⟩ := c.fn _ _ _ hf
  refine Snd.val (PE.im (pe_call F hr (gloB_ok hg) hm hk hb .nil px h.pa (okN_ok hx).d (star_of hs.1) (star_any hs.2)) ?_) rfl
  intro σ H Q ⟨im, am, env, st, eo, so, w⟩
  refine ⟨im, am, env, st, eo, so, Wp.seqE w fun x H1 im1 am1 a st1 he e1 s1 r1 w1 => ?_⟩
  rw [List.append_nil]
  exact ⟨by rw [← r1.length, h.out _ _ _ _ he], im1, am1, st1, a, s1, r1, w1⟩
theorem snd_call0 {x : Str} {i : Nat} {p pos : Pos} (c : Cxt T N ca call X) (px : Passes (L2.CX X.prog X.w) X E) (hf : T.fns.lookup x = some (i, 0)) (hg : gloB X.env.scope x = true) (hx : okN x = true) :
    Snd X ca E (.Call (.Name x p) [] [] pos) (fun env st => (Res.ok [] st).bind fun ds st => call i ds st) := by
  obtain ⟨k, f, fd, ps, F, hr, hm, hk, hb⟩ := c.fn _ _ _ hf
  refine Snd.val (PE.im (pe_call0 F hr (gloB_ok hg) hm hk hb .nil px (okN_ok hx).d) ?_) rfl
  intro σ H Q ⟨im, am, env, st, eo, so, w⟩
  exact ⟨rfl, im, am, st, [], so, .nil, w⟩
/-! ### subscripts, slices -/
def plainIx : Expr → Bool
  | .Slice _ _ none _ => false
  | _ => true
theorem plainIx_ok {b : Expr} (h : plainIx b = true) : PlainIx b := by
  intro o i
  cases b with
  | Slice l u s p => cases s with
    | none => cases h
    | some s => rfl
  | _ => rfl
theorem snd_idx {a b : Expr} {p : Pos} {m1 m2 : Env → Sto → Res D} (c : Cxt T N ca call X) (ha : Snd X ca E a m1) (hb : Snd X ca E b m2) (hs : plainIx b = true) :
    Snd X ca E (.Subscript a b p) (fun env st => (m1 env st).bind fun x st => (m2 env st).bind fun y st => idxR x y st) :=
  Snd.val (PE.im (pe_ix (ix_D (ca := ca) (E := E) (by have := c.un; omega)) ha.pe hb.pe (plainIx_ok hs)) fun σ H Q w => bin_tE (fun _ _ _ _ h => h) w) rfl
/-- an int's place in a slice -/
theorem int_part {m : Env → Sto → Res D} {α β : Type} {S : Hp → List Addr → α → β → Prop} {f : Int → Sto → Res α} {Q : β → Hp → Prop} {im : Hp} {am : List Addr} {env : Env} {st : Sto} (eo : EnvOk X.K im am env σ) (so : StOk X.K st im am H)
    (w : Wp X.K ca S E im am H ((m env st).bind fun x st => (asI x st).bind fun i st => f i st) Q) :
    tPart (tE X.K ca E m) σ H (fun o H1 => ∃ i im1 am1 st1, o = some i ∧ Ext im am H im1 am1 H1 ∧ StOk X.K st1 im1 am1 H1 ∧ Wp X.K ca S E im1 am1 H1 (f i st1) Q) := by
  refine ⟨im, am, env, st, eo, so, Wp.seq w fun x H1 im1 am1 a st1 e1 s1 r1 w1 => ?_⟩
  cases a with
  | int i => cases r1; exact ⟨i, rfl, i, im1, am1, st1, rfl, e1, s1, w1⟩
  | _ => exact w1.elim
theorem snd_slc {a lo hi : Expr} {p p2 : Pos} {m1 m2 m3 : Env → Sto → Res D} (ha : Snd X ca E a m1) (hl : Snd X ca E lo m2) (hh : Snd X ca E hi m3) :
    Snd X ca E (.Subscript a (.Slice (some lo) (some hi) none p2) p) (fun env st => (m1 env st).bind fun x st => (m2 env st).bind fun l st => (asI l st).bind fun l st => (m3 env st).bind fun h st => (asI h st).bind fun h st => sliceR x (some l) (some h) st) :=
  Snd.val (PE.im (pe_slice (sl_D (ca := ca) (E := E)) ha.pe (po_some hl.pe) (po_some hh.pe)) fun σ H Q ⟨im, am, env, st, eo, so, w⟩ => by
    refine ⟨im, am, env, st, eo, so, Wp.seq w fun x H1 im1 am1 a st1 e1 s1 r1 w1 => ?_⟩
    obtain ⟨i2, a2, v2, t2, eo2, so2, w2⟩ := int_part (f := fun l st => (m3 env st).bind fun h st => (asI h st).bind fun h st => sliceR a (some l) (some h) st) (eo.ext e1) s1 w1
    refine ⟨i2, a2, v2, t2, eo2, so2, w2.mono ?_⟩
    rintro x2 H2 ⟨l, rfl, l', im2, am2, st2, ho, e2, s2, w3⟩
    cases ho
    obtain ⟨i3, a3, v3, t3, eo3, so3, w4⟩ := int_part (f := fun h st => sliceR a (some l) (some h) st) ((eo.ext e1).ext e2) s2 w3
    refine ⟨l, rfl, i3, a3, v3, t3, eo3, so3, w4.mono ?_⟩
    rintro x3 H3 ⟨o, rfl, h, im3, am3, st3, ho, e3, s3, w5⟩
    cases ho
    exact ⟨o, rfl, im3, am3, st3, a, s3, (r1.mono e2.same e2.pre _ _).mono e3.same e3.pre _ _, w5⟩) rfl
theorem snd_slcF {a lo : Expr} {p p2 : Pos} {m1 m2 : Env → Sto → Res D} (ha : Snd X ca E a m1) (hl : Snd X ca E lo m2) :
    Snd X ca E (.Subscript a (.Slice (some lo) none none p2) p) (fun env st => (m1 env st).bind fun x st => (m2 env st).bind fun l st => (asI l st).bind fun l st => sliceR x (some l) none st) :=
  Snd.val (PE.im (pe_slice (sl_D (ca := ca) (E := E)) ha.pe (po_some hl.pe) po_none) fun σ H Q ⟨im, am, env, st, eo, so, w⟩ => by
    refine ⟨im, am, env, st, eo, so, Wp.seq w fun x H1 im1 am1 a st1 e1 s1 r1 w1 => ?_⟩
    obtain ⟨i2, a2, v2, t2, eo2, so2, w2⟩ := int_part (f := fun l st => sliceR a (some l) none st) (eo.ext e1) s1 w1
    refine ⟨i2, a2, v2, t2, eo2, so2, w2.mono ?_⟩
    rintro x2 H2 ⟨l, rfl, l', im2, am2, st2, ho, e2, s2, w3⟩
    cases ho
    exact ⟨l, rfl, im2, am2, st2, a, s2, r1.mono e2.same e2.pre _ _, w3⟩) rfl
theorem snd_slcT {a hi : Expr} {p p2 : Pos} {m1 m3 : Env → Sto → Res D} (ha : Snd X ca E a m1) (hh : Snd X ca E hi m3) :
    Snd X ca E (.Subscript a (.Slice none (some hi) none p2) p) (fun env st => (m1 env st).bind fun x st => (m3 env st).bind fun h st => (asI h st).bind fun h st => sliceR x none (some h) st) :=
  Snd.val (PE.im (pe_slice (sl_D (ca := ca) (E := E)) ha.pe po_none (po_some hh.pe)) fun σ H Q ⟨im, am, env, st, eo, so, w⟩ => by
    refine ⟨im, am, env, st, eo, so, Wp.seq w fun x H1 im1 am1 a st1 e1 s1 r1 w1 => ?_⟩
    obtain ⟨i2, a2, v2, t2, eo2, so2, w2⟩ := int_part (f := fun l st => sliceR a none (some l) st) (eo.ext e1) s1 w1
    refine ⟨i2, a2, v2, t2, eo2, so2, w2.mono ?_⟩
    rintro x2 H2 ⟨l, rfl, l', im2, am2, st2, ho, e2, s2, w3⟩
    cases ho
    exact ⟨l, rfl, im2, am2, st2, a, s2, r1.mono e2.same e2.pre _ _, w3⟩) rfl
theorem snd_rev {a : Expr} {k : Nat} {p p1 p2 p3 : Pos} {m1 : Env → Sto → Res D} (ha : Snd X ca E a m1) :
    Snd X ca E (.Subscript a (.Slice none none (some (.UnaryOp .USub (.Constant (.int 1) k p1) p2)) p3) p) (fun env st => (m1 env st).bind fun x st => revR x st) :=
  Snd.val (PE.im (pe_revT ha.pe) fun σ H Q ⟨im, am, env, st, eo, so, w⟩ => by
    refine ⟨im, am, env, st, eo, so, Wp.seq w fun x H1 im1 am1 a st1 e1 s1 r1 w1 => ?_⟩
    cases a with
    | tup xs =>
      cases r1 with
      | tup q1 q2 => exact ⟨_, _, rfl, Same.seqT s1.same q1, fun p hp => fin_new w1 s1 hp fun im' hs hi => .tup (.of hi) (RpAll.mono hs (List.prefix_refl _) _ _ q2.reverse)⟩
    | _ => exact w1.elim) rfl
theorem snd_neg {a : Expr} {p : Pos} {m1 : Env → Sto → Res D} (ha : Snd X ca E a m1) : Snd X ca E (.UnaryOp .USub a p) (fun env st => (m1 env st).bind fun x st => (asI x st).bind fun i st => .ok (.int (-i)) st) :=
  Snd.val (PE.im (pe_un un_neg ha.pe) fun σ H Q ⟨im, am, env, st, eo, so, w⟩ => by
    refine ⟨im, am, env, st, eo, so, Wp.seq w fun x H1 im1 am1 a st1 e1 s1 r1 w1 => ?_⟩
    cases a with
    | int i => cases r1; exact ⟨i, rfl, Wp.fin (st := st1) w1 s1 (.int _)⟩
    | _ => exact w1.elim) rfl
theorem snd_ife {t a b : Expr} {p : Pos} {m1 m2 m3 : Env → Sto → Res D} (ht : Snd X ca E t m1) (ha : Snd X ca E a m2) (hb : Snd X ca E b m3) : PE X (.IfExp t a b p) (tE X.K ca E (ifM m1 m2 m3)) :=
  PE.im (pe_ifExp ht.pt ha.pe hb.pe) fun σ H Q w => ifE_tE w
end
end PP
end

section
set_option linter.all false
set_option autoImplicit false
set_option maxRecDepth 100000
set_option maxHeartbeats 1000000
set_option Elab.async false
/-! enumerate(tuple); a walk over a list or a tuple. -/
namespace PP
open PySem PySem.Spec PyProof.Rows L2
open AutoSeq1 (wpAny_loadPart')
theorem draws_tuple {prog : Program} {w : World} {A : Around} (hh : A.handled = none) (it l : Addr) (hne : l ≠ it) (items : Array Value) :
    Draws prog w A it [it, l] items.size (fun i v => items[i]? = some v) (fun i h => h.IsTupleIter it l i ∧ h.IsTuple l items) where
  live := fun _ _ st => let ⟨o, ho, _⟩ := st.1; ⟨o, ho⟩
  frame := fun _ _ _ st hk => ⟨st.1.at fun o e => hk it (by simp) o e, let ⟨o, ho, r⟩ := st.2; ⟨o, hk l (by simp) o ho, r⟩⟩
  item := fun i s Q E hi st hQ => by
    refine RZ.nextOf_tuple_item st.1 st.2 (x := items[i]) (by simp [hi]) fun h' hit' hs' => ?_
    exact hQ _ h' s.toks (by simp [hi]) ⟨hit', let ⟨o, ho, r⟩ := st.2; ⟨o, hs'.extBut _ _ hne ho, r⟩⟩ hs'
  done := fun s Q E st hE => RZ.nextOf_tuple_end hh st.1 st.2 (by simp) hE
theorem meets_enum_newT (l : Addr) (items : Array Value) (o : Obj) (ho : o.cls = .type "tuple") (n : Nat) (hd : o.data = .seq items n) :
    Meets (Builtin.«enumerate.__new__» ⟨[.type "enumerate", .ref l], []⟩) (fun _ R s => s.heap.get? l = some o ∧
      R (.ok (.ret (.ref (s.heap.push { cls := .type "tuple_iterator", data := .fields #[.ref l, .int 0 0] }).objs.size)))
        { s with heap := (s.heap.push { cls := .type "tuple_iterator", data := .fields #[.ref l, .int 0 0] }).push { cls := .type "enumerate", data := .fields #[.none, .bool false, .ref s.heap.objs.size, rawInt 0, .none, .none] } }) :=
  .of_wp fun prog w A R s h => by
    obtain ⟨hp, g, d, tk, os⟩ := s; obtain ⟨hl, h⟩ := h
    obtain ⟨c, dct, dt, sl⟩ := o
    replace ho : c = .type "tuple" := ho
    replace hd : dt = .seq items n := hd
    subst ho hd
    have hsub := sub_enumerate
    have hL : Heap.IsTuple (Shared.heap ⟨hp, g, d, tk, os⟩) l items := ⟨_, hl, rfl, n, rfl⟩
    wp_walk using wpAny_loadPart' hl
    refine wpAny_stack_any fun st => wpAny_pure ?_
    split
    · rename_i c _ _ _ _ _
      cases (c == Value.type "enumerate")
      · wp_walk using wpAny_loadPart' hl, wpAny_pyIter_tuple hL
        exact ⟨_, rfl, h⟩
      · wp_walk using wpAny_loadPart' hl, wpAny_pyIter_tuple hL
        exact ⟨_, rfl, h⟩
    · wp_walk using wpAny_loadPart' hl, wpAny_pyIter_tuple hL
      exact ⟨_, rfl, h⟩
theorem call_enum_tuple {prog : Program} {w : World} {A : Around} {E : Value → Shared → Prop} {s : Shared} {l : Addr} {items : Array Value} {Q : Value → Shared → Prop} (hL : s.heap.IsTuple l items)
    (h : ∀ h', IsEnum h' (s.heap.objs.size + 1) s.heap.objs.size 0 .none → h'.IsTupleIter s.heap.objs.size l 0 → h'.objs.size = s.heap.objs.size + 2 →
      (∀ b o, s.heap.get? b = some o → h'.get? b = some o) → Q (.ref (s.heap.objs.size + 1)) { s with heap := h' }) :
    wpAny (model prog w) A (call (.type "enumerate") [.ref l]) Q E s := by
  obtain ⟨o, hl, hc, n, hd⟩ := hL
  refine callType_new F.called_enumerate (by decide) (F.typeCall_enumerate_1 _) (F.newCall_enumerate_1 _) (fun obj => F.args_object_init_2 obj _) F.entry_enumerate_new
    (meets_enum_newT l items o hc n hd) ⟨hl, ?_⟩
  have hz : (s.heap.push { cls := .type "tuple_iterator", data := .fields #[.ref l, .int 0 0] }).objs.size = s.heap.objs.size + 1 := Heap.size_push ..
  show _ ∧ _
  rw [hz]
  have he : IsEnum ((s.heap.push { cls := .type "tuple_iterator", data := .fields #[.ref l, .int 0 0] }).push
      { cls := .type "enumerate", data := .fields #[.none, .bool false, .ref s.heap.objs.size, rawInt 0, .none, .none] }) (s.heap.objs.size + 1) s.heap.objs.size 0 .none := by
    have := Heap.get?_push_size (s.heap.push { cls := .type "tuple_iterator", data := .fields #[.ref l, .int 0 0] })
      (o := { cls := .type "enumerate", data := .fields #[.none, .bool false, .ref s.heap.objs.size, rawInt 0, .none, .none] }) rfl
    rw [hz] at this; exact this
  refine ⟨⟨_, he, rfl⟩, h _ he ⟨_, Heap.get?_push_of_some _ (Heap.get?_push_size _ rfl), rfl, rfl⟩ (by rw [Heap.size_push, hz]) fun b o x => Heap.get?_push_of_some _ (Heap.get?_push_of_some _ x)⟩
/-- the tuple at a, each item in a new pair -/
def IteT (K : PySem.W.Frag) (a : Addr) : L2.It :=
  ⟨fun i H => ∃ (xs : List V) (x : V), SqT K H a xs ∧ xs[i]? = some x, fun i H v H' => ∃ T x, v = .ref T ∧ H T = none ∧ H' = upd H T (.tup [.int (i : Nat), x]) ∧ ∀ xs, SqT K H a xs → xs[i]? = some x, fun i H => ∃ xs : List V, SqT K H a xs ∧ xs.length ≤ i⟩
theorem turn_enumT {P : Program} {w : World} {K : PySem.W.Frag} {elts : List Expr} {kk : Nat} {tpos : Pos} (a e it : Addr) :
    Turn P w K (.Tuple elts kk tpos) (IteT K a) [e, it] e (fun i h => (∃ old, IsEnum h e it ((i : Nat) : Int) old) ∧ h.IsTupleIter it a i ∧ e ≠ it) where
  mem := by simp
  obj := fun i h st b hb => by
    obtain ⟨⟨old, he⟩, ⟨o, ho, hc, hd⟩, _⟩ := st
    have e' : b = e ∨ b = it := by simpa using hb
    rcases e' with z | z
    · rw [z]; exact ⟨_, he, fun v q => nomatch q⟩
    · rw [z]; exact ⟨o, ho, fun v q => by rw [hd] at q; cases q⟩
  keep := fun i h h' st k => let ⟨⟨old, he⟩, hi, hne⟩ := st; ⟨⟨old, k e (by simp) _ he⟩, hi.at fun o q => k it (by simp) o q, hne⟩
  item := by
    intro X hP hw hK hc i pins s σ H E I hf st hg
    subst hP hw hK
    obtain ⟨⟨old, he⟩, hit, hne⟩ := st
    obtain ⟨xs, x, hq, hx⟩ := hg
    obtain ⟨its, rv, p, hz⟩ := I.tuple hq
    obtain ⟨u, hu, ru⟩ := rv.get hx
    have hel : e < s.heap.objs.size := Heap.lt_size he
    have hil : it < s.heap.objs.size := by obtain ⟨_, q, _⟩ := id hit; exact Heap.lt_size q
    have hae : e ≠ a := fun q => by
      subst q
      obtain ⟨o, ho, hc2, _⟩ := id p
      have he' : s.heap.get? e = some _ := he
      rw [ho] at he'
      have := congrArg Obj.cls (Option.some.inj he')
      rw [hc2] at this
      exact absurd (Value.type.inj this) (by decide)
    have hai : a ≠ it := fun q => by
      subst q
      obtain ⟨o, ho, hc2, _⟩ := id p
      obtain ⟨o2, ho2, hc3, _⟩ := id hit
      rw [ho] at ho2; cases ho2
      rw [hc2] at hc3
      exact absurd (Value.type.inj hc3) (by decide)
    refine wpAny_pyNext_enum_itemD (draws_tuple (A := X.A.in1) (show X.A.in1.handled = none from I.ok.hd hc) it a hai its.toArray) he ⟨hit, p⟩ (show i < its.toArray.size by have := (List.getElem?_eq_some_iff.mp hu).1; simpa using this) hne (by simp; exact ⟨hne, hae⟩) fun u' h' tk hu' ho hit' hT hsz hk => ?_
    have eu : u' = u := by
      have hu2 : its.toArray[i]? = some u' := hu'
      rw [List.getElem?_toArray, hu] at hu2
      exact (Option.some.inj hu2).symm
    subst eu
    refine ⟨_, rfl, wpAny_letOwnedTupleGo_enum (s := { s with heap := h', toks := tk + 1 }) ho fun h'' he' sb => ?_⟩
    have hT2 : h''.get? s.heap.objs.size = some { cls := .type "tuple", data := .seq #[.int i tk, u'] } := (sb.2 _ (Nat.ne_of_gt hel)).trans hT
    have new : ObjOk X.prog X.w (upd H s.heap.objs.size (.tup [.int (i : Nat), x])) h'' s.heap.objs.size (.tup [.int (i : Nat), x]) :=
      ⟨by show 2 ≤ sizeLine; decide, [.int i tk, u'], .cons ⟨_, rfl⟩ (.cons ru .nil), ⟨_, hT2, rfl, _, rfl⟩⟩
    have I1 : Inv X pins σ (upd H s.heap.objs.size (.tup [.int (i : Nat), x])) { s with heap := h'', toks := tk + 1 } :=
      I.turnedNew (ch := [e, it]) (fun b ob hb q => (sb.2 b (fun z => hb (by simp [z]))).trans (hk b ob (fun z => hb (by simp [z])) (fun z => hb (by simp [z])) q)) hf (Nat.le_refl _) new
    refine ⟨.ref s.heap.objs.size, _, I1, rfl, ⟨_, x, rfl, I.hok.fresh (Nat.le_refl _), rfl, fun ys hy => by rw [I.tuple_inj hy hq]; exact hx⟩, ⟨⟨u', ?_⟩, hit'.1.at fun o q => (sb.2 it (Ne.symm hne)).trans q, hne⟩, fun b hb => ?_⟩
    · have e1 : ((i + 1 : Nat) : Int) = (i : Int) + 1 := by omega
      rw [e1]; exact he'
    · have hb' : b < s.heap.objs.size := by
        have e' : b = e ∨ b = it := by simpa using hb
        rcases e' with z | z
        · rw [z]; exact hel
        · rw [z]; exact hil
      rw [upd_ne (Nat.ne_of_lt hb')]
      exact (hf b hb).1
  done := by
    intro X hP hw hK hc i pins s σ H E I hf st hg
    subst hP hw hK
    obtain ⟨⟨old, he⟩, hit, hne⟩ := st
    obtain ⟨xs, hq, hx⟩ := hg
    obtain ⟨its, rv, p, hz⟩ := I.tuple hq
    obtain ⟨f0, f1, f2, f3, f4, f5⟩ := hf it (by simp)
    have hl := rv.length
    have hai : a ≠ it := fun q => by
      subst q
      obtain ⟨o, ho, hc2, _⟩ := id p
      obtain ⟨o2, ho2, hc3, _⟩ := id hit
      rw [ho] at ho2; cases ho2
      rw [hc2] at hc3
      exact absurd (Value.type.inj hc3) (by decide)
    -- the index may lie beyond the end
    have D : Draws X.prog X.w X.A.in1 it [it, a] i (fun j v => its.toArray[j]? = some v) (fun j h => j = i ∧ h.IsTupleIter it a j ∧ h.IsTuple a its.toArray) := {
      live := fun _ _ st => let ⟨o, ho, _⟩ := st.2.1; ⟨o, ho⟩
      frame := fun _ _ _ st hk => ⟨st.1, st.2.1.at fun o e => hk it (by simp) o e, let ⟨o, ho, r⟩ := st.2.2; ⟨o, hk a (by simp) o ho, r⟩⟩
      item := fun j s Q E hj st hQ => absurd st.1 (by omega)
      done := fun s Q E st hE => RZ.nextOf_tuple_end (show X.A.in1.handled = none from I.ok.hd hc) st.2.1 st.2.2 (by simp; omega) hE }
    exact wpAny_pyNext_enum_endD D he ⟨rfl, hit, p⟩ fun h' eb => ⟨rfl, I.turned (t' := s.toks) (fun b o hb q => eb b o hb q) f0 f1 f3 f4 f5⟩
  self := fun A i s Q E st h => let ⟨⟨_, he⟩, _⟩ := st; wpAny_pyIter_enum he h
section
variable {X : Cx} {e : Expr} {ta : TA} {te : TE} {tg : Expr} {p pos tpos : Pos} {elts : List Expr} {kk : Nat}
def iEnumA (K : PySem.W.Frag) (ta : TA) : TI := fun σ H R => ta σ H fun vs H1 => ∃ a xs, vs = [.ref a] ∧ ((SqL K H1 a xs ∧ R (Ite K a) H1) ∨ (SqT K H1 a xs ∧ R (IteT K a) H1))
theorem pi_enumA (hg : Gl X "enumerate") (hm : X.mg "enumerate" = none) (ha : PA X [e] ta) (hs : starEach [e] X.env = [(false, eval e X.env)]) :
    PI X (.Tuple elts kk tpos) (.Call (.Name "enumerate" p) [e] [] pos) (iEnumA X.K ta) := by
  refine ⟨fun pins s σ H R I h => ?_⟩
  refine Call_ (ld_blt I hg hm boot_enumerate (PyProof.Rows.callWith_type1 (thn (ha.run pos pins s σ H _ I h) fun us s1 ⟨vs, H1, I1, r1, q1⟩ => ?_) hs rfl))
  obtain ⟨a, xs, ex, q1⟩ := q1
  subst ex
  have fp : ∀ b ∈ [s1.heap.objs.size + 1, s1.heap.objs.size], FpOk X pins H1 b := fun b hb => by
    have e' : b = s1.heap.objs.size + 1 ∨ b = s1.heap.objs.size := by simpa using hb
    have hle : s1.heap.objs.size ≤ b := by
      rcases e' with z | z
      · rw [z]; exact Nat.le_add_right _ _
      · rw [z]; exact Nat.le_refl _
    exact I1.fpOk hle (I1.hok.fresh hle)
  cases r1 with
  | cons r rr =>
    cases rr
    cases r
    rcases q1 with ⟨hq, q⟩ | ⟨hq, q⟩
    · obtain ⟨its, rv, p', hz⟩ := I1.list hq
      refine call_enumerate_list p'.isList fun h' he hit hsz hk => wpAny_pyIter_enum he ?_
      have I2 : Inv X pins σ H1 { s1 with heap := h' } := I1.kept (t' := s1.toks) hk
      exact ⟨s1.heap.objs.size + 1, [s1.heap.objs.size + 1, s1.heap.objs.size], _, _, H1, rfl, I2, turn_enum a (s1.heap.objs.size + 1) s1.heap.objs.size, ⟨⟨.none, he⟩, hit, Nat.succ_ne_self _⟩, fp, q⟩
    · obtain ⟨its, rv, p', hz⟩ := I1.tuple hq
      refine call_enum_tuple (show s1.heap.IsTuple a its.toArray from p') fun h' he hit hsz hk => wpAny_pyIter_enum he ?_
      have I2 : Inv X pins σ H1 { s1 with heap := h' } := I1.kept (t' := s1.toks) hk
      exact ⟨s1.heap.objs.size + 1, [s1.heap.objs.size + 1, s1.heap.objs.size], _, _, H1, rfl, I2, turn_enumT a (s1.heap.objs.size + 1) s1.heap.objs.size, ⟨⟨.none, he⟩, hit, Nat.succ_ne_self _⟩, fp, q⟩
def iSeq (K : PySem.W.Frag) (tl : TE) : TI := fun σ H R => tl σ H fun x H1 => ∃ a, x = .ref a ∧ ((∃ xs, SqL K H1 a xs ∧ R (Itl K a) H1) ∨ (∃ xs, SqT K H1 a xs ∧ R (Itt K a) H1))
theorem pi_seq (hl : PE X e te) : PI X tg e (iSeq X.K te) := by
  refine ⟨fun pins s σ H R I h => ?_⟩
  refine thn (hl.run pins s σ H _ I h) fun v s1 ⟨x, H1, I1, r1, q1⟩ => ?_
  obtain ⟨a, e, q1⟩ := q1
  subst e
  cases r1
  have fp : ∀ b ∈ [s1.heap.objs.size], FpOk X pins H1 b := fun b hb => by
    have e : b = s1.heap.objs.size := by simpa using hb
    subst e
    exact I1.fpOk (Nat.le_refl _) (I1.hok.fresh (Nat.le_refl _))
  rcases q1 with ⟨xs, hq, q⟩ | ⟨xs, hq, q⟩
  · obtain ⟨its, rv, p, hz⟩ := I1.list hq
    refine wpAny_pyIter_list p.isList ?_
    exact ⟨s1.heap.objs.size, [s1.heap.objs.size], _, _, H1, rfl, I1.kept (t' := s1.toks) fun b o e => Heap.get?_push_of_some _ e, turn_list a _, ⟨_, Heap.get?_push_size _ rfl, rfl, rfl⟩, fp, q⟩
  · obtain ⟨its, rv, p, hz⟩ := I1.tuple hq
    refine wpAny_pyIter_tuple (show s1.heap.IsTuple a its.toArray from p) ?_
    exact ⟨s1.heap.objs.size, [s1.heap.objs.size], _, _, H1, rfl, I1.kept (t' := s1.toks) fun b o e => Heap.get?_push_of_some _ e, turn_tuple a _, ⟨_, Heap.get?_push_size _ rfl, rfl, rfl⟩, fp, q⟩
end
section
variable {X : Cx} {e : Expr} {te : TE} {tg : Expr}
def iAny (K : PySem.W.Frag) (td : TE) : TI := fun σ H R => td σ H fun x H1 => (∃ a, x = .ref a ∧ ((∃ xs, SqL K H1 a xs ∧ R (Itl K a) H1) ∨ (∃ xs, SqT K H1 a xs ∧ R (Itt K a) H1))) ∨ ∃ d o kvs, x = .ref d ∧ H1 d = some (.frz o (.dK kvs)) ∧ R (Itk d o kvs) H1
theorem pi_any (hl : PE X e te) : PI X tg e (iAny X.K te) := by
  refine ⟨fun pins s σ H R I h => ?_⟩
  refine thn (hl.run pins s σ H _ I h) fun v s1 ⟨x, H1, I1, r1, q1⟩ => ?_
  rcases q1 with ⟨a, e, q1⟩ | ⟨d, o, kvs, e, hd, q⟩
  · subst e
    cases r1
    have fp : ∀ b ∈ [s1.heap.objs.size], FpOk X pins H1 b := fun b hb => by
      have e : b = s1.heap.objs.size := by simpa using hb
      subst e
      exact I1.fpOk (Nat.le_refl _) (I1.hok.fresh (Nat.le_refl _))
    rcases q1 with ⟨xs, hq, q⟩ | ⟨xs, hq, q⟩
    · obtain ⟨its, rv, p, hz⟩ := I1.list hq
      refine wpAny_pyIter_list p.isList ?_
      exact ⟨s1.heap.objs.size, [s1.heap.objs.size], _, _, H1, rfl, I1.kept (t' := s1.toks) fun b o e => Heap.get?_push_of_some _ e, turn_list a _, ⟨_, Heap.get?_push_size _ rfl, rfl, rfl⟩, fp, q⟩
    · obtain ⟨its, rv, p, hz⟩ := I1.tuple hq
      refine wpAny_pyIter_tuple (show s1.heap.IsTuple a its.toArray from p) ?_
      exact ⟨s1.heap.objs.size, [s1.heap.objs.size], _, _, H1, rfl, I1.kept (t' := s1.toks) fun b o e => Heap.get?_push_of_some _ e, turn_tuple a _, ⟨_, Heap.get?_push_size _ rfl, rfl, rfl⟩, fp, q⟩
  · subst e
    obtain rfl : v = Value.ref d := r1
    obtain ⟨hs, hgd, hx, es, ep, vs, hdt, hsz, kv, hm⟩ := I1.frzK hd
    refine iter_keys hs hgd hx hdt (pi_one (tk := s1.toks) I1 _ (turn_keys _ hdt) ⟨_, Heap.get?_push_size _ rfl, rfl, ?_⟩ q)
    rw [hsz] <;> rfl
end
/-! ### a list into several targets -/
section
variable {prog : Program} {w : World} {A : Around} {E : Value → Shared → Prop} {s : Shared}
theorem draw_list {it t : Addr} {items : Array Value} (hne : t ≠ it) : ∀ (n i : Nat) (s : Shared) (Q : List Value → Shared → Prop), s.heap.IsListIter it t i → s.heap.IsList t items → i + n ≤ items.size →
    (∀ h', h'.IsListIter it t (i + n) → Heap.SameBut it s.heap h' → Q ((items.toList.drop i).take n) { s with heap := h' }) → wpAny (model prog w) A (draw (.ref it) n) Q E s
  | 0, i, s, Q, hit, _, _, hQ => by
    show wpAny _ _ (pure []) Q E s
    exact wpAny_pure (by simpa using hQ s.heap hit (Heap.SameBut.refl ..))
  | n + 1, i, s, Q, hit, ht, hle, hQ => by
    have hlt : i < items.size := by omega
    show wpAny _ _ (pyNext (.ref it) >>= _) Q E s
    refine wpAny_bind (wpAny_pyNext_list_item hit ht (x := items[i]) (by simp [hlt]) fun h₁ hit₁ hs₁ => ?_)
    refine wpAny_bind (wpAny_holding (draw_list hne n (i + 1) _ _ hit₁ (ht.extBut hs₁.extBut hne) (by omega) fun h₂ hit₂ hs₂ => wpAny_pure ?_))
    have hd : items.toList.drop i = items[i] :: items.toList.drop (i + 1) := by simp [List.drop_eq_getElem_cons, hlt]
    have := hQ h₂ (by rw [show i + (n + 1) = i + 1 + n by omega]; exact hit₂) (hs₁.trans hs₂)
    rw [hd, List.take_succ_cons] at this
    exact this
theorem unpack_items_list {t : Addr} {items : Array Value} {Q : List Value → Shared → Prop} (hh : A.handled = none) (ht : s.heap.IsList t items)
    (hQ : ∀ h', Heap.ExtBut s.heap.objs.size s.heap h' → Q items.toList { s with heap := h' }) : wpAny (model prog w) A (unpackItems (.ref t) items.size none) Q E s := by
  have hlt : t ≠ s.heap.objs.size := by obtain ⟨o, ho, _⟩ := ht; exact Nat.ne_of_lt (Heap.lt_size ho)
  have hT : s.TypeIs (.ref t) "list" := by obtain ⟨o, ho, hc, _⟩ := ht; exact ⟨o, ho, hc⟩
  unfold unpackItems
  refine wpAny_bind ?_
  · unfold notIterableAtAll
    refine wpAny_bind (wpAny_specialOf hT PySem.F.slot_list_iter.lookup ?_)
    refine wpAny_pure ?_
    simp only [Bool.false_eq_true, if_false]
    refine wpAny_bind (wpAny_holding (wpAny_pyIter_list ht ?_))
    refine wpAny_bind (wpAny_holding (draw_list hlt items.size 0 _ _ ⟨_, Heap.get?_push_size _ rfl, rfl, rfl⟩ (ht.push _) (by omega) fun h₁ hit₁ hs₁ => ?_))
    have hall : List.take items.size (List.drop 0 items.toList) = items.toList := by
      rw [List.drop_zero]; exact List.take_of_length_le (by simp)
    rw [hall]
    rw [if_neg (by simp)]
    have ht₁ : h₁.IsList t items := (ht.push _).extBut hs₁.extBut hlt
    refine wpAny_bind (wpAny_holding (wpAny_pyNext_list_end hh hit₁ ht₁ (by simp) fun h₂ he₂ => ?_))
    simp only [Option.isSome_none, Bool.false_eq_true, if_false]
    refine wpAny_pure (hQ h₂ fun b o hb e => he₂ b o hb (hs₁.extBut b o hb (Heap.get?_push_of_some _ e)))
theorem assign_tuple_list {env : PySem.Env} {elts : List Expr} {x1} {pos : Pos} {t : Addr} {items : Array Value} {Q : Unit → Shared → Prop} (hh : A.handled = none) (ht : s.heap.IsList t items)
    (hn : (assignEach elts env).length = items.size) (hstar : (assignEach elts env).findIdx? (·.1) = none)
    (h : ∀ h', Heap.ExtBut s.heap.objs.size s.heap h' → wpAny (model prog w) A (assignInOrder ((assignEach elts env).map (·.2)) items.toList) Q E { s with heap := h' }) :
    wpAny (model prog w) A (assign (.Tuple elts x1 pos) env (.ref t)) Q E s := by
  rw [assign_Tuple]
  refine wpAny_bind (wpAny_standAt ?_)
  unfold unpack
  rw [hn, hstar]
  exact wpAny_bind (wpAny_holding (unpack_items_list hh ht h))
end
def gSeq (K : PySem.W.Frag) (n : Nat) (t : L2.TGs) : TG := fun v σ H Q => ∃ a xs, v = .ref a ∧ (SqL K H a xs ∨ SqT K H a xs) ∧ xs.length = n ∧ t xs σ H Q
theorem pg_seq {X : Cx} {pos : Pos} {es : List Expr} {k : Nat} {t : L2.TGs} {n : Nat} (hc : X.calm = true) (h : PGs X es t)
    (hn : (assignEach es X.env).length = n) (hst : (assignEach es X.env).findIdx? (·.1) = none) : PG X (.Tuple es k pos) (gSeq X.K n t) := by
  refine ⟨fun pins s σ H v u Q I r ⟨a, xs, e1, hq, hl, hw⟩ => ?_⟩
  rcases hq with hq | hq
  · subst e1
    cases r
    obtain ⟨its, rv, ht, hz⟩ := I.list hq
    refine assign_tuple_list (I.ok.hd hc) ht.isList (by simp [hn, ← hl, rv.length]) hst fun h' hx => ?_
    have I1 : Inv X pins σ H { s with heap := h' } := I.kept (t' := s.toks) fun b o e => hx b o (Nat.ne_of_lt (Heap.lt_size e)) e
    exact h.run pins _ σ H xs _ Q I1 (by simpa using rv) hw
  · exact (pg_tup hc h hn hst).run pins s σ H v u Q I r ⟨a, xs, e1, hq, hl, hw⟩
end PP
end

section
set_option linter.all false
set_option autoImplicit false
set_option maxRecDepth 100000
set_option Elab.async false
/-! is, isinstance, methods, dicts, walks. -/
namespace PP
open PySem PySem.Spec PyProof.Rows L2
section
variable {X : Cx} {ca : Nat → Addr} {E : XK} {σ : L2.St} {H : Hp} {T : Tb} {N : List Str} {call : Nat → List D → Sto → Res D}
/-! ### is None, is False -/
theorem isNon_of {K : PySem.W.Frag} {im : Hp} {am : List Addr} {d : D} {v : V} (h : Rp K im am d v) : decide (v = .non) = isNon d := by
  cases h <;> rfl
theorem one_tE {m1 : Env → Sto → Res D} {f : D → Sto → Res D} {r : V → Hp → VK → Prop} {Q : VK} (hr : ∀ x H Q, Got1 X ca E f x H Q → r x H Q)
    (h : tE X.K ca E (fun env st => (m1 env st).bind fun x st => f x st) σ H Q) : tUn r (tE X.K ca E m1) σ H Q := by
  obtain ⟨im, am, env, st, eo, so, w⟩ := h
  exact ⟨im, am, env, st, eo, so, Wp.seq w fun x H1 im1 am1 a st1 e1 s1 r1 w1 => hr _ _ _ ⟨im1, am1, st1, a, s1, r1, w1⟩⟩
theorem snd_isn {a : Expr} {k : Nat} {p p2 : Pos} {m1 : Env → Sto → Res D} (ha : Snd X ca E a m1) : Snd X ca E (.Compare a [.Is] [.Constant .none k p2] p) (fun env st => (m1 env st).bind fun x st => .ok (.bl (false != isNon x)) st) := by
  have key : ∀ σ H Q, tE X.K ca E (fun env st => (m1 env st).bind fun x st => .ok (.bl (false != isNon x)) st) σ H Q → tOp (fun x y H Q => y = .non ∧ Q (.bl (decide (x = .non))) H) (tE X.K ca E m1) (tC .non) σ H Q := fun σ H Q ⟨im, am, env, st, eo, so, w⟩ =>
    ⟨im, am, env, st, eo, so, Wp.seq w fun x H1 im1 am1 a st1 e1 s1 r1 w1 => ⟨rfl, by rw [isNon_of r1]; cases h : isNon a <;> (rw [h] at w1; exact Wp.fin (st := st1) w1 s1 (.bl _))⟩⟩
  exact Snd.cmp (PE.im (pe_cmpR op_isN ha.pe pe_non (nomark _)) key) (PT.im (pt_cmpR op_isN ha.pe pe_non (nomark _)) fun σ H Q w => by
    obtain ⟨Q1, h1, h2⟩ := test_tE w
    exact key σ H (fun x H' => ∃ k, x = .bl k ∧ Q k H') (h1.mono h2))
theorem snd_isnn {a : Expr} {k : Nat} {p p2 : Pos} {m1 : Env → Sto → Res D} (ha : Snd X ca E a m1) : Snd X ca E (.Compare a [.IsNot] [.Constant .none k p2] p) (fun env st => (m1 env st).bind fun x st => .ok (.bl (true != isNon x)) st) := by
  have key : ∀ σ H Q, tE X.K ca E (fun env st => (m1 env st).bind fun x st => .ok (.bl (true != isNon x)) st) σ H Q → tOp (fun x y H Q => y = .non ∧ Q (.bl (!decide (x = .non))) H) (tE X.K ca E m1) (tC .non) σ H Q := fun σ H Q ⟨im, am, env, st, eo, so, w⟩ =>
    ⟨im, am, env, st, eo, so, Wp.seq w fun x H1 im1 am1 a st1 e1 s1 r1 w1 => ⟨rfl, by rw [isNon_of r1]; cases h : isNon a <;> (rw [h] at w1; exact Wp.fin (st := st1) w1 s1 (.bl _))⟩⟩
  exact Snd.cmp (PE.im (pe_cmpR op_notN ha.pe pe_non (nomark _)) key) (PT.im (pt_cmpR op_notN ha.pe pe_non (nomark _)) fun σ H Q w => by
    obtain ⟨Q1, h1, h2⟩ := test_tE w
    exact key σ H (fun x H' => ∃ k, x = .bl k ∧ Q k H') (h1.mono h2))
theorem op_isF : OpR X (compareOp .Is) (fun x y H Q => ∃ b, x = .bl b ∧ y = .bl false ∧ Q (.bl (!b)) H) := by
  intro pins s σ H x y v u Q I rx ry ⟨b, ex, ey, q⟩
  subst ex; subst ey
  cases rx; cases ry
  cases b
  · exact wpAny_bind (wpAny_pure (wpAny_pure ⟨.bl true, H, I, rfl, q⟩))
  · exact wpAny_bind (wpAny_pure (wpAny_pure ⟨.bl false, H, I, rfl, q⟩))
theorem snd_isf {a : Expr} {k : Nat} {p p2 : Pos} {m1 : Env → Sto → Res D} (ha : Snd X ca E a m1) : Snd X ca E (.Compare a [.Is] [.Constant (.bool false) k p2] p) (fun env st => (m1 env st).bind fun x st => (asB x st).bind fun p st => .ok (.bl (!p)) st) := by
  have key : ∀ σ H Q, tE X.K ca E (fun env st => (m1 env st).bind fun x st => (asB x st).bind fun p st => .ok (.bl (!p)) st) σ H Q → tOp (fun x y H Q => ∃ b, x = .bl b ∧ y = .bl false ∧ Q (.bl (!b)) H) (tE X.K ca E m1) (tC (.bl false)) σ H Q := fun σ H Q ⟨im, am, env, st, eo, so, w⟩ =>
    ⟨im, am, env, st, eo, so, Wp.seq w fun x H1 im1 am1 a st1 e1 s1 r1 w1 => by
      cases a with
      | bl b => cases r1; exact ⟨b, rfl, rfl, Wp.fin (st := st1) w1 s1 (.bl _)⟩
      | _ => exact w1.elim⟩
  exact Snd.cmp (PE.im (pe_cmpR op_isF ha.pe pe_bl (nomark _)) key) (PT.im (pt_cmpR op_isF ha.pe pe_bl (nomark _)) fun σ H Q w => by
    obtain ⟨Q1, h1, h2⟩ := test_tE w
    exact key σ H (fun x H' => ∃ k, x = .bl k ∧ Q k H') (h1.mono h2))
/-! ### isinstance -/
theorem tyS_ok (t : Ty) : okN (tyS t) = true := by cases t <;> decide +kernel
theorem boot_isi : bootBuiltins "isinstance" = some (.builtin "isinstance") := by decide +kernel
theorem pe_ty {t : Ty} {p : Pos} (c : Cxt T N ca call X) (hg : gloB X.env.scope (tyS t) = true) (hb : tyS t ∈ T.bis) : PE X (.Name (tyS t) p) (tC (.ty (tyN t))) :=
  pe_bltn (gloB_ok hg) (c.bi _ hb) (tyS_boot t) rfl (tyS_ne t) (tyS_db t)
theorem snd_isi {ty : Ty} {a : Expr} {p p2 pos : Pos} {m1 : Env → Sto → Res D} (c : Cxt T N ca call X) (ha : Snd X ca E a m1) (hn : noStar a = true) (hg : gloB X.env.scope "isinstance" = true) (hb : ("isinstance" : Str) ∈ T.bis) (gt : gloB X.env.scope (tyS ty) = true) (bt : tyS ty ∈ T.bis) :
    Snd X ca E (.Call (.Name "isinstance" p) [a, .Name (tyS ty) p2] [] pos) (fun env st => (m1 env st).bind fun x st => isiR [ty] x st) :=
  Snd.val (PE.im (pe_callB (callIsi_D (ca := ca) (E := E)) (gloB_ok hg) (c.bi _ hb) boot_isi (pa_cons ha.pe (pa_cons (pe_ty c gt bt) pa_nil (star_of rfl)) (star_of hn)) (by decide) (by decide) (star_of hn) (star_any rfl)) fun σ H Q ⟨im, am, env, st, eo, so, w⟩ =>
    ⟨im, am, env, st, eo, so, Wp.seq w fun x H1 im1 am1 a st1 e1 s1 r1 w1 => ⟨im1, am1, st1, a, x, ty, s1, r1, rfl, w1⟩⟩) rfl
theorem snd_isi2 {ty ty2 : Ty} {a : Expr} {k : Nat} {p p2 p3 p4 pos : Pos} {m1 : Env → Sto → Res D} (c : Cxt T N ca call X) (ha : Snd X ca E a m1) (hn : noStar a = true) (hg : gloB X.env.scope "isinstance" = true) (hb : ("isinstance" : Str) ∈ T.bis)
    (gt : gloB X.env.scope (tyS ty) = true) (bt : tyS ty ∈ T.bis) (gt2 : gloB X.env.scope (tyS ty2) = true) (bt2 : tyS ty2 ∈ T.bis) :
    Snd X ca E (.Call (.Name "isinstance" p) [a, .Tuple [.Name (tyS ty) p2, .Name (tyS ty2) p3] k p4] [] pos) (fun env st => (m1 env st).bind fun x st => isiR [ty, ty2] x st) :=
  Snd.val (PE.im (pe_callB (callIsi2_D (ca := ca) (E := E)) (gloB_ok hg) (c.bi _ hb) boot_isi (pa_cons ha.pe (pa_cons (pe_tup (pa_cons (pe_ty c gt bt) (pa_cons (pe_ty c gt2 bt2) pa_nil (star_of rfl)) (star_of rfl))) pa_nil (star_of rfl)) (star_of hn)) (by decide) (by decide) (star_of hn) (star_any rfl)) fun σ H Q ⟨im, am, env, st, eo, so, w⟩ =>
    ⟨im, am, env, st, eo, so, Wp.seq w fun x H1 im1 am1 a st1 e1 s1 r1 w1 => ⟨by show 2 ≤ sizeLine; decide, fun tp htp =>
      ⟨upd im1 tp _, am1, st1, a, x, ty, ty2, tp, s1.add htp, r1.mono (same_upd (s1.imn htp)) (List.prefix_refl _) _ _, rfl, upd_same, Wp.ext (Ext.add s1 htp) w1⟩⟩⟩) rfl
/-! ### methods -/
theorem few_of {es : List Expr} {env : PySem.Env} {cpos : Pos} (h : es.all noStar = true) (hl : es.length < 29) :
    ((backTo cpos (starEach es env)).all (fun x => !x.1) && (backToKw cpos (keywordEach [] env)).all (fun x => x.1.isSome)
      && decide (es.length + ([] : List Keyword).length + (if ([] : List Keyword).isEmpty then 0 else 1) < 30)) = true := by
  have h1 := star_any (env := env) (pos := cpos) h
  have h2 : (backTo cpos (starEach es env)).all (fun x => !x.1) = true := by
    rw [List.all_eq_true]
    intro x hx
    rw [List.any_eq_false] at h1
    have := h1 x hx
    cases h3 : x.1 with
    | true => exact absurd h3 this
    | false => rfl
  have h3 : (backToKw cpos (keywordEach [] env)).all (fun x => x.1.isSome) = true := rfl
  rw [h2, h3]
  simp only [Bool.true_and, List.length_nil, List.isEmpty_nil, if_true, decide_eq_true_eq]
  omega
def plainBase : Expr → Bool
  | .Name .. | .Subscript .. | .Constant .. | .Dict .. => true
  | _ => false
theorem base_of {o : Expr} {x : Str} {env : PySem.Env} (h : plainBase o = true) : attributeBase o x env (eval o env) = eval o env := by
  cases o <;> first | rfl | (cases h)
theorem list_ty {K : PySem.W.Frag} {im : Hp} {am : List Addr} {st : Sto} {d : D} {v : V} {xs : List D} (so : StOk K st im am H) (r : Rp K im am d v) (h : deref d st = .lst xs) : tyV K "list" v H := by
  obtain ⟨a, vs, rfl, q1, q2⟩ := deref_lst so r h
  exact .inl ⟨rfl, _, .of q1⟩
theorem snd_mtL {mm : Mt} {name : Str} {id : String} {o e : Expr} {es : List Expr} {n : Nat} {apos cpos : Pos} {m1 : Env → Sto → Res D} {m2 : Env → Sto → Res (List D)} (hk : ∀ x st, mtOk mm x st = true → ∃ xs, deref x st = .lst xs)
    (slot : Slot "list" name id) (hty : typeOf (.builtin id) = pure (.type "method_descriptor")) (hm : MtR X id (GotM X ca E (mtR mm))) (ho : Snd X ca E o m1) (ha : SndA X ca E (e :: es) n m2) (hb : plainBase o = true) (hl : (apos.endLine == cpos.line) = true) (hn : n < 29) :
    Snd X ca E (.Call (.Attribute o name apos) (e :: es) [] cpos) (fun env st => (m1 env st).bind fun x st => if mtOk mm x st then (m2 env st).bind fun ds st => mtR mm x ds st else .stuck) := by
  have hs := ha.ns
  rw [List.all_cons, Bool.and_eq_true] at hs
  refine Snd.val (PE.im (pe_bm PySem.F.plainAttrs_list slot hty hm ho.pe ha.pa (base_of hb) (few_of ha.ns (by rw [ha.len]; exact hn)) hl (star_of hs.1) (star_any hs.2)) fun σ H Q ⟨im, am, env, st, eo, so, w⟩ => ?_) rfl
  refine ⟨im, am, env, st, eo, so, Wp.seq w fun x H1 im1 am1 a st1 e1 s1 r1 w1 => ?_⟩
  cases hk2 : mtOk mm a st1 with
  | false => rw [hk2] at w1; exact w1.elim
  | true =>
    rw [hk2, if_pos rfl] at w1
    obtain ⟨xs, hx⟩ := hk _ _ hk2
    exact ⟨list_ty s1 r1 hx, im1, am1, env, st1, eo.ext e1, s1, Wp.seq w1 fun y H2 im2 am2 b st2 e2 s2 r2 w2 => ⟨im2, am2, st2, a, b, s2, r1.mono e2.same e2.pre _ _, r2, w2⟩⟩
theorem snd_mtL0 {mm : Mt} {name : Str} {id : String} {o : Expr} {apos cpos : Pos} {m1 : Env → Sto → Res D} (hk : ∀ x st, mtOk mm x st = true → ∃ xs, deref x st = .lst xs)
    (slot : Slot "list" name id) (hty : typeOf (.builtin id) = pure (.type "method_descriptor")) (hm : MtR X id (GotM X ca E (mtR mm))) (ho : Snd X ca E o m1) (hb : plainBase o = true) (hl : (apos.endLine == cpos.line) = true) :
    Snd X ca E (.Call (.Attribute o name apos) [] [] cpos) (fun env st => (m1 env st).bind fun x st => if mtOk mm x st then (Res.ok [] st).bind fun ds st => mtR mm x ds st else .stuck) := by
  refine Snd.val (PE.im (pe_bm0 PySem.F.plainAttrs_list slot hty hm ho.pe (base_of hb) hl) fun σ H Q ⟨im, am, env, st, eo, so, w⟩ => ?_) rfl
  refine ⟨im, am, env, st, eo, so, Wp.seq w fun x H1 im1 am1 a st1 e1 s1 r1 w1 => ?_⟩
  cases hk2 : mtOk mm a st1 with
  | false => rw [hk2] at w1; exact w1.elim
  | true =>
    rw [hk2, if_pos rfl] at w1
    obtain ⟨xs, hx⟩ := hk _ _ hk2
    exact ⟨list_ty s1 r1 hx, im1, am1, st1, a, [], s1, r1, .nil, w1⟩
/-! ### an object that is still being made -/
structure Flo (im0 : Hp) (am0 : List Addr) (H0 : Hp) (p : Addr) (im : Hp) (am : List Addr) (H : Hp) : Prop where
  ext : Ext im0 am0 H0 im am H
  im : im p = none
  am : p ∉ am
  at_ : ∃ o, H p = some o
  new : H0 p = none
end
section
variable {K : PySem.W.Frag} {im0 im im1 : Hp} {am0 am am1 : List Addr} {H0 H H1 : Hp} {st st1 : Sto} {p : Addr}
theorem StOk.flo (s : StOk K st im am H) {o : HO} (hi : im p = none) (ha : p ∉ am) : StOk K st im am (upd H p o) := by
  refine ⟨fun b x e => ?_, s.len, s.nd, s.out, fun i a c e1 e2 => ?_⟩
  · have : b ≠ p := fun q => by rw [q, hi] at e; cases e
    rw [upd_ne this]; exact s.same b x e
  · have : a ≠ p := fun q => ha (q ▸ List.mem_of_getElem? e1)
    exact (s.cell i a c e1 e2).mono (Same.refl _) (List.prefix_refl _) fun o e => by rw [upd_ne this]; exact e
theorem Flo.start (s : StOk K st im am H) {o : HO} (h : H p = none) : Flo im am H p im am (upd H p o) :=
  ⟨⟨Same.refl _, List.prefix_refl _, fun b x e _ => by rw [upd_ne (ne_of_none e h)]; exact e, fun _ m => .inl m, fun _ _ _ _ q => q⟩, s.imn h, s.amn h, ⟨_, upd_same⟩, h⟩
theorem Flo.step (f : Flo im0 am0 H0 p im am H) (e : Ext im am H im1 am1 H1) : Flo im0 am0 H0 p im1 am1 H1 ∧ ∀ o, H p = some o → H1 p = some o := by
  have k : ∀ o, H p = some o → H1 p = some o := fun o h => e.fr p o h f.am
  obtain ⟨o, h⟩ := f.at_
  refine ⟨⟨f.ext.trans e, e.nw p o h f.am f.im, fun hm => ?_, ⟨o, k o h⟩, f.new⟩, k⟩
  rcases e.new p hm with q | q
  · exact f.am q
  · rw [h] at q; cases q
theorem Flo.write (f : Flo im0 am0 H0 p im am H) {o : HO} : Flo im0 am0 H0 p im am (upd H p o) :=
  ⟨⟨f.ext.same, f.ext.pre, fun b x e nb => by rw [upd_ne (ne_of_none e f.new)]; exact f.ext.fr b x e nb, f.ext.new, f.ext.nw⟩, f.im, f.am, ⟨_, upd_same⟩, f.new⟩
/-- made -/
theorem Flo.fin (f : Flo im0 am0 H0 p im am H) (s : StOk K st im am H) {o : HO} : Ext im0 am0 H0 (upd im p o) am (upd H p o) ∧ StOk K st (upd im p o) am (upd H p o) ∧ Same im (upd im p o) ∧ upd im p o p = some o := by
  have hs : Same im (upd im p o) := same_upd f.im
  refine ⟨⟨f.ext.same.trans hs, f.ext.pre, f.write.ext.fr, f.ext.new, fun b x e nb q => ?_⟩, ⟨fun b x e => ?_, s.len, s.nd, fun a m => ?_, fun i a c e1 e2 => ?_⟩, hs, upd_same⟩
  · rw [upd_ne (ne_of_none e f.new)]; exact f.ext.nw b x e nb q
  · by_cases hb : b = p
    · subst hb; rw [upd_same] at e ⊢; exact e
    · rw [upd_ne hb] at e ⊢; exact s.same b x e
  · have : a ≠ p := fun e => f.am (e ▸ m)
    rw [upd_ne this]; exact s.out a m
  · have : a ≠ p := fun e => f.am (e ▸ List.mem_of_getElem? e1)
    exact (s.cell i a c e1 e2).mono hs (List.prefix_refl _) fun o e => by rw [upd_ne this]; exact e
end
end PP
end

section
set_option linter.all false
set_option autoImplicit false
set_option maxRecDepth 100000
set_option Elab.async false
/-! Dict displays, get, targets, walks, comprehensions. -/
namespace PP
open PySem PySem.Spec PyProof.Rows L2
/-- seen from where it began -/
theorem Wp.from {α β γ δ : Type} {K : PySem.W.Frag} {ca : Nat → Addr} {E : XK} {R : Hp → List Addr → α → β → Prop} {S : Hp → List Addr → γ → δ → Prop} {im im0 : Hp} {am am0 : List Addr} {H H0 : Hp} {r : Res α} {Q : β → Hp → Prop} {Q2 : δ → Hp → Prop} {f : α → Sto → Res γ}
    (w : Wp K ca S E im0 am0 H0 (r.bind f) Q2) (x : Ext im0 am0 H0 im am H)
    (k : ∀ a st' im' am' H' b, r = .ok a st' → Wp K ca S E im0 am0 H0 (f a st') Q2 → Ext im am H im' am' H' → StOk K st' im' am' H' → R im' am' a b → Q b H') : Wp K ca R E im am H r Q := by
  cases r with
  | ok a st => exact fun im' am' H' b e s q => k a st im' am' H' b rfl w e s q
  | err c st => exact fun im' am' H' e s => w im' am' H' (x.trans e) s
  | stuck => exact w
theorem Wp.fromC {α β γ δ : Type} {K : PySem.W.Frag} {ca : Nat → Addr} {E E' : XK} {R : Hp → List Addr → α → β → Prop} {S : Hp → List Addr → γ → δ → Prop} {im im0 : Hp} {am am0 : List Addr} {H H0 : Hp} {r : Res α} {Q : β → Hp → Prop} {Q2 : δ → Hp → Prop} {f : α → Sto → Res γ}
    (w : Wp K ca S E im0 am0 H0 ((r.bind f).calm) Q2)
    (k : ∀ a st' im' am' H' b, r = .ok a st' → Wp K ca S E im0 am0 H0 ((f a st').calm) Q2 → Ext im am H im' am' H' → StOk K st' im' am' H' → R im' am' a b → Q b H') : Wp K ca R E' im am H r Q := by
  cases r with
  | ok a st => exact fun im' am' H' b e s q => k a st im' am' H' b rfl w e s q
  | err c st => exact w.elim
  | stuck => exact w.elim
section
variable {X : Cx} {ca : Nat → Addr} {E : XK} {σ : L2.St} {H : Hp} {T : Tb} {N : List Str} {call : Nat → List D → Sto → Res D}
/-! ### d.get(k, x) -/
theorem snd_get2 {o k d : Expr} {apos cpos : Pos} {m1 m2 m3 : Env → Sto → Res D} (c : Cxt T N ca call X) (ho : Snd X ca E o m1) (hk : Snd X ca E k m2) (hd : Snd X ca E d m3) (hb : plainBase o = true) (hl : (apos.endLine == cpos.line) = true) (nk : noStar k = true) (nd : noStar d = true) :
    Snd X ca E (.Call (.Attribute o "get" apos) [k, d] [] cpos) (fun env st => (m1 env st).bind fun x st => if isDct x then (m2 env st).bind fun y st => (m3 env st).bind fun z st => getR x y z st else .stuck) := by
  have M : M2 X o "get" apos k d cpos := ⟨base_of hb, few_of (by simp [nk, nd]) (by show 2 < 29; decide), hl, by rw [star_of nk, star_of nd]; rfl⟩
  refine Snd.val (PE.im (pe_dget2 (by have := c.un; omega) ho.pe hk.pe hd.pe M) fun σ H Q ⟨im, am, env, st, eo, so, w⟩ => ?_) rfl
  refine ⟨im, am, env, st, eo, so, Wp.seq w fun x H1 im1 am1 a st1 e1 s1 r1 w1 => ?_⟩
  cases a with
  | dct kvs =>
    cases r1 with
    | dct q1 q2 =>
      refine ⟨_, rfl, .inl ⟨_, .inr ⟨_, s1.same _ _ q1⟩⟩, im1, am1, env, st1, eo.ext e1, s1, Wp.seq w1 fun y H2 im2 am2 b st2 e2 s2 r2 w2 => ?_⟩
      refine ⟨im2, am2, env, st2, (eo.ext e1).ext e2, s2, Wp.seq w2 fun z H3 im3 am3 c st3 e3 s3 r3 w3 => ?_⟩
      have q3 := s3.same _ _ (e3.same _ _ (e2.same _ _ q1))
      have q4 := RpKs.mono e3.same e3.pre _ _ (RpKs.mono e2.same e2.pre _ _ q2)
      have key : ∀ l : Key, Wp X.K ca (Rp X.K) E im3 am3 H3 (.ok (((kvs.find? fun kv => eqS kv.1 (kD l)).map (·.2)).getD c) st3) Q → ∀ o, o = valV _ l → Q (o.getD z) H3 := fun l w o ho => by
        obtain ⟨f1, f2⟩ := RpKs.find l _ _ q4
        cases h : (kvs.find? fun kv => eqS kv.1 (kD l)).map (·.2) with
        | none =>
          rw [h] at w
          rw [ho, f2 h]
          exact Wp.fin (st := st3) w s3 r3
        | some d =>
          rw [h] at w
          obtain ⟨v, h1, h2⟩ := f1 d h
          rw [ho, h1]
          exact Wp.fin (st := st3) w s3 h2
      cases b with
      | str x => cases r2; exact ⟨_, .inl ⟨_, .inr x, .inr ⟨_, q3⟩, rfl, rfl⟩, key (.inr x) w3 _ rfl⟩
      | int x => cases r2; exact ⟨_, .inl ⟨_, .inl x, .inr ⟨_, q3⟩, rfl, rfl⟩, key (.inl x) w3 _ rfl⟩
      | _ => exact w3.elim
  | _ => exact w1.elim
/-! ### {..} -/
/-- what comes is not written any more -/
def tFrz (t : TE) : TE := fun σ H Q => t σ H fun v H' => ∃ d u, v = .ref d ∧ H' d = some u ∧ Mut (some u) ∧ ∀ od, Q v (upd H' d (.frz od u))
theorem pe_frz {e : Expr} {t : TE} (h : PE X e t) : PE X e (tFrz t) := by
  refine ⟨fun pins s σ H Q I hw => thn (h.run pins s σ H _ I hw) fun v s1 ⟨x, H1, I1, r, q⟩ => ?_⟩
  obtain ⟨d, u, ex, hd, mu, q⟩ := q
  obtain ⟨od, I2⟩ := I1.lock hd mu
  exact ⟨x, _, I2, r, q od⟩
def dKeys : List (Option Expr) → List Str → Bool
  | [], [] => true
  | some (.Constant (.str y) _ _) :: ks, x :: xs => decide (x = y) && PyData.strOk x && dKeys ks xs
  | _, _ => false
structure SndP (X : Cx) (ca : Nat → Addr) (E : XK) (pos : Pos) (keys : List (Option Expr)) (vals : List Expr) (ks : List Str) (n : Nat) (m : Env → Sto → Res (List D)) : Prop where
  ex : ∃ trs, PPs X pos keys vals trs ∧ ∀ σ H (Q : List (V × V) → Hp → Prop), tA X.K ca E m σ H (fun vs H' => Q (List.zip (ks.map V.str) vs) H') → tPairs trs σ H Q
  len : keys.length = n
  lenv : vals.length = n
  out : ∀ env st ds st', m env st = .ok ds st' → ds.length = n
theorem sndp_nil {pos : Pos} {ks : List Str} : SndP X ca E pos [] [] ks 0 (fun _ st => .ok [] st) :=
  ⟨⟨[], pps_nil, fun σ H Q ⟨im, am, env, st, eo, so, w⟩ => by have := Wp.fin (b := ([] : List V)) (st := st) w so .nil; simpa [tPairs] using this⟩, rfl, rfl, fun env st ds st' h => by cases h; rfl⟩
theorem sndp_cons {pos p : Pos} {k n : Nat} {x : Str} {v : Expr} {keys : List (Option Expr)} {vals : List Expr} {ks : List Str} {m1 : Env → Sto → Res D} {m2 : Env → Sto → Res (List D)} (h1 : Snd X ca E v m1) (h2 : SndP X ca E pos keys vals ks n m2) :
    SndP X ca E pos (some (.Constant (.str x) k p) :: keys) (v :: vals) (x :: ks) (n + 1) (fun env st => (m1 env st).bind fun d st => (m2 env st).bind fun ds st => .ok (d :: ds) st) := by
  obtain ⟨trs, h3, h4⟩ := h2.ex
  refine ⟨⟨_, pps_cons pe_str h1.pe h3, fun σ H Q ⟨im, am, env, st, eo, so, w⟩ => ?_⟩, by rw [List.length_cons, h2.len], by rw [List.length_cons, h2.lenv], fun env st ds st' h => ?_⟩
  · show tE X.K ca E m1 σ H _
    refine ⟨im, am, env, st, eo, so, Wp.seq w fun y H1 im1 am1 a st1 e1 s1 r1 w1 => ?_⟩
    refine h4 σ H1 _ ⟨im1, am1, env, st1, eo.ext e1, s1, Wp.seq w1 fun ys H2 im2 am2 b st2 e2 s2 r2 w2 => ?_⟩
    exact Wp.fin (b := y :: ys) w2 s2 (RpAll.cons (r1.mono e2.same e2.pre _ _) r2)
  · cases e1 : m1 env st with
    | ok d s1 =>
      simp only [e1, Res.bind_ok] at h
      cases e2 : m2 env s1 with
      | ok l s2 => simp only [e2, Res.bind_ok] at h; cases h; rw [List.length_cons, h2.out _ _ _ _ e2]
      | err c s2 => simp only [e2, Res.bind_err] at h; cases h
      | stuck => simp only [e2, Res.bind_stuck] at h; cases h
    | err c s1 => simp only [e1, Res.bind_err] at h; cases h
    | stuck => simp only [e1, Res.bind_stuck] at h; cases h
theorem mergeK_app : ∀ (more acc : List (Key × V)), (∀ p ∈ more, p.1 ∉ acc.map (·.1)) → (more.map (·.1)).Nodup → mergeK acc more = acc ++ more
  | [], acc, _, _ => by simp [mergeK]
  | p :: more, acc, h, nd => by
    have h0 : (acc.any fun kv => decide (kv.1 = p.1)) = false := by
      rw [List.any_eq_false]
      intro q hq e
      exact h p List.mem_cons_self (by rw [← of_decide_eq_true e]; exact List.mem_map.mpr ⟨q, hq, rfl⟩)
    rw [List.map_cons, List.nodup_cons] at nd
    show mergeK (putK acc p.1 p.2) more = _
    have e : putK acc p.1 p.2 = acc ++ [p] := by unfold putK; rw [h0]; rfl
    rw [e, mergeK_app more (acc ++ [p]) (fun q hq hm => ?_) nd.2, List.append_assoc]; rfl
    rw [List.map_append, List.mem_append] at hm
    rcases hm with hm | hm
    · exact h q (List.mem_cons_of_mem _ hq) hm
    · have e2 : q.1 = p.1 := by simpa using hm
      exact nd.1 (by rw [← e2]; exact List.mem_map.mpr ⟨q, hq, rfl⟩)
theorem rpks_zip {K : PySem.W.Frag} {im : Hp} {am : List Addr} : ∀ {ks : List Str} {ds : List D} {vs : List V}, (∀ x ∈ ks, PyData.strOk x = true) → RpAll K im am ds vs → RpKs K im am (List.zip (ks.map D.str) ds) (List.zip (ks.map fun x => (Sum.inr x : Key)) vs)
  | [], _, _, _, _ => .nil
  | x :: ks, _, _, h, r => by
    cases r with
    | nil => exact .nil
    | cons q r => exact .cons (k := .inr x) (h x List.mem_cons_self) q (rpks_zip (fun y hy => h y (List.mem_cons_of_mem _ hy)) r)
theorem zip_kv : ∀ {ks : List Str} {vs : List V}, List.zip (ks.map V.str) vs = (List.zip (ks.map fun x => (Sum.inr x : Key)) vs).map fun kv => (kV kv.1, kv.2)
  | [], _ => by simp
  | _ :: _, [] => by simp
  | x :: ks, v :: vs => by rw [List.map_cons, List.map_cons, List.zip_cons_cons, List.zip_cons_cons, List.map_cons, zip_kv]; rfl
theorem snd_dsp {keys : List (Option Expr)} {vals : List Expr} {ks : List Str} {n : Nat} {pos : Pos} {m : Env → Sto → Res (List D)} (h : SndP X ca E pos keys vals ks n m) (hall : keys.all (·.isSome) = true) (hk : ks.length = n) (h0 : 0 < n) (h15 : n ≤ 15) (hs : ks.all (fun x => PyData.strOk x) = true) :
    Snd X ca E (.Dict keys vals pos) (fun env st => (m env st).bind fun ds st => if ks.length = ds.length ∧ ks.Nodup then .ok (.dct (List.zip (ks.map D.str) ds)) st else .stuck) := by
  obtain ⟨trs, h3, h4⟩ := h.ex
  refine Snd.val (PE.im (pe_frz (pe_disp h3 hall (by rw [h.len, h.lenv]) (by intro e; rw [← h.len, e] at h0; exact absurd h0 (by simp)) (by rw [h.len]; exact h15))) fun σ H Q ⟨im, am, env, st, eo, so, w⟩ => ?_) rfl
  intro p hp
  have f0 : Flo im am H p im am (upd H p (.dK [])) := Flo.start so hp
  have s0 := so.flo (o := .dK []) (so.imn hp) (so.amn hp)
  refine h4 σ _ _ ⟨im, am, env, st, eo, s0, ?_⟩
  refine Wp.from w f0.ext fun ds st2 im2 am2 H2 vs he w2 e2 s2 r2 => ?_
  obtain ⟨f2, k2⟩ := f0.step e2
  split at w2
  · rename_i hc
    have hl : (List.zip (ks.map fun x => (Sum.inr x : Key)) vs).length ≤ 15 := by rw [List.length_zip, List.length_map]; omega
    refine ⟨k2 _ upd_same, _, zip_kv, hl, ?_⟩
    have nd : ((List.zip (ks.map fun x => (Sum.inr x : Key)) vs).map (·.1)).Nodup := by
      rw [List.map_fst_zip (by rw [List.length_map, hc.1, r2.length]; exact Nat.le_refl _)]
      exact List.Pairwise.map _ (fun a b hab e => hab (Sum.inr.inj e)) hc.2
    rw [mergeK_app _ [] (fun _ _ hm => by simp at hm) nd, List.nil_append]
    refine ⟨p, _, rfl, upd_same, trivial, fun od => ?_⟩
    rw [upd_upd]
    obtain ⟨e3, s3, hs3, hi3⟩ := f2.fin s2 (o := .frz od (.dK (List.zip (ks.map fun x => (Sum.inr x : Key)) vs)))
    exact Wp.fin1 (st := st2) w2 e3 s3 (.dct hi3 (rpks_zip (fun x hx => (List.all_eq_true.mp hs) x hx) (RpAll.mono hs3 (List.prefix_refl _) _ _ r2)))
  · exact w2.elim
/-! ### targets -/
mutual
def tgSl : Tg → List Nat
  | .name i => [i]
  | .tup ts => tgSls ts
def tgSls : Tgs → List Nat
  | .nil => []
  | .cons t ts => tgSl t ++ tgSls ts
end
theorem wipe_get {σ : L2.St} {i : Nat} : ∀ {vs : List Nat}, (wipe σ vs)[i]? = if i ∈ vs then (σ[i]?.map fun _ => none) else σ[i]?
  | [] => by simp [wipe]
  | v :: vs => by
    unfold wipe
    rw [List.getElem?_set, wipe_get (vs := vs), wipe_length]
    by_cases h : v = i
    · subst h
      by_cases hl : v < σ.length
      · simp [hl]
      · simp [hl]
    · have h' : ¬ i = v := fun e => h e.symm
      simp [h, h']
theorem wipe_put {σ : L2.St} {i : Nat} {v : V} {vs : List Nat} (h : i ∈ vs) : wipe (σ.set i (some v)) vs = wipe σ vs := by
  apply List.ext_getElem?
  intro j
  rw [wipe_get, wipe_get]
  split
  · rw [List.getElem?_set]
    split
    · rename_i e; subst e
      split
      · rename_i hl; simp [hl]
      · rename_i hl; simp [hl]
    · rfl
  · rename_i hj
    rw [List.getElem?_set_ne (fun e => hj (by rw [← e]; exact h))]
theorem wipe_wipe {σ : L2.St} {vs : List Nat} : wipe (wipe σ vs) vs = wipe σ vs := by
  apply List.ext_getElem?
  intro j
  rw [wipe_get, wipe_get]
  split
  · cases σ[j]? <;> rfl
  · rfl
/-- what a store into a target reaches -/
def gT (K : PySem.W.Frag) (tg : Tg) : TG := fun v σ H Q => ∃ im am env st d env', EnvOk K im am env σ ∧ StOk K st im am H ∧ Rp K im am d v ∧ asg tg d env = some env' ∧ ∀ σ', EnvOk K im am env' σ' → (∀ vs, (∀ i ∈ tgSl tg, i ∈ vs) → wipe σ' vs = wipe σ vs) → Q σ' H
def gTs (K : PySem.W.Frag) (ts : Tgs) : L2.TGs := fun vs σ H Q => ∃ im am env st ds env', EnvOk K im am env σ ∧ StOk K st im am H ∧ RpAll K im am ds vs ∧ asgs ts ds env = some env' ∧ ∀ σ', EnvOk K im am env' σ' → (∀ vs, (∀ i ∈ tgSls ts, i ∈ vs) → wipe σ' vs = wipe σ vs) → Q σ' H
mutual
def ckTg (N : List Str) (F : Str → Bool) (sc : Scope) : Tg → Expr → Bool
  | .name i, e => match e with
    | .Name x _ => decide (N[i]? = some x) && (locB sc x && (F x || lclB sc x))
    | _ => false
  | .tup ts, e => match e with
    | .Tuple l _ _ => ckTgs N F sc ts l
    | _ => false
def ckTgs (N : List Str) (F : Str → Bool) (sc : Scope) : Tgs → List Expr → Bool
  | .nil, l => l.isEmpty
  | .cons t ts, l => match l with
    | e :: es => ckTg N F sc t e && ckTgs N F sc ts es
    | [] => false
end
theorem asgE_cons {e : Expr} {es : List Expr} {env : PySem.Env} {N : List Str} {F : Str → Bool} {sc : Scope} {t : Tg} (h : ckTg N F sc t e = true) : (assignEach (e :: es) env) = (false, assign e env) :: assignEach es env := by
  cases e with
  | Name x p => rfl
  | Tuple l k p => rfl
  | _ => cases t <;> (simp [ckTg] at h)
theorem asgE_len {env : PySem.Env} {N : List Str} {F : Str → Bool} {sc : Scope} : ∀ {ts : Tgs} {l : List Expr}, ckTgs N F sc ts l = true → (assignEach l env).length = l.length ∧ (assignEach l env).findIdx? (·.1) = none
  | .nil, l, h => by
    cases l with
    | nil => exact ⟨rfl, rfl⟩
    | cons e es => simp [ckTgs] at h
  | .cons t ts, l, h => by
    cases l with
    | nil => simp [ckTgs] at h
    | cons e es =>
      simp only [ckTgs, Bool.and_eq_true] at h
      obtain ⟨h1, h2⟩ := asgE_len (env := env) (ts := ts) h.2
      rw [asgE_cons h.1]
      exact ⟨by rw [List.length_cons, h1, List.length_cons], by rw [List.findIdx?_cons]; simp [h2]⟩
theorem asgs_len : ∀ {ts : Tgs} {l : List Expr} {N : List Str} {F : Str → Bool} {sc : Scope} {ds : List D} {env env' : Env}, ckTgs N F sc ts l = true → asgs ts ds env = some env' → ds.length = l.length
  | .nil, l, _, _, _, ds, _, _, h, h2 => by
    cases l with
    | nil => cases ds with
      | nil => rfl
      | cons d ds => simp [asgs] at h2
    | cons e es => simp [ckTgs] at h
  | .cons t ts, l, _, _, _, ds, env, _, h, h2 => by
    cases l with
    | nil => simp [ckTgs] at h
    | cons e es =>
      simp only [ckTgs, Bool.and_eq_true] at h
      cases ds with
      | nil => simp [asgs] at h2
      | cons d ds =>
        simp only [asgs] at h2
        cases h3 : asg t d env with
        | none => rw [h3] at h2; cases h2
        | some e1 => rw [h3] at h2; rw [List.length_cons, List.length_cons, asgs_len h.2 h2]
mutual
theorem pg_ck (c : Cxt T N ca call X) {F : Str → Bool} (hf : ∀ x, F x = true → X.fn x = true) : ∀ (tg : Tg) (e : Expr), ckTg N F X.env.scope tg e = true → PG X e (gT X.K tg)
  | .name i, e, h => by
    cases e with
    | Name x p =>
      simp only [ckTg, Bool.and_eq_true, decide_eq_true_eq, Bool.or_eq_true] at h
      obtain ⟨hi, hl, hk⟩ := h
      refine PG.im (pg_name (i := i) (by rw [c.nm]; exact c.nd) (by rw [c.nm]; exact hi) (locB_ok hl) (hk.imp (hf x) lclB_ok)) fun v σ H Q ⟨im, am, env, st, d, env', eo, so, rd, ha, q⟩ => ?_
      simp only [asg, Option.some.injEq] at ha
      subst ha
      exact q _ (eo.set rd i) fun vs hv => wipe_put (hv i (by simp [tgSl]))
    | _ => simp [ckTg] at h
  | .tup ts, e, h => by
    cases e with
    | Tuple l k p =>
      simp only [ckTg] at h
      obtain ⟨h1, h2⟩ := asgE_len (env := X.env) h
      refine PG.im (pg_seq c.calm (pgs_ck c hf ts l h) h1 h2) fun v σ H Q ⟨im, am, env, st, d, env', eo, so, rd, ha, q⟩ => ?_
      cases d with
      | tup xs =>
        cases rd with
        | tup q1 q2 =>
          simp only [asg] at ha
          exact ⟨_, _, rfl, .inr (Same.seqT so.same q1), by rw [← q2.length, asgs_len h ha], im, am, env, st, xs, env', eo, so, q2, ha, q⟩
      | lst xs =>
        cases rd with
        | lst q1 q2 =>
          simp only [asg] at ha
          exact ⟨_, _, rfl, .inl (Same.seq so.same (.of q1)), by rw [← q2.length, asgs_len h ha], im, am, env, st, xs, env', eo, so, q2, ha, q⟩
      | _ => simp [asg] at ha
    | _ => simp [ckTg] at h
theorem pgs_ck (c : Cxt T N ca call X) {F : Str → Bool} (hf : ∀ x, F x = true → X.fn x = true) : ∀ (ts : Tgs) (l : List Expr), ckTgs N F X.env.scope ts l = true → PGs X l (gTs X.K ts)
  | .nil, l, h => by
    cases l with
    | nil =>
      refine ⟨fun pins s σ H vs us Q I r ⟨im, am, env, st, ds, env', eo, so, rd, ha, q⟩ => pgs_nil.run pins s σ H vs us Q I r ?_⟩
      cases ds with
      | nil => cases rd; simp only [asgs, Option.some.injEq] at ha; subst ha; exact ⟨rfl, q _ eo fun _ _ => rfl⟩
      | cons d ds => simp [asgs] at ha
    | cons e es => simp [ckTgs] at h
  | .cons t ts, l, h => by
    cases l with
    | nil => simp [ckTgs] at h
    | cons e es =>
      simp only [ckTgs, Bool.and_eq_true] at h
      refine ⟨fun pins s σ H vs us Q I r ⟨im, am, env, st, ds, env', eo, so, rd, ha, q⟩ => (pgs_cons (pg_ck c hf t e h.1) (pgs_ck c hf ts es h.2) (by rw [asgE_cons h.1]; rfl)).run pins s σ H vs us Q I r ?_⟩
      cases ds with
      | nil => simp [asgs] at ha
      | cons d ds =>
        cases rd with
        | cons r1 r2 =>
          simp only [asgs] at ha
          cases h3 : asg t d env with
          | none => rw [h3] at ha; cases ha
          | some e1 =>
            rw [h3] at ha
            refine ⟨_, _, rfl, im, am, env, st, d, e1, eo, so, r1, h3, fun σ1 eo1 w1 => ⟨im, am, e1, st, ds, env', eo1, so, r2, ha, fun σ2 eo2 w2 => q σ2 eo2 fun vs hv => ?_⟩⟩
            simp only [tgSls, List.mem_append] at hv
            rw [w2 vs fun i hi => hv i (.inr hi), w1 vs fun i hi => hv i (.inl hi)]
end
end
end PP
end

section
set_option linter.all false
set_option autoImplicit false
set_option maxRecDepth 100000
set_option Elab.async false
/-! Walks, comprehensions. -/
namespace PP
open PySem PySem.Spec PyProof.Rows L2
/-- a walk gives these, from any later state in which the guarded cells are as they were -/
def ItR (K : PySem.W.Frag) : Hp → List Addr → Wk → L2.It → Prop := fun im am w J => ∃ (G : Hp → Prop) (Y : Nat → Hp → V → Hp → Prop), Walk J w.xs.length G Y ∧ ∀ im1 am1 H1 st1, Same im im1 → am <+: am1 → StOk K st1 im1 am1 H1 → gdOk w.gd st1 = true →
  G H1 ∧ ∀ i x H', i < w.xs.length → Y i H1 x H' → ∃ im2 d, w.xs[i]? = some d ∧ Ext im1 am1 H1 im2 am1 H' ∧ StOk K st1 im2 am1 H' ∧ Rp K im2 am1 d x
def tI (K : PySem.W.Frag) (ca : Nat → Addr) (E : XK) (m : Env → Sto → Res Wk) : TI := fun σ H R => ∃ im am env st, EnvOk K im am env σ ∧ StOk K st im am H ∧ Wp K ca (ItR K) E im am H (m env st) R
mutual
theorem eqS_eq : ∀ (x y : D), eqS x y = true → x = y
  | .non, y, h => by cases y <;> first | rfl | (cases h)
  | .bl a, y, h => by cases y <;> first | (simp only [eqS, beq_iff_eq] at h; rw [h]) | (cases h)
  | .int a, y, h => by cases y <;> first | (simp only [eqS, beq_iff_eq] at h; rw [h]) | (cases h)
  | .str a, y, h => by cases y <;> first | (simp only [eqS, beq_iff_eq] at h; rw [h]) | (cases h)
  | .lst xs, y, h => by cases y <;> first | (simp only [eqS] at h; rw [eqSs_eq xs _ h]) | (cases h)
  | .tup xs, y, h => by cases y <;> first | (simp only [eqS] at h; rw [eqSs_eq xs _ h]) | (cases h)
  | .dct _, y, h => by cases y <;> cases h
  | .cel _, y, h => by cases y <;> cases h
  | .frz _, y, h => by cases y <;> cases h
  | .tpn _, y, h => by cases y <;> cases h
theorem eqSs_eq : ∀ (xs ys : List D), eqSs xs ys = true → xs = ys
  | [], ys, h => by cases ys <;> first | rfl | (cases h)
  | x :: xs, ys, h => by
    cases ys with
    | nil => cases h
    | cons y ys =>
      simp only [eqSs, Bool.and_eq_true] at h
      rw [eqS_eq x y h.1, eqSs_eq xs ys h.2]
end
theorem gd_cell {gd : List (Nat × List D)} {st : Sto} (h : gdOk gd st = true) {c : Nat} {xs : List D} (hm : (c, xs) ∈ gd) : st[c]? = some (.lst xs) := by
  have h1 := (List.all_eq_true.mp h) _ hm
  dsimp only at h1
  split at h1
  · rename_i ys e
    rw [eqSs_eq _ _ h1]; exact e
  · cases h1
theorem gd_app {g1 g2 : List (Nat × List D)} {st : Sto} (h : gdOk (g1 ++ g2) st = true) : gdOk g1 st = true ∧ gdOk g2 st = true := by
  unfold gdOk at h ⊢
  rw [List.all_append, Bool.and_eq_true] at h
  exact h
/-- a sequence, now and later -/
structure SeqV (K : PySem.W.Frag) (im : Hp) (am : List Addr) (w : Wk) (tp : Bool) (a : Addr) : Prop where
  at_ : ∀ im1 am1 H1 st1, Same im im1 → am <+: am1 → StOk K st1 im1 am1 H1 → gdOk w.gd st1 = true → ∃ vs, (if tp then SqT K H1 a vs else SqL K H1 a vs) ∧ RpAll K im1 am1 w.xs vs
section
variable {K : PySem.W.Frag} {im : Hp} {am : List Addr}
theorem sq_len {H : Hp} {a : Addr} {w : Wk} {tp : Bool} (S : SeqV K im am w tp a) {im1 : Hp} {am1 : List Addr} {st1 : Sto} (hs : Same im im1) (hp : am <+: am1) (so : StOk K st1 im1 am1 H) (g : gdOk w.gd st1 = true) {vs : List V} (h : if tp then SqT K H a vs else SqL K H a vs) : True := trivial
/-- the list of the walk, whatever its values -/
theorem walk_listG {a : Addr} {n : Nat} : Walk (Itl K a) n (fun H => ∃ vs : List V, SqL K H a vs ∧ vs.length = n) (fun i H x H' => H' = H ∧ ∀ vs, SqL K H a vs → vs[i]? = some x) :=
  ⟨fun i _ hi ⟨vs, q, e⟩ => ⟨vs, vs[i], q, by simp [e, hi]⟩, fun _ ⟨vs, q, e⟩ => ⟨vs, q, Nat.le_of_eq e⟩, fun _ _ _ _ _ q y => y⟩
theorem walk_tupG {a : Addr} {n : Nat} : Walk (Itt K a) n (fun H => ∃ vs : List V, SqT K H a vs ∧ vs.length = n) (fun i H x H' => H' = H ∧ ∀ vs, SqT K H a vs → vs[i]? = some x) :=
  ⟨fun i _ hi ⟨vs, q, e⟩ => ⟨vs, vs[i], q, by simp [e, hi]⟩, fun _ ⟨vs, q, e⟩ => ⟨vs, q, Nat.le_of_eq e⟩, fun _ _ _ _ _ q y => y⟩
theorem itr_list {a : Addr} {w : Wk} (S : SeqV K im am w false a) : ItR K im am w (Itl K a) :=
  ⟨_, _, walk_listG, fun im1 am1 H1 st1 hs hp so g => by
    obtain ⟨vs, h, r⟩ := S.at_ im1 am1 H1 st1 hs hp so g
    refine ⟨⟨vs, h, r.length.symm⟩, fun i x H' hi ⟨e, hx⟩ => ?_⟩
    subst e
    obtain ⟨d, h1, h2⟩ := r.getV (hx vs h)
    exact ⟨im1, d, h1, Ext.refl, so, h2⟩⟩
theorem itr_tup {a : Addr} {w : Wk} (S : SeqV K im am w true a) : ItR K im am w (Itt K a) :=
  ⟨_, _, walk_tupG, fun im1 am1 H1 st1 hs hp so g => by
    obtain ⟨vs, h, r⟩ := S.at_ im1 am1 H1 st1 hs hp so g
    refine ⟨⟨vs, h, r.length.symm⟩, fun i x H' hi ⟨e, hx⟩ => ?_⟩
    subst e
    obtain ⟨d, h1, h2⟩ := r.getV (hx vs h)
    exact ⟨im1, d, h1, Ext.refl, so, h2⟩⟩
theorem rangeL_len (lo hi : Int) : (rangeL lo hi).length = (hi - lo).toNat := by simp [rangeL]
theorem rangeL_get {lo hi : Int} {i : Nat} (h : i < (hi - lo).toNat) : (rangeL lo hi)[i]? = some (.int (lo + i)) := by simp [rangeL, h]
theorem itr_range {lo hi : Int} : ItR K im am ⟨rangeL lo hi, []⟩ (Itr lo (hi - lo).toNat) :=
  ⟨fun _ => True, YFn fun i => .int (lo + i), by rw [rangeL_len]; exact walk_range, fun im1 am1 H1 st1 hs hp so g => ⟨trivial, fun i x H' hi ⟨e, hx⟩ => by
    subst e; subst hx
    exact ⟨im1, _, rangeL_get (by rw [rangeL_len] at hi; exact hi), Ext.refl, so, .int _⟩⟩⟩
/-- a new pair -/
theorem pair_new {im1 : Hp} {am1 : List Addr} {H1 : Hp} {st1 : Sto} {T : Addr} {d1 d2 : D} {x y : V} (so : StOk K st1 im1 am1 H1) (hT : H1 T = none) (r1 : Rp K im1 am1 d1 x) (r2 : Rp K im1 am1 d2 y) :
    Ext im1 am1 H1 (upd im1 T (.tup [x, y])) am1 (upd H1 T (.tup [x, y])) ∧ StOk K st1 (upd im1 T (.tup [x, y])) am1 (upd H1 T (.tup [x, y])) ∧ Rp K (upd im1 T (.tup [x, y])) am1 (.tup [d1, d2]) (.ref T) := by
  have hs := same_upd (o := .tup [x, y]) (so.imn hT)
  exact ⟨Ext.add so hT, so.add hT, .tup (.of upd_same) (.cons (r1.mono hs (List.prefix_refl _) _ _) (.cons (r2.mono hs (List.prefix_refl _) _ _) .nil))⟩
theorem enumL_len : ∀ (n : Nat) (xs : List D), (enumL n xs).length = xs.length
  | _, [] => rfl
  | n, x :: xs => by simp [enumL, enumL_len (n + 1) xs]
theorem enumL_get : ∀ (n : Nat) (xs : List D) (i : Nat) (d : D), xs[i]? = some d → (enumL n xs)[i]? = some (.tup [.int ((n + i : Nat) : Int), d])
  | _, [], _, _, h => by simp at h
  | n, x :: xs, 0, d, h => by have e : x = d := by simpa using h
                              subst e; simp [enumL]
  | n, x :: xs, i + 1, d, h => by
    have := enumL_get (n + 1) xs i d (by simpa using h)
    simp only [enumL, List.getElem?_cons_succ, this]
    rw [show n + 1 + i = n + (i + 1) by omega]
theorem walk_enumG {a : Addr} {n : Nat} : Walk (Ite K a) n (fun H => ∃ vs : List V, SqL K H a vs ∧ vs.length = n) (fun i H v H' => ∃ T x, v = .ref T ∧ H T = none ∧ H' = upd H T (.tup [.int (i : Nat), x]) ∧ ∀ vs, SqL K H a vs → vs[i]? = some x) :=
  ⟨fun i _ hi ⟨vs, q, e⟩ => ⟨vs, vs[i], q, by simp [e, hi]⟩, fun _ ⟨vs, q, e⟩ => ⟨vs, q, Nat.le_of_eq e⟩, fun _ _ _ _ _ q y => y⟩
theorem walk_enumTG {a : Addr} {n : Nat} : Walk (IteT K a) n (fun H => ∃ vs : List V, SqT K H a vs ∧ vs.length = n) (fun i H v H' => ∃ T x, v = .ref T ∧ H T = none ∧ H' = upd H T (.tup [.int (i : Nat), x]) ∧ ∀ vs, SqT K H a vs → vs[i]? = some x) :=
  ⟨fun i _ hi ⟨vs, q, e⟩ => ⟨vs, vs[i], q, by simp [e, hi]⟩, fun _ ⟨vs, q, e⟩ => ⟨vs, q, Nat.le_of_eq e⟩, fun _ _ _ _ _ q y => y⟩
theorem itr_enum {a : Addr} {w : Wk} (S : SeqV K im am w false a) : ItR K im am ⟨enumL 0 w.xs, w.gd⟩ (Ite K a) :=
  ⟨_, _, walk_enumG, fun im1 am1 H1 st1 hs hp so g => by
    obtain ⟨vs, h, r⟩ := S.at_ im1 am1 H1 st1 hs hp so g
    refine ⟨⟨vs, h, by rw [enumL_len]; exact r.length.symm⟩, fun i v H' hi ⟨T, x, e1, hT, e2, hx⟩ => ?_⟩
    subst e1; subst e2
    obtain ⟨d, h1, h2⟩ := r.getV (hx vs h)
    obtain ⟨p1, p2, p3⟩ := pair_new so hT (.int ((i : Nat) : Int)) h2
    exact ⟨_, _, by rw [enumL_get 0 w.xs i d h1, Nat.zero_add], p1, p2, p3⟩⟩
theorem itr_enumT {a : Addr} {w : Wk} (S : SeqV K im am w true a) : ItR K im am ⟨enumL 0 w.xs, w.gd⟩ (IteT K a) :=
  ⟨_, _, walk_enumTG, fun im1 am1 H1 st1 hs hp so g => by
    obtain ⟨vs, h, r⟩ := S.at_ im1 am1 H1 st1 hs hp so g
    refine ⟨⟨vs, h, by rw [enumL_len]; exact r.length.symm⟩, fun i v H' hi ⟨T, x, e1, hT, e2, hx⟩ => ?_⟩
    subst e1; subst e2
    obtain ⟨d, h1, h2⟩ := r.getV (hx vs h)
    obtain ⟨p1, p2, p3⟩ := pair_new so hT (.int ((i : Nat) : Int)) h2
    exact ⟨_, _, by rw [enumL_get 0 w.xs i d h1, Nat.zero_add], p1, p2, p3⟩⟩
theorem zipL_len : ∀ (xs ys : List D), (zipL xs ys).length = min xs.length ys.length
  | [], _ => by simp [zipL]
  | _ :: _, [] => by simp [zipL]
  | x :: xs, y :: ys => by simp [zipL, zipL_len xs ys]
theorem zipL_get : ∀ (xs ys : List D) (i : Nat) (d e : D), xs[i]? = some d → ys[i]? = some e → (zipL xs ys)[i]? = some (.tup [d, e])
  | [], _, _, _, _, h, _ => by simp at h
  | _ :: _, [], _, _, _, _, h => by simp at h
  | x :: xs, y :: ys, 0, d, e, h, h2 => by simp at h h2; subst h; subst h2; simp [zipL]
  | x :: xs, y :: ys, i + 1, d, e, h, h2 => by simpa [zipL] using zipL_get xs ys i d e (by simpa using h) (by simpa using h2)
theorem walk_zipG {a b : Addr} {m n : Nat} : Walk (Itz K a b) (min m n) (fun H => (∃ vs : List V, SqL K H a vs ∧ vs.length = m) ∧ ∃ us : List V, SqL K H b us ∧ us.length = n) (fun i H v H' => ∃ T x y, v = .ref T ∧ H T = none ∧ H' = upd H T (.tup [x, y]) ∧ (∀ xs, SqL K H a xs → xs[i]? = some x) ∧ ∀ ys, SqL K H b ys → ys[i]? = some y) :=
  ⟨fun i _ hi ⟨⟨vs, q, e⟩, us, q2, e2⟩ => ⟨vs, us, vs[i]'(by omega), us[i]'(by omega), q, q2, by simp, by simp⟩, fun _ ⟨⟨vs, q, e⟩, us, q2, e2⟩ => ⟨vs, us, q, q2, by omega⟩, fun _ _ _ _ _ q y => y⟩
theorem walk_zipTG {a b : Addr} {m n : Nat} : Walk (RZ.ItzT K a b) (min m n) (fun H => (∃ vs : List V, SqT K H a vs ∧ vs.length = m) ∧ ∃ us : List V, SqT K H b us ∧ us.length = n) (fun i H v H' => ∃ T x y, v = .ref T ∧ H T = none ∧ H' = upd H T (.tup [x, y]) ∧ (∀ xs, SqT K H a xs → xs[i]? = some x) ∧ ∀ ys, SqT K H b ys → ys[i]? = some y) :=
  ⟨fun i _ hi ⟨⟨vs, q, e⟩, us, q2, e2⟩ => ⟨vs, us, vs[i]'(by omega), us[i]'(by omega), q, q2, by simp, by simp⟩, fun _ ⟨⟨vs, q, e⟩, us, q2, e2⟩ => ⟨vs, us, q, q2, by omega⟩, fun _ _ _ _ _ q y => y⟩
theorem itr_zip {a b : Addr} {v w : Wk} (S : SeqV K im am v false a) (S2 : SeqV K im am w false b) : ItR K im am ⟨zipL v.xs w.xs, v.gd ++ w.gd⟩ (Itz K a b) :=
  ⟨_, _, (zipL_len v.xs w.xs).symm ▸ walk_zipG, fun im1 am1 H1 st1 hs hp so g => by
    obtain ⟨vs, h, r⟩ := S.at_ im1 am1 H1 st1 hs hp so (gd_app g).1
    obtain ⟨us, h', r'⟩ := S2.at_ im1 am1 H1 st1 hs hp so (gd_app g).2
    refine ⟨⟨⟨vs, h, r.length.symm⟩, us, h', r'.length.symm⟩, fun i v H' hi ⟨T, x, y, e1, hT, e2, hx, hy⟩ => ?_⟩
    subst e1; subst e2
    obtain ⟨d, h1, h2⟩ := r.getV (hx vs h)
    obtain ⟨d', h3, h4⟩ := r'.getV (hy us h')
    obtain ⟨p1, p2, p3⟩ := pair_new so hT h2 h4
    exact ⟨_, _, zipL_get _ _ _ _ _ h1 h3, p1, p2, p3⟩⟩
theorem itr_zipT {a b : Addr} {v w : Wk} (S : SeqV K im am v true a) (S2 : SeqV K im am w true b) : ItR K im am ⟨zipL v.xs w.xs, v.gd ++ w.gd⟩ (RZ.ItzT K a b) :=
  ⟨_, _, (zipL_len v.xs w.xs).symm ▸ walk_zipTG, fun im1 am1 H1 st1 hs hp so g => by
    obtain ⟨vs, h, r⟩ := S.at_ im1 am1 H1 st1 hs hp so (gd_app g).1
    obtain ⟨us, h', r'⟩ := S2.at_ im1 am1 H1 st1 hs hp so (gd_app g).2
    refine ⟨⟨⟨vs, h, r.length.symm⟩, us, h', r'.length.symm⟩, fun i v H' hi ⟨T, x, y, e1, hT, e2, hx, hy⟩ => ?_⟩
    subst e1; subst e2
    obtain ⟨d, h1, h2⟩ := r.getV (hx vs h)
    obtain ⟨d', h3, h4⟩ := r'.getV (hy us h')
    obtain ⟨p1, p2, p3⟩ := pair_new so hT h2 h4
    exact ⟨_, _, zipL_get _ _ _ _ _ h1 h3, p1, p2, p3⟩⟩
/-- the keys, the pairs of a dict -/
theorem RpKs.getK {ds : List (D × D)} {ks : List (Key × V)} (h : RpKs K im am ds ks) {i : Nat} {k : Key} {v : V} (e : ks[i]? = some (k, v)) : ∃ d, ds[i]? = some (kD k, d) ∧ keyOk k ∧ Rp K im am d v := by
  induction ds generalizing ks i with
  | nil => cases h; simp at e
  | cons p ds ih =>
    cases h with
    | cons ok q r =>
      cases i with
      | zero => simp at e; obtain ⟨rfl, rfl⟩ := e; exact ⟨_, rfl, ok, q⟩
      | succ i => simpa using ih r (i := i) (by simpa using e)
theorem rp_key {k : Key} (ok : keyOk k) : Rp K im am (kD k) (kV k) := by
  cases k with
  | inl i => exact .int i
  | inr x => exact .str x ok
theorem itr_keys {a : Addr} {o : Obj} {ks : List (Key × V)} {ds : List (D × D)} (h : im a = some (.frz o (.dK ks))) (r : RpKs K im am ds ks) : ItR K im am ⟨ds.map (·.1), []⟩ (Itk a o ks) :=
  ⟨fun H => H a = some (.frz o (.dK ks)), fun i H x H' => H' = H ∧ ∃ k v, ks[i]? = some (k, v) ∧ x = kV k, by rw [List.length_map, r.length]; exact walk_keys, fun im1 am1 H1 st1 hs hp so g => ⟨so.same _ _ (hs _ _ h), fun i x H' hi ⟨e, k, v, hx, ex⟩ => by
    subst e; subst ex
    obtain ⟨d, h1, h2, h3⟩ := r.getK hx
    exact ⟨im1, kD k, by rw [List.getElem?_map, h1]; rfl, Ext.refl, so, rp_key h2⟩⟩⟩
theorem itr_items {a : Addr} {o : Obj} {ks : List (Key × V)} {ds : List (D × D)} (h : im a = some (.frz o (.dK ks))) (r : RpKs K im am ds ks) : ItR K im am ⟨ds.map fun kv => .tup [kv.1, kv.2], []⟩ (Iti a o ks) :=
  ⟨fun H => H a = some (.frz o (.dK ks)), YPair (fun i => ks[i]?.map fun kv => kV kv.1) (fun i => ks[i]?.map Prod.snd), by rw [List.length_map, r.length]; exact walk_items, fun im1 am1 H1 st1 hs hp so g => ⟨so.same _ _ (hs _ _ h), fun i x H' hi ⟨T, x1, x2, e1, hT, e2, hx1, hx2⟩ => by
    subst e1; subst e2
    have hx1 : (ks[i]?.map fun kv => kV kv.1) = some x1 := hx1
    have hx2 : (ks[i]?.map Prod.snd) = some x2 := hx2
    cases hk : ks[i]? with
    | none => rw [hk] at hx1; cases hx1
    | some kv =>
      obtain ⟨k, v⟩ := kv
      rw [hk] at hx1 hx2
      cases hx1; cases hx2
      obtain ⟨d, h1, h2, h3⟩ := r.getK hk
      obtain ⟨p1, p2, p3⟩ := pair_new so hT (rp_key h2) (h3.mono hs hp _ _)
      exact ⟨_, _, by rw [List.getElem?_map, h1]; rfl, p1, p2, p3⟩⟩⟩
end
section
variable {X : Cx} {ca : Nat → Addr} {E : XK} {T : Tb} {N : List Str} {call : Nat → List D → Sto → Res D}
/-- what a sequence is -/
theorem seq_of {K : PySem.W.Frag} {im : Hp} {am : List Addr} {H : Hp} {st : Sto} {d : D} {v : V} {w : Wk} (so : StOk K st im am H) (r : Rp K im am d v) (hd : isDct d = false) (h : wkOf d st = some w) : ∃ a, v = .ref a ∧ SeqV K im am w (isTp d) a := by
  cases d with
  | lst ys => cases h; cases r with | lst q1 q2 => exact ⟨_, rfl, ⟨fun im1 am1 H1 st1 hs hp so1 g => ⟨_, Same.seq so1.same (Same.seq hs (.of q1)), RpAll.mono hs hp _ _ q2⟩⟩⟩
  | tup ys => cases h; cases r with | tup q1 q2 => exact ⟨_, rfl, ⟨fun im1 am1 H1 st1 hs hp so1 g => ⟨_, Same.seqT so1.same (Same.seqT hs q1), RpAll.mono hs hp _ _ q2⟩⟩⟩
  | frz ys => cases h; cases r with | frz q1 q2 => exact ⟨_, rfl, ⟨fun im1 am1 H1 st1 hs hp so1 g => ⟨_, Same.seq so1.same (Same.seq hs q1), RpAll.mono hs hp _ _ q2⟩⟩⟩
  | cel c =>
    simp only [wkOf] at h
    split at h
    · rename_i xs hc
      cases h
      cases r with
      | cel q =>
        refine ⟨_, rfl, ⟨fun im1 am1 H1 st1 hs hp so1 g => ?_⟩⟩
        obtain ⟨vs, h1, h2⟩ := so1.cell _ _ _ (pre_get hp q) (gd_cell g List.mem_cons_self)
        exact ⟨vs, .of h1, h2⟩
    · cases h
  | dct _ => cases hd
  | _ => cases h
theorem ofO_seq {α β : Type} {K : PySem.W.Frag} {S : Hp → List Addr → α → β → Prop} {im : Hp} {am : List Addr} {H : Hp} {o : Option α} {st : Sto} {Q : β → Hp → Prop} (w : Wp K ca S E im am H (ofO o st) Q) : ∃ a, o = some a ∧ Wp K ca S E im am H (.ok a st) Q := by
  cases o with
  | none => exact w.elim
  | some a => exact ⟨a, rfl, w⟩
theorem seq_now {K : PySem.W.Frag} {im : Hp} {am : List Addr} {H : Hp} {st : Sto} {d : D} {a : Addr} {w : Wk} (so : StOk K st im am H) (r : Rp K im am d (.ref a)) (hd : isDct d = false) (h : wkOf d st = some w) : ∃ vs, (if isTp d then SqT K H a vs else SqL K H a vs) ∧ RpAll K im am w.xs vs := by
  cases d with
  | lst ys => cases h; cases r with | lst q1 q2 => exact ⟨_, Same.seq so.same (.of q1), q2⟩
  | tup ys => cases h; cases r with | tup q1 q2 => exact ⟨_, Same.seqT so.same q1, q2⟩
  | frz ys => cases h; cases r with | frz q1 q2 => exact ⟨_, Same.seq so.same q1, q2⟩
  | cel c =>
    simp only [wkOf] at h
    split at h
    · rename_i xs hc
      cases h
      cases r with
      | cel q =>
        obtain ⟨vs, h1, h2⟩ := so.cell _ _ _ q hc
        exact ⟨vs, .of h1, h2⟩
    · cases h
  | dct _ => cases hd
  | _ => cases h
theorem pi_ex {tg e : Expr} {m : Env → Sto → Res D} (he : PE X e (tE X.K ca E m)) : PI X tg e (tI X.K ca E (fun env st => (m env st).bind fun d st => ofO (wkOf d st) st)) :=
  PI.im (pi_any he) fun σ H R ⟨im, am, env, st, eo, so, w⟩ => ⟨im, am, env, st, eo, so, Wp.seq w fun x H1 im1 am1 a st1 e1 s1 r1 w1 => by
    obtain ⟨wk, hx, w2⟩ := ofO_seq w1
    cases hd : isDct a with
    | true =>
      cases a with
      | dct kvs =>
        cases r1 with
        | dct q1 q2 =>
          cases hx
          exact .inr ⟨_, _, _, rfl, s1.same _ _ q1, Wp.fin w2 s1 (itr_keys q1 q2)⟩
      | _ => cases hd
    | false =>
      obtain ⟨p, rfl, S⟩ := seq_of s1 r1 hd hx
      obtain ⟨vs, h1, h2⟩ := seq_now s1 r1 hd hx
      refine .inl ⟨p, rfl, ?_⟩
      cases ht : isTp a with
      | false => rw [ht] at S h1; exact .inl ⟨vs, h1, Wp.fin w2 s1 (itr_list S)⟩
      | true => rw [ht] at S h1; exact .inr ⟨vs, h1, Wp.fin w2 s1 (itr_tup S)⟩⟩
theorem pi_enumD {e : Expr} {elts : List Expr} {k : Nat} {tpos p pos : Pos} {m : Env → Sto → Res D} (c : Cxt T N ca call X) (hg : gloB X.env.scope "enumerate" = true) (hb : ("enumerate" : Str) ∈ T.bis) (he : PE X e (tE X.K ca E m)) (hn : noStar e = true) :
    PI X (.Tuple elts k tpos) (.Call (.Name "enumerate" p) [e] [] pos) (tI X.K ca E (fun env st => (m env st).bind fun d st => ofO (enumW d st) st)) :=
  PI.im (pi_enumA (gloB_ok hg) (c.bi _ hb) (pa_cons he pa_nil (star_of hn)) (star_of hn)) fun σ H R ⟨im, am, env, st, eo, so, w⟩ => ⟨im, am, env, st, eo, so, Wp.seq w fun x H1 im1 am1 a st1 e1 s1 r1 w1 => by
    obtain ⟨wk2, hy, w2⟩ := ofO_seq w1
    have hd : isDct a = false := by cases a <;> first | rfl | (cases hy)
    have hy2 : (wkOf a st1).map (fun w => (⟨enumL 0 w.xs, w.gd⟩ : Wk)) = some wk2 := by cases a <;> first | exact hy | (cases hd)
    cases hx : wkOf a st1 with
    | none => rw [hx] at hy2; cases hy2
    | some wk =>
      rw [hx] at hy2; cases hy2
      obtain ⟨p, rfl, S⟩ := seq_of s1 r1 hd hx
      obtain ⟨vs, h1, h2⟩ := seq_now s1 r1 hd hx
      refine ⟨p, vs, rfl, ?_⟩
      cases ht : isTp a with
      | false => rw [ht] at S h1; exact .inl ⟨h1, Wp.fin w2 s1 (itr_enum S)⟩
      | true => rw [ht] at S h1; exact .inr ⟨h1, Wp.fin w2 s1 (itr_enumT S)⟩⟩
theorem zipW_of {x y : D} {st : Sto} {w : Wk} (h : zipW x y st = some w) : isDct x = false ∧ isDct y = false ∧ isTp x = isTp y ∧ ∃ v u, wkOf x st = some v ∧ wkOf y st = some u ∧ w = ⟨zipL v.xs u.xs, v.gd ++ u.gd⟩ := by
  have h1 : isDct x = false := by cases x <;> first | rfl | (cases h)
  have h2 : isDct y = false := by cases y <;> first | rfl | (cases x <;> cases h)
  have h3 : (if isTp x == isTp y then (wkOf x st).bind fun v => (wkOf y st).map fun w => (⟨zipL v.xs w.xs, v.gd ++ w.gd⟩ : Wk) else none) = some w := by
    cases x <;> cases y <;> first | exact h | (cases h1; done) | (cases h2; done)
  split at h3
  · rename_i ht
    refine ⟨h1, h2, eq_of_beq ht, ?_⟩
    cases hx : wkOf x st with
    | none => rw [hx] at h3; cases h3
    | some v =>
      cases hy : wkOf y st with
      | none => rw [hx, hy] at h3; cases h3
      | some u => rw [hx, hy] at h3; cases h3; exact ⟨v, u, rfl, rfl, rfl⟩
  · cases h3
theorem pi_zipD {a b : Expr} {elts : List Expr} {k : Nat} {tpos p pos : Pos} {m1 m2 : Env → Sto → Res D} (c : Cxt T N ca call X) (hg : gloB X.env.scope "zip" = true) (hb : ("zip" : Str) ∈ T.bis) (ha : PE X a (tE X.K ca E m1)) (he : PE X b (tE X.K ca E m2)) (na : noStar a = true) (nb : noStar b = true) :
    PI X (.Tuple elts k tpos) (.Call (.Name "zip" p) [a, b] [] pos) (tI X.K ca E (fun env st => (m1 env st).bind fun x st => (m2 env st).bind fun y st => ofO (zipW x y st) st)) :=
  PI.im (RZ.pi_zipA (gloB_ok hg) (c.bi _ hb) (pa_cons ha (pa_cons he pa_nil (star_of nb)) (star_of na)) (star_of na) (star_any (by simp [nb]))) fun σ H R ⟨im, am, env, st, eo, so, w⟩ => ⟨im, am, env, st, eo, so, Wp.seq w fun x H1 im1 am1 a st1 e1 s1 r1 w1 =>
    ⟨im1, am1, env, st1, eo.ext e1, s1, Wp.seq w1 fun y H2 im2 am2 b st2 e2 s2 r2 w2 => by
      have r1 := r1.mono e2.same e2.pre _ _
      obtain ⟨wk, hz, w3⟩ := ofO_seq w2
      obtain ⟨d1, d2, ht, v, u, hv, hu, rfl⟩ := zipW_of hz
      obtain ⟨p, rfl, S⟩ := seq_of s2 r1 d1 hv
      obtain ⟨q, rfl, S2⟩ := seq_of s2 r2 d2 hu
      obtain ⟨vs, h1, h2⟩ := seq_now s2 r1 d1 hv
      obtain ⟨us, h3, h4⟩ := seq_now s2 r2 d2 hu
      refine ⟨p, q, vs, us, rfl, ?_⟩
      cases hb : isTp b with
      | false => rw [ht, hb] at S h1; rw [hb] at S2 h3; exact .inl ⟨h1, h3, Wp.fin w3 s2 (itr_zip S S2)⟩
      | true => rw [ht, hb] at S h1; rw [hb] at S2 h3; exact .inr ⟨h1, h3, Wp.fin w3 s2 (itr_zipT S S2)⟩⟩⟩
theorem pi_itemsD {e : Expr} {elts : List Expr} {k : Nat} {tpos apos cpos : Pos} {m : Env → Sto → Res D} (he : PE X e (tE X.K ca E m)) (hb : plainBase e = true) (hl : (apos.endLine == cpos.line) = true) :
    PI X (.Tuple elts k tpos) (.Call (.Attribute e "items" apos) [] [] cpos) (tI X.K ca E (fun env st => (m env st).bind fun d st => ofO (itemsW d) st)) :=
  PI.im (pi_items he (base_of hb) hl) fun σ H R ⟨im, am, env, st, eo, so, w⟩ => ⟨im, am, env, st, eo, so, Wp.seq w fun x H1 im1 am1 a st1 e1 s1 r1 w1 => by
    obtain ⟨wk, hx, w2⟩ := ofO_seq w1
    cases a with
    | dct kvs =>
      cases r1 with
      | dct q1 q2 => cases hx; exact ⟨_, _, _, rfl, s1.same _ _ q1, Wp.fin w2 s1 (itr_items q1 q2)⟩
    | _ => cases hx⟩
theorem pi_rng1 {tg a : Expr} {p pos : Pos} {m : Env → Sto → Res D} (c : Cxt T N ca call X) (hg : gloB X.env.scope "range" = true) (hb : ("range" : Str) ∈ T.bis) (ha : PE X a (tE X.K ca E m)) (na : noStar a = true) :
    PI X tg (.Call (.Name "range" p) [a] [] pos) (tI X.K ca E (fun env st => (m env st).bind fun d st => (asI d st).bind fun n st => if decide (-(2 ^ 62) ≤ n) && decide (n < 2 ^ 62) then .ok ⟨rangeL 0 n, []⟩ st else .stuck)) :=
  PI.im (pi_range1 (gloB_ok hg) (c.bi _ hb) (pa_cons ha pa_nil (star_of na)) (star_of na)) fun σ H R ⟨im, am, env, st, eo, so, w⟩ => ⟨im, am, env, st, eo, so, Wp.seq w fun x H1 im1 am1 a st1 e1 s1 r1 w1 => by
    cases a with
    | int n =>
      cases r1
      have w1 : Wp X.K ca (ItR X.K) E im1 am1 H1 (if decide (-(2 ^ 62) ≤ n) && decide (n < 2 ^ 62) then .ok ⟨rangeL 0 n, []⟩ st1 else .stuck) R := w1
      split at w1
      · rename_i hc
        simp only [Bool.and_eq_true, decide_eq_true_eq] at hc
        have := Wp.fin w1 s1 (itr_range (K := X.K) (im := im1) (am := am1) (lo := 0) (hi := n))
        rw [Int.sub_zero] at this
        exact ⟨n, rfl, hc.1, hc.2, this⟩
      · exact w1.elim
    | _ => exact w1.elim⟩
theorem pi_rng2 {tg a b : Expr} {p pos : Pos} {m1 m2 : Env → Sto → Res D} (c : Cxt T N ca call X) (hg : gloB X.env.scope "range" = true) (hb : ("range" : Str) ∈ T.bis) (ha : PE X a (tE X.K ca E m1)) (he : PE X b (tE X.K ca E m2)) (na : noStar a = true) (nb : noStar b = true) :
    PI X tg (.Call (.Name "range" p) [a, b] [] pos) (tI X.K ca E (fun env st => (m1 env st).bind fun d st => (asI d st).bind fun m st => (m2 env st).bind fun d st => (asI d st).bind fun n st =>
      if decide (-(2 ^ 62) ≤ m) && decide (m < 2 ^ 62) && decide (-(2 ^ 62) ≤ n) && decide (n < 2 ^ 62) then .ok ⟨rangeL m n, []⟩ st else .stuck)) :=
  PI.im (pi_range2 (gloB_ok hg) (c.bi _ hb) (pa_cons ha (pa_cons he pa_nil (star_of nb)) (star_of na)) (by rw [star_of na, star_of nb]; rfl) (star_of nb)) fun σ H R ⟨im, am, env, st, eo, so, w⟩ => ⟨im, am, env, st, eo, so, Wp.seq w fun x H1 im1 am1 a st1 e1 s1 r1 w1 => by
    cases a with
    | int m =>
      cases r1
      refine ⟨im1, am1, env, st1, eo.ext e1, s1, ?_⟩
      have w1 : Wp X.K ca (ItR X.K) E im1 am1 H1 ((m2 env st1).bind fun d st => (asI d st).bind fun n st => if decide (-(2 ^ 62) ≤ m) && decide (m < 2 ^ 62) && decide (-(2 ^ 62) ≤ n) && decide (n < 2 ^ 62) then .ok ⟨rangeL m n, []⟩ st else .stuck) R := w1
      refine Wp.seq w1 fun y H2 im2 am2 b st2 e2 s2 r2 w2 => ?_
      cases b with
      | int n =>
        cases r2
        have w2 : Wp X.K ca (ItR X.K) E im2 am2 H2 (if decide (-(2 ^ 62) ≤ m) && decide (m < 2 ^ 62) && decide (-(2 ^ 62) ≤ n) && decide (n < 2 ^ 62) then .ok ⟨rangeL m n, []⟩ st2 else .stuck) R := w2
        split at w2
        · rename_i hc
          simp only [Bool.and_eq_true, decide_eq_true_eq] at hc
          exact ⟨m, n, rfl, ⟨hc.1.1.1, hc.1.1.2, hc.1.2, hc.2⟩, Wp.fin w2 s2 itr_range⟩
        · exact w2.elim
      | _ => exact w2.elim
    | _ => exact w1.elim⟩
/-! ### comprehensions -/
def lcF (tg : Tg) (own : List Nat) (mc me : Env → Sto → Res D) (env : Env) : D → Sto → Res (Option D) := fun x st => (ofO (asg tg x (wipeE env own)) st).bind fun env st => (mc env st).bind fun c st => (asB c st).bind fun c st =>
        if c then (me env st).bind fun y st => .ok (some y) st else .ok none st
theorem upd_eq {H : Hp} {p : Addr} {o : HO} (h : H p = some o) : upd H p o = H := by
  funext b
  by_cases e : b = p
  · subst e; rw [upd_same, h]
  · rw [upd_ne e]
theorem lc_tE {tg : Tg} {own : List Nat} {mi : Env → Sto → Res Wk} {mc me : Env → Sto → Res D} {σ : L2.St} {H : Hp} {Q : VK} (hown : ∀ i ∈ tgSl tg, i ∈ own)
    (h : tE X.K ca E (fun env st => (mi env st).bind fun w st => (lcGo (gdOk w.gd) (lcF tg own mc me env) w.xs [] st).calm) σ H Q) :
    tLc (tI X.K ca E mi) (gT X.K tg) (tT X.K ca E0 mc) (tE X.K ca E0 me) own σ H Q := by
  obtain ⟨im, am, env, st, eo, so, w⟩ := h
  refine ⟨im, am, env, st, eo, so, Wp.seq w fun J H1 im1 am1 wk st1 e1 s1 r1 w1 => ?_⟩
  obtain ⟨G, Y, wk', hG⟩ := r1
  intro D hD
  have f0 : Flo im1 am1 H1 D im1 am1 (upd H1 D (.lst [])) := Flo.start s1 hD
  -- the guard holds whenever the walk goes on
  have gd : ∀ {xs acc st2}, Wp X.K ca (Rp X.K) E im1 am1 H1 ((lcGo (gdOk wk.gd) (lcF tg own mc me env) xs acc st2).calm) Q → gdOk wk.gd st2 = true := fun {xs acc st2} w => by
    cases hg : gdOk wk.gd st2 with
    | true => rfl
    | false => cases xs <;> (simp only [lcGo, hg] at w; exact w.elim)
  refine lc_it wk' (fun i H' => ∃ im2 am2 st2 acc vs, Flo im1 am1 H1 D im2 am2 H' ∧ StOk X.K st2 im2 am2 H' ∧ H' D = some (.lst vs) ∧ RpAll X.K im2 am2 acc vs ∧ Wp X.K ca (Rp X.K) E im1 am1 H1 ((lcGo (gdOk wk.gd) (lcF tg own mc me env) (wk.xs.drop i) acc st2).calm) Q)
    ⟨im1, am1, st1, [], [], f0, s1.flo (s1.imn hD) (s1.amn hD), upd_same, .nil, by rw [List.drop_zero]; exact w1⟩ ?_ ?_ ?_
  · rintro i H' hi ⟨im2, am2, st2, acc, vs, f, s, hd, ra, w2⟩
    exact (hG im2 am2 H' st2 f.ext.same f.ext.pre s (gd w2)).1
  · rintro i x H' H'' hi ⟨im2, am2, st2, acc, vs, f, s, hd, ra, w2⟩ y
    have hg2 := gd w2
    obtain ⟨im3, d, hx, e3, s3, r3⟩ := (hG im2 am2 H' st2 f.ext.same f.ext.pre s hg2).2 i x H'' hi y
    obtain ⟨f3, k3⟩ := f.step e3
    have hdrop : wk.xs.drop i = d :: wk.xs.drop (i + 1) := by
      obtain ⟨hlt, e⟩ := List.getElem?_eq_some_iff.mp hx
      rw [List.drop_eq_getElem_cons hlt, e]
    rw [hdrop] at w2
    have w2 : Wp X.K ca (Rp X.K) E im1 am1 H1 (((lcF tg own mc me env d st2).bind fun r st => match r with
      | some y => if acc.length < lim then lcGo (gdOk wk.gd) (lcF tg own mc me env) (wk.xs.drop (i + 1)) (acc ++ [y]) st else .stuck
      | none => lcGo (gdOk wk.gd) (lcF tg own mc me env) (wk.xs.drop (i + 1)) acc st).calm) Q := by
      simp only [lcGo, hg2, if_true] at w2; exact w2
    have eo3 : EnvOk X.K im3 am2 (wipeE env own) (wipe σ own) := (((eo.ext e1).ext f.ext).ext e3).wipe own
    cases ha : asg tg d (wipeE env own) with
    | none =>
      have : lcF tg own mc me env d st2 = .stuck := by simp only [lcF, ha, ofO_none, Res.bind_stuck]
      rw [this] at w2; exact w2.elim
    | some env2 =>
      refine ⟨im3, am2, wipeE env own, st2, d, env2, eo3, s3, r3, ha, fun σ2 eo4 hw => ⟨(hw own hown).trans wipe_wipe, im3, am2, env2, st2, eo4, s3, ?_⟩⟩
      have hF : lcF tg own mc me env d st2 = ((mc env2 st2).bind asB).bind fun c st => if c then (me env2 st).bind fun y st => .ok (some y) st else .ok none st := by
        simp only [lcF, ha, ofO_some, Res.bind_ok, Res.bind_bind]
      rw [hF, Res.bind_bind] at w2
      refine Wp.fromC w2 fun cb st4 im4 am4 H4 b he w4 e4 s4 r4 => ?_
      have e5 : b = cb := r4.symm
      subst e5
      obtain ⟨f4, k4⟩ := f3.step e4
      cases b with
      | false =>
        simp only [Bool.false_eq_true, if_false, Res.bind_ok] at w4 ⊢
        exact ⟨im4, am4, st4, acc, vs, f4, s4, k4 _ (k3 _ hd), RpAll.mono (e3.same.trans e4.same) e4.pre _ _ ra, w4⟩
      | true =>
        simp only [if_true, Res.bind_bind, Res.bind_ok] at w4 ⊢
        refine ⟨im4, am4, env2, st4, eo4.ext e4, s4, Wp.fromC w4 fun yd st5 im5 am5 H5 yv he5 w5 e5 s5 r5 => ?_⟩
        obtain ⟨f5, k5⟩ := f4.step e5
        split at w5
        · rename_i hlim
          have ra5 := RpAll.mono ((e3.same.trans e4.same).trans e5.same) (e4.pre.trans e5.pre) _ _ ra
          exact ⟨vs, k5 _ (k4 _ (k3 _ hd)), by rw [← ra.length]; exact Nat.lt_of_lt_of_le hlim (lim_size (Nat.le_refl _)), im5, am5, st5, acc ++ [yd], vs ++ [yv], f5.write, s5.flo f5.im f5.am, upd_same, ra5.snoc r5, w5⟩
        · exact w5.elim
  · rintro H' ⟨im2, am2, st2, acc, vs, f, s, hd, ra, w2⟩
    have hg2 := gd w2
    rw [List.drop_length] at w2
    simp only [lcGo, hg2, if_true] at w2
    obtain ⟨e3, s3, hs3, hi3⟩ := f.fin s (o := .lst vs)
    rw [upd_eq hd] at e3 s3
    exact Wp.fin1 (st := st2) w2 e3 s3 (.lst hi3 (RpAll.mono hs3 (List.prefix_refl _) _ _ ra))
end
end PP
end

section
set_option linter.all false
set_option autoImplicit false
set_option maxRecDepth 100000
set_option Elab.async false
/-! Two clauses; dicts. -/
namespace PP
open PySem PySem.Spec PyProof.Rows L2
section
variable {X : Cx} {ca : Nat → Addr} {E : XK} {T : Tb} {N : List Str} {call : Nat → List D → Sto → Res D}
/-- a loop within a comprehension, from any heap -/
theorem lc_in {J : L2.It} {n : Nat} {G : Hp → Prop} {Y : Nat → Hp → V → Hp → Prop} (w : Walk J n G Y) {g : TG} {tt : TT} {te : TE} {vs : List Nat} {σ : L2.St} {H4 : Hp} {D : Addr} {Nx : Hp → Prop} (Pv : Nat → Hp → Prop) (h0 : Pv 0 H4) (hG : ∀ i H, i ≤ n → Pv i H → G H)
    (hs : ∀ i x H H', i < n → Pv i H → Y i H x H' → g x (wipe σ vs) H' fun σ2 H2 => wipe σ2 vs = wipe σ vs ∧ tt σ2 H2 fun b H3 =>
      if b = true then te σ2 H3 fun y H4 => ∃ acc, H4 D = some (.lst acc) ∧ acc.length < sizeLine ∧ Pv (i + 1) (upd H4 D (.lst (acc ++ [y]))) else Pv (i + 1) H3) (hd : ∀ H, Pv n H → Nx H) :
    ∃ W : Nat → Nat → Hp → Prop, (∃ m, W 0 m H4) ∧ ∀ i m H, W i m H →
      (J.stop i H ∧ Nx H) ∨ (J.go i H ∧ ∃ Nx1 : Hp → Prop, (∀ H', Nx1 H' → ∃ m', m' < m ∧ W (i + 1) m' H') ∧ ∀ x H', J.yld i H x H' → g x (wipe σ vs) H' fun σ2 H2 => wipe σ2 vs = wipe σ vs ∧ tt σ2 H2 fun b H3 =>
        if b = true then te σ2 H3 fun y H4 => ∃ acc, H4 D = some (.lst acc) ∧ acc.length < sizeLine ∧ Nx1 (upd H4 D (.lst (acc ++ [y]))) else Nx1 H3) := by
  refine ⟨fun i m H => m = n - i ∧ i ≤ n ∧ Pv i H, ⟨n, by simp, Nat.zero_le _, h0⟩, ?_⟩
  rintro i m H ⟨rfl, hi, p⟩
  have q := hG i H hi p
  by_cases hlt : i < n
  · exact .inr ⟨w.goes i H hlt q, Pv (i + 1), fun H' p' => ⟨n - (i + 1), by omega, rfl, hlt, p'⟩, fun x H' y => hs i x H H' hlt p (w.yields i H x H' hlt q y)⟩
  · have e : i = n := by omega
    subst e
    exact .inl ⟨w.stops H q, hd H p⟩
theorem drop_at {α : Type} {l : List α} {i : Nat} {d : α} (hx : l[i]? = some d) : l.drop i = d :: l.drop (i + 1) := by
  obtain ⟨hlt, e⟩ := List.getElem?_eq_some_iff.mp hx
  rw [List.drop_eq_getElem_cons hlt, e]
def lcF2 (tg : Tg) (own : List Nat) (mc : Env → Sto → Res D) (mi2 : Env → Sto → Res Wk) (tg2 : Tg) (own2 : List Nat) (mc2 me : Env → Sto → Res D) (env : Env) : D → List D → Sto → Res D := fun x acc st => (ofO (asg tg x (wipeE env own)) st).bind fun env st => (mc env st).bind fun c st => (asB c st).bind fun c st =>
        if c then (mi2 env st).bind fun v st => lcGo (gdOk v.gd) (lcF tg2 own2 mc2 me env) v.xs acc st
        else .ok (.lst acc) st
theorem lc2_tE {tg tg2 : Tg} {own own2 : List Nat} {mi mi2 : Env → Sto → Res Wk} {mc mc2 me : Env → Sto → Res D} {σ : L2.St} {H : Hp} {Q : VK} (hown : ∀ i ∈ tgSl tg, i ∈ own) (hown2 : ∀ i ∈ tgSl tg2, i ∈ own2)
    (h : tE X.K ca E (fun env st => (mi env st).bind fun w st => (lcGo2 (gdOk w.gd) (lcF2 tg own mc mi2 tg2 own2 mc2 me env) w.xs [] st).calm) σ H Q) :
    tLc2 (tI X.K ca E mi) (gT X.K tg) (tT X.K ca E0 mc) (tI X.K ca E0 mi2) (gT X.K tg2) (tT X.K ca E0 mc2) (tE X.K ca E0 me) own own2 σ H Q := by
  obtain ⟨im, am, env, st, eo, so, w⟩ := h
  refine ⟨im, am, env, st, eo, so, Wp.seq w fun J H1 im1 am1 wk st1 e1 s1 r1 w1 => ?_⟩
  obtain ⟨G, Y, wlk, hG⟩ := r1
  intro D hD
  have f0 : Flo im1 am1 H1 D im1 am1 (upd H1 D (.lst [])) := Flo.start s1 hD
  generalize hF : lcF2 tg own mc mi2 tg2 own2 mc2 me env = F at w1
  have gd : ∀ {xs acc st2}, Wp X.K ca (Rp X.K) E im1 am1 H1 ((lcGo2 (gdOk wk.gd) F xs acc st2).calm) Q → gdOk wk.gd st2 = true := fun {xs acc st2} w => by
    cases hg : gdOk wk.gd st2 with
    | true => rfl
    | false => cases xs <;> (simp only [lcGo2, hg] at w; exact w.elim)
  refine ⟨fun i m H' => m = wk.xs.length - i ∧ i ≤ wk.xs.length ∧ ∃ im2 am2 st2 acc vs, Flo im1 am1 H1 D im2 am2 H' ∧ StOk X.K st2 im2 am2 H' ∧ H' D = some (.lst vs) ∧ RpAll X.K im2 am2 acc vs ∧ Wp X.K ca (Rp X.K) E im1 am1 H1 ((lcGo2 (gdOk wk.gd) F (wk.xs.drop i) acc st2).calm) Q,
    ⟨_, rfl, Nat.zero_le _, im1, am1, st1, [], [], f0, s1.flo (s1.imn hD) (s1.amn hD), upd_same, .nil, by rw [List.drop_zero]; exact w1⟩, ?_⟩
  rintro i m H' ⟨rfl, hi, im2, am2, st2, acc, vs, f, s, hd, ra, w2⟩
  have hg2 := gd w2
  obtain ⟨g1, g2⟩ := hG im2 am2 H' st2 f.ext.same f.ext.pre s hg2
  rcases Nat.lt_or_ge i wk.xs.length with hlt | hge
  case inr =>
    have ei : i = wk.xs.length := by omega
    subst ei
    refine .inl ⟨wlk.stops H' g1, ?_⟩
    rw [List.drop_length] at w2
    simp only [lcGo2, hg2, if_true] at w2
    obtain ⟨e3, s3, hs3, hi3⟩ := f.fin s (o := .lst vs)
    rw [upd_eq hd] at e3 s3
    exact Wp.fin1 (st := st2) w2 e3 s3 (.lst hi3 (RpAll.mono hs3 (List.prefix_refl _) _ _ ra))
  refine .inr ⟨wlk.goes i H' hlt g1, fun H'' => ∃ im2 am2 st2 acc vs, Flo im1 am1 H1 D im2 am2 H'' ∧ StOk X.K st2 im2 am2 H'' ∧ H'' D = some (.lst vs) ∧ RpAll X.K im2 am2 acc vs ∧ Wp X.K ca (Rp X.K) E im1 am1 H1 ((lcGo2 (gdOk wk.gd) F (wk.xs.drop (i + 1)) acc st2).calm) Q, fun H'' p' => ⟨wk.xs.length - (i + 1), by omega, rfl, hlt, p'⟩, fun x H'' y => ?_⟩
  obtain ⟨im3, d, hx, e3, s3, r3⟩ := g2 i x H'' hlt (wlk.yields i H' x H'' hlt g1 y)
  obtain ⟨f3, k3⟩ := f.step e3
  rw [drop_at hx] at w2
  have w2 : Wp X.K ca (Rp X.K) E im1 am1 H1 (((F d acc st2).bind fun r st => match r with
      | .lst acc => lcGo2 (gdOk wk.gd) F (wk.xs.drop (i + 1)) acc st
      | _ => .stuck).calm) Q := by
    simp only [lcGo2, hg2, if_true] at w2; exact w2
  generalize hK : (fun (r : PP.D) (st : Sto) => match r with
      | .lst acc => lcGo2 (gdOk wk.gd) F (wk.xs.drop (i + 1)) acc st
      | _ => Res.stuck) = kont at w2
  have eo3 : EnvOk X.K im3 am2 (wipeE env own) (wipe σ own) := (((eo.ext e1).ext f.ext).ext e3).wipe own
  cases ha : asg tg d (wipeE env own) with
  | none =>
    have : F d acc st2 = .stuck := by rw [← hF]; simp only [lcF2, ha, ofO_none, Res.bind_stuck]
    rw [this] at w2; exact w2.elim
  | some env2 =>
    refine ⟨im3, am2, wipeE env own, st2, d, env2, eo3, s3, r3, ha, fun σ2 eo4 hw => ⟨(hw own hown).trans wipe_wipe, im3, am2, env2, st2, eo4, s3, ?_⟩⟩
    have hF2 : F d acc st2 = ((mc env2 st2).bind asB).bind fun c st => if c then (mi2 env2 st).bind fun v st => lcGo (gdOk v.gd) (lcF tg2 own2 mc2 me env2) v.xs acc st else .ok (.lst acc) st := by
      rw [← hF]; simp only [lcF2, ha, ofO_some, Res.bind_ok, Res.bind_bind]
    rw [hF2, Res.bind_bind] at w2
    refine Wp.fromC w2 fun cb st4 im4 am4 H4 b he w4 e4 s4 r4 => ?_
    have e5 : b = cb := r4.symm
    subst e5
    obtain ⟨f4, k4⟩ := f3.step e4
    have ra4 := RpAll.mono (e3.same.trans e4.same) e4.pre _ _ ra
    cases b with
    | false =>
      simp only [Bool.false_eq_true, if_false, Res.bind_ok] at w4 ⊢
      rw [← hK] at w4
      exact ⟨im4, am4, st4, acc, vs, f4, s4, k4 _ (k3 _ hd), ra4, w4⟩
    | true =>
      simp only [if_true, Res.bind_bind] at w4 ⊢
      refine ⟨im4, am4, env2, st4, eo4.ext e4, s4, Wp.fromC w4 fun v st5 im5 am5 H5 J1 he5 w5 e5 s5 r5 => ?_⟩
      obtain ⟨f5, k5⟩ := f4.step e5
      obtain ⟨G1, Y1, wlk1, hG1⟩ := r5
      have gd1 : ∀ {xs acc st2}, Wp X.K ca (Rp X.K) E im1 am1 H1 (((lcGo (gdOk v.gd) (lcF tg2 own2 mc2 me env2) xs acc st2).bind kont).calm) Q → gdOk v.gd st2 = true := fun {xs acc st2} w => by
        cases hg : gdOk v.gd st2 with
        | true => rfl
        | false => cases xs <;> (simp only [lcGo, hg] at w; exact w.elim)
      refine lc_in wlk1 (fun j H' => ∃ im6 am6 st6 acc vs, (Same im5 im6 ∧ am5 <+: am6 ∧ EnvOk X.K im6 am6 env2 σ2) ∧ Flo im1 am1 H1 D im6 am6 H' ∧ StOk X.K st6 im6 am6 H' ∧ H' D = some (.lst vs) ∧ RpAll X.K im6 am6 acc vs ∧ Wp X.K ca (Rp X.K) E im1 am1 H1 (((lcGo (gdOk v.gd) (lcF tg2 own2 mc2 me env2) (v.xs.drop j) acc st6).bind kont).calm) Q)
        ⟨im5, am5, st5, acc, vs, ⟨Same.refl _, List.prefix_refl _, (eo4.ext e4).ext e5⟩, f5, s5, k5 _ (k4 _ (k3 _ hd)), RpAll.mono e5.same e5.pre _ _ ra4, by rw [List.drop_zero]; exact w5⟩ ?_ ?_ ?_
      · rintro j H6 hj ⟨im6, am6, st6, acc, vs, x6, f6, s6, hd6, ra6, w6⟩
        exact (hG1 im6 am6 H6 st6 x6.1 x6.2.1 s6 (gd1 w6)).1
      · rintro j x H6 H7 hj ⟨im6, am6, st6, acc, vs, x6, f6, s6, hd6, ra6, w6⟩ y1
        have hg6 := gd1 w6
        obtain ⟨im7, d7, hx7, e7, s7, r7⟩ := (hG1 im6 am6 H6 st6 x6.1 x6.2.1 s6 hg6).2 j x H7 hj y1
        obtain ⟨f7, k7⟩ := f6.step e7
        rw [drop_at hx7] at w6
        have w6 : Wp X.K ca (Rp X.K) E im1 am1 H1 (((lcF tg2 own2 mc2 me env2 d7 st6).bind fun r st => (match r with
          | some y => if acc.length < lim then lcGo (gdOk v.gd) (lcF tg2 own2 mc2 me env2) (v.xs.drop (j + 1)) (acc ++ [y]) st else .stuck
          | none => lcGo (gdOk v.gd) (lcF tg2 own2 mc2 me env2) (v.xs.drop (j + 1)) acc st).bind kont).calm) Q := by
          simp only [lcGo, hg6, if_true, Res.bind_bind] at w6; exact w6
        have eo7 : EnvOk X.K im7 am6 (wipeE env2 own2) (wipe σ2 own2) := (x6.2.2.ext e7).wipe own2
        cases ha7 : asg tg2 d7 (wipeE env2 own2) with
        | none =>
          have : lcF tg2 own2 mc2 me env2 d7 st6 = .stuck := by simp only [lcF, ha7, ofO_none, Res.bind_stuck]
          rw [this] at w6; exact w6.elim
        | some env7 =>
          refine ⟨im7, am6, wipeE env2 own2, st6, d7, env7, eo7, s7, r7, ha7, fun σ7 eo8 hw7 => ⟨(hw7 own2 hown2).trans wipe_wipe, im7, am6, env7, st6, eo8, s7, ?_⟩⟩
          have hF7 : lcF tg2 own2 mc2 me env2 d7 st6 = ((mc2 env7 st6).bind asB).bind fun c st => if c then (me env7 st).bind fun y st => .ok (some y) st else .ok none st := by
            simp only [lcF, ha7, ofO_some, Res.bind_ok, Res.bind_bind]
          rw [hF7, Res.bind_bind] at w6
          refine Wp.fromC w6 fun cb st8 im8 am8 H8 b he w8 e8 s8 r8 => ?_
          have e9 : b = cb := r8.symm
          subst e9
          obtain ⟨f8, k8⟩ := f7.step e8
          have x8 : Same im5 im8 ∧ am5 <+: am8 ∧ EnvOk X.K im8 am8 env2 σ2 := ⟨(x6.1.trans e7.same).trans e8.same, x6.2.1.trans e8.pre, (x6.2.2.ext e7).ext e8⟩
          have ra8 := RpAll.mono (e7.same.trans e8.same) e8.pre _ _ ra6
          cases b with
          | false =>
            simp only [Bool.false_eq_true, if_false, Res.bind_ok] at w8 ⊢
            exact ⟨im8, am8, st8, acc, vs, x8, f8, s8, k8 _ (k7 _ hd6), ra8, w8⟩
          | true =>
            simp only [if_true, Res.bind_bind, Res.bind_ok] at w8 ⊢
            refine ⟨im8, am8, env7, st8, eo8.ext e8, s8, Wp.fromC w8 fun yd st9 im9 am9 H9 yv he9 w9 e9 s9 r9 => ?_⟩
            obtain ⟨f9, k9⟩ := f8.step e9
            have x9 : Same im5 im9 ∧ am5 <+: am9 ∧ EnvOk X.K im9 am9 env2 σ2 := ⟨x8.1.trans e9.same, x8.2.1.trans e9.pre, x8.2.2.ext e9⟩
            split at w9
            · rename_i hlim
              have ra9 := RpAll.mono e9.same e9.pre _ _ ra8
              exact ⟨vs, k9 _ (k8 _ (k7 _ hd6)), by rw [← ra6.length]; exact Nat.lt_of_lt_of_le hlim (lim_size (Nat.le_refl _)), im9, am9, st9, acc ++ [yd], vs ++ [yv], x9, f9.write, s9.flo f9.im f9.am, upd_same, ra9.snoc r9, w9⟩
            · exact w9.elim
      · rintro H6 ⟨im6, am6, st6, acc, vs, x6, f6, s6, hd6, ra6, w6⟩
        have hg6 := gd1 w6
        rw [List.drop_length] at w6
        simp only [lcGo, hg6, if_true, Res.bind_ok] at w6
        rw [← hK] at w6
        exact ⟨im6, am6, st6, acc, vs, f6, s6, hd6, ra6, w6⟩
end
end PP
end

section
set_option linter.all false
set_option autoImplicit false
set_option maxRecDepth 100000
set_option Elab.async false
/-! Dict comprehensions. -/
namespace PP
open PySem PySem.Spec PyProof.Rows L2
section
variable {X : Cx} {ca : Nat → Addr} {E : XK} {T : Tb} {N : List Str} {call : Nat → List D → Sto → Res D}
theorem eqS_kD (k l : Key) : eqS (kD k) (kD l) = decide (k = l) := eqS_key k l
theorem rpks_put {K : PySem.W.Frag} {im : Hp} {am : List Addr} (l : Key) (ol : keyOk l) {d : D} {v : V} (rd : Rp K im am d v) : ∀ (ds : List (D × D)) (ks : List (Key × V)), RpKs K im am ds ks → (ks.map (·.1)).Nodup → RpKs K im am (putD (kD l) d ds) (putK ks l v) := by
  intro ds ks h nd
  induction ds generalizing ks with
  | nil => cases h; exact .cons ol rd .nil
  | cons p ds ih =>
    cases h with
    | @cons k d0 v0 _ ks ok r t =>
      rw [List.map_cons, List.nodup_cons] at nd
      unfold putD
      rw [eqS_kD]
      by_cases e : k = l
      · subst e
        rw [if_pos (by simp)]
        have e2 : putK ((k, v0) :: ks) k v = (k, v) :: ks := by
          unfold putK
          rw [if_pos (by simp), List.map_cons]
          simp only [if_true]
          congr 1
          rw [List.map_congr_left (g := id) (fun q hq => ?_), List.map_id]
          have : q.1 ≠ k := fun e => nd.1 (by rw [← e]; exact List.mem_map.mpr ⟨q, hq, rfl⟩)
          simp [this]
        rw [e2]
        exact .cons ok rd t
      · rw [if_neg (by simp [e])]
        have e2 : putK ((k, v0) :: ks) l v = (k, v0) :: putK ks l v := by
          unfold putK
          rw [List.any_cons]
          have e3 : decide (k = l) = false := decide_eq_false e
          simp only [e3, Bool.false_or]
          split
          · rw [List.map_cons, if_neg e]
          · rfl
        rw [e2]
        exact .cons ok r (ih _ t nd.2)
theorem putK_nd {ks : List (Key × V)} {k : Key} {v : V} (nd : (ks.map (·.1)).Nodup) : ((putK ks k v).map (·.1)).Nodup := by
  unfold putK
  split
  · have e : (ks.map fun kv => if kv.1 = k then (kv.1, v) else kv).map (·.1) = ks.map (·.1) := by
      rw [List.map_map]
      apply List.map_congr_left
      intro q _
      simp only [Function.comp]
      split <;> rfl
    rw [e]; exact nd
  · rename_i h
    rw [List.map_append, List.nodup_append]
    refine ⟨nd, by simp, fun a ha b hb e => ?_⟩
    have eb : b = k := by simpa using hb
    subst e; subst eb
    obtain ⟨q, hq, rfl⟩ := List.mem_map.mp ha
    exact h (List.any_eq_true.mpr ⟨q, hq, by simp⟩)
def dcF (tg : Tg) (own : List Nat) (mk mv : Env → Sto → Res D) (env : Env) : D → Sto → Res (D × D) := fun x st => (ofO (asg tg x (wipeE env own)) st).bind fun env st => (mk env st).bind fun kd st => (mv env st).bind fun vd st => .ok (kd, vd) st
theorem dc_tE {tg : Tg} {own : List Nat} {mi : Env → Sto → Res Wk} {mk mv : Env → Sto → Res D} {σ : L2.St} {H : Hp} {Q : VK} (hown : ∀ i ∈ tgSl tg, i ∈ own)
    (h : tE X.K ca E (fun env st => (mi env st).bind fun w st => (dcGo (gdOk w.gd) (dcF tg own mk mv env) w.xs [] st).calm) σ H Q) :
    tFrz (tDc (tI X.K ca E mi) (gT X.K tg) tYes (tE X.K ca E0 mk) (tE X.K ca E0 mv) own) σ H Q := by
  obtain ⟨im, am, env, st, eo, so, w⟩ := h
  refine ⟨im, am, env, st, eo, so, Wp.seq w fun J H1 im1 am1 wk st1 e1 s1 r1 w1 => ?_⟩
  obtain ⟨G, Y, wlk, hG⟩ := r1
  intro D hD
  have f0 : Flo im1 am1 H1 D im1 am1 (upd H1 D (.dK [])) := Flo.start s1 hD
  have gd : ∀ {xs acc st2}, Wp X.K ca (Rp X.K) E im1 am1 H1 ((dcGo (gdOk wk.gd) (dcF tg own mk mv env) xs acc st2).calm) Q → gdOk wk.gd st2 = true := fun {xs acc st2} w => by
    cases hg : gdOk wk.gd st2 with
    | true => rfl
    | false => cases xs <;> (simp only [dcGo, hg] at w; exact w.elim)
  refine ⟨fun i m H' => m = wk.xs.length - i ∧ i ≤ wk.xs.length ∧ ∃ im2 am2 st2 acc ks, Flo im1 am1 H1 D im2 am2 H' ∧ StOk X.K st2 im2 am2 H' ∧ H' D = some (.dK ks) ∧ (ks.map (·.1)).Nodup ∧ RpKs X.K im2 am2 acc ks ∧ Wp X.K ca (Rp X.K) E im1 am1 H1 ((dcGo (gdOk wk.gd) (dcF tg own mk mv env) (wk.xs.drop i) acc st2).calm) Q,
    ⟨_, rfl, Nat.zero_le _, im1, am1, st1, [], [], f0, s1.flo (s1.imn hD) (s1.amn hD), upd_same, List.nodup_nil, .nil, by rw [List.drop_zero]; exact w1⟩, ?_⟩
  rintro i m H' ⟨rfl, hi, im2, am2, st2, acc, ks, f, s, hd, nd, ra, w2⟩
  have hg2 := gd w2
  obtain ⟨g1, g2⟩ := hG im2 am2 H' st2 f.ext.same f.ext.pre s hg2
  rcases Nat.lt_or_ge i wk.xs.length with hlt | hge
  case inr =>
    have ei : i = wk.xs.length := by omega
    subst ei
    refine .inl ⟨wlk.stops H' g1, D, _, rfl, hd, trivial, fun od => ?_⟩
    rw [List.drop_length] at w2
    simp only [dcGo, hg2, if_true] at w2
    obtain ⟨e3, s3, hs3, hi3⟩ := f.fin s (o := .frz od (.dK ks))
    exact Wp.fin1 (st := st2) w2 e3 s3 (.dct hi3 (RpKs.mono hs3 (List.prefix_refl _) _ _ ra))
  refine .inr ⟨wlk.goes i H' hlt g1, fun H'' => ∃ im2 am2 st2 acc ks, Flo im1 am1 H1 D im2 am2 H'' ∧ StOk X.K st2 im2 am2 H'' ∧ H'' D = some (.dK ks) ∧ (ks.map (·.1)).Nodup ∧ RpKs X.K im2 am2 acc ks ∧ Wp X.K ca (Rp X.K) E im1 am1 H1 ((dcGo (gdOk wk.gd) (dcF tg own mk mv env) (wk.xs.drop (i + 1)) acc st2).calm) Q, fun H'' p' => ⟨wk.xs.length - (i + 1), by omega, rfl, hlt, p'⟩, fun x H'' y => ?_⟩
  obtain ⟨im3, d, hx, e3, s3, r3⟩ := g2 i x H'' hlt (wlk.yields i H' x H'' hlt g1 y)
  obtain ⟨f3, k3⟩ := f.step e3
  rw [drop_at hx] at w2
  have w2 : Wp X.K ca (Rp X.K) E im1 am1 H1 (((dcF tg own mk mv env d st2).bind fun kv st => match kv.1 with
      | .int _ => if acc.length < lim then dcGo (gdOk wk.gd) (dcF tg own mk mv env) (wk.xs.drop (i + 1)) (putD kv.1 kv.2 acc) st else .stuck
      | _ => .stuck).calm) Q := by
    simp only [dcGo, hg2, if_true] at w2; exact w2
  have eo3 : EnvOk X.K im3 am2 (wipeE env own) (wipe σ own) := (((eo.ext e1).ext f.ext).ext e3).wipe own
  cases ha : asg tg d (wipeE env own) with
  | none =>
    have : dcF tg own mk mv env d st2 = .stuck := by simp only [dcF, ha, ofO_none, Res.bind_stuck]
    rw [this] at w2; exact w2.elim
  | some env2 =>
    refine ⟨im3, am2, wipeE env own, st2, d, env2, eo3, s3, r3, ha, fun σ2 eo4 hw => ⟨(hw own hown).trans wipe_wipe, ?_⟩⟩
    show tE X.K ca E0 mk σ2 H'' _
    have hF : dcF tg own mk mv env d st2 = (mk env2 st2).bind fun kd st => (mv env2 st).bind fun vd st => .ok (kd, vd) st := by
      simp only [dcF, ha, ofO_some, Res.bind_ok]
    rw [hF, Res.bind_bind] at w2
    refine ⟨im3, am2, env2, st2, eo4, s3, Wp.fromC w2 fun kd st4 im4 am4 H4 kv he w4 e4 s4 r4 => ?_⟩
    rw [Res.bind_bind] at w4
    obtain ⟨f4, k4⟩ := f3.step e4
    refine ⟨im4, am4, env2, st4, eo4.ext e4, s4, Wp.fromC w4 fun vd st5 im5 am5 H5 vv he5 w5 e5 s5 r5 => ?_⟩
    obtain ⟨f5, k5⟩ := f4.step e5
    cases kd with
    | int n =>
      cases r4
      simp only [Res.bind_ok] at w5
      split at w5
      · rename_i hlim
        have ra5 := RpKs.mono ((e3.same.trans e4.same).trans e5.same) (e4.pre.trans e5.pre) _ _ ra
        exact ⟨ks, .inl n, rfl, k5 _ (k4 _ (k3 _ hd)), by rw [← ra.length]; exact Nat.lt_of_lt_of_le hlim (lim_size (Nat.le_refl _)), im5, am5, st5, _, _, f5.write, s5.flo f5.im f5.am, upd_same, putK_nd nd, rpks_put (.inl n) trivial r5 _ _ ra5 nd, w5⟩
      · exact w5.elim
    | _ => exact w5.elim
end
end PP
end

section
set_option linter.all false
set_option autoImplicit false
set_option maxRecDepth 100000
set_option Elab.async false
/-! sorted of a list or a tuple. -/
namespace PP
open PySem PySem.Spec PyProof.Rows L2
/-! ### one sort -/
theorem insD_skip {le : D → D → Bool} {a : D} : ∀ (l₁ l₂ : List D), (∀ b ∈ l₁, le a b = false) → insD le a (l₁ ++ l₂) = l₁ ++ insD le a l₂
  | [], _, _ => rfl
  | b :: l₁, l₂, h => by
    simp only [List.cons_append, insD, h b List.mem_cons_self, Bool.false_eq_true, if_false]
    rw [insD_skip l₁ l₂ fun c hc => h c (List.mem_cons_of_mem _ hc)]
theorem merge_isort {le : D → D → Bool} (tr : ∀ a b c, le a b = true → le b c = true → le a c = true) (to : ∀ a b, (le a b || le b a) = true) : ∀ l : List D, l.mergeSort le = isort le l
  | [] => by simp [isort]
  | a :: l => by
    obtain ⟨l₁, l₂, h1, h2, h3⟩ := List.mergeSort_cons tr to a l
    have hs := List.pairwise_mergeSort tr to (a :: l)
    rw [h1] at hs
    rw [isort, ← merge_isort tr to l, h2, h1, insD_skip l₁ l₂ fun b hb => by simpa using h3 b hb]
    congr 1
    cases l₂ with
    | nil => rfl
    | cons c l₂ =>
      have : le a c = true := by
        have h4 := (List.pairwise_append.mp hs).2.1
        exact (List.pairwise_cons.mp h4).1 c List.mem_cons_self
      simp only [insD, this, if_true]
theorem dataLe_tr : ∀ a b c : D, PySem.W.dataLe false toPy a b = true → PySem.W.dataLe false toPy b c = true → PySem.W.dataLe false toPy a c = true := fun a b c => (PySem.W.sortLe_total _ false _).trans a b c
theorem dataLe_to : ∀ a b : D, (PySem.W.dataLe false toPy a b || PySem.W.dataLe false toPy b a) = true := fun a b => by
  have := (PySem.W.sortLe_total (PyProof.Rows.listOrd PyProof.Rows.itemOrd) false (fun b : D => PySem.W.keyToks (toPy b))).total a b
  rw [Bool.or_eq_true]; exact this
theorem merge_sortD (l : List D) : l.mergeSort (PySem.W.dataLe false toPy) = sortD l := merge_isort dataLe_tr dataLe_to l
/-! ### the machine's -/
/-- what may be sorted: as the kit's, or one tuple alone -/
def SortX (ds : List PyData) : Prop := PySem.W.Sortable ds ∨ (ds.length ≤ 1 ∧ ∀ d ∈ ds, d ≠ .none)
section
variable {prog : Program} {w : World} {A : Around} {E : Value → Shared → Prop} {s : Shared}
theorem SortsAt_dataX {vs : List Value} {ds : List PyData} (e : PySem.W.EachIs (fun v d => ∃ as, Reads s.heap v d as) vs ds) (hal : PySem.W.AllAlike ds) (hk : SortX ds) (hu : ∀ d, d ∈ ds → A.units + d.depth < cLine) : PySem.W.SortsAt prog w A s (PySem.W.dataKind s.heap ds) vs := by
  rcases hk with hk | ⟨h1, hn⟩
  · exact PySem.W.SortsAt.data e hal hk hu
  · refine ⟨fun v hv => ?_, general', ?_, fun h2 => ?_⟩
    · obtain ⟨d, hd, as, r⟩ := e.left v hv
      exact ⟨_, PySem.W.dataKind_some hal hd r⟩
    · intro E x y a b Q ha hb hq
      obtain ⟨d, as, hd, ra, rfl⟩ := PySem.W.dataKind_inv ha
      obtain ⟨d', as', hd', rb, rfl⟩ := PySem.W.dataKind_inv hb
      show wpAny (model prog w) A (oneLt' false x y) Q E s
      exact PySem.W.oneLt_alike (fun h => nomatch h) ra rb (hal d hd d' hd') (hn d hd) (Nat.lt_of_le_of_lt (Nat.add_le_add_left (Nat.min_le_left _ _) _) (hu d hd)) hq
    · have := e.length
      omega
end
section
variable {prog : Program} {w : World} {A : Around} {E : Value → Shared → Prop} {s : Shared}
theorem collect_seq {l : Addr} {vs : List Value} {o : Obj} {n : Nat} {Q : List Value → Shared → Prop} (ho : s.heap.get? l = some o) (hc : o.cls = .type "list" ∨ o.cls = .type "tuple") (hd : o.data = .seq vs.toArray n)
    (h : Q vs { s with heap := (s.heap.push (seqObj "list" #[] 0)).update s.heap.objs.size (Obj.mapSeq (· ++ vs.toArray)) }) (hsz : vs.length ≤ sizeLine) :
    wpAny (model prog w) A (collect (.ref l)) Q E s := by
  unfold collect
  refine wpAny_bind (wpAny_runValue (codeAny_builtin entry_proto_collect' ?_))
  show wpAny _ _ (do again (.builtin "list.__iadd__" ⟨[← newList [], .ref l], []⟩)) _ _ s
  refine wpAny_bind (wpAny_newList (wpAny_pure ⟨Code.quiet_builtin _ (by decide +kernel), codeAny_builtin entry_list_iadd' ?_⟩))
  show wpAny _ _ (Builtin.List.listExtendWith (.ref s.heap.objs.size) (.ref l) (.ref s.heap.objs.size)) _ _ { s with heap := s.heap.push (seqObj "list" #[] 0) }
  unfold Builtin.List.listExtendWith
  have ho' : (s.heap.push (seqObj "list" #[] 0)).get? l = some o := Heap.get?_push_of_some _ ho
  have fin : ∀ T : String, o.cls = .type T → (Value.type T == Value.type "list" || Value.type T == Value.type "tuple") = true → True := fun _ _ _ => trivial
  have key : ∀ T : String, o.cls = .type T → ∀ {k : Value → Sem Fin} , True := fun _ _ _ => trivial
  rcases hc with hc | hc
  · refine wpAny_bind (wpAny_typeOf (T := "list") ⟨o, ho', hc⟩ ?_)
    have ht : (Value.type "list" == Value.type "list") = true := by rfl
    rw [if_pos (by rw [ht]; simp)]
    refine wpAny_bind (listItems_at ho' hd ?_)
    refine wpAny_bind (listItems_at (xs := #[]) (n := 0) (Heap.get?_push_size _ rfl) rfl ?_)
    rw [if_neg (by simp)]
    refine wpAny_bind (listUpdate_at (xs := #[]) (n := 0) (Heap.get?_push_size _ rfl) rfl ?_ (Nat.zero_le _) (by show (#[] ++ vs.toArray).size ≤ sizeLine + 1; simp only [Array.size_append, List.size_toArray, List.length_nil]; omega))
    refine wpAny_pure ?_
    show wpAny (model prog w) A (do
        let o ← load s.heap.objs.size
        match o.data with
        | .seq xs _ => pure xs.toList
        | _ => unsupported "internal:collect") Q E { s with heap := (s.heap.push (seqObj "list" #[] 0)).update s.heap.objs.size (Obj.mapSeq (· ++ vs.toArray)) }
    refine wpAny_bind (wpAny_load (get?_update_seq (Heap.get?_push_size _ rfl) _) ?_)
    show wpAny _ _ (pure ((#[] : Array Value) ++ vs.toArray).toList) Q E _
    rw [show ((#[] : Array Value) ++ vs.toArray).toList = vs by simp]
    exact wpAny_pure h
  · refine wpAny_bind (wpAny_typeOf (T := "tuple") ⟨o, ho', hc⟩ ?_)
    have ht : (Value.type "tuple" == Value.type "tuple") = true := by rfl
    rw [if_pos (by rw [ht]; simp)]
    refine wpAny_bind (listItems_at ho' hd ?_)
    refine wpAny_bind (listItems_at (xs := #[]) (n := 0) (Heap.get?_push_size _ rfl) rfl ?_)
    rw [if_neg (by simp)]
    refine wpAny_bind (listUpdate_at (xs := #[]) (n := 0) (Heap.get?_push_size _ rfl) rfl ?_ (Nat.zero_le _) (by show (#[] ++ vs.toArray).size ≤ sizeLine + 1; simp only [Array.size_append, List.size_toArray, List.length_nil]; omega))
    refine wpAny_pure ?_
    show wpAny (model prog w) A (do
        let o ← load s.heap.objs.size
        match o.data with
        | .seq xs _ => pure xs.toList
        | _ => unsupported "internal:collect") Q E { s with heap := (s.heap.push (seqObj "list" #[] 0)).update s.heap.objs.size (Obj.mapSeq (· ++ vs.toArray)) }
    refine wpAny_bind (wpAny_load (get?_update_seq (Heap.get?_push_size _ rfl) _) ?_)
    show wpAny _ _ (pure ((#[] : Array Value) ++ vs.toArray).toList) Q E _
    rw [show ((#[] : Array Value) ++ vs.toArray).toList = vs by simp]
    exact wpAny_pure h
theorem sorted_seq {β : Type} {R : Value → β → Prop} {enc : β → PyData} {bs : List β} {l : Addr} {vs : List Value} {o : Obj} {n : Nat} {Q : Value → Shared → Prop} (ho : s.heap.get? l = some o) (hc : o.cls = .type "list" ∨ o.cls = .type "tuple") (hd : o.data = .seq vs.toArray n)
    (e : PySem.W.EachIs R vs bs) (er : PySem.W.EachIs (fun v b => ∃ as, Reads s.heap v (enc b) as) vs bs) (hal : PySem.W.AllAlike (bs.map enc)) (hk : SortX (bs.map enc)) (hL : bs.length ≤ sizeLine)
    (hu : ∀ b, b ∈ bs → A.units + 2 + (enc b).depth < cLine) (h : ∀ out, out.length = bs.length → PySem.W.EachIs R out (bs.mergeSort (PySem.W.dataLe false enc)) → Q (.ref (s.heap.objs.size + 1)) { s with heap := sortedAll s.heap vs (List.toArray out) }) :
    wpAny (model prog w) A (call (.builtin "sorted") [.ref l]) Q E s := by
  have er' : PySem.W.EachIs (fun v b => ∃ as, Reads (PySem.W.sortingHeap (PySem.W.copyHeap s.heap vs) (s.heap.objs.size + 1) vs) v (enc b) as) vs bs := er.mono fun _ _ ⟨as, r⟩ => ⟨as, PyProof.Rows.Reads.keeps (fun _ _ => PySem.W.sorting_copy_old) r⟩
  have hLv : vs.length ≤ sizeLine := by rw [e.length]; exact hL
  refine call_function_entry_kw kind_sorted plain_sorted entry_sorted (args_sorted1 _) ?_
  unfold Builtin.«sorted»
  refine wpAny_bind (m := checkCount "sorted" 1 1 _) (wpAny_pure ?_)
  refine wpAny_bind (collect_seq ho hc hd ?_ hLv)
  refine wpAny_bind (wpAny_newList ?_ hLv)
  have hsz : ((s.heap.push (seqObj "list" #[] 0)).update s.heap.objs.size (Obj.mapSeq (· ++ vs.toArray))).objs.size = s.heap.objs.size + 1 := by
    rw [Heap.size_update, size_push']
  show wpAny _ _ _ _ _ { s with heap := PySem.W.copyHeap s.heap vs }
  rw [hsz]
  refine wpAny_bind (wpAny_holding (wpAny_call_entry_kw slot_list_sort ⟨_, PySem.W.copyHeap_at s.heap vs, rfl⟩ entry_list_sort ?body (args_list_sort _)))
  case body =>
    show wpAny (model prog w) A.in1.in1 (Builtin.«list.sort» ⟨[.ref (s.heap.objs.size + 1)], []⟩) _ _ _
    refine PySem.W.list_sort_vals (s := { s with heap := PySem.W.copyHeap s.heap vs }) (PySem.W.copyHeap_at s.heap vs) (SortsAt_dataX (s := { s with heap := PySem.W.sortingHeap (PySem.W.copyHeap s.heap vs) (s.heap.objs.size + 1) vs }) (PySem.W.each_map (R := fun v d => ∃ as, Reads (PySem.W.sortingHeap (PySem.W.copyHeap s.heap vs) (s.heap.objs.size + 1) vs) v d as) enc er') hal hk (PySem.W.bound_map hu)) hLv ?_
    exact ⟨_, rfl, wpAny_pure ⟨_, rfl, h _ (by rw [PySem.W.sortVals_length false rfl]; exact e.length) (PySem.W.sortVals_data false e er' hal)⟩⟩
end
/-! ### as a rule -/
mutual
theorem alike_isD : ∀ x : D, PySem.W.alike (toPy x) (toPy x) = true → isD x = true
  | .non, _ => rfl
  | .bl _, _ => rfl
  | .int _, _ => rfl
  | .str _, _ => rfl
  | .lst xs, h => by
    simp only [toPy, PySem.W.alike] at h
    simp only [isD]
    exact alikes_isD xs h
  | .tup xs, h => by
    simp only [toPy, PySem.W.alike] at h
    simp only [isD]
    exact alikes_isD xs h
  | .dct _, h => by simp [toPy, PySem.W.alike] at h
  | .cel _, h => by simp [toPy, PySem.W.alike] at h
  | .frz _, h => by simp [toPy, PySem.W.alike] at h
  | .tpn _, h => by simp [toPy, PySem.W.alike] at h
theorem alikes_isD : ∀ xs : List D, PySem.W.alikeAll (toPys xs) (toPys xs) = true → isDs xs = true
  | [], _ => rfl
  | x :: xs, h => by
    simp only [toPys, PySem.W.alikeAll, Bool.and_eq_true] at h
    simp only [isDs, Bool.and_eq_true]
    exact ⟨alike_isD x h.1, alikes_isD xs h.2⟩
end
theorem each_of {K : PySem.W.Frag} {im : Hp} {am : List Addr} : ∀ {ds : List D} {vs : List V} {us : List Value}, RpAll K im am ds vs → Vals vs us → PySem.W.EachIs (fun u d => ∃ x, RelV x u ∧ Rp K im am d x) us ds
  | [], _, _, h, r => by cases h; cases r; exact .nil
  | d :: ds, _, _, h, r => by
    cases h with
    | cons q h => cases r with
      | cons r0 r => exact .cons ⟨_, r0, q⟩ (each_of h r)
theorem of_each {K : PySem.W.Frag} {im : Hp} {am : List Addr} : ∀ {us : List Value} {ds : List D}, PySem.W.EachIs (fun u d => ∃ x, RelV x u ∧ Rp K im am d x) us ds → ∃ vs, Vals vs us ∧ RpAll K im am ds vs
  | [], _, h => by cases h; exact ⟨[], .nil, .nil⟩
  | u :: us, _, h => by
    cases h with
    | cons q h =>
      obtain ⟨x, r, p⟩ := q
      obtain ⟨vs, r2, p2⟩ := of_each h
      exact ⟨x :: vs, .cons r r2, .cons p p2⟩
theorem EachIs.mono_mem {α β : Type} {R S : α → β → Prop} : ∀ {as : List α} {bs : List β}, PySem.W.EachIs R as bs → (∀ a b, b ∈ bs → R a b → S a b) → PySem.W.EachIs S as bs
  | _, _, .nil, _ => .nil
  | _, _, .cons r h, f => .cons (f _ _ List.mem_cons_self r) (EachIs.mono_mem h fun a b hb => f a b (List.mem_cons_of_mem _ hb))
section
variable {X : Cx} {ca : Nat → Addr} {E : XK}
theorem sortable_of {xs : List D} (h : sortable xs = true) : PySem.W.AllAlike (xs.map toPy) ∧ (∀ x ∈ xs, dep x ≤ dlim ∧ isD x = true) ∧ SortX (xs.map toPy) := by
  simp only [sortable, Bool.and_eq_true, Bool.or_eq_true, List.all_eq_true, decide_eq_true_eq] at h
  obtain ⟨⟨h1, h2⟩, h3⟩ := h
  refine ⟨fun d hd d' hd' => ?_, fun x hx => ⟨h2 x hx, alike_isD x (h1 x hx x hx)⟩, ?_⟩
  · obtain ⟨x, hx, rfl⟩ := List.mem_map.mp hd
    obtain ⟨y, hy, rfl⟩ := List.mem_map.mp hd'
    exact h1 x hx y hy
  · rcases h3 with (h3 | h3) | h3
    · refine .inl (.inl fun d hd => ?_)
      obtain ⟨x, hx, rfl⟩ := List.mem_map.mp hd
      have := h3 x hx
      split at this
      · exact ⟨_, _, by rw [toPy, toPys]⟩
      · cases this
    · refine .inl (.inr fun d hd => ?_)
      obtain ⟨x, hx, rfl⟩ := List.mem_map.mp hd
      have := h3 x hx
      cases x <;> first | (cases this; done) | exact ⟨by simp [toPy], fun xs => by simp [toPy]⟩
    · refine .inr ⟨by rw [List.length_map]; exact h3.1, fun d hd => ?_⟩
      obtain ⟨x, hx, rfl⟩ := List.mem_map.mp hd
      have := h3.2 x hx
      cases x <;> first | (cases this; done) | simp [toPy]
theorem callSorted_D (hu : X.A.units + 64 < cLine) : CallR X (.builtin "sorted") (GotL X ca E (biR .sorted)) := by
  intro pins s σ H xs us Q I r ⟨im, am, st, ds, so, ra, w⟩
  obtain ⟨d, ed, w1⟩ := one_arg (f := biR .sorted) (fun d st => match elems d st with
    | some xs => if sortable xs && decide (xs.length ≤ lim) then .ok (.lst (sortD xs)) st else .stuck
    | none => .stuck) (fun ds st => by unfold biR; rcases ds with _ | ⟨d, _ | ⟨e, ds⟩⟩ <;> rfl) w
  clear w
  subst ed
  obtain ⟨v, rfl, rd⟩ := ra.one
  obtain ⟨u, rfl, ru⟩ := vals1 r
  cases he : elems d st with
  | none => rw [he] at w1; exact w1.elim
  | some ys =>
    rw [he] at w1
    dsimp only at w1
    split at w1
    · rename_i hc
      simp only [Bool.and_eq_true, decide_eq_true_eq] at hc
      obtain ⟨hso, hlen⟩ := hc
      obtain ⟨hal, hdp, hsk⟩ := sortable_of hso
      have fin : ∀ {a : Addr} {vs : List V} {its : List Value} {o : Obj} {n : Nat}, RpAll X.K im am ys vs → Vals vs its → s.heap.get? a = some o → (o.cls = .type "list" ∨ o.cls = .type "tuple") → o.data = .seq its.toArray n → wpAny (model X.prog X.w) X.A (call (.builtin "sorted") [.ref a]) (EP X pins σ Q) X.xe s := by
        intro a vs its o n rp rv ho hcl hdt
        have e := each_of rp rv
        refine sorted_seq ho hcl hdt e (EachIs.mono_mem e fun u d hd ⟨x, rx, px⟩ => ?_) hal hsk (lim_size hlen) (fun b hb => ?_) fun out hol eo => ?_
        · obtain ⟨a1, a2⟩ := Rp.dp so.same _ _ px (hdp d hd).2
          exact Dp.reads I _ x u a1 rx
        · rw [dep_py _ (hdp b hb).2]
          have := (hdp b hb).1
          unfold dlim at this
          omega
        · rw [merge_sortD] at eo
          obtain ⟨vs', rv', rp'⟩ := of_each eo
          obtain ⟨ep, hat⟩ := sortedAll_at s.heap its out.toArray
          have hn : H (s.heap.objs.size + 1) = none := I.hok.fresh (Nat.le_succ _)
          have hz : vs'.length ≤ sizeLine := by rw [rv'.length, hol]; exact lim_size hlen
          refine ⟨.ref (s.heap.objs.size + 1), upd H (s.heap.objs.size + 1) (.lst vs'), I.laid (t' := s.toks) (fun b o e => sortedAll_old e) (Nat.le_succ _) ⟨hz, out, ep, rv', hat⟩, rfl, ?_⟩
          exact fin_new w1 so hn fun im' hs hi => .lst hi (RpAll.mono hs (List.prefix_refl _) _ _ rp')
      unfold elems at he
      cases hd : deref d st with
      | lst zs =>
        rw [hd] at he
        cases he
        obtain ⟨a, vs, rfl, q1, q2⟩ := deref_lst so rd hd
        obtain rfl : u = Value.ref a := ru
        obtain ⟨_, its, n, rv, ho⟩ := I.hok a _ q1
        exact fin q2 rv ho (.inl rfl) rfl
      | tup zs =>
        rw [hd] at he
        cases he
        obtain ⟨a, vs, rfl, q1, q2⟩ := deref_tup so rd hd
        obtain rfl : u = Value.ref a := ru
        obtain ⟨its, rv, ⟨o, ho, hcl, n, hdt⟩, hz⟩ := I.tuple q1
        exact fin q2 rv ho (.inr hcl) hdt
      | _ => rw [hd] at he; cases he
    · exact w1.elim
end
end PP
end

section
set_option linter.all false
set_option autoImplicit false
set_option maxRecDepth 100000
set_option Elab.async false
/-! x[n:] as a new tuple; its index of a whole number. -/
namespace PP
open PySem PySem.Spec PyProof.Rows L2
section
variable {X : Cx} {ca : Nat → Addr} {E : XK}
/-- the machine's tuple behind a datum that is known to have no dict -/
def tpnOk (x : V) (H : Hp) : Prop := ∃ a o vs, x = V.ref a ∧ H a = some (.frz o (.tup vs)) ∧ o.dict = none
theorem tpn_is {pins : List (Addr × Obj)} {σ : L2.St} {H : Hp} {s : Shared} {x : V} {v : Value} (I : Inv X pins σ H s) (r : RelV x v) (h : tpnOk x H) : s.TypeIs v "tuple" ∧ ∀ a, v = .ref a → ∃ ob, s.heap.get? a = some ob ∧ ob.dict = none := by
  obtain ⟨a, o, vs, rfl, ha, hn⟩ := h
  obtain rfl : v = Value.ref a := r
  obtain ⟨ho, hz, its, rv, ht⟩ := I.hok a _ ha
  refine ⟨ht.typeIs, fun b e => ?_⟩
  cases e
  exact ⟨o, ho, hn⟩
theorem pe_bmT {name : Str} {id : String} {o e : Expr} {es : List Expr} {to : TE} {t : TA} {apos cpos : Pos} {r : V → List V → Hp → VK → Prop} (pa : PlainAttrs "tuple") (slot : Slot "tuple" name id) (hty : typeOf (.builtin id) = pure (.type "method_descriptor")) (hm : MtR X id r) (ho : PE X o to) (ha : PA X (e :: es) t)
    (hbase : attributeBase o name X.env (eval o X.env) = eval o X.env := by rfl)
    (hfew : ((backTo cpos (starEach (e :: es) X.env)).all (fun x => !x.1) && (backToKw cpos (keywordEach [] X.env)).all (fun x => x.1.isSome)
      && decide ((e :: es).length + ([] : List Keyword).length + (if ([] : List Keyword).isEmpty then 0 else 1) < 30)) = true := by rfl)
    (hline : (apos.endLine == cpos.line) = true := by rfl) (hs : starEach (e :: es) X.env = (false, eval e X.env) :: starEach es X.env := by rfl) (hplain : (backTo cpos (starEach es X.env)).any (·.1) = false := by rfl) :
    PE X (.Call (.Attribute o name apos) (e :: es) [] cpos) (fun σ H Q => to σ H fun x H1 => tpnOk x H1 ∧ t σ H1 fun xs H2 => r x xs H2 Q) := by
  refine ⟨fun pins s σ H Q I h => ?_⟩
  refine wpAny_Call_method_late hbase hfew hline rfl (thn (ho.run pins s σ H _ I h) fun v s1 ⟨x, H1, I1, r1, ty, q1⟩ => ?_)
  obtain ⟨h1, h2⟩ := tpn_is I1 r1 ty
  refine ⟨"tuple", id, pa, slot, hty, h1, h2, ?_⟩
  have hA := ha.run cpos pins s1 σ H1 _ I1 q1
  rw [hs] at hA ⊢
  refine Calls.callWith_builtin (by show (false || (backTo cpos (starEach es X.env)).any (·.1)) = false; rw [hplain] <;> rfl) (Calls.evalArgs_plain ?_)
  exact thn hA fun us s2 ⟨vs, H2, I2, r2, q2⟩ => hm pins s2 σ H2 x vs v us Q I2 r1 r2 q2
theorem ints_rp {K : PySem.W.Frag} {im : Hp} {am : List Addr} : ∀ {ds : List D} {ns : List Int} {vs : List V}, intsD ds = some ns → RpAll K im am ds vs → vs = ns.map V.int
  | [], ns, _, h, r => by cases h; cases r; rfl
  | .int i :: ds, ns, _, h, r => by
    simp only [intsD] at h
    cases e : intsD ds with
    | none => rw [e] at h; cases h
    | some ms =>
      rw [e] at h
      cases h
      cases r with
      | cons r1 r2 => cases r1; rw [List.map_cons, ints_rp e r2]
  | .non :: _, _, _, h, _ => by simp [intsD] at h
  | .bl _ :: _, _, _, h, _ => by simp [intsD] at h
  | .str _ :: _, _, _, h, _ => by simp [intsD] at h
  | .lst _ :: _, _, _, h, _ => by simp [intsD] at h
  | .tup _ :: _, _, _, h, _ => by simp [intsD] at h
  | .dct _ :: _, _, _, h, _ => by simp [intsD] at h
  | .cel _ :: _, _, _, h, _ => by simp [intsD] at h
  | .frz _ :: _, _, _, h, _ => by simp [intsD] at h
  | .tpn _ :: _, _, _, h, _ => by simp [intsD] at h
def rTIndex : V → List V → Hp → VK → Prop := fun x xs H Q => ∃ (a : Addr) (vs : List V) (ns : List Int) (k : Int), x = V.ref a ∧ (∃ o, H a = some (.frz o (.tup vs))) ∧ vs = ns.map V.int ∧ xs = [V.int k] ∧ k ∈ ns ∧ Q (.int (ns.idxOf k : Nat)) H
theorem mt_tindex : MtR X "tuple.index" rTIndex := by
  intro pins s σ H x xs v us Q I rx rs h
  obtain ⟨a, vs, ns, k, rfl, ⟨o, ha⟩, rfl, rfl, hk, q⟩ := h
  obtain rfl : v = Value.ref a := rx
  obtain ⟨u, rfl, ru⟩ := vals1 rs
  obtain ⟨t, rfl⟩ := ru
  obtain ⟨ho, hz, its, rv, ht⟩ := I.hok a _ ha
  exact PySem.SeqAt.tuple_index_ints ht (intsAre_of rv) hk ⟨.int (ns.idxOf k : Nat), H, I.kept (t' := s.toks + 1) (fun _ _ e => e), ⟨_, rfl⟩, q⟩
/-- x[n:] of a longer tuple: a new one -/
def rSlN (K : PySem.W.Frag) (n : Nat) : V → Option Int → Option Int → Hp → VK → Prop := fun x lo hi H Q => ∃ (a : Addr) (xs : List V), x = .ref a ∧ SqT K H a xs ∧ 1 ≤ n ∧ n < xs.length ∧ lo = some (n : Int) ∧ hi = none ∧
  ∀ (p : Addr) (o : Obj), H p = none → o.dict = none → Q (.ref p) (upd H p (.frz o (.tup (xs.drop n))))
theorem sl_tupN (n : Nat) : SlR X (rSlN X.K n) := by
  intro pins s σ H x v vl vu lo hi sl Q I rx hs pl pu h
  obtain ⟨a, xs, rfl, hx, h1, h2, rfl, rfl, q⟩ := h
  cases rx
  obtain ⟨its, r, ht, hz⟩ := I.tuple hx
  have hlen : its.toArray.size = xs.length := by rw [List.size_toArray]; exact r.length.symm
  refine ⟨"tuple", _, PyProof.Rows.slot_tuple_getitem.lookup, ht.typeIs, ?_⟩
  have e0 : HT.sIx xs.length 0 (some (n : Int)) = n := by rw [HT.sIx_nat]; omega
  have e1 : HT.sIx xs.length xs.length none = xs.length := HT.sIx_none _ _
  refine HT.getItem_tuple_cut ht hs pl pu (by rw [hlen, e0]; omega) ?_ (by rw [hlen]; exact hz)
  rw [hlen, e0, e1]
  have el : (its.toArray.toList.drop n).take (xs.length - n) = its.drop n := by
    rw [List.toList_toArray]
    refine List.take_of_length_le ?_
    rw [List.length_drop, ← r.length]
    omega
  rw [el]
  refine ⟨.ref s.heap.objs.size, _, I.laid (t' := s.toks) (o := .frz { cls := .type "tuple", data := .seq (its.drop n).toArray } (.tup (xs.drop n))) (fun b ob q => Heap.get?_push_of_some _ q) (Nat.le_refl _) ?_, rfl, q _ _ (I.hok.fresh (Nat.le_refl _)) rfl⟩
  exact ⟨Heap.get?_push_size _ rfl, by rw [List.length_drop]; omega, _, r.drop n, IsTup.new _ _⟩
end
end PP
end

section
set_option linter.all false
set_option autoImplicit false
set_option maxRecDepth 100000
set_option Elab.async false
/-! x[n:] new; tuple.index. -/
namespace PP
open PySem PySem.Spec PyProof.Rows L2
section
variable {X : Cx} {ca : Nat → Addr} {E : XK}
theorem RpAll.dropN {K : PySem.W.Frag} {im : Hp} {am : List Addr} (n : Nat) : ∀ {ds : List D} {vs : List V}, RpAll K im am ds vs → RpAll K im am (ds.drop n) (vs.drop n) := by
  induction n with
  | zero => exact fun h => h
  | succ n ih =>
    intro ds vs h
    cases h with
    | nil => exact .nil
    | cons q r => exact ih r
theorem snd_slcN {n : Nat} {j : Int} {a : Expr} {k : Nat} {p p1 p2 : Pos} {m1 : Env → Sto → Res D} (ha : Snd X ca E a m1) (hj : j = (n : Int)) :
    Snd X ca E (.Subscript a (.Slice (some (.Constant (.int j) k p1)) none none p2) p) (fun env st => (m1 env st).bind fun x st => slcNR n x st) :=
  Snd.val (PE.im (pe_slice (sl_tupN (X := X) n) ha.pe (po_some (pe_int (i := j))) po_none) fun σ H Q ⟨im, am, env, st, eo, so, w⟩ => by
    subst hj
    refine ⟨im, am, env, st, eo, so, Wp.seq w fun x H1 im1 am1 a st1 e1 s1 r1 w1 => ?_⟩
    refine ⟨_, rfl, ?_⟩
    unfold slcNR at w1
    split at w1
    · rename_i xs
      split at w1
      · rename_i hc
        simp only [Bool.and_eq_true, decide_eq_true_eq] at hc
        cases r1 with
        | @tup a vs _ q1 q2 =>
          exact ⟨a, vs, rfl, Same.seqT s1.same q1, hc.1, by rw [← q2.length]; exact hc.2, rfl, rfl, fun p o hp hn => fin_new w1 s1 hp fun im' hs hi => .tpn hi hn (RpAll.mono hs (List.prefix_refl _) _ _ (q2.dropN n))⟩
      · exact w1.elim
    · exact w1.elim) rfl
theorem mtOk_index {a : D} {st : Sto} (h : mtOk .index a st = true) : ∃ xs, a = .tpn xs := by
  cases a with
  | tpn xs => exact ⟨xs, rfl⟩
  | cel i =>
    simp only [mtOk, deref_cel] at h
    cases hc : st[i]? with
    | none => rw [hc] at h; cases h
    | some c => rw [hc] at h; cases c <;> cases h
  | _ => cases h
theorem snd_tidx {o e : Expr} {apos cpos : Pos} {m1 : Env → Sto → Res D} {m2 : Env → Sto → Res (List D)} (ho : Snd X ca E o m1) (ha : SndA X ca E [e] 1 m2) (hb : plainBase o = true) (hl : (apos.endLine == cpos.line) = true) :
    Snd X ca E (.Call (.Attribute o "index" apos) [e] [] cpos) (fun env st => (m1 env st).bind fun x st => if mtOk .index x st then (m2 env st).bind fun ds st => mtR .index x ds st else .stuck) := by
  have hs := ha.ns
  rw [List.all_cons, Bool.and_eq_true] at hs
  refine Snd.val (PE.im (pe_bmT PySem.F.plainAttrs_tuple PySem.F.slot_tuple_index PySem.F.type_tuple_index mt_tindex ho.pe ha.pa (base_of hb) (few_of ha.ns (by show 1 < 29; decide)) hl (star_of hs.1) (star_any hs.2)) fun σ H Q ⟨im, am, env, st, eo, so, w⟩ => ?_) rfl
  refine ⟨im, am, env, st, eo, so, Wp.seq w fun x H1 im1 am1 a st1 e1 s1 r1 w1 => ?_⟩
  cases hk2 : mtOk .index a st1 with
  | false => rw [hk2] at w1; exact w1.elim
  | true =>
    rw [hk2, if_pos rfl] at w1
    obtain ⟨xs, rfl⟩ := mtOk_index hk2
    cases r1 with
    | @tpn a o vs _ q1 qn q2 =>
      refine ⟨⟨a, o, vs, rfl, s1.same _ _ q1, qn⟩, im1, am1, env, st1, eo.ext e1, s1, Wp.seq w1 fun y H2 im2 am2 b st2 e2 s2 r2 w2 => ?_⟩
      rcases b with _ | ⟨y, _ | ⟨z, zs⟩⟩
      · exact w2.elim
      · cases y with
        | int k =>
          have w2 : Wp X.K ca (Rp X.K) E im2 am2 H2 (match intsD xs with | some ns => if decide (k ∈ ns) then Res.ok (D.int (ns.idxOf k : Nat)) st2 else .stuck | none => .stuck) Q := w2
          cases hi : intsD xs with
          | none => rw [hi] at w2; exact w2.elim
          | some ns =>
            rw [hi] at w2
            dsimp only at w2
            split at w2
            · rename_i hm
              obtain ⟨v, rfl, rv⟩ := r2.one
              cases rv
              exact ⟨a, vs, ns, k, rfl, ⟨o, s2.same _ _ (e2.same _ _ q1)⟩, ints_rp hi q2, rfl, of_decide_eq_true hm, Wp.fin (st := st2) w2 s2 (.int _)⟩
            · exact w2.elim
        | _ => exact w2.elim
      · cases y <;> exact w2.elim
end
end PP
end

section
set_option linter.all false
set_option autoImplicit false
set_option maxRecDepth 100000
set_option maxHeartbeats 4000000
set_option Elab.async false
/-! set(..) of tuples of any depth, and what is asked of such a set at once: its length, its members sorted. -/
namespace PP
open PySem PySem.Spec PyProof.Rows L2

section
variable {P : Program} {w : World} {A : Around} {E : Value → Shared → Prop} {s : Shared}
/-- what may stand in such a set: an object that is a nested key -/
structure IsK (h : Heap) (k : NestedKey) (v : Value) : Prop where
  key : NestedIs h k v
  dp : k.depth ≤ 8
  rf : ∃ b, v = .ref b
theorem IsK.keep {h h' : Heap} {k : NestedKey} {v : Value} (x : IsK h k v) (hk : ∀ c o, h.get? c = some o → h'.get? c = some o) : IsK h' k v :=
  ⟨NestedIs.at (fun a o vs n ha _ => hk a o ha) _ _ x.key, x.dp, x.rf⟩
theorem IsK.but {h h' : Heap} {k : NestedKey} {v : Value} {a : Addr} {o : Obj} {es : Array (Int × Value)} {ep : Nat} {t : SetTable} (x : IsK h k v) (ho : h.get? a = some o) (hd : o.data = .set es ep t) (hs : Heap.SameBut a h h') : IsK h' k v :=
  ⟨NestedIs.at (fun b ob vs n hb hbd => (hs.2 b (fun e => by subst e; rw [ho] at hb; cases hb; rw [hd] at hbd; cases hbd)).trans hb) _ _ x.key, x.dp, x.rf⟩

mutual
theorem cls_key : ∀ (k : NestedKey) (v : Value) (n : Nat) (s : Shared) (A : Around) (E : Value → Shared → Prop) (Q : Bool → Shared → Prop), NestedIs s.heap k v → k.depth ≤ n → Q false s → wpAny (model P w) A (ofAClassStatement n v) Q E s
  | .none, _, n, s, A, E, Q, h, _, q => by cases h; cases n <;> exact wpAny_pure q
  | .num _, _, n, s, A, E, Q, h, _, q => by cases h <;> cases n <;> exact wpAny_pure q
  | .text _, _, n, s, A, E, Q, h, _, q => by cases h; cases n <;> exact wpAny_pure q
  | .tup ks, _, n, s, A, E, Q, h, hd, q => by
    cases h with
    | @tup a o vs m _ ho hc hdt hall =>
      cases n with
      | zero => simp only [NestedKey.depth] at hd; omega
      | succ n =>
        have hT : s.TypeIs (.ref a) "tuple" := ⟨o, ho, hc⟩
        unfold ofAClassStatement
        refine wpAny_bind (wpAny_typeOf hT ?_)
        dsimp only
        rw [if_pos (show (("tuple" : String) == "tuple") = true by decide)]
        refine wpAny_bind (wpAny_pure ?_)
        simp only [Bool.not_true, Bool.false_eq_true, if_false]
        show wpAny _ _ (seqItems? (.ref a) >>= _) _ _ s
        refine wpAny_bind (wpAny_seqItems ho hdt ?_)
        dsimp only
        refine wpAny_bind ?_
        show wpAny _ _ (forIn vs _ _) _ _ s
        rw [← Array.forIn_toList]
        refine wpAny_forIn_list _ (fun rest r s' => r.1 = none ∧ s' = s ∧ ∃ ks', NestedAll s.heap ks' rest ∧ NestedKey.depthAll ks' ≤ n ∧ ∀ k ∈ ks', k ∈ ks) _ ?_ ?_ _ _ ⟨rfl, rfl, ks, hall, by simp only [NestedKey.depth] at hd; omega, fun k hk => hk⟩
        · rintro v rest r s' ⟨hr, rfl, ks', hall', hdd, hsub⟩
          cases hall' with
          | @cons k _ ks2 _ h1 h2 =>
            simp only [NestedKey.depthAll] at hdd
            refine wpAny_bind (cls_keys ks v n s' A E _ ⟨k, hsub k List.mem_cons_self, h1, by omega⟩ ?_)
            simp only [Bool.false_eq_true, if_false]
            exact wpAny_pure ⟨rfl, rfl, ks2, h2, by omega, fun k hk => hsub k (List.mem_cons_of_mem _ hk)⟩
        · rintro ⟨r1, r2⟩ s' ⟨hr, rfl, _⟩
          simp only at hr
          subst hr
          exact wpAny_pure q
theorem cls_keys : ∀ (ks : List NestedKey) (v : Value) (n : Nat) (s : Shared) (A : Around) (E : Value → Shared → Prop) (Q : Bool → Shared → Prop), (∃ k, k ∈ ks ∧ NestedIs s.heap k v ∧ k.depth ≤ n) → Q false s → wpAny (model P w) A (ofAClassStatement n v) Q E s
  | [], _, _, _, _, _, _, ⟨_, hk, _⟩, _ => by cases hk
  | k :: ks, v, n, s, A, E, Q, ⟨k', hk, h1, h2⟩, q => by
    by_cases e : k' = k
    · exact cls_key k v n s A E Q (e ▸ h1) (e ▸ h2) q
    · exact cls_keys ks v n s A E Q ⟨k', (List.mem_cons.mp hk).resolve_left e, h1, h2⟩ q
end
mutual
theorem byval_key : ∀ (k : NestedKey) (v : Value) (n : Nat) (s : Shared) (A : Around) (E : Value → Shared → Prop) (Q : Bool → Shared → Prop), NestedIs s.heap k v → k.depth ≤ n → (∀ b, Q b s) → wpAny (model P w) A (hashByValue n v) Q E s
  | .none, _, n, s, A, E, Q, h, _, q => by cases h; cases n <;> exact wpAny_pure (q _)
  | .num _, _, n, s, A, E, Q, h, _, q => by cases h <;> cases n <;> exact wpAny_pure (q _)
  | .text _, _, n, s, A, E, Q, h, _, q => by cases h; cases n <;> exact wpAny_pure (q _)
  | .tup ks, _, n, s, A, E, Q, h, hd, q => by
    cases h with
    | @tup a o vs m _ ho hc hdt hall =>
      cases n with
      | zero => simp only [NestedKey.depth] at hd; omega
      | succ n =>
        have hT : s.TypeIs (.ref a) "tuple" := ⟨o, ho, hc⟩
        unfold hashByValue
        refine wpAny_bind (wpAny_specialOf hT PySem.F.slot_tuple_hash.lookup ?_)
        show wpAny _ _ (seqItems? (.ref a) >>= _) _ _ s
        refine wpAny_bind (wpAny_seqItems ho hdt ?_)
        refine wpAny_bind ?_
        show wpAny _ _ (forIn vs _ _) _ _ s
        rw [← Array.forIn_toList]
        refine wpAny_forIn_list _ (fun rest r s' => r.1 = none ∧ s' = s ∧ ∃ ks', NestedAll s.heap ks' rest ∧ NestedKey.depthAll ks' ≤ n ∧ ∀ k ∈ ks', k ∈ ks) _ ?_ ?_ _ _ ⟨rfl, rfl, ks, hall, by simp only [NestedKey.depth] at hd; omega, fun k hk => hk⟩
        · rintro v rest r s' ⟨hr, rfl, ks', hall', hdd, hsub⟩
          cases hall' with
          | @cons k _ ks2 _ h1 h2 =>
            simp only [NestedKey.depthAll] at hdd
            refine wpAny_bind (byval_keys ks v n s' A E _ ⟨k, hsub k List.mem_cons_self, h1, by omega⟩ fun b => ?_)
            cases b with
            | true =>
              simp only [Bool.not_true, Bool.false_eq_true, if_false]
              exact wpAny_pure ⟨rfl, rfl, ks2, h2, by omega, fun k hk => hsub k (List.mem_cons_of_mem _ hk)⟩
            | false =>
              simp only [Bool.not_false, if_true]
              first
                | exact wpAny_pure (wpAny_pure (q false))
                | exact wpAny_bind (wpAny_pure (wpAny_pure (wpAny_pure (q false))))
                | exact wpAny_bind (wpAny_pure (wpAny_pure (q false)))
        · rintro ⟨r1, r2⟩ s' ⟨hr, rfl, _⟩
          simp only at hr
          subst hr
          exact wpAny_pure (q _)
theorem byval_keys : ∀ (ks : List NestedKey) (v : Value) (n : Nat) (s : Shared) (A : Around) (E : Value → Shared → Prop) (Q : Bool → Shared → Prop), (∃ k, k ∈ ks ∧ NestedIs s.heap k v ∧ k.depth ≤ n) → (∀ b, Q b s) → wpAny (model P w) A (hashByValue n v) Q E s
  | [], _, _, _, _, _, _, ⟨_, hk, _⟩, _ => by cases hk
  | k :: ks, v, n, s, A, E, Q, ⟨k', hk, h1, h2⟩, q => by
    by_cases e : k' = k
    · exact byval_key k v n s A E Q (e ▸ h1) (e ▸ h2) q
    · exact byval_keys ks v n s A E Q ⟨k', (List.mem_cons.mp hk).resolve_left e, h1, h2⟩ q
end
theorem seen_keys {k : NestedKey} {x : Value} {Q : Bool → Shared → Prop} (hk : IsK s.heap k x) {ys : List Value} (hy : ∀ y ∈ ys, ∃ k', IsK s.heap k' y) (h : Q false s) : wpAny (model P w) A (searchCouldBeSeen x ys) Q E s := by
  unfold searchCouldBeSeen
  refine wpAny_bind ?_
  refine wpAny_forIn_list _ (fun rest r s' => r.1 = none ∧ s' = s ∧ ∀ y ∈ rest, ∃ k', IsK s.heap k' y) _ ?_ ?_ _ _ ⟨rfl, rfl, hy⟩
  · rintro v rest r s' ⟨hr, rfl, hall⟩
    obtain ⟨k', hv⟩ := hall v List.mem_cons_self
    have next : ∀ y ∈ rest, ∃ k', IsK s'.heap k' y := fun u hu' => hall u (List.mem_cons_of_mem _ hu')
    obtain ⟨b, rfl⟩ := hk.rf
    obtain ⟨c, rfl⟩ := hv.rf
    dsimp only
    by_cases hvv : (b == c || (carriedByValue (.ref b) && carriedByValue (.ref c))) = true
    · exact wp_if_pos hvv (wpAny_pure ⟨rfl, rfl, next⟩)
    · refine wp_if_neg hvv ?_
      refine wpAny_bind (quiet_key _ _ 8 _ hk.key hk.dp _ _ _ ?_)
      simp only [Bool.not_true, Bool.false_eq_true, if_false]
      refine wpAny_bind (quiet_key _ _ 8 _ hv.key hv.dp _ _ _ ?_)
      simp only [Bool.not_true, Bool.false_eq_true, if_false]
      refine wpAny_bind (cls_key _ _ 8 _ _ _ _ hk.key hk.dp ?_)
      simp only [Bool.false_eq_true, if_false]
      refine wpAny_bind (cls_key _ _ 8 _ _ _ _ hv.key hv.dp ?_)
      simp only [Bool.false_eq_true, if_false]
      exact wpAny_pure ⟨rfl, rfl, next⟩
  · rintro ⟨r1, r2⟩ s' ⟨hr, rfl, _⟩
    simp only at hr
    subst hr
    exact wpAny_pure h

/-! ### the set in the heap -/
abbrev Ks := List (Value × NestedKey)
def rowsK (w : World) (L : Ks) : List (Int × Value) := L.map fun p => (p.2.hash w, p.1)
def hsK (w : World) (L : Ks) : List Int := L.map fun p => p.2.hash w
structure SetK (w : World) (h : Heap) (a : Addr) (L : Ks) (es : Array (Int × Value)) (ep : Nat) (t : SetTable) : Prop where
  ob : ∃ o, h.get? a = some o ∧ o.ExactSet ∧ o.data = .set es ep t
  rows : es.toList = rowsK w L
  tab : TabOk t (hsK w L)
  nd : (L.map (·.2)).Nodup
  is : ∀ p ∈ L, IsK h p.2 p.1
  led : w.params.followText "set-order" = true ∨ t.led = true
  room : L.length * 5 < t.mask * 3
  few : L.length < 64
variable {a : Addr} {L : Ks} {es : Array (Int × Value)} {ep : Nat} {t : SetTable}
theorem SetK.size (R : SetK w s.heap a L es ep t) : es.size = L.length := by
  have h := congrArg List.length R.rows
  simpa [rowsK] using h
theorem SetK.tsz (R : SetK w s.heap a L es ep t) : t.place.size = L.length := by
  have h := R.tab.sz
  simpa [hsK] using h
theorem SetK.fits (R : SetK w s.heap a L es ep t) : t.fits es.size = true := by
  have h1 := R.tsz
  have h2 := R.size
  have h3 := R.room
  unfold SetTable.fits SetTable.fill
  rw [R.tab.dm]
  simp only [Bool.and_eq_true, beq_iff_eq, decide_eq_true_eq]
  exact ⟨by omega, by show t.place.size + 0 ≤ t.mask; omega⟩
theorem SetK.entry (R : SetK w s.heap a L es ep t) {i : Nat} {p : Value × NestedKey} (h : L[i]? = some p) : es[i]? = some (p.2.hash w, p.1) := by
  rw [← Array.getElem?_toList, R.rows]
  simp [rowsK, h]
theorem SetK.gw (R : SetK w s.heap a L es ep t) : ¬ t.gaveWay = true := by
  unfold SetTable.gaveWay
  rw [mask_odd R.tab.mok]
  decide
abbrev at0 (t : SetTable) (h : Int) : SetTable.Probe := runAt t.mask (SetTable.bits h % (t.mask + 1)) (SetTable.bits h)
theorem nth_nodummy (m : Nat) : ∀ (n : Nat) (p : SetTable.Probe), p.dummy = none → (nth m p n).dummy = none
  | 0, _, h => h
  | n + 1, p, h => nth_nodummy m n (adv m p) (by unfold adv; split <;> exact h)
end
end PP
end

section
set_option linter.all false
set_option autoImplicit false
set_option maxRecDepth 100000
set_option maxHeartbeats 4000000
set_option Elab.async false
/-! Adding to such a set. -/
namespace PP
open PySem PySem.Spec PyProof.Rows L2
section
variable {P : Program} {w : World} {A : Around} {E : Value → Shared → Prop} {s : Shared} {a : Addr} {L : Ks} {es : Array (Int × Value)} {ep : Nat} {t : SetTable}
/-- the search, from the c-th place of the way on; K: the first free one -/
theorem find_from (R : SetK w s.heap a L es ep t) {x : Value} {k : NestedKey} (hx : IsK s.heap k x) (hu : A.units + 8 < cLine) {K : Nat} (hKf : K < 10 * SetTable.turns t.mask)
    (hK : way t.mask (k.hash w) K ∉ t.place.toList) (hKb : ∀ c, c < K → way t.mask (k.hash w) c ∈ t.place.toList) {Q : SetFound → Shared → Prop}
    (hin : k ∈ L.map (·.2) → Q (.there none) s) (hout : k ∉ L.map (·.2) → Q (.free (way t.mask (k.hash w) K) false) s) :
    ∀ (f c : Nat) (stand : Option SetTable.Probe), stand.getD (t.probeStart (k.hash w)) = nth t.mask (at0 t (k.hash w)) c → c ≤ K → K - c < f →
      (∀ (i : Nat) p, L[i]? = some p → p.2 = k → ∃ c', c ≤ c' ∧ c' < K ∧ t.place.toList[i]? = some (way t.mask (k.hash w) c')) →
      wpAny (model P w) A (setSearchFrom a x (k.hash w) true f stand) Q E s := by
  intro f
  induction f with
  | zero => intro c stand _ _ hf _; omega
  | succ f ih =>
    intro c stand hst hc hf hre
    obtain ⟨o, ho, hex, hd⟩ := R.ob
    rw [setSearchFrom_succ]
    refine wpAny_bind (wpAny_setState_of ho hd R.fits ?_)
    dsimp only
    refine wp_if_neg R.gw ?_
    try refine wpAny_bind (wpAny_pure ?_)
    have sh : ∀ q, nth t.mask (nth t.mask (at0 t (k.hash w)) c) q = nth t.mask (at0 t (k.hash w)) (c + q) := fun q => (nth_add t.mask c _ q).symm
    have jj : ∀ q, (nth t.mask (nth t.mask (at0 t (k.hash w)) c) q).j = way t.mask (k.hash w) (c + q) := fun q => congrArg SetTable.Probe.j (sh q)
    have cK : c + (K - c) = K := by omega
    have hash_at : ∀ (i : Nat) p, L[i]? = some p → (fun i => (es[i]?.map (·.1)).getD 0) i = p.2.hash w := fun i p hp => by
      show (es[i]?.map (·.1)).getD 0 = _
      rw [R.entry hp]; rfl
    rcases go_spec t R.tab.ris R.tab.dm (fun i => (es[i]?.map (·.1)).getD 0) (k.hash w) (10 * SetTable.turns t.mask) (K - c) _ (nth_nodummy t.mask c _ rfl) (by omega)
      (fun q hq => by rw [jj]; exact hKb (c + q) (by omega)) (by rw [jj, cK]; exact hK) with ⟨q, i, hq, hi, hh, hno, hpr⟩ | ⟨hno, hpr⟩
    · have hpr' : t.probe (fun i => (es[i]?.map (·.1)).getD 0) (k.hash w) (stand.getD (t.probeStart (k.hash w))) = some (.candidate (way t.mask (k.hash w) (c + q)) i (nth t.mask (at0 t (k.hash w)) (c + (q + 1)))) := by
        rw [hst, ← jj, ← sh]; exact hpr
      rw [hpr']
      dsimp only
      rw [jj] at hi
      have hil : i < L.length := by
        have h1 := (List.getElem?_eq_some_iff.mp hi).1
        have h2 := R.tsz
        rw [Array.length_toList] at h1
        omega
      obtain ⟨p, hp⟩ : ∃ p, L[i]? = some p := ⟨_, List.getElem?_eq_getElem hil⟩
      have hmem : p ∈ L := List.mem_of_getElem? hp
      have hpk := R.is p hmem
      have hsl : t.slot (way t.mask (k.hash w) (c + q)) = .live i := slot_live R.tab.ris hi
      have rest : wpAny (model P w) A (searchRest a x (k.hash w) true f es t (way t.mask (k.hash w) (c + q)) i (nth t.mask (at0 t (k.hash w)) (c + (q + 1)))) Q E s := by
        unfold searchRest
        rw [R.entry hp]
        dsimp only
        have d1 := hpk.dp
        refine wpAny_bind (wpAny_holding (eqAt_key p.2 k A s _ _ hpk.key hx.key (by omega) _ _ _ _ ?_))
        rw [← NestedKey.decide_eq]
        refine wpAny_bind (wpAny_setState_of ho hd R.fits ?_)
        dsimp only
        by_cases hkk : p.2 = k
        · exact wp_if_pos (by simp [hkk]) (wpAny_pure (hin (List.mem_map.mpr ⟨p, hmem, hkk⟩)))
        · refine wp_if_neg (by simp [hkk]) ?_
          try refine wpAny_bind (wpAny_pure ?_)
          rw [sameMem]
          dsimp only
          obtain ⟨b, hb⟩ := hpk.rf
          simp only [if_true, hsl, R.entry hp]
          rw [hb]
          refine wpAny_bind (wpAny_isSame_ref_self (wpAny_bind (wpAny_pure ?_)))
          simp only [if_true]
          refine wp_if_neg (by simp [hkk]) ?_
          refine ih (c + (q + 1)) _ rfl (by omega) (by omega) fun i0 p0 h0 hk0 => ?_
          obtain ⟨c', a1, a2, a3⟩ := hre i0 p0 h0 hk0
          refine ⟨c', ?_, a2, a3⟩
          rcases Nat.lt_trichotomy c' (c + q) with z | z | z
          · exact absurd ((hash_at i0 p0 h0).trans (congrArg (NestedKey.hash w) hk0)) (hno (c' - c) i0 (by omega) (by rw [jj, show c + (c' - c) = c' by omega]; exact a3))
          · rw [z] at a3
            have s0 := slot_live R.tab.ris a3
            rw [hsl] at s0
            injection s0 with s0
            rw [← s0, hp] at h0
            exact absurd ((congrArg Prod.snd (Option.some.inj h0)).trans hk0) hkk
          · omega
      by_cases hl : t.led = true
      · refine wp_if_neg (by simp [hl]) ?_
        try refine wpAny_bind (wpAny_pure ?_)
        exact rest
      · refine wp_if_pos (by simp [hl]) ?_
        refine wpAny_bind (seen_keys hx (fun y hy => ?_) ?_)
        · obtain ⟨e, he, ee⟩ := List.mem_map.mp hy
          have he1 : e ∈ es ∧ e.1 = k.hash w := by simpa using he
          have he2 : e ∈ es.toList := by simpa using he1.1
          rw [R.rows] at he2
          obtain ⟨p2, hp2, e2⟩ := List.mem_map.mp he2
          refine ⟨p2.2, ?_⟩
          rw [← ee, ← e2]
          exact R.is p2 hp2
        · refine wp_if_neg (by decide) ?_
          try refine wpAny_bind (wpAny_pure ?_)
          exact rest
    · have hpr' : t.probe (fun i => (es[i]?.map (·.1)).getD 0) (k.hash w) (stand.getD (t.probeStart (k.hash w))) = some (.empty (way t.mask (k.hash w) K) none) := by
        rw [hst, show way t.mask (k.hash w) K = (nth t.mask (nth t.mask (at0 t (k.hash w)) c) (K - c)).j by rw [jj, cK]]
        exact hpr
      rw [hpr']
      dsimp only
      refine wpAny_pure (hout fun hm => ?_)
      obtain ⟨p0, h0, hk0⟩ := List.mem_map.mp hm
      obtain ⟨i0, h00⟩ := List.mem_iff_getElem?.mp h0
      obtain ⟨c', a1, a2, a3⟩ := hre i0 p0 h00 hk0
      exact hno (c' - c) i0 (by omega) (by rw [jj, show c + (c' - c) = c' by omega]; exact a3) ((hash_at i0 p0 h00).trans (congrArg (NestedKey.hash w) hk0))
theorem find_at (R : SetK w s.heap a L es ep t) {x : Value} {k : NestedKey} (hx : IsK s.heap k x) (hu : A.units + 8 < cLine) {Q : SetFound → Shared → Prop} (hin : k ∈ L.map (·.2) → Q (.there none) s)
    (hout : ∀ K, k ∉ L.map (·.2) → way t.mask (k.hash w) K ∉ t.place.toList → (∀ c, c < K → way t.mask (k.hash w) c ∈ t.place.toList) → Q (.free (way t.mask (k.hash w) K) false) s) :
    wpAny (model P w) A (setSearch a x (k.hash w) true) Q E s := by
  have hroom := R.room
  obtain ⟨K, hKf, hK, hKb⟩ := R.tab.first (by simp [hsK]; omega) (k.hash w)
  have hbig : K < 100000 := by
    have : 10 * SetTable.turns t.mask ≤ 1420 := by
      unfold SetTable.turns
      rcases R.tab.mok with e | e | e <;> omega
    omega
  unfold setSearch
  refine find_from R hx hu hKf hK hKb hin (fun hn => hout K hn hK hKb) 100000 0 none rfl (Nat.zero_le _) (by omega) fun i p hp hk => ?_
  have hi : (hsK w L)[i]? = some (k.hash w) := by simp [hsK, hp, hk]
  have hil : i < t.place.toList.length := by
    have h1 := (List.getElem?_eq_some_iff.mp hp).1
    have h2 := R.tsz
    rw [Array.length_toList]; omega
  obtain ⟨c, hc, e⟩ := R.tab.before hK hi (List.getElem?_eq_getElem hil)
  exact ⟨c, Nat.zero_le _, hc, by rw [List.getElem?_eq_getElem hil, e]⟩

theorem laid_rows (L : Ks) (es : Array (Int × Value)) (order : Array Nat) (hr : es.toList = rowsK w L) (hp : order.toList.Perm (List.range L.length)) :
    ∃ L2 : Ks, (order.filterMap (es[·]?)).toList = rowsK w L2 ∧ L2.Perm L ∧ hsK w L2 = order.toList.map fun i => (es.map (·.1)).getD i 0 := by
  have ent : ∀ i (h : i < L.length), es[i]? = some ((L[i]).2.hash w, (L[i]).1) := fun i h => by
    rw [← Array.getElem?_toList, hr]; simp [rowsK, h]
  have key : ∀ l : List Nat, (∀ i ∈ l, i < L.length) → l.filterMap (fun i => es[i]?) = rowsK w (l.filterMap (fun i => L[i]?)) ∧ hsK w (l.filterMap (fun i => L[i]?)) = l.map fun i => (es.map (·.1)).getD i 0 := by
    intro l
    induction l with
    | nil => intro _; exact ⟨rfl, rfl⟩
    | cons i l ih =>
      intro hl
      have hi := hl i List.mem_cons_self
      obtain ⟨e1, e2⟩ := ih fun j hj => hl j (List.mem_cons_of_mem _ hj)
      rw [List.filterMap_cons_some (ent i hi), List.filterMap_cons_some (List.getElem?_eq_getElem hi), e1]
      refine ⟨rfl, ?_⟩
      show _ :: hsK w _ = _
      rw [e2, List.map_cons]
      have e5 : (es.map (·.1))[i]? = some ((L[i]).2.hash w) := by rw [Array.getElem?_map, ent i hi]; rfl
      simp [Array.getD_eq_getD_getElem?, e5]
  obtain ⟨e1, e2⟩ := key order.toList fun i hi => List.mem_range.mp (hp.mem_iff.mp hi)
  refine ⟨_, by rw [Array.toList_filterMap]; exact e1, ?_, e2⟩
  have h1 : (order.toList.filterMap fun i => L[i]?).Perm ((List.range L.length).filterMap fun i => L[i]?) := hp.filterMap _
  have h2 : ∀ n, n ≤ L.length → (List.range n).filterMap (fun i => L[i]?) = L.take n := by
    intro n
    induction n with
    | zero => intro _; rfl
    | succ n ih =>
      intro hn
      rw [List.range_succ, List.filterMap_append, ih (by omega), List.take_succ, List.getElem?_eq_getElem hn, List.filterMap_cons_some (List.getElem?_eq_getElem hn)]
      rfl
  rw [h2 L.length (Nat.le_refl _), List.take_length] at h1
  exact h1
theorem lay_anew {o : Obj} (ho : s.heap.get? a = some o) (hex : o.ExactSet) (hd : o.data = .set es ep t) (hrows : es.toList = rowsK w L) (hsz : t.place.size = es.size) (hdm : t.dummies = #[]) (hfl : es.size ≤ t.mask)
    (nd : (L.map (·.2)).Nodup) (is : ∀ p ∈ L, IsK s.heap p.2 p.1) (ld : w.params.followText "set-order" = true ∨ t.led = true) (few : L.length < 64) {wanted M : Nat}
    (hw : SetTable.sizeAbove wanted - 1 = M) (hM : MaskOk M) (hw2 : SetTable.sizeAbove wanted ≤ 128) (hn : L.length * 5 < M * 3) {Q : Unit → Shared → Prop}
    (hQ : ∀ h' L' es' ep' t', Heap.SameBut a s.heap h' → SetK w h' a L' es' ep' t' → L'.Perm L → Q () { s with heap := h' }) : wpAny (model P w) A (setRelay a wanted) Q E s := by
  have hsl : es.size = L.length := by simpa [rowsK] using congrArg List.length hrows
  have hfits : t.fits es.size = true := by
    unfold SetTable.fits SetTable.fill
    rw [hdm]
    simp only [Bool.and_eq_true, beq_iff_eq, decide_eq_true_eq]
    exact ⟨hsz, by show t.place.size + 0 ≤ t.mask; omega⟩
  obtain ⟨t', order, e, hp, T, em, el, ep', ed⟩ := relaid_ok t (hs := es.map (·.1)) (wanted := wanted) hw hM (by rw [Array.size_map, hsl]; omega)
  rw [Array.size_map, hsl] at hp
  obtain ⟨L2, r1, r2, r3⟩ := laid_rows L es order hrows hp
  rw [← r3] at T
  have hs2 : (order.filterMap (es[·]?)).size = es.size := by
    have h := congrArg List.length r1
    simp only [rowsK, List.length_map, Array.length_toList] at h
    rw [h, r2.length_eq, hsl]
  rw [setRelay_eq]
  refine wpAny_bind (wpAny_setState_of ho hd hfits ?_)
  dsimp only
  refine wp_if_neg (by rw [sizeLine_eq]; omega) ?_
  try refine wpAny_bind (wpAny_pure ?_)
  rw [e]
  dsimp only
  refine wpAny_bind ?_
  refine wp_if_neg (by rw [hs2]; simp) ?_
  try refine wpAny_bind (wpAny_pure ?_)
  refine wpAny_pure ?_
  dsimp only
  refine wpAny_storeSet_of ho hd ?_ (by rw [hs2, hsl, sizeLine_eq]; omega)
  have sb : Heap.SameBut a s.heap (s.heap.update a (Obj.putSet (order.filterMap (es[·]?)) t')) := Heap.SameBut.update ..
  refine hQ _ L2 (order.filterMap (es[·]?)) (ep + 1) t' sb ⟨⟨_, store_at ho hd, ⟨hex.1, hex.2.1, hex.2.2⟩, rfl⟩, r1, T, (r2.map (·.2)).nodup_iff.mpr nd, fun p hpm => (is p (r2.mem_iff.mp hpm)).but ho hd sb, by rw [el]; exact ld, by rw [r2.length_eq, em]; exact hn, by rw [r2.length_eq]; exact few⟩ r2
end
end PP
end

section
set_option linter.all false
set_option autoImplicit false
set_option maxRecDepth 100000
set_option maxHeartbeats 4000000
set_option Elab.async false
/-! set(xs) of such values. -/
namespace PP
open PySem PySem.Spec PyProof.Rows L2
section
variable {P : Program} {w : World} {A : Around} {E : Value → Shared → Prop} {s : Shared} {a : Addr} {L : Ks} {es : Array (Int × Value)} {ep : Nat} {t : SetTable}
theorem tabOk_flag {t : SetTable} {hs : List Int} (T : TabOk t hs) (b : Bool) : TabOk { t with plain := b } hs := ⟨T.ris, T.dm, T.sz, T.mok, T.bd, T.reach⟩
theorem key_add (R : SetK w s.heap a L es ep t) {x : Value} {k : NestedKey} (hx : IsK s.heap k x) (hu : A.units + 8 < cLine) (hfew : L.length + 1 < 64) {Q : Bool → Shared → Prop}
    (hQ : ∀ b h' L' es' ep' t', Heap.SameBut a s.heap h' → SetK w h' a L' es' ep' t' → (k ∈ L.map (·.2) → L' = L) → (k ∉ L.map (·.2) → L'.Perm ((x, k) :: L)) → Q b { s with heap := h' }) :
    wpAny (model P w) A (setAddHashed a x (k.hash w) ) Q E s := by
  obtain ⟨o, ho, hex, hd⟩ := R.ob
  have hsl := R.size
  have hroom := R.room
  obtain ⟨b0, hb0⟩ := hx.rf
  unfold setAddHashed
  refine wpAny_holding ?_
  rw [show (100000 : Nat) = 99999 + 1 from rfl, setAddHashedIn_succ]
  refine wpAny_bind (wpAny_setState_of ho hd R.fits ?_)
  dsimp only
  refine wp_if_neg (by rw [hb0]; simp [byScan, Value.scannable]) ?_
  try refine wpAny_bind (wpAny_pure ?_)
  refine wpAny_bind (find_at R hx hu (fun hm => ?_) fun K hm hK hb => ?_)
  · dsimp only
    exact wpAny_pure (hQ false s.heap L es ep t (Heap.SameBut.refl a s.heap) R (fun _ => rfl) fun z => absurd hm z)
  · dsimp only
    refine wpAny_bind (wpAny_setState_of ho hd R.fits ?_)
    dsimp only
    obtain ⟨q1, q2, q3, q4, q5, q6, q7, q8, q9⟩ := R.tab.put hK hb
    generalize hpt : t.put (way t.mask (k.hash w) K) = pt at q1 q3 q4 q5 q6 q7 q8 q9 ⊢
    obtain ⟨t1, p⟩ := pt
    dsimp only at q1 q3 q4 q5 q6 q7 q8 q9 ⊢
    subst q1
    have hin : (SetTable.insertAt es (SetTable.below t.place (way t.mask (k.hash w) K)) (k.hash w, x)).toList = rowsK w (L.take (SetTable.below t.place (way t.mask (k.hash w) K)) ++ (x, k) :: L.drop (SetTable.below t.place (way t.mask (k.hash w) K))) := by
      rw [SetTable.toList_insertAt, R.rows]; simp [rowsK, List.map_take, List.map_drop]
    generalize hpp : SetTable.below t.place (way t.mask (k.hash w) K) = p at q2 q3 hin ⊢
    have pm := put_perm L p (x, k)
    have hlen : (L.take p ++ (x, k) :: L.drop p).length = L.length + 1 := pm.length_eq
    have hhs : hsK w (L.take p ++ (x, k) :: L.drop p) = (hsK w L).take p ++ k.hash w :: (hsK w L).drop p := by simp [hsK, List.map_take, List.map_drop]
    rw [← hhs] at q3
    have nd1 : ((L.take p ++ (x, k) :: L.drop p).map (·.2)).Nodup := by
      refine (pm.map (·.2)).nodup_iff.mpr ?_
      rw [List.map_cons]
      exact List.nodup_cons.mpr ⟨hm, R.nd⟩
    have hes : (SetTable.insertAt es p (k.hash w, x)).size = L.length + 1 := by
      have h := congrArg List.length hin
      simp only [rowsK, List.length_map, Array.length_toList] at h
      rw [h, hlen]
    generalize SetTable.insertAt es p (k.hash w, x) = es1 at hin hes ⊢
    generalize L.take p ++ (x, k) :: L.drop p = L1 at pm hlen q3 nd1 hin
    -- whatever the flag is
    have go : ∀ t2 : SetTable, TabOk t2 (hsK w L1) → t2.mask = t.mask → t2.led = t.led → t2.fill = (hsK w L).length + 1 → t2.tooFull = t1.tooFull →
        wpAny (model P w) A (storeSet a es1 t2 >>= fun _ => if (!false && t2.tooFull) = true then (do setRelay a (SetTable.grown (es.size + 1)); pure true) else pure true) Q E s := by
      intro t2 T2 m2 l2 f2 tf2
      refine wpAny_bind (wpAny_storeSet_of ho hd ?_ (by rw [hes, sizeLine_eq]; omega))
      have sb : Heap.SameBut a s.heap (s.heap.update a (Obj.putSet es1 t2)) := Heap.SameBut.update ..
      have ho1 := store_at (es' := es1) (t' := t2) ho hd
      generalize s.heap.update a (Obj.putSet es1 t2) = h1 at sb ho1 ⊢
      have is1 : ∀ p ∈ L1, IsK h1 p.2 p.1 := fun p hp => by
        rcases List.mem_cons.mp (pm.mem_iff.mp hp) with e | hp
        · rw [e]; exact hx.but ho hd sb
        · exact (R.is p hp).but ho hd sb
      have ld1 : w.params.followText "set-order" = true ∨ t2.led = true := by rw [l2]; exact R.led
      by_cases hf : t2.tooFull = true
      · refine wp_if_pos (by simp [hf]) (wpAny_bind ?_)
        have hfull : (L.length + 1) * 5 ≥ t2.mask * 3 := by
          have h := hf
          unfold SetTable.tooFull at h
          rw [decide_eq_true_eq, f2] at h
          simpa [hsK] using h
        rw [hsl]
        have hsz1 : t2.place.size = es1.size := by
          have h := T2.sz
          simp only [hsK, List.length_map] at h
          rw [h, hlen, hes]
        have two : (t.mask = 7 ∧ L.length = 4) ∨ (t.mask = 31 ∧ L.length = 18) := by
          rcases R.tab.mok with e | e | e
          · left; rw [m2, e] at hfull; rw [e] at hroom; exact ⟨e, by omega⟩
          · right; rw [m2, e] at hfull; rw [e] at hroom; exact ⟨e, by omega⟩
          · exfalso; rw [m2, e] at hfull; omega
        have lay : ∀ M, SetTable.sizeAbove (SetTable.grown (L.length + 1)) - 1 = M → MaskOk M → SetTable.sizeAbove (SetTable.grown (L.length + 1)) ≤ 128 → (L.length + 1) * 5 < M * 3 →
            wpAny (model P w) A (setRelay a (SetTable.grown (L.length + 1))) (fun _ s' => wpAny (model P w) A (pure true) Q E s') E { s with heap := h1 } := fun M h1' h2' h3' h4' => by
          refine lay_anew (s := { s with heap := h1 }) ho1 ⟨hex.1, hex.2.1, hex.2.2⟩ rfl hin hsz1 T2.dm (by rw [hes, m2]; rcases two with ⟨e, e2⟩ | ⟨e, e2⟩ <;> omega) nd1 is1 ld1 (by rw [hlen]; exact hfew) h1' h2' h3' (by rw [hlen]; exact h4') ?_
          intro h2 L2 es2 ep2 t3 sb2 R2 pm2
          exact wpAny_pure (hQ true h2 L2 es2 ep2 t3 (sb.trans sb2) R2 (fun z => absurd z hm) fun _ => pm2.trans pm)
        rcases two with ⟨_, e2⟩ | ⟨_, e2⟩
        · exact lay 31 (by rw [e2, size_20]) (.inr (.inl rfl)) (by rw [e2, size_20]; decide) (by omega)
        · exact lay 127 (by rw [e2, size_76]) (.inr (.inr rfl)) (by rw [e2, size_76]; decide) (by omega)
      · refine wp_if_neg (by simp [hf]) ?_
        refine wpAny_pure (hQ true h1 L1 es1 (ep + 1) t2 sb ⟨⟨_, ho1, ⟨hex.1, hex.2.1, hex.2.2⟩, rfl⟩, hin, T2, nd1, is1, ld1, ?_, by rw [hlen]; exact hfew⟩ (fun z => absurd z hm) fun _ => pm)
        have h := hf
        unfold SetTable.tooFull at h
        rw [decide_eq_true_eq, f2] at h
        simp only [hsK, List.length_map] at h
        rw [hlen]
        omega
    have g1 := go t1 q3 q4 q5 q9 rfl
    have g2 := go { t1 with plain := false } (tabOk_flag q3 false) q4 q5 q9 rfl
    by_cases hp1 : t1.plain = true
    · refine wp_if_pos hp1 (wpAny_bind ?_)
      refine byval_key _ _ 8 _ _ _ _ hx.key hx.dp fun bv => ?_
      cases bv with
      | true => simp only [if_true]; exact g1
      | false => simp only [Bool.false_eq_true, if_false]; exact g2
    · refine wp_if_neg hp1 (wpAny_bind (wpAny_pure ?_))
      simp only [if_true]
      exact g1
end
end PP
end

section
set_option linter.all false
set_option autoImplicit false
set_option maxRecDepth 100000
set_option maxHeartbeats 4000000
set_option Elab.async false
/-! set(xs), a list or a tuple of nested keys; sorted and len of such a set. -/
namespace PP
open PySem PySem.Spec PyProof.Rows L2
/-- what the set has of the first i items -/
structure Has (ks : Ks) (i : Nat) (L : Ks) : Prop where
  sub : ∀ p ∈ L, p ∈ ks.take i
  all : ∀ p ∈ ks.take i, p.2 ∈ L.map (·.2)
  len : L.length ≤ i
theorem Has.zero (ks : Ks) : Has ks 0 [] := ⟨(fun p h => by cases h), (fun p h => by simp at h), Nat.le_refl _⟩
theorem take_snoc {α : Type} {l : List α} {i : Nat} {x : α} (h : l[i]? = some x) : l.take (i + 1) = l.take i ++ [x] := by rw [List.take_succ, h]; rfl
theorem Has.old {ks L : Ks} {i : Nat} {x : Value × NestedKey} (g : Has ks i L) (h : ks[i]? = some x) (hm : x.2 ∈ L.map (·.2)) : Has ks (i + 1) L := by
  refine ⟨fun p hp => ?_, fun p hp => ?_, Nat.le_succ_of_le g.len⟩
  · rw [take_snoc h]; exact List.mem_append_left _ (g.sub p hp)
  · rw [take_snoc h] at hp
    rcases List.mem_append.mp hp with z | z
    · exact g.all p z
    · rw [List.mem_singleton.mp z]; exact hm
theorem Has.new {ks L L' : Ks} {i : Nat} {x : Value × NestedKey} (g : Has ks i L) (h : ks[i]? = some x) (pm : L'.Perm (x :: L)) : Has ks (i + 1) L' := by
  refine ⟨fun p hp => ?_, fun p hp => ?_, by rw [pm.length_eq, List.length_cons]; exact Nat.succ_le_succ g.len⟩
  · rw [take_snoc h]
    rcases List.mem_cons.mp (pm.mem_iff.mp hp) with e | z
    · rw [e]; exact List.mem_append_right _ (List.mem_singleton.mpr rfl)
    · exact List.mem_append_left _ (g.sub p z)
  · rw [(pm.map (·.2)).mem_iff, List.map_cons]
    rw [take_snoc h] at hp
    rcases List.mem_append.mp hp with z | z
    · exact List.mem_cons_of_mem _ (g.all p z)
    · rw [List.mem_singleton.mp z]; exact List.mem_cons_self
section
variable {P : Program} {w : World} {A : Around} {E : Value → Shared → Prop} {s : Shared}
theorem SetK.keep {h h' : Heap} {a : Addr} {L : Ks} {es : Array (Int × Value)} {ep : Nat} {t : SetTable} (R : SetK w h a L es ep t) (ha : ∀ o, h.get? a = some o → h'.get? a = some o) (ht : ∀ p ∈ L, IsK h' p.2 p.1) : SetK w h' a L es ep t := by
  obtain ⟨o, ho, r⟩ := R.ob
  exact ⟨⟨o, ha o ho, r⟩, R.rows, R.tab, R.nd, ht, R.led, R.room, R.few⟩
abbrev newSet (w : World) : Obj := { cls := .type "set", dict := none, data := .set #[] 0 (.fresh 0 0 (!w.params.followText "set-order")) }
theorem setK_fresh {h : Heap} {a : Addr} (ho : h.get? a = some (newSet w)) : SetK w h a [] #[] 0 (.fresh 0 0 (!w.params.followText "set-order")) where
  ob := ⟨_, ho, ⟨rfl, rfl, rfl⟩, rfl⟩
  rows := rfl
  tab := ⟨List.Pairwise.nil, rfl, rfl, .inl rfl, fun x hx => (by cases hx), fun i h j hi => (by simp [hsK] at hi)⟩
  nd := List.nodup_nil
  is := fun p hp => nomatch hp
  led := by
    show _ ∨ (!w.params.followText "set-order") = true
    cases w.params.followText "set-order"
    · exact .inr rfl
    · exact .inl rfl
  room := by show 0 * 5 < 7 * 3; decide
  few := by show 0 < 64; decide
theorem fill_loop {I : Addr} {fp wr : List Addr} {G : Array GenState → Array GenState → Prop} {n : Nat} {Pv : Nat → Value → Prop} {St : Nat → Shared → Prop} {R : Result → Shared → Prop}
    (W : WalksS P w A.in1 I fp wr G n Pv St) (S : Addr) (hSf : S ∉ fp) (ks : Ks) (hn : n = ks.length) (hfew : ks.length < 64) (hval : ∀ i v, Pv i v → ∃ p, ks[i]? = some p ∧ v = p.1)
    (h0 : Heap) (hk : ∀ p ∈ ks, IsK h0 p.2 p.1) (hS0 : h0.get? S = none) (hw0 : ∀ b ∈ wr, h0.get? b = none) (hu : A.in1.units + 8 < cLine) :
    ∀ (k i : Nat) (s : Shared), n - i = k → i ≤ n → St i s → (∀ b o, h0.get? b = some o → s.heap.get? b = some o) → (∃ L es ep t, SetK w s.heap S L es ep t ∧ Has ks i L) →
      (∀ s' L es ep t, Moved (S :: wr) G s s' → SetK w s'.heap S L es ep t → Has ks n L → (∀ b o, h0.get? b = some o → s'.heap.get? b = some o) → R (.ok (.ret .none)) s') →
      codeAny (model P w) A (.builtin "set.update.loop" ⟨[.ref S, .ref I], []⟩) R s := by
  have hSw : S ∉ wr := fun h => hSf (W.sub _ h)
  have wider : ∀ b ∈ wr, b ∈ S :: wr := fun b hb => List.mem_cons_of_mem _ hb
  have stays : ∀ {s s' : Shared}, Moved wr G s s' → (∀ b o, h0.get? b = some o → s.heap.get? b = some o) → ∀ b o, h0.get? b = some o → s'.heap.get? b = some o := fun hm hkp b o e =>
    hm.heap b o (fun hb => by rw [hw0 b hb] at e; cases e) (hkp b o e)
  intro k
  induction k with
  | zero =>
    intro i s hk' hi hst hkp ⟨L, es, ep, t, hS, g⟩ hR
    obtain rfl : i = n := by omega
    refine codeAny_builtin F.entry_set_update_loop ?_
    rw [Around.under_plainId F.plain_set_update_loop _]
    show wpAny _ A.in1 (pyNext (.ref I) >>= _) _ _ s
    refine wpAny_bind (W.done s _ _ hst fun s' hm => ?_)
    show wpAny _ A.in1 (ret Value.none) _ _ s'
    have kp := stays hm hkp
    exact wpAny_pure (hR s' L es ep t (hm.mono wider) (hS.keep (fun o e => hm.heap S o hSw e) fun p hp => (hk p (List.mem_of_mem_take (g.sub p hp))).keep kp) g kp)
  | succ k ih =>
    intro i s hk' hi hst hkp ⟨L, es, ep, t, hS, g⟩ hR
    have hlt : i < n := by omega
    refine codeAny_builtin F.entry_set_update_loop ?_
    rw [Around.under_plainId F.plain_set_update_loop _]
    show wpAny _ A.in1 (pyNext (.ref I) >>= _) _ _ s
    refine wpAny_bind (W.item i s _ _ hlt hst fun v s' hP hst' hm => ?_)
    obtain ⟨p, hp, rfl⟩ := hval i v hP
    have kp := stays hm hkp
    have hS' : SetK w s'.heap S L es ep t := hS.keep (fun o e => hm.heap S o hSw e) fun q hq => (hk q (List.mem_of_mem_take (g.sub q hq))).keep kp
    have hx : IsK s'.heap p.2 p.1 := (hk p (List.mem_of_getElem? hp)).keep kp
    show wpAny _ A.in1 (holding [p.1] (setAdd S p.1) >>= _) _ _ s'
    refine wpAny_bind (wpAny_holding ?_)
    unfold setAdd
    refine wpAny_holding ?_
    have hdp := hx.dp
    refine wpAny_bind (pyHash_key p.2 p.1 _ _ _ hx.key (by omega) ?_)
    refine key_add (s := { s' with toks := s'.toks + p.2.draws }) hS' hx hu (by have := g.len; omega) fun b h' L' es' ep' t' hsb hS2 c1 c2 => ?_
    have g' : Has ks (i + 1) L' := by
      rcases Classical.em (p.2 ∈ L.map (·.2)) with c | c
      · rw [c1 c]; exact g.old hp c
      · exact g.new hp (c2 c)
    have kp2 : ∀ b o, h0.get? b = some o → h'.get? b = some o := fun b o e => (hsb.2 b (fun z => by rw [z, hS0] at e; cases e)).trans (kp b o e)
    refine wpAny_pure ⟨plainId_quiet F.plain_set_update_loop _, ih (i + 1) _ (by omega) hlt (W.frame _ s' _ _ hst' (Nat.le_add_right _ _) fun b hb o e => (hsb.2 b (fun h : b = S => hSf (by rw [← h]; exact hb))).trans e) kp2 ⟨L', es', ep', t', hS2, g'⟩ fun s'' L2 es2 ep2 t2 hm'' hS'' g'' kp'' => ?_⟩
    exact hR s'' L2 es2 ep2 t2 (Moved.trans W.gtrans ((hm.mono wider).then_heap (Nat.le_add_right _ _) fun b o hb e => (hsb.2 b (fun h : b = S => hb (by rw [h]; exact List.mem_cons_self))).trans e) hm'') hS'' g'' kp''

theorem call_set_run {l : Addr} {items : Array Value} {T : String} {ol : Obj} {nl : Nat} {Post : Shared → Prop} {Q : Value → Shared → Prop} (hol : s.heap.get? l = some ol) (hcl : ol.cls = .type T) (hdl : ol.data = .seq items nl) (hTT : T = "list" ∨ T = "tuple")
    (hsls : isSubtype (.type T) (.type "set") = pure false) (hslf : isSubtype (.type T) (.type "frozenset") = pure false) (hne : (Value.type T == Value.type "dict") = false)
    (hloop : ∀ (IT : String) (R : Result → Shared → Prop), IT = T ++ "_iterator" → (∀ s3, Post s3 → R (.ok (.ret .none)) s3) → codeAny (model P w) A.in1.in1 (.builtin "set.update.loop" ⟨[.ref s.heap.objs.size, .ref (s.heap.push (newSet w)).objs.size], []⟩) R { s with heap := (s.heap.push (newSet w)).push { cls := .type IT, data := .fields #[.ref l, .int 0 0] } })
    (h : ∀ s3, Post s3 → Q (.ref s.heap.objs.size) s3) :
    wpAny (model P w) A (call (.type "set") [.ref l]) Q E s := by
  obtain ⟨c, tl, hmro⟩ := F.called_set.mro
  have hmade := F.called_set.made
  have hsub := F.called_set.sub
  refine wpAny_call (codeAny_of_tree ?_)
  show wpAny _ _ (callAny (.type "set") _) _ _ _
  refine wpAny_pure ⟨Code.quiet_builtin _ (by decide +kernel), codeAny_builtin F.entry_type_call ?_⟩
  rw [Around.under_plain (weight_type_call_type "set" [.ref l] []) rfl]
  have h1 := F.called_set.notType
  have h2 := F.called_set.canCreate
  have hct := F.typeCall_set_1 (.ref l)
  repeat (any_goals (first | assumption | wp_step))
  refine codeAny_mono (code_set_led1 (.ref l) (E := E) (Q₁ := fun obj s₁ => obj = .ref s.heap.objs.size ∧ s₁ = { s with heap := s.heap.push (newSet w) }) ⟨rfl, rfl⟩) fun r s₁ hr => ?_
  cases r with
  | error e => exact hr
  | ok fl =>
    cases fl with
    | ret obj =>
      obtain ⟨rfl, rfl⟩ := hr
      have hS : (s.heap.push (newSet w)).get? s.heap.objs.size = some (newSet w) := Heap.get?_push_size _ rfl
      have hT : Shared.TypeIs { s with heap := s.heap.push (newSet w) } (.ref s.heap.objs.size) "set" := ⟨_, hS, rfl⟩
      have hli := F.called_set.init.lookup
      have hbi := F.called_set.init.bind (.ref s.heap.objs.size)
      repeat (any_goals (first | assumption | wp_step))
      refine codeAny_mono (codeAny_call_builtin (R := wants (fun r s₂ => r = .none ∧ Post s₂) E) F.called_set.init.plain F.entry_set_init (check_set_init_1 hT ?_)) fun r₂ s₂ hr₂ => ?_
      · obtain ⟨ocls, odict, odata, oslots⟩ := ol
        simp only at hcl hdl
        subst hcl; subst hdl
        have hol' : (s.heap.push (newSet w)).get? l = some { cls := .type T, dict := odict, data := .seq items nl, slots := oslots } := Heap.get?_push_of_some _ hol
        have hz1 : (s.heap.push (newSet w)).objs.size = s.heap.objs.size + 1 := Heap.size_push ..
        have kpp : ∀ b o, s.heap.get? b = some o → (s.heap.push (newSet w)).get? b = some o := fun b o e => Heap.get?_push_of_some _ e
        have hlS : l < s.heap.objs.size := Heap.lt_size hol
        generalize hH1 : s.heap.push (newSet w) = H1 at hS hT hol' hz1 kpp ⊢
        unfold Builtin.«set.__init__» noKeywords Builtin.Frozenset.updateFrom
        generalize hPI : pyIter = PI
        wp_walk
        subst hPI
        rcases hTT with rfl | rfl
        · have hl1 : H1.IsList l items := ⟨_, hol', rfl, nl, rfl⟩
          refine wpAny_pyIter_list hl1 ?_
          refine wpAny_bind (wpAny_runValue ?_)
          subst hH1
          refine hloop "list_iterator" _ rfl fun s3 hp => ?_
          show wpAny _ _ _ _ _ _
          refine wpAny_pure ?_
          show wpAny _ _ (ret Value.none) _ _ _
          exact wpAny_pure ⟨rfl, hp⟩
        · have hl1 : H1.IsTuple l items := ⟨_, hol', rfl, nl, rfl⟩
          refine wpAny_pyIter_tuple hl1 ?_
          refine wpAny_bind (wpAny_runValue ?_)
          subst hH1
          refine hloop "tuple_iterator" _ rfl fun s3 hp => ?_
          show wpAny _ _ _ _ _ _
          refine wpAny_pure ?_
          show wpAny _ _ (ret Value.none) _ _ _
          exact wpAny_pure ⟨rfl, hp⟩
      · cases r₂ with
        | error e => exact hr₂
        | ok fl₂ =>
          cases fl₂ with
          | ret r =>
            obtain ⟨rfl, hp⟩ := hr₂
            repeat (any_goals (first | assumption | wp_step))
            exact h _ hp
          | _ => exact hr₂.elim
    | _ => exact hr.elim
end
end PP
end

section
set_option linter.all false
set_option autoImplicit false
set_option maxRecDepth 100000
set_option maxHeartbeats 4000000
set_option Elab.async false
/-! set(xs) of nested keys, of ints; of a list or a tuple. -/
namespace PP
open PySem PySem.Spec PyProof.Rows L2
section
variable {P : Program} {w : World} {A : Around} {E : Value → Shared → Prop} {s : Shared}
theorem none_from {h : Heap} {b : Addr} (hb : h.objs.size ≤ b) : h.get? b = none := by
  cases q : h.get? b with
  | none => rfl
  | some o => exact absurd (Nat.lt_of_lt_of_le (Heap.lt_size q) hb) (Nat.lt_irrefl _)
theorem call_set_K {l : Addr} {items : Array Value} {T : String} {ol : Obj} {nl : Nat} (ks : Ks) {Q : Value → Shared → Prop} (hh : A.handled = none) (hol : s.heap.get? l = some ol) (hcl : ol.cls = .type T) (hdl : ol.data = .seq items nl) (hTT : T = "list" ∨ T = "tuple")
    (hit : items.toList = ks.map (·.1)) (hk : ∀ p ∈ ks, IsK s.heap p.2 p.1) (hfew : ks.length < 64) (hu : A.units + 16 < cLine)
    (h : ∀ (h' : Heap) (tk : Nat) L es ep t, SetK w h' s.heap.objs.size L es ep t → Has ks ks.length L → (∀ b o, s.heap.get? b = some o → h'.get? b = some o) → Q (.ref s.heap.objs.size) { s with heap := h', toks := tk }) :
    wpAny (model P w) A (call (.type "set") [.ref l]) Q E s := by
  have hisz : items.size = ks.length := by simpa using congrArg List.length hit
  have hsub : isSubtype (.type T) (.type "set") = pure false ∧ isSubtype (.type T) (.type "frozenset") = pure false ∧ (Value.type T == Value.type "dict") = false := by
    rcases hTT with rfl | rfl
    · exact ⟨F.sub_list_set, F.sub_list_frozenset, by decide⟩
    · exact ⟨F.sub_tuple_set, F.sub_tuple_frozenset, by decide⟩
  refine call_set_run (Post := fun s3 => ∃ h' tk L es ep t, s3 = { s with heap := h', toks := tk } ∧ SetK w h' s.heap.objs.size L es ep t ∧ Has ks ks.length L ∧ (∀ b o, s.heap.get? b = some o → h'.get? b = some o)) hol hcl hdl hTT hsub.1 hsub.2.1 hsub.2.2 (fun IT R eIT hR => ?_) fun s3 ⟨h', tk, L, es, ep, t, e, a1, a2, a3⟩ => by subst e; exact h h' tk L es ep t a1 a2 a3
  have hlS : l < s.heap.objs.size := Heap.lt_size hol
  have hz1 : (s.heap.push (newSet w)).objs.size = s.heap.objs.size + 1 := Heap.size_push ..
  have hS : (s.heap.push (newSet w)).get? s.heap.objs.size = some (newSet w) := Heap.get?_push_size _ rfl
  have kpp : ∀ b o, s.heap.get? b = some o → (s.heap.push (newSet w)).get? b = some o := fun b o e => Heap.get?_push_of_some _ e
  generalize hH1 : s.heap.push (newSet w) = H1 at hz1 hS kpp ⊢
  have hh3 : A.in1.in1.in1.handled = none := by simp [hh]
  have hneI : l ≠ H1.objs.size := by rw [hz1]; exact Nat.ne_of_lt (Nat.lt_succ_of_lt hlS)
  have hSf : s.heap.objs.size ∉ [H1.objs.size, l] := by
    rw [hz1]; simp only [List.mem_cons, List.mem_singleton, List.not_mem_nil, or_false, not_or]; exact ⟨Nat.ne_of_lt (Nat.lt_succ_self _), Nat.ne_of_gt hlS⟩
  have hval : ∀ (i : Nat) (v : Value), items[i]? = some v → ∃ p, ks[i]? = some p ∧ v = p.1 := fun i v hv => by
    have q : items.toList[i]? = some v := by rw [Array.getElem?_toList]; exact hv
    rw [hit, List.getElem?_map] at q
    cases hq : ks[i]? with
    | none => rw [hq] at q; cases q
    | some p => rw [hq] at q; exact ⟨p, rfl, (Option.some.inj q).symm⟩
  have fin : ∀ s' L es ep t, s'.gens = s.gens → s'.drawn = s.drawn → s'.os = s.os → SetK w s'.heap s.heap.objs.size L es ep t → Has ks items.size L → (∀ b o, s.heap.get? b = some o → s'.heap.get? b = some o) → R (.ok (.ret .none)) s' := by
    intro s' L es ep t eg ed eo hS' g' hkp
    obtain ⟨h', g2, d', tk', os'⟩ := s'
    have eg : g2 = s.gens := eg
    have ed : d' = s.drawn := ed
    have eo : os' = s.os := eo
    subst eg; subst ed; subst eo
    rw [hisz] at g'
    exact hR _ ⟨h', tk', L, es, ep, t, rfl, hS', g', hkp⟩
  rcases hTT with rfl | rfl
  · subst eIT
    have hl1 : H1.IsList l items := ⟨ol, kpp _ _ hol, hcl, nl, hdl⟩
    refine fill_loop ((Walks.list hh3 _ l hneI items).toS) s.heap.objs.size
      hSf ks hisz hfew hval s.heap hk (none_from (Nat.le_refl _)) (fun b hb => none_from (by rw [List.mem_singleton.mp hb, hz1]; exact Nat.le_succ _)) (by show A.units + 1 + 1 + 1 + 8 < cLine; omega) (items.size - 0) 0 _ (by omega) (Nat.zero_le _)
      ⟨⟨_, Heap.get?_push_size _ rfl, rfl, rfl⟩, (hl1.push _)⟩ (fun b o e => Heap.get?_push_of_some _ (kpp b o e)) ?hS0 ?hR
    case hS0 => exact ⟨[], #[], 0, _, setK_fresh (Heap.get?_push_of_some _ hS), Has.zero ks⟩
    case hR => exact fun s' L es ep t hm hS' g' hkp => fin s' L es ep t hm.gens hm.drawn hm.os hS' g' hkp
  · subst eIT
    have hl1 : H1.IsTuple l items := ⟨ol, kpp _ _ hol, hcl, nl, hdl⟩
    refine fill_loop ((Walks.tuple hh3 _ l hneI items).toS) s.heap.objs.size
      hSf ks hisz hfew hval s.heap hk (none_from (Nat.le_refl _)) (fun b hb => none_from (by rw [List.mem_singleton.mp hb, hz1]; exact Nat.le_succ _)) (by show A.units + 1 + 1 + 1 + 8 < cLine; omega) (items.size - 0) 0 _ (by omega) (Nat.zero_le _)
      ⟨⟨_, Heap.get?_push_size _ rfl, rfl, rfl⟩, (hl1.push _)⟩ (fun b o e => Heap.get?_push_of_some _ (kpp b o e)) ?hS0 ?hR
    case hS0 => exact ⟨[], #[], 0, _, setK_fresh (Heap.get?_push_of_some _ hS), Has.zero ks⟩
    case hR => exact fun s' L es ep t hm hS' g' hkp => fin s' L es ep t hm.gens hm.drawn hm.os hS' g' hkp
theorem call_set_I {l : Addr} {items : Array Value} {T : String} {ol : Obj} {nl : Nat} (ns : List Int) {Q : Value → Shared → Prop} (hh : A.handled = none) (hol : s.heap.get? l = some ol) (hcl : ol.cls = .type T) (hdl : ol.data = .seq items nl) (hTT : T = "list" ∨ T = "tuple")
    (hit : IntsAre items.toList ns) (hb : ns.length + 1 < scanBound)
    (h : ∀ (h' : Heap) (tk c : Nat), SetR w h' s.heap.objs.size (fun j => decide (j ∈ ns)) c → c ≤ ns.length → (∀ b o, s.heap.get? b = some o → h'.get? b = some o) → Q (.ref s.heap.objs.size) { s with heap := h', toks := tk }) :
    wpAny (model P w) A (call (.type "set") [.ref l]) Q E s := by
  have hisz : items.size = ns.length := by
    have q := IntsAre.length hit
    rw [Array.length_toList] at q
    exact q
  have hsub : isSubtype (.type T) (.type "set") = pure false ∧ isSubtype (.type T) (.type "frozenset") = pure false ∧ (Value.type T == Value.type "dict") = false := by
    rcases hTT with rfl | rfl
    · exact ⟨F.sub_list_set, F.sub_list_frozenset, by decide⟩
    · exact ⟨F.sub_tuple_set, F.sub_tuple_frozenset, by decide⟩
  refine call_set_run (Post := fun s3 => ∃ h' tk c, s3 = { s with heap := h', toks := tk } ∧ SetR w h' s.heap.objs.size (fun j => decide (j ∈ ns)) c ∧ c ≤ ns.length ∧ (∀ b o, s.heap.get? b = some o → h'.get? b = some o)) hol hcl hdl hTT hsub.1 hsub.2.1 hsub.2.2 (fun IT R eIT hR => ?_) fun s3 ⟨h', tk, c, e, a1, a2, a3⟩ => by subst e; exact h h' tk c a1 a2 a3
  have hlS : l < s.heap.objs.size := Heap.lt_size hol
  have hz1 : (s.heap.push (newSet w)).objs.size = s.heap.objs.size + 1 := Heap.size_push ..
  have hS : (s.heap.push (newSet w)).get? s.heap.objs.size = some (newSet w) := Heap.get?_push_size _ rfl
  have kpp : ∀ b o, s.heap.get? b = some o → (s.heap.push (newSet w)).get? b = some o := fun b o e => Heap.get?_push_of_some _ e
  generalize hH1 : s.heap.push (newSet w) = H1 at hz1 hS kpp ⊢
  have hh3 : A.in1.in1.in1.handled = none := by simp [hh]
  have hneI : l ≠ H1.objs.size := by rw [hz1]; exact Nat.ne_of_lt (Nat.lt_succ_of_lt hlS)
  have hSf : s.heap.objs.size ∉ [H1.objs.size, l] := by
    rw [hz1]; simp only [List.mem_cons, List.mem_singleton, List.not_mem_nil, or_false, not_or]; exact ⟨Nat.ne_of_lt (Nat.lt_succ_self _), Nat.ne_of_gt hlS⟩
  have hval : ∀ (i : Nat) (v : Value), items[i]? = some v → ∃ k t, ns[i]? = some k ∧ v = .int k t := fun i v hv => by
    have hi : i < ns.length := by rw [← hisz]; exact (Array.getElem?_eq_some_iff.mp hv).1
    obtain ⟨t, e⟩ := PyProof.Rows.IntsAre.int_at hit i v (by rw [Array.getElem?_toList]; exact hv)
    refine ⟨ns[i], t, List.getElem?_eq_getElem hi, ?_⟩
    rw [e, List.getD_eq_getElem?_getD, List.getElem?_eq_getElem hi] <;> rfl
  rcases hTT with rfl | rfl
  · subst eIT
    have hl1 : H1.IsList l items := ⟨ol, kpp _ _ hol, hcl, nl, hdl⟩
    refine set_update_ints ((Walks.list hh3 _ l hneI items).toS) s.heap.objs.size hSf ns hisz hb hval (items.size - 0) 0 _ (by omega) (Nat.zero_le _)
      ⟨⟨_, Heap.get?_push_size _ rfl, rfl, rfl⟩, (hl1.push _)⟩ ?hS0 ?hR
    case hS0 => exact ⟨0, Nat.le_refl 0, setR_new_at (Heap.get?_push_of_some _ hS)⟩
    case hR =>
      intro s' c' hm hc' hS'
      obtain ⟨h', g2, d', tk', os'⟩ := s'
      have eg : g2 = s.gens := hm.gens
      have ed : d' = s.drawn := hm.drawn
      have eo : os' = s.os := hm.os
      subst eg; subst ed; subst eo
      rw [hisz] at hc'
      refine hR _ ⟨h', tk', c', rfl, hS', hc', fun b o e => ?_⟩
      have hb0 : b < s.heap.objs.size := Heap.lt_size e
      exact hm.heap b o (by simp only [List.mem_cons, List.mem_singleton, List.not_mem_nil, or_false, not_or]; exact ⟨Nat.ne_of_lt hb0, by rw [hz1]; exact Nat.ne_of_lt (Nat.lt_succ_of_lt hb0)⟩) (Heap.get?_push_of_some _ (kpp _ _ e))
  · subst eIT
    have hl1 : H1.IsTuple l items := ⟨ol, kpp _ _ hol, hcl, nl, hdl⟩
    refine set_update_ints ((Walks.tuple hh3 _ l hneI items).toS) s.heap.objs.size hSf ns hisz hb hval (items.size - 0) 0 _ (by omega) (Nat.zero_le _)
      ⟨⟨_, Heap.get?_push_size _ rfl, rfl, rfl⟩, (hl1.push _)⟩ ?hS0 ?hR
    case hS0 => exact ⟨0, Nat.le_refl 0, setR_new_at (Heap.get?_push_of_some _ hS)⟩
    case hR =>
      intro s' c' hm hc' hS'
      obtain ⟨h', g2, d', tk', os'⟩ := s'
      have eg : g2 = s.gens := hm.gens
      have ed : d' = s.drawn := hm.drawn
      have eo : os' = s.os := hm.os
      subst eg; subst ed; subst eo
      rw [hisz] at hc'
      refine hR _ ⟨h', tk', c', rfl, hS', hc', fun b o e => ?_⟩
      have hb0 : b < s.heap.objs.size := Heap.lt_size e
      exact hm.heap b o (by simp only [List.mem_cons, List.mem_singleton, List.not_mem_nil, or_false, not_or]; exact ⟨Nat.ne_of_lt hb0, by rw [hz1]; exact Nat.ne_of_lt (Nat.lt_succ_of_lt hb0)⟩) (Heap.get?_push_of_some _ (kpp _ _ e))
end
end PP
end

section
set_option linter.all false
set_option autoImplicit false
set_option maxRecDepth 100000
set_option maxHeartbeats 1000000
set_option Elab.async false
/-! sorted(set(xs)), len(set(xs)): keys of plain data. -/
namespace PP
open PySem PySem.Spec PyProof.Rows L2
mutual
/-- what a datum is as a member of a set -/
def nk : D → NestedKey
  | .non => .none
  | .bl b => .num (if b then 1 else 0)
  | .int i => .num i
  | .str x => .text x
  | .tup xs => .tup (nks xs)
  | _ => .none
def nks : List D → List NestedKey
  | [] => []
  | x :: xs => nk x :: nks xs
end
theorem nks_map (xs : List D) : nks xs = xs.map nk := by
  induction xs with
  | nil => simp [nks]
  | cons x xs ih => simp [nks, ih]
mutual
theorem nk_dep : ∀ d : D, hshk d = true → (nk d).depth = dep d
  | .bl _, _ => by simp [nk, NestedKey.depth, dep]
  | .int _, _ => by simp [nk, NestedKey.depth, dep]
  | .str _, _ => by simp [nk, NestedKey.depth, dep]
  | .tup xs, h => by
    simp only [hshk] at h
    simp only [nk, NestedKey.depth, dep, nks_dep xs h]
  | .non, h => by simp [hshk] at h
  | .lst _, h => by simp [hshk] at h
  | .dct _, h => by simp [hshk] at h
  | .cel _, h => by simp [hshk] at h
  | .frz _, h => by simp [hshk] at h
  | .tpn _, h => by simp [hshk] at h
theorem nks_dep : ∀ xs : List D, hshks xs = true → NestedKey.depthAll (nks xs) = deps xs
  | [], _ => by simp [nks, NestedKey.depthAll, deps]
  | x :: xs, h => by
    simp only [hshks, Bool.and_eq_true] at h
    simp only [nks, NestedKey.depthAll, deps, nk_dep x h.1, nks_dep xs h.2]
end
mutual
/-- alike data of one key are one -/
theorem nk_inj : ∀ x y : D, PySem.W.alike (toPy x) (toPy y) = true → hshk x = true → hshk y = true → nk x = nk y → x = y
  | .bl a, .bl b, h, hx, hy, e => by
    simp only [nk, NestedKey.num.injEq] at e
    cases a <;> cases b <;> first | rfl | (simp at e)
  | .int a, .int b, h, hx, hy, e => by
    simp only [nk, NestedKey.num.injEq] at e; rw [e]
  | .str a, .str b, h, hx, hy, e => by
    simp only [nk, NestedKey.text.injEq] at e; rw [e]
  | .tup xs, .tup ys, h, hx, hy, e => by
    simp only [nk, NestedKey.tup.injEq] at e
    simp only [toPy, PySem.W.alike] at h
    simp only [hshk] at hx hy
    rw [nks_inj xs ys h hx hy e]
  | .bl _, .non, h, hx, hy, e => by simp [toPy, PySem.W.alike] at h
  | .bl _, .int _, h, hx, hy, e => by simp [toPy, PySem.W.alike] at h
  | .bl _, .str _, h, hx, hy, e => by simp [toPy, PySem.W.alike] at h
  | .bl _, .lst _, h, hx, hy, e => by simp [toPy, PySem.W.alike] at h
  | .bl _, .tup _, h, hx, hy, e => by simp [toPy, PySem.W.alike] at h
  | .bl _, .dct _, h, hx, hy, e => by simp [toPy, PySem.W.alike] at h
  | .bl _, .cel _, h, hx, hy, e => by simp [toPy, PySem.W.alike] at h
  | .bl _, .frz _, h, hx, hy, e => by simp [toPy, PySem.W.alike] at h
  | .bl _, .tpn _, h, hx, hy, e => by simp [toPy, PySem.W.alike] at h
  | .int _, .non, h, hx, hy, e => by simp [toPy, PySem.W.alike] at h
  | .int _, .bl _, h, hx, hy, e => by simp [toPy, PySem.W.alike] at h
  | .int _, .str _, h, hx, hy, e => by simp [toPy, PySem.W.alike] at h
  | .int _, .lst _, h, hx, hy, e => by simp [toPy, PySem.W.alike] at h
  | .int _, .tup _, h, hx, hy, e => by simp [toPy, PySem.W.alike] at h
  | .int _, .dct _, h, hx, hy, e => by simp [toPy, PySem.W.alike] at h
  | .int _, .cel _, h, hx, hy, e => by simp [toPy, PySem.W.alike] at h
  | .int _, .frz _, h, hx, hy, e => by simp [toPy, PySem.W.alike] at h
  | .int _, .tpn _, h, hx, hy, e => by simp [toPy, PySem.W.alike] at h
  | .str _, .non, h, hx, hy, e => by simp [toPy, PySem.W.alike] at h
  | .str _, .bl _, h, hx, hy, e => by simp [toPy, PySem.W.alike] at h
  | .str _, .int _, h, hx, hy, e => by simp [toPy, PySem.W.alike] at h
  | .str _, .lst _, h, hx, hy, e => by simp [toPy, PySem.W.alike] at h
  | .str _, .tup _, h, hx, hy, e => by simp [toPy, PySem.W.alike] at h
  | .str _, .dct _, h, hx, hy, e => by simp [toPy, PySem.W.alike] at h
  | .str _, .cel _, h, hx, hy, e => by simp [toPy, PySem.W.alike] at h
  | .str _, .frz _, h, hx, hy, e => by simp [toPy, PySem.W.alike] at h
  | .str _, .tpn _, h, hx, hy, e => by simp [toPy, PySem.W.alike] at h
  | .tup _, .non, h, hx, hy, e => by simp [toPy, PySem.W.alike] at h
  | .tup _, .bl _, h, hx, hy, e => by simp [toPy, PySem.W.alike] at h
  | .tup _, .int _, h, hx, hy, e => by simp [toPy, PySem.W.alike] at h
  | .tup _, .str _, h, hx, hy, e => by simp [toPy, PySem.W.alike] at h
  | .tup _, .lst _, h, hx, hy, e => by simp [toPy, PySem.W.alike] at h
  | .tup _, .dct _, h, hx, hy, e => by simp [toPy, PySem.W.alike] at h
  | .tup _, .cel _, h, hx, hy, e => by simp [toPy, PySem.W.alike] at h
  | .tup _, .frz _, h, hx, hy, e => by simp [toPy, PySem.W.alike] at h
  | .tup _, .tpn _, h, hx, hy, e => by simp [toPy, PySem.W.alike] at h
  | .non, y, h, hx, hy, e => by simp [hshk] at hx
  | .lst _, y, h, hx, hy, e => by simp [hshk] at hx
  | .dct _, y, h, hx, hy, e => by simp [hshk] at hx
  | .cel _, y, h, hx, hy, e => by simp [hshk] at hx
  | .frz _, y, h, hx, hy, e => by simp [hshk] at hx
  | .tpn _, y, h, hx, hy, e => by simp [hshk] at hx
theorem nks_inj : ∀ xs ys : List D, PySem.W.alikeAll (toPys xs) (toPys ys) = true → hshks xs = true → hshks ys = true → nks xs = nks ys → xs = ys
  | [], [], _, _, _, _ => rfl
  | [], _ :: _, _, _, _, e => by simp [nks] at e
  | _ :: _, [], _, _, _, e => by simp [nks] at e
  | x :: xs, y :: ys, h, hx, hy, e => by
    simp only [toPys, PySem.W.alikeAll, Bool.and_eq_true] at h
    simp only [hshks, Bool.and_eq_true] at hx hy
    simp only [nks, List.cons.injEq] at e
    rw [nk_inj x y h.1 hx.1 hy.1 e.1, nks_inj xs ys h.2 hx.2 hy.2 e.2]
end
section
variable {X : Cx} {pins : List (Addr × Obj)} {σ : L2.St} {H : Hp} {s : Shared}
mutual
theorem nested_of (I : Inv X pins σ H s) {im : Hp} {am : List Addr} (hs : Same im H) : ∀ (d : D) (x : V) (u : Value), hshk d = true → Rp X.K im am d x → RelV x u → NestedIs s.heap (nk d) u
  | .bl b, x, u, h, r, v => by cases r; cases v; exact .bool rfl
  | .int i, x, u, h, r, v => by cases r; obtain ⟨t, rfl⟩ := v; exact .int i t
  | .str z, x, u, h, r, v => by cases r; obtain ⟨t, rfl⟩ := v; exact .text z t
  | .tup xs, x, u, h, r, v => by
    cases r with
    | tup q1 q2 =>
      obtain rfl := v
      obtain ⟨its, rv, ⟨o, ho, hc, n, hd⟩, hz⟩ := I.tuple (Same.seqT hs q1)
      simp only [hshk] at h
      simp only [nk]
      exact .tup ho hc hd (by simpa using nesteds_of I hs xs _ its h q2 rv)
  | .non, x, u, h, r, v => by simp [hshk] at h
  | .lst _, x, u, h, r, v => by simp [hshk] at h
  | .dct _, x, u, h, r, v => by simp [hshk] at h
  | .cel _, x, u, h, r, v => by simp [hshk] at h
  | .frz _, x, u, h, r, v => by simp [hshk] at h
  | .tpn _, x, u, h, r, v => by simp [hshk] at h
theorem nesteds_of (I : Inv X pins σ H s) {im : Hp} {am : List Addr} (hs : Same im H) : ∀ (ds : List D) (vs : List V) (us : List Value), hshks ds = true → RpAll X.K im am ds vs → Vals vs us → NestedAll s.heap (nks ds) us
  | [], _, _, _, r, v => by cases r; cases v; exact .nil
  | d :: ds, _, _, h, r, v => by
    simp only [hshks, Bool.and_eq_true] at h
    cases r with
    | cons r1 r2 => cases v with
      | cons v1 v2 => simp only [nks]; exact .cons (nested_of I hs d _ _ h.1 r1 v1) (nesteds_of I hs ds _ _ h.2 r2 v2)
end
end
end PP
end

section
/-! two sorted lists of the same members are one (plain; to be used for sets) -/
set_option autoImplicit false
theorem sorted_uniq {α : Type} {le : α → α → Bool} : ∀ {l m : List α}, (∀ x ∈ l, ∀ y ∈ l, le x y = true → le y x = true → x = y) → l.Pairwise (fun a b => le a b = true) → m.Pairwise (fun a b => le a b = true) → l.Nodup → m.Nodup → (∀ x, x ∈ l ↔ x ∈ m) → l = m
  | [], m, _, _, _, _, _, h => by
    cases m with
    | nil => rfl
    | cons y m => exact absurd ((h y).mpr List.mem_cons_self) (by simp)
  | x :: l, m, anti, hl, hm, nl, nm, h => by
    cases m with
    | nil => exact absurd ((h x).mp List.mem_cons_self) (by simp)
    | cons y m =>
      rw [List.pairwise_cons] at hl hm
      rw [List.nodup_cons] at nl nm
      have e : x = y := by
        rcases List.mem_cons.mp ((h x).mp List.mem_cons_self) with e | h1
        · exact e
        · rcases List.mem_cons.mp ((h y).mpr List.mem_cons_self) with e | h2
          · exact e.symm
          · exact anti x List.mem_cons_self y (List.mem_cons_of_mem _ h2) (hl.1 y h2) (hm.1 x h1)
      subst e
      congr 1
      refine sorted_uniq (fun a ha b hb => anti a (List.mem_cons_of_mem _ ha) b (List.mem_cons_of_mem _ hb)) hl.2 hm.2 nl.2 nm.2 fun z => ?_
      constructor
      · intro hz
        rcases List.mem_cons.mp ((h z).mp (List.mem_cons_of_mem _ hz)) with e | h1
        · exact absurd (e ▸ hz) nl.1
        · exact h1
      · intro hz
        rcases List.mem_cons.mp ((h z).mpr (List.mem_cons_of_mem _ hz)) with e | h1
        · exact absurd (e ▸ hz) nm.1
        · exact h1
end

section
set_option linter.all false
set_option autoImplicit false
set_option maxRecDepth 100000
set_option maxHeartbeats 1000000
set_option Elab.async false
/-! the members of a set, sorted (plain) -/
namespace PP
open PySem PySem.Spec PyProof.Rows L2
mutual
theorem eqD_nk : ∀ x y : D, hshk x = true → hshk y = true → (eqD x y = true ↔ nk x = nk y)
  | .bl a, .bl b, _, _ => by cases a <;> cases b <;> simp [eqD, nk]
  | .bl a, .int b, _, _ => by simp [eqD, nk]
  | .int a, .bl b, _, _ => by simp [eqD, nk]
  | .int a, .int b, _, _ => by simp [eqD, nk]
  | .str a, .str b, _, _ => by simp [eqD, nk]
  | .tup xs, .tup ys, hx, hy => by
    simp only [hshk] at hx hy
    simp only [eqD, nk, NestedKey.tup.injEq]
    exact eqDs_nk xs ys hx hy
  | .bl _, .str _, _, _ => by simp [eqD, nk]
  | .bl _, .tup _, _, _ => by simp [eqD, nk]
  | .int _, .str _, _, _ => by simp [eqD, nk]
  | .int _, .tup _, _, _ => by simp [eqD, nk]
  | .str _, .bl _, _, _ => by simp [eqD, nk]
  | .str _, .int _, _, _ => by simp [eqD, nk]
  | .str _, .tup _, _, _ => by simp [eqD, nk]
  | .tup _, .bl _, _, _ => by simp [eqD, nk]
  | .tup _, .int _, _, _ => by simp [eqD, nk]
  | .tup _, .str _, _, _ => by simp [eqD, nk]
  | .non, _, h, _ => by simp [hshk] at h
  | .lst _, _, h, _ => by simp [hshk] at h
  | .dct _, _, h, _ => by simp [hshk] at h
  | .cel _, _, h, _ => by simp [hshk] at h
  | .frz _, _, h, _ => by simp [hshk] at h
  | .tpn _, _, h, _ => by simp [hshk] at h
  | _, .non, _, h => by simp [hshk] at h
  | _, .lst _, _, h => by simp [hshk] at h
  | _, .dct _, _, h => by simp [hshk] at h
  | _, .cel _, _, h => by simp [hshk] at h
  | _, .frz _, _, h => by simp [hshk] at h
  | _, .tpn _, _, h => by simp [hshk] at h
theorem eqDs_nk : ∀ xs ys : List D, hshks xs = true → hshks ys = true → (eqDs xs ys = true ↔ nks xs = nks ys)
  | [], [], _, _ => by simp [eqDs, nks]
  | [], _ :: _, _, _ => by simp [eqDs, nks]
  | _ :: _, [], _, _ => by simp [eqDs, nks]
  | x :: xs, y :: ys, hx, hy => by
    simp only [hshks, Bool.and_eq_true] at hx hy
    simp only [eqDs, nks, Bool.and_eq_true, List.cons.injEq, eqD_nk x y hx.1 hy.1, eqDs_nk xs ys hx.2 hy.2]
end
mutual
theorem eqv_eq : ∀ x y : D, PySem.W.alike (toPy x) (toPy y) = true → hshk x = true → hshk y = true → PyData.eqv (toPy x) (toPy y) = true → x = y
  | .bl a, .bl b, _, _, _, e => by simp [toPy, PyData.eqv] at e; rw [e]
  | .int a, .int b, _, _, _, e => by simp [toPy, PyData.eqv] at e; rw [e]
  | .str a, .str b, _, _, _, e => by simp [toPy, PyData.eqv] at e; rw [e]
  | .tup xs, .tup ys, h, hx, hy, e => by
    simp only [toPy, PySem.W.alike] at h
    simp only [hshk] at hx hy
    simp only [toPy, PyData.eqv] at e
    rw [eqvs_eq xs ys h hx hy e]
  | .bl _, .int _, h, _, _, _ => by simp [toPy, PySem.W.alike] at h
  | .int _, .bl _, h, _, _, _ => by simp [toPy, PySem.W.alike] at h
  | .bl _, .str _, h, _, _, _ => by simp [toPy, PySem.W.alike] at h
  | .bl _, .tup _, h, _, _, _ => by simp [toPy, PySem.W.alike] at h
  | .int _, .str _, h, _, _, _ => by simp [toPy, PySem.W.alike] at h
  | .int _, .tup _, h, _, _, _ => by simp [toPy, PySem.W.alike] at h
  | .str _, .bl _, h, _, _, _ => by simp [toPy, PySem.W.alike] at h
  | .str _, .int _, h, _, _, _ => by simp [toPy, PySem.W.alike] at h
  | .str _, .tup _, h, _, _, _ => by simp [toPy, PySem.W.alike] at h
  | .tup _, .bl _, h, _, _, _ => by simp [toPy, PySem.W.alike] at h
  | .tup _, .int _, h, _, _, _ => by simp [toPy, PySem.W.alike] at h
  | .tup _, .str _, h, _, _, _ => by simp [toPy, PySem.W.alike] at h
  | .non, _, _, h, _, _ => by simp [hshk] at h
  | .lst _, _, _, h, _, _ => by simp [hshk] at h
  | .dct _, _, _, h, _, _ => by simp [hshk] at h
  | .cel _, _, _, h, _, _ => by simp [hshk] at h
  | .frz _, _, _, h, _, _ => by simp [hshk] at h
  | .tpn _, _, _, h, _, _ => by simp [hshk] at h
  | _, .non, _, _, h, _ => by simp [hshk] at h
  | _, .lst _, _, _, h, _ => by simp [hshk] at h
  | _, .dct _, _, _, h, _ => by simp [hshk] at h
  | _, .cel _, _, _, h, _ => by simp [hshk] at h
  | _, .frz _, _, _, h, _ => by simp [hshk] at h
  | _, .tpn _, _, _, h, _ => by simp [hshk] at h
theorem eqvs_eq : ∀ xs ys : List D, PySem.W.alikeAll (toPys xs) (toPys ys) = true → hshks xs = true → hshks ys = true → PyData.eqvAll (toPys xs) (toPys ys) = true → xs = ys
  | [], [], _, _, _, _ => rfl
  | [], _ :: _, _, _, _, e => by simp [toPys, PyData.eqvAll] at e
  | _ :: _, [], _, _, _, e => by simp [toPys, PyData.eqvAll] at e
  | x :: xs, y :: ys, h, hx, hy, e => by
    simp only [toPys, PySem.W.alikeAll, Bool.and_eq_true] at h
    simp only [hshks, Bool.and_eq_true] at hx hy
    simp only [toPys, PyData.eqvAll, Bool.and_eq_true] at e
    rw [eqv_eq x y h.1 hx.1 hy.1 e.1, eqvs_eq xs ys h.2 hx.2 hy.2 e.2]
end
theorem lex_snoc {O : KeyOrd} (t : O.α) : ∀ l : List O.α, lexLt O l (l ++ [t]) = true
  | [] => rfl
  | x :: l => by rw [List.cons_append, lex_self]; exact lex_snoc t l
theorem toks_inj {x y : PyData} (h : PySem.W.alike x y = true) (e : PySem.W.keyToks x = PySem.W.keyToks y) : PyData.eqv x y = true := by
  cases c : PyData.eqv x y with
  | true => rfl
  | false =>
    have q := (PySem.W.toks_eqv x y h).2 c [] [Sum.inl 0]
    rw [e, List.append_nil, lex_snoc, lex_irrefl] at q
    exact absurd q (by simp)
theorem le_anti {a b : D} (hal : PySem.W.alike (toPy a) (toPy b) = true) (ha : hshk a = true) (hb : hshk b = true) (h1 : PySem.W.dataLe false toPy a b = true) (h2 : PySem.W.dataLe false toPy b a = true) : a = b := by
  refine eqv_eq a b hal ha hb (toks_inj hal ?_)
  have h1 : (!lexLt itemOrd (PySem.W.keyToks (toPy b)) (PySem.W.keyToks (toPy a))) = true := h1
  have h2 : (!lexLt itemOrd (PySem.W.keyToks (toPy a)) (PySem.W.keyToks (toPy b))) = true := h2
  rw [Bool.not_eq_true'] at h1 h2
  exact lex_total _ _ h2 h1
theorem dedup_sub : ∀ xs : List D, ∀ y ∈ dedup xs, y ∈ xs
  | [], y, h => by simp [dedup] at h
  | x :: xs, y, h => by
    rw [dedup] at h
    rcases List.mem_cons.mp h with e | h
    · exact e ▸ List.mem_cons_self
    · exact List.mem_cons_of_mem _ (dedup_sub xs y (List.mem_filter.mp h).1)
theorem hshks_all (xs : List D) : hshks xs = xs.all hshk := by
  induction xs with
  | nil => simp [hshks]
  | cons x xs ih => simp [hshks, ih]
theorem dedup_nd : ∀ xs : List D, (∀ x ∈ xs, hshk x = true) → ((dedup xs).map nk).Nodup
  | [], _ => by simp [dedup]
  | x :: xs, h => by
    rw [dedup, List.map_cons, List.nodup_cons]
    have ih := dedup_nd xs fun y hy => h y (List.mem_cons_of_mem _ hy)
    refine ⟨fun hm => ?_, (List.filter_sublist.map nk).nodup ih⟩
    obtain ⟨y, hy, e⟩ := List.mem_map.mp hm
    obtain ⟨h1, h2⟩ := List.mem_filter.mp hy
    have q := (eqD_nk x y (h x List.mem_cons_self) (h y (List.mem_cons_of_mem _ (dedup_sub xs y h1)))).mpr e.symm
    rw [q] at h2
    exact absurd h2 (by simp)
theorem dedup_all : ∀ xs : List D, (∀ x ∈ xs, hshk x = true) → ∀ y ∈ xs, nk y ∈ (dedup xs).map nk
  | [], _, y, h => by cases h
  | x :: xs, h, y, hy => by
    rw [dedup, List.map_cons]
    by_cases e : nk y = nk x
    · rw [e]; exact List.mem_cons_self
    · refine List.mem_cons_of_mem _ ?_
      rcases List.mem_cons.mp hy with e2 | hy
      · exact absurd (by rw [e2]) e
      obtain ⟨z, hz, ez⟩ := List.mem_map.mp (dedup_all xs (fun y hy => h y (List.mem_cons_of_mem _ hy)) y hy)
      refine List.mem_map.mpr ⟨z, List.mem_filter.mpr ⟨hz, ?_⟩, ez⟩
      cases c : eqD x z with
      | false => rfl
      | true => exact absurd (ez.symm.trans ((eqD_nk x z (h x List.mem_cons_self) (h z (List.mem_cons_of_mem _ (dedup_sub xs z hz)))).mp c).symm) e
/-- what a set of ds has, by its members bs -/
structure Mem (ds bs : List D) : Prop where
  nd : (bs.map nk).Nodup
  sub : ∀ b ∈ bs, b ∈ ds
  all : ∀ d ∈ ds, nk d ∈ bs.map nk
theorem Mem.dedup {ds : List D} (h : ∀ x ∈ ds, hshk x = true) : Mem ds (dedup ds) := ⟨dedup_nd ds h, dedup_sub ds, dedup_all ds h⟩
theorem Mem.len {ds bs cs : List D} (h : Mem ds bs) (g : Mem ds cs) : bs.length = cs.length := by
  have p : (bs.map nk).Perm (cs.map nk) := (List.perm_ext_iff_of_nodup h.nd g.nd).mpr fun k => by
    constructor
    · intro hk
      obtain ⟨b, hb, rfl⟩ := List.mem_map.mp hk
      exact g.all b (h.sub b hb)
    · intro hk
      obtain ⟨b, hb, rfl⟩ := List.mem_map.mp hk
      exact h.all b (g.sub b hb)
  have := p.length_eq
  simpa using this
theorem insD_perm (le : D → D → Bool) (x : D) : ∀ l : List D, (insD le x l).Perm (x :: l)
  | [] => .refl _
  | y :: l => by
    rw [insD]
    split
    · exact .refl _
    · exact ((insD_perm le x l).cons y).trans (.swap x y l)
theorem isort_perm (le : D → D → Bool) : ∀ l : List D, (isort le l).Perm l
  | [] => .refl _
  | x :: l => (insD_perm le x _).trans ((isort_perm le l).cons x)
theorem sortD_pw (l : List D) : (sortD l).Pairwise fun a b => PySem.W.dataLe false toPy a b = true := by
  rw [← merge_sortD]
  exact List.pairwise_mergeSort dataLe_tr dataLe_to l
theorem Mem.sort {ds bs cs : List D} (hal : ∀ x ∈ ds, ∀ y ∈ ds, PySem.W.alike (toPy x) (toPy y) = true) (hh : ∀ x ∈ ds, hshk x = true) (h : Mem ds bs) (g : Mem ds cs) : sortD bs = sortD cs := by
  have inj : ∀ x ∈ ds, ∀ y ∈ ds, nk x = nk y → x = y := fun x hx y hy e => nk_inj x y (hal x hx y hy) (hh x hx) (hh y hy) e
  have tr : ∀ {as es : List D}, Mem ds as → Mem ds es → ∀ x, x ∈ as → x ∈ es := fun {as es} a e x hx => by
    obtain ⟨y, hy, ey⟩ := List.mem_map.mp (e.all x (a.sub x hx))
    exact inj y (e.sub y hy) x (a.sub x hx) ey ▸ hy
  have mm : ∀ {as : List D} {x : D}, x ∈ sortD as ↔ x ∈ as := fun {as x} => (isort_perm _ as).mem_iff
  have nd : ∀ {as : List D}, Mem ds as → (sortD as).Nodup := fun {as} a => (isort_perm _ as).nodup_iff.mpr ((List.pairwise_map.mp a.nd).imp fun ne e => ne (congrArg nk e))
  refine sorted_uniq (le := PySem.W.dataLe false toPy) (fun x hx y hy h1 h2 => ?_) (sortD_pw _) (sortD_pw _) (nd h) (nd g) fun x => ?_
  · have hx := h.sub x (mm.mp hx)
    have hy := h.sub y (mm.mp hy)
    exact le_anti (hal x hx y hy) (hh x hx) (hh y hy) h1 h2
  · rw [mm, mm]; exact ⟨tr h g x, tr g h x⟩
end PP
end

section
set_option linter.all false
set_option autoImplicit false
set_option maxRecDepth 100000
set_option maxHeartbeats 1000000
set_option Elab.async false
/-! set(xs) as a tracked thing; sorted and len of it. -/
namespace PP
open PySem PySem.Spec PyProof.Rows L2
/-- the set of some data, by its one object -/
def SetDO (w : World) (a : Addr) (K : PySem.W.Frag) (im : Hp) (am : List Addr) (ds : List D) : HO := .ext fun h => ∃ (o : Obj) (es : Array (Int × Value)) (ep : Nat) (t : SetTable),
  h.get? a = some o ∧ o.ExactSet ∧ o.data = .set es ep t ∧ t.fits es.size = true ∧ es.size < 64 ∧ Ris t.place.toList ∧ (w.params.followText "set-order" = true ∨ t.led = true) ∧
  ∃ bs, PySem.W.EachIs (fun u d => ∃ x, RelV x u ∧ Rp K im am d x) (es.toList.map (·.2)) bs ∧ Mem ds bs
theorem Mem.perm {ds bs cs : List D} (h : Mem ds bs) (p : cs.Perm bs) : Mem ds cs :=
  ⟨(p.map nk).nodup_iff.mpr h.nd, fun b hb => h.sub b (p.mem_iff.mp hb), fun d hd => (p.map nk).mem_iff.mpr (h.all d hd)⟩
theorem EachIs.perm {α β : Type} {R : α → β → Prop} {as as' : List α} (p : as'.Perm as) : ∀ {bs : List β}, PySem.W.EachIs R as bs → ∃ bs', bs'.Perm bs ∧ PySem.W.EachIs R as' bs' := by
  induction p with
  | nil => intro bs h; exact ⟨bs, .refl _, h⟩
  | @cons x l1 l2 p ih =>
    intro bs h
    cases h with
    | cons r h =>
      obtain ⟨bs', p', e⟩ := ih h
      exact ⟨_, p'.cons _, .cons r e⟩
  | swap x y l =>
    intro bs h
    cases h with
    | cons r h => cases h with
      | cons r2 h => exact ⟨_, .swap _ _ _, .cons r2 (.cons r h)⟩
  | trans p1 p2 ih1 ih2 =>
    intro bs h
    obtain ⟨b1, q1, e1⟩ := ih2 h
    obtain ⟨b2, q2, e2⟩ := ih1 e1
    exact ⟨b2, q2.trans q1, e2⟩
theorem mem_le {ds bs : List D} (h : Mem ds bs) : bs.length ≤ ds.length := by
  have : (bs.map nk).length ≤ (ds.map nk).length := by
    refine List.Nodup.length_le_of_subset h.nd fun k hk => ?_
    obtain ⟨b, hb, rfl⟩ := List.mem_map.mp hk
    exact List.mem_map.mpr ⟨b, h.sub b hb, rfl⟩
  simpa using this
theorem ext_ok {P : Program} {w : World} {H : Hp} {h : Heap} {a : Addr} {K : PySem.W.Frag} {im : Hp} {am : List Addr} {ds : List D} {o : Obj} {es : Array (Int × Value)} {ep : Nat} {t : SetTable}
    (h1 : h.get? a = some o) (h2 : o.ExactSet) (h3 : o.data = .set es ep t) (h4 : t.fits es.size = true) (h5 : es.size < 64) (h6 : Ris t.place.toList) (h7 : w.params.followText "set-order" = true ∨ t.led = true) {bs : List D}
    (h8 : PySem.W.EachIs (fun u d => ∃ x, RelV x u ∧ Rp K im am d x) (es.toList.map (·.2)) bs) (h9 : Mem ds bs) : ObjOk P w H h a (SetDO w a K im am ds) :=
  ⟨⟨o, es, ep, t, h1, h2, h3, h4, h5, h6, h7, bs, h8, h9⟩, ⟨o, h1⟩, fun g1 g2 ⟨o, es, ep, t, q1, q⟩ hk => ⟨o, es, ep, t, hk o q1, q⟩⟩
section
variable {X : Cx} {ca : Nat → Addr} {E : XK}
def rSetD (X : Cx) : List V → Hp → VK → Prop := fun xs H Q => ∃ im am st d ds v, xs = [v] ∧ StOk X.K st im am H ∧ Rp X.K im am d v ∧ elems d st = some ds ∧ settable ds = true ∧ ds.length ≤ 60 ∧ ∀ p, H p = none → Q (.ref p) (upd H p (SetDO X.w p X.K im am ds))
theorem intsD_map : ∀ {ds : List D} {ns : List Int}, intsD ds = some ns → ds = ns.map D.int
  | [], ns, h => by cases h; rfl
  | .int i :: ds, ns, h => by
    simp only [intsD] at h
    cases e : intsD ds with
    | none => rw [e] at h; cases h
    | some ms => rw [e] at h; cases h; rw [List.map_cons, intsD_map e]
  | .non :: _, _, h => by simp [intsD] at h
  | .bl _ :: _, _, h => by simp [intsD] at h
  | .str _ :: _, _, h => by simp [intsD] at h
  | .lst _ :: _, _, h => by simp [intsD] at h
  | .tup _ :: _, _, h => by simp [intsD] at h
  | .dct _ :: _, _, h => by simp [intsD] at h
  | .cel _ :: _, _, h => by simp [intsD] at h
  | .frz _ :: _, _, h => by simp [intsD] at h
  | .tpn _ :: _, _, h => by simp [intsD] at h
theorem rp_ints {K : PySem.W.Frag} {im : Hp} {am : List Addr} : ∀ {ns : List Int} {vs : List V}, RpAll K im am (ns.map D.int) vs → vs = ns.map V.int
  | [], _, r => by cases r; rfl
  | n :: ns, _, r => by cases r with | cons r1 r2 => cases r1; rw [List.map_cons, rp_ints r2]
theorem nk_int (n : Int) : nk (.int n) = .num n := by simp [nk]
theorem mem_ints {ns ms : List Int} (nd : ms.Nodup) (h : ∀ k, k ∈ ms ↔ k ∈ ns) : Mem (ns.map D.int) (ms.map D.int) := by
  refine ⟨?_, fun b hb => ?_, fun d hd => ?_⟩
  · rw [List.map_map]
    refine List.pairwise_map.mpr (nd.imp fun ne e => ne ?_)
    simpa [Function.comp, nk] using e
  · obtain ⟨k, hk, rfl⟩ := List.mem_map.mp hb
    exact List.mem_map.mpr ⟨k, (h k).mp hk, rfl⟩
  · obtain ⟨k, hk, rfl⟩ := List.mem_map.mp hd
    exact List.mem_map.mpr ⟨.int k, List.mem_map.mpr ⟨k, (h k).mpr hk, rfl⟩, rfl⟩
theorem each_ints {K : PySem.W.Frag} {im : Hp} {am : List Addr} : ∀ {es : List (Int × Value)}, (∀ e ∈ es, GoodE e) → PySem.W.EachIs (fun u d => ∃ x, RelV x u ∧ Rp K im am d x) (es.map (·.2)) ((es.map keyOf).map D.int)
  | [], _ => .nil
  | e :: es, h => by
    obtain ⟨k, tk, h1, h2⟩ := h e List.mem_cons_self
    refine .cons ⟨.int k, ⟨tk, h1⟩, ?_⟩ (each_ints fun e he => h e (List.mem_cons_of_mem _ he))
    have : keyOf e = k := by unfold keyOf; rw [h1]
    rw [this]; exact .int k
theorem each_keys {K : PySem.W.Frag} {im : Hp} {am : List Addr} : ∀ {ds : List D} {us : List Value}, PySem.W.EachIs (fun u d => ∃ x, RelV x u ∧ Rp K im am d x) us ds → ∀ p ∈ us.zip (ds.map nk), ∃ d ∈ ds, p.2 = nk d ∧ ∃ x, RelV x p.1 ∧ Rp K im am d x
  | _, _, .nil, p, h => by simp at h
  | _, _, .cons r e, p, h => by
    rw [List.map_cons, List.zip_cons_cons] at h
    rcases List.mem_cons.mp h with rfl | h
    · exact ⟨_, List.mem_cons_self, rfl, r⟩
    · obtain ⟨d, hd, q⟩ := each_keys e p h
      exact ⟨d, List.mem_cons_of_mem _ hd, q⟩
theorem pick_keys {K : PySem.W.Frag} {im : Hp} {am : List Addr} {ds : List D} : ∀ {L : Ks}, (∀ p ∈ L, ∃ d ∈ ds, p.2 = nk d ∧ ∃ x, RelV x p.1 ∧ Rp K im am d x) → ∃ bs : List D, PySem.W.EachIs (fun u d => ∃ x, RelV x u ∧ Rp K im am d x) (L.map (·.1)) bs ∧ bs.map nk = L.map (·.2) ∧ ∀ b ∈ bs, b ∈ ds
  | [], _ => ⟨[], .nil, rfl, fun b h => by cases h⟩
  | p :: L, h => by
    obtain ⟨d, hd, e, r⟩ := h p List.mem_cons_self
    obtain ⟨bs, b1, b2, b3⟩ := pick_keys fun q hq => h q (List.mem_cons_of_mem _ hq)
    refine ⟨d :: bs, .cons r b1, by rw [List.map_cons, List.map_cons, b2, e], fun b hb => ?_⟩
    rcases List.mem_cons.mp hb with rfl | hb
    · exact hd
    · exact b3 b hb
theorem zip_key {α β : Type} : ∀ {us : List α} {ks : List β}, us.length = ks.length → (∀ k ∈ ks, ∃ u, (u, k) ∈ us.zip ks)
  | [], [], _, k, h => by cases h
  | [], _ :: _, h, _, _ => by cases h
  | _ :: _, [], h, _, _ => by cases h
  | u :: us, k0 :: ks, h, k, hk => by
    rcases List.mem_cons.mp hk with rfl | hk
    · exact ⟨u, List.mem_cons_self⟩
    · obtain ⟨v, hv⟩ := zip_key (us := us) (by simpa using h) k hk
      exact ⟨v, List.mem_cons_of_mem _ hv⟩
theorem set_D (hc : X.calm = true) (hu : X.A.units + 64 < cLine) : CallR X (.type "set") (rSetD X) := by
  intro pins s σ H xs us Q I r ⟨im, am, st, d, ds, v, ex, so, rd, he, hset, hlen, q⟩
  subst ex
  obtain ⟨u, rfl, ru⟩ := vals1 r
  have core : ∀ {a : Addr} {vs : List V} {its : List Value} {o : Obj} {n : Nat} {T : String}, RpAll X.K im am ds vs → Vals vs its → s.heap.get? a = some o → o.cls = .type T → o.data = .seq its.toArray n → (T = "list" ∨ T = "tuple") → wpAny (model X.prog X.w) X.A (call (.type "set") [.ref a]) (EP X pins σ Q) X.xe s := by
    intro a vs its o n T rp rv ho hcl hdt hT
    have hn : H s.heap.objs.size = none := I.hok.fresh (Nat.le_refl _)
    cases hi : intsD ds with
    | some ns =>
      obtain rfl := intsD_map hi
      obtain rfl := rp_ints rp
      have hnl : ns.length ≤ 60 := by simpa using hlen
      refine call_set_I ns (I.ok.hd hc) ho hcl hdt hT (intsAre_of rv) (by show ns.length + 1 < scanBound; unfold scanBound; omega) fun h' tk c R hcn hk => ?_
      obtain ⟨o', es, ep, t, r1, r2, r3, r4, r5, r6, r7, r8, r9, r10, r11⟩ := R
      refine ⟨.ref s.heap.objs.size, _, I.laid (t' := tk) hk (Nat.le_refl _) (ext_ok (K := X.K) (im := im) (am := am) r1 r2 r3 r8 (by omega) r10 r11 (each_ints r4) (mem_ints r5 fun k => ?_)), rfl, q _ hn⟩
      rw [← r6 k, decide_eq_true_eq]
    | none =>
      have hs2 := hset
      simp only [settable, hi, Option.isSome_none, Bool.false_or, Bool.and_eq_true, decide_eq_true_eq, List.all_eq_true] at hs2
      obtain ⟨⟨⟨h1, h2⟩, h3⟩, h4⟩ := hs2
      have ei := each_of rp rv
      have hl : its.length = (ds.map nk).length := by rw [List.length_map]; exact ei.length
      have nes := nesteds_of I so.same ds vs its (by rw [hshks_all, List.all_eq_true]; exact h1) rp rv
      have hks := each_keys ei
      refine call_set_K (its.zip (ds.map nk)) (I.ok.hd hc) ho hcl hdt hT (by rw [List.toList_toArray, List.map_fst_zip (by omega)]) (fun p hp => ?_) (by rw [List.length_zip, List.length_map]; omega) (by omega) fun h' tk L es ep t R g hk => ?_
      · obtain ⟨d, hd, e, x, rx, px⟩ := hks p hp
        refine ⟨?_, ?_, ?_⟩
        · rw [e]; exact nested_of I so.same d x p.1 (h1 d hd) px rx
        · rw [e, nk_dep d (h1 d hd)]; exact h3 d hd
        · have := h2 d hd
          cases d with
          | tup xs => cases px with | tup _ _ => exact ⟨_, rx⟩
          | _ => cases this
      · obtain ⟨o', r1, r2, r3⟩ := R.ob
        have gsub : ∀ p ∈ L, p ∈ its.zip (ds.map nk) := fun p hp => List.mem_of_mem_take (g.sub p hp)
        have gall : ∀ p ∈ its.zip (ds.map nk), p.2 ∈ L.map (·.2) := fun p hp => g.all p (by rw [List.take_length]; exact hp)
        obtain ⟨bs, b1, b2, b3⟩ := pick_keys fun p hp => hks p (gsub p hp)
        have erow : es.toList.map (·.2) = L.map (·.1) := by rw [R.rows]; unfold rowsK; rw [List.map_map]; rfl
        refine ⟨.ref s.heap.objs.size, _, I.laid (t' := tk) hk (Nat.le_refl _) (ext_ok (K := X.K) (im := im) (am := am) (bs := bs) r1 r2 r3 (SetK.fits (s := { s with heap := h', toks := tk }) R) (by rw [SetK.size (s := { s with heap := h', toks := tk }) R]; exact R.few) R.tab.ris R.led (by rw [erow]; exact b1) ⟨by rw [b2]; exact R.nd, b3, fun d hd => ?_⟩), rfl, q _ hn⟩
        rw [b2]
        obtain ⟨u, hu⟩ := zip_key hl (nk d) (List.mem_map.mpr ⟨d, hd, rfl⟩)
        exact gall _ hu
  unfold elems at he
  cases hd : deref d st with
  | lst zs =>
    rw [hd] at he
    cases he
    obtain ⟨a, vs, rfl, q1, q2⟩ := deref_lst so rd hd
    obtain rfl : u = Value.ref a := ru
    obtain ⟨_, its, n, rv, ho⟩ := I.hok a _ q1
    exact core q2 rv ho rfl rfl (.inl rfl)
  | tup zs =>
    rw [hd] at he
    cases he
    obtain ⟨a, vs, rfl, q1, q2⟩ := deref_tup so rd hd
    obtain rfl : u = Value.ref a := ru
    obtain ⟨its, rv, ⟨o, ho, hcl, n, hdt⟩, hz⟩ := I.tuple q1
    exact core q2 rv ho hcl hdt (.inr rfl)
  | _ => rw [hd] at he; cases he
end
/-! ### sorted, len -/
section
variable {prog : Program} {w : World} {A : Around} {E : Value → Shared → Prop} {s : Shared}
theorem sorted_setV {β : Type} {R : Value → β → Prop} {enc : β → PyData} {bs : List β} {a : Addr} {o : Obj} {es : Array (Int × Value)} {ep : Nat} {t : SetTable} {Q : Value → Shared → Prop} (hh : A.handled = none)
    (ho : s.heap.get? a = some o) (hex : o.ExactSet) (hd : o.data = .set es ep t) (hf : t.fits es.size = true) (hsz : es.size < 64) (hr : Ris t.place.toList) (hl : w.params.followText "set-order" = true ∨ t.led = true)
    (e : PySem.W.EachIs R (es.toList.map (·.2)) bs) (hrd : ∀ v b, b ∈ bs → R v b → ∃ as, Reads s.heap v (enc b) as) (hal : PySem.W.AllAlike (bs.map enc)) (hk : SortX (bs.map enc))
    (hu : ∀ b, b ∈ bs → A.units + 2 + (enc b).depth < cLine)
    (h : ∀ (s' : Shared) (p : Addr) (out : Array Value) (c : Nat) (bs' : List β), (∀ b o, s.heap.get? b = some o → s'.heap.get? b = some o) → s'.gens = s.gens → s'.os = s.os → s.heap.objs.size ≤ p → s'.heap.get? p = some (seqObj "list" out c) → bs'.Perm bs → PySem.W.EachIs R out.toList (bs'.mergeSort (PySem.W.dataLe false enc)) → Q (.ref p) s') :
    wpAny (model prog w) A (call (.builtin "sorted") [.ref a]) Q E s := by
  refine Calls.call_function_entry kind_sorted plain_sorted entry_sorted (args_sorted1 _) ?_
  unfold Builtin.«sorted»
  refine wpAny_bind (m := checkCount "sorted" 1 1 _) (wpAny_pure ?_)
  refine wpAny_bind (collect_set (A := A.in1) hh ⟨o, ho, hex.1, hd⟩ hf (by unfold scanBound; omega) hr hl fun s1 vs k1 hz g1 o1 pm => ?_)
  have hvl : vs.length = es.size := by rw [pm.length_eq, List.length_map, Array.length_toList]
  have hLv : vs.length ≤ sizeLine := by rw [hvl, sizeLine_eq]; omega
  obtain ⟨bs', pb, e'⟩ := EachIs.perm pm e
  have mb : ∀ {b}, b ∈ bs' → b ∈ bs := fun {b} hb => pb.mem_iff.mp hb
  have hal' : PySem.W.AllAlike (bs'.map enc) := fun d hd d' hd' => by
    obtain ⟨x, hx, rfl⟩ := List.mem_map.mp hd
    obtain ⟨y, hy, rfl⟩ := List.mem_map.mp hd'
    exact hal _ (List.mem_map.mpr ⟨x, mb hx, rfl⟩) _ (List.mem_map.mpr ⟨y, mb hy, rfl⟩)
  have sb : ∀ {P : PyData → Prop}, (∀ d ∈ bs.map enc, P d) → ∀ d ∈ bs'.map enc, P d := fun {P} q d hd => by
    obtain ⟨x, hx, rfl⟩ := List.mem_map.mp hd
    exact q _ (List.mem_map.mpr ⟨x, mb hx, rfl⟩)
  have hk' : SortX (bs'.map enc) := hk.imp (fun q => q.imp sb sb) (fun q => ⟨by rw [List.length_map, pb.length_eq, ← List.length_map (f := enc)]; exact q.1, sb q.2⟩)
  refine wpAny_bind (wpAny_newList ?_ hLv)
  have hoL : (s1.heap.push (seqObj "list" vs.toArray 0)).get? s1.heap.objs.size = some (seqObj "list" vs.toArray 0) := Heap.get?_push_size _ rfl
  have er : PySem.W.EachIs (fun v b => ∃ as, Reads (PySem.W.sortingHeap (s1.heap.push (seqObj "list" vs.toArray 0)) s1.heap.objs.size vs) v (enc b) as) vs bs' := EachIs.mono_mem e' fun v b hb r => by
    obtain ⟨as, q⟩ := hrd v b (mb hb) r
    refine ⟨as, PyProof.Rows.Reads.keeps (fun c oc hc => ?_) q⟩
    have := k1 c oc hc
    exact PySem.W.sortingHeap_old (Nat.ne_of_lt (Heap.lt_size this)) (Heap.get?_push_of_some _ this)
  refine wpAny_bind (wpAny_holding (wpAny_call_entry_kw slot_list_sort ⟨_, hoL, rfl⟩ entry_list_sort ?body (args_list_sort _)))
  case body =>
    show wpAny (model prog w) A.in1.in1 (Builtin.«list.sort» ⟨[.ref s1.heap.objs.size], []⟩) _ _ _
    refine PySem.W.list_sort_vals (s := { s1 with heap := s1.heap.push (seqObj "list" vs.toArray 0) }) hoL (SortsAt_dataX (s := { s1 with heap := PySem.W.sortingHeap (s1.heap.push (seqObj "list" vs.toArray 0)) s1.heap.objs.size vs }) (PySem.W.each_map (R := fun v d => ∃ as, Reads (PySem.W.sortingHeap (s1.heap.push (seqObj "list" vs.toArray 0)) s1.heap.objs.size vs) v d as) enc er) hal' hk' (PySem.W.bound_map fun b hb => hu b (mb hb))) hLv ?_
    refine ⟨_, rfl, wpAny_pure ⟨_, rfl, ?_⟩⟩
    obtain ⟨c, hc⟩ := sortedHeap_at (vs := vs) (out := (PySem.W.sortVals (PySem.W.dataKind (PySem.W.sortingHeap (s1.heap.push (seqObj "list" vs.toArray 0)) s1.heap.objs.size vs) (bs'.map enc)) false vs vs).toArray) hoL
    refine h _ s1.heap.objs.size _ c bs' (fun b u eb => ?_) g1 o1 hz hc pb ?_
    · have q := k1 b u eb
      have hlt := Heap.lt_size q
      show (sortedHeap (s1.heap.push (seqObj "list" vs.toArray 0)) s1.heap.objs.size vs _).get? b = some u
      rw [sortedHeap_old (Nat.ne_of_lt hlt) (by rw [size_push']; exact Nat.lt_succ_of_lt hlt)]
      exact Heap.get?_push_of_some _ q
    · rw [List.toList_toArray]
      exact PySem.W.sortVals_data false e' er hal'
end
section
variable {X : Cx} {ca : Nat → Addr} {E : XK}
def rSortSetD (X : Cx) : List V → Hp → VK → Prop := fun xs H Q => ∃ a im0 am0 im am st ds, xs = [V.ref a] ∧ H a = some (SetDO X.w a X.K im0 am0 ds) ∧ Same im0 im ∧ am0 <+: am ∧ StOk X.K st im am H ∧ sortable ds = true ∧ (∀ x ∈ ds, hshk x = true) ∧ ds.length ≤ 60 ∧
  ∀ p vs', H p = none → RpAll X.K im am (sortD (dedup ds)) vs' → Q (.ref p) (upd H p (.lst vs'))
theorem sortSet_D (hc : X.calm = true) (hu : X.A.units + 64 < cLine) : CallR X (.builtin "sorted") (rSortSetD X) := by
  intro pins s σ H xs us Q I r ⟨a, im0, am0, im, am, st, ds, ex, ha, hs, hp, so, hso, hh, hlen, q⟩
  subst ex
  obtain ⟨u, rfl, ru⟩ := vals1 r
  obtain rfl : u = Value.ref a := ru
  obtain ⟨⟨o, es, ep, t, r1, r2, r3, r4, r5, r6, r7, bs, r8, r9⟩, _⟩ : ObjOk X.prog X.w H s.heap a (SetDO X.w a X.K im0 am0 ds) := I.hok a _ ha
  obtain ⟨hal, hdp, hsk⟩ := sortable_of hso
  have sub : ∀ {P : PyData → Prop}, (∀ d ∈ ds.map toPy, P d) → ∀ d ∈ bs.map toPy, P d := fun {P} q d hd => by
    obtain ⟨x, hx, rfl⟩ := List.mem_map.mp hd
    exact q _ (List.mem_map.mpr ⟨x, r9.sub x hx, rfl⟩)
  have r8 : PySem.W.EachIs (fun u d => ∃ x, RelV x u ∧ Rp X.K im am d x) (es.toList.map (·.2)) bs := r8.mono fun u d ⟨x, h1, h2⟩ => ⟨x, h1, h2.mono hs hp _ _⟩
  refine sorted_setV (I.ok.hd hc) r1 r2 r3 r4 r5 r6 r7 r8 (fun v b hb ⟨x, rx, px⟩ => ?_) (fun d hd d' hd' => sub (P := fun d => PySem.W.alike d d' = true) (fun d hd => sub (P := fun d' => PySem.W.alike d d' = true) (fun d' hd' => hal d hd d' hd') d' hd') d hd) (hsk.imp (fun q => q.imp sub sub) (fun q => ⟨by have h1 := q.1; rw [List.length_map] at h1 ⊢; exact Nat.le_trans (mem_le r9) h1, sub q.2⟩)) (fun b hb => ?_) fun s' p out c bs' k g o' hpz hg pb e => ?_
  · have hb := r9.sub b hb
    obtain ⟨a1, a2⟩ := Rp.dp so.same _ _ px (hdp b hb).2
    exact Dp.reads I _ x v a1 rx
  · have hb := r9.sub b hb
    rw [dep_py _ (hdp b hb).2]
    have := (hdp b hb).1
    unfold dlim at this
    omega
  · rw [merge_sortD] at e
    have al2 : ∀ x ∈ ds, ∀ y ∈ ds, PySem.W.alike (toPy x) (toPy y) = true := fun x hx y hy => hal _ (List.mem_map.mpr ⟨x, hx, rfl⟩) _ (List.mem_map.mpr ⟨y, hy, rfl⟩)
    rw [Mem.sort al2 hh (r9.perm pb) (Mem.dedup hh)] at e
    obtain ⟨vs', rv', rp'⟩ := of_each e
    have hn : H p = none := I.hok.fresh hpz
    have hol : out.toList.length = (sortD (dedup ds)).length := e.length
    have hdl : (sortD (dedup ds)).length ≤ 60 := by
      have h1 : (sortD (dedup ds)).length = (dedup ds).length := (isort_perm _ _).length_eq
      have h2 : (dedup ds).length = bs.length := Mem.len (Mem.dedup hh) r9
      have h3 : bs.length = es.size := by rw [← r8.length, List.length_map, Array.length_toList]
      have h4 : bs.length ≤ ds.length := mem_le r9
      omega
    have hz : vs'.length ≤ sizeLine := by rw [rv'.length, hol, sizeLine_eq]; omega
    have J : Inv X pins σ (upd H p (.lst vs')) { s with heap := s'.heap, gens := s'.gens, drawn := s'.drawn, toks := s'.toks } :=
      I.call (ch := []) (Un.laid k hpz hn) (I.hok.laid k hpz ⟨hz, out.toList, c, rv', hg⟩) (by rw [g]; exact I.bare) (fun _ z => nomatch z)
    have e' : s' = { s with heap := s'.heap, gens := s'.gens, drawn := s'.drawn, toks := s'.toks } := by
      cases s'
      cases s
      cases o'
      rfl
    rw [e']
    exact ⟨.ref p, _, J, rfl, q p vs' hn rp'⟩
def rLenSetD (X : Cx) : List V → Hp → VK → Prop := fun xs H Q => ∃ a im0 am0 ds, xs = [V.ref a] ∧ H a = some (SetDO X.w a X.K im0 am0 ds) ∧ (∀ x ∈ ds, hshk x = true) ∧ Q (.int ((dedup ds).length : Nat)) H
theorem lenSet_D : CallR X (.builtin "len") (rLenSetD X) := by
  intro pins s σ H xs us Q I r ⟨a, im0, am0, ds, ex, ha, hh, q⟩
  subst ex
  obtain ⟨u, rfl, ru⟩ := vals1 r
  obtain rfl : u = Value.ref a := ru
  obtain ⟨⟨o, es, ep, t, r1, r2, r3, r4, r5, r6, r7, bs, r8, r9⟩, _⟩ : ObjOk X.prog X.w H s.heap a (SetDO X.w a X.K im0 am0 ds) := I.hok a _ ha
  have hl : es.size = (dedup ds).length := by
    rw [← Mem.len r9 (Mem.dedup hh), ← r8.length, List.length_map, Array.length_toList]
  refine call_len_set r1 r2 r3 r4 (by omega) ?_
  rw [hl]
  exact ⟨.int _, H, I.tok _, ⟨_, rfl⟩, q⟩
end
end PP
end

section
set_option linter.all false
set_option autoImplicit false
set_option maxRecDepth 100000
set_option maxHeartbeats 1000000
set_option Elab.async false
/-! sum(d.values()), sorted(xs, key=len). -/
namespace PP
open PySem PySem.Spec PyProof.Rows L2
section
variable {X : Cx} {ca : Nat → Addr} {E : XK}
def tSumVals (td : TE) : TE := fun σ H Q => td σ H fun x H1 => ∃ (a : Addr) (kvs : List (Key × V)) (is : List Int), x = V.ref a ∧ Rd H1 a (.dK kvs) ∧ kvs.map (·.2) = is.map V.int ∧ Q (.int is.sum) H1
theorem vals_ints {kvs : List (Key × V)} {vs : List (Key × Value)} {is : List Int} (rel : KV kvs vs) (hv : kvs.map (·.2) = is.map V.int) (i : Nat) (v : Value) (h : ∃ k, vs[i]? = some (k, v)) : ∃ t, v = Value.int (is.getD i 0) t := by
  obtain ⟨k, hk⟩ := h
  obtain ⟨x, h1, h2⟩ := KV.at' rel hk
  have e1 : (kvs.map (·.2))[i]? = some x := by rw [List.getElem?_map, h1] <;> rfl
  rw [hv, List.getElem?_map] at e1
  obtain ⟨j, hj, e2⟩ := Option.map_eq_some_iff.mp e1
  subst e2
  obtain ⟨t, e3⟩ := h2
  exact ⟨t, by rw [e3, List.getD_eq_getElem?_getD, hj] <;> rfl⟩
theorem pe_sumVals {o : Expr} {p pos apos mpos : Pos} {td : TE} (hc : X.calm = true) (hg : Gl X "sum") (hm : X.mg "sum" = none) (hd : PE X o td) (hbase : attributeBase o "values" X.env (eval o X.env) = eval o X.env) (hline : (apos.endLine == mpos.line) = true)
    (hse : starEach [Expr.Call (.Attribute o "values" apos) [] [] mpos] X.env = [(false, eval (Expr.Call (.Attribute o "values" apos) [] [] mpos) X.env)]) :
    PE X (.Call (.Name "sum" p) [.Call (.Attribute o "values" apos) [] [] mpos] [] pos) (tSumVals td) := by
  refine ⟨fun pins s σ H Q I h => ?_⟩
  refine wpAny_Call_Name_kw (ld_blt I hg hm (u := .builtin "sum") (by first | rfl | decide +kernel) ?_ (by first | decide +kernel | decide) (by first | decide +kernel | decide))
  rw [hse]
  refine PySem.callWith_builtin1 (wpAny_Call_method0_late hbase hline (thn (hd.run pins s σ H _ I h) fun v s1 ⟨x, H1, I1, r1, a, kvs, is, ex, ha, hv, q⟩ => ?_))
  subst ex
  obtain rfl : v = Value.ref a := r1
  obtain ⟨_, hsys, vs, rel, dof⟩ := dk_rd I1.hok ha
  obtain ⟨ep, dat⟩ := dof.dictAt
  obtain ⟨ob, es, ho, ex, hdat, hko, hpr, hnd⟩ := id dat
  refine ⟨"dict", "dict.values", F.plainAttrs_dict, F.slot_dict_values, F.type_dict_values, ⟨ob, ho, ex.1⟩, (fun b e => by cases e; exact ⟨ob, ho, ex.2.1⟩), Calls.callWith_builtin rfl (PySem.evalArgs_none ?_)⟩
  refine call_meetsIn F.slot_dict_values ⟨ob, ho, ex.1⟩ F.entry_dict_values (F.args_dict_values_1 _) (meets_dict_values (mixKind X.prog X.w) a hsys) ⟨⟨vs, dof⟩, ?_⟩
  generalize hS : s1.heap.push { cls := .type "dict_values", data := .fields #[.ref a] } = S
  have hsz : S.objs.size = s1.heap.objs.size + 1 := by rw [← hS]; exact Heap.size_push _ _
  have k1 : ∀ b u, s1.heap.get? b = some u → S.get? b = some u := fun b u e => by rw [← hS]; exact Heap.get?_push_of_some _ e
  have dat1 : S.DictAt (mixKind X.prog X.w) a vs ep := dat.keep k1
  have hlv : vs.length = is.length := by
    have e1 := congrArg List.length hv
    rw [List.length_map, List.length_map] at e1
    exact (KV.length rel).symm.trans e1
  have hview : S.get? s1.heap.objs.size = some { cls := .type "dict_values", data := .fields #[.ref a] } := by rw [← hS]; exact Heap.get?_push_size _ rfl
  refine call_sum_walkG (wpAny_pyIter_values (v := s1.heap.objs.size) (d := a) ⟨_, hview, rfl, rfl⟩ dat1 ?_)
  have hlt : a < s1.heap.objs.size := Heap.lt_size ho
  refine ⟨_, _, _, _, _, _, fun i => is.getD i 0, rfl, Walks.dictValues (knd := mixKind X.prog X.w) (A := X.A.in1) (I.ok.hd hc) S.objs.size a (by rw [hsz]; exact Nat.ne_of_lt (Nat.lt_succ_of_lt hlt)) vs ep,
    ⟨⟨_, Heap.get?_push_size _ rfl, rfl, rfl⟩, dat1.keep fun b u e => Heap.get?_push_of_some _ e⟩, fun b hb => ?_, fun i v hp => vals_ints rel hv i v hp, fun h' tk t' hk => ?_⟩
  · show b < (S.push _).objs.size
    rw [Heap.size_push, hsz]
    rcases List.mem_cons.mp hb with e | hb
    · rw [e, hsz]; exact Nat.lt_succ_self _
    · rw [List.mem_singleton.mp hb]
      exact Nat.lt_succ_of_lt (Nat.lt_succ_of_lt hlt)
  · rw [preSum_getD, hlv, List.take_length]
    refine ⟨.int is.sum, H1, I1.kept (t' := tk) fun b u e => hk b u (fun hmem => ?_) (Heap.get?_push_of_some _ (k1 b u e)), ⟨t', rfl⟩, q⟩
    have e1 : b = S.objs.size := List.mem_singleton.mp hmem
    have e2 := Heap.lt_size e
    rw [e1, hsz] at e2
    exact absurd e2 (Nat.not_lt.mpr (Nat.le_succ _))
/-! ### sorted(xs, key=len) -/
def rSortLen (X : Cx) : V → Hp → VK → Prop := fun x H Q => ∃ im am st ys, StOk X.K st im am H ∧ Rp X.K im am (.lst ys) x ∧ (∀ y ∈ ys, isTp y = true) ∧ ys.length ≤ lim ∧
  ∀ p vs', H p = none → RpAll X.K im am (isort (fun a b => decide (lenD a ≤ lenD b)) ys) vs' → Q (.ref p) (upd H p (.lst vs'))
theorem lenLe (a b : D) : PySem.W.dataLe false (fun d => PyData.int (lenD d : Nat)) a b = decide (lenD a ≤ lenD b) := by
  show (!lexLt itemOrd (PySem.W.keyToks (.int (lenD b : Nat))) (PySem.W.keyToks (.int (lenD a : Nat)))) = _
  have e : lexLt itemOrd (PySem.W.keyToks (.int (lenD b : Nat))) (PySem.W.keyToks (.int (lenD a : Nat))) = decide (lenD b < lenD a) := by
    by_cases h1 : lenD b < lenD a
    · have h : ((lenD b : Nat) : Int) < (lenD a : Nat) := by omega
      simp only [PySem.W.keyToks, PyProof.Rows.lexLt, itemOrd, itemLt, h, h1, decide_true]
      simp
    · rcases Nat.lt_or_ge (lenD a) (lenD b) with h2 | h2
      · have h : ¬ ((lenD b : Nat) : Int) < (lenD a : Nat) := by omega
        have h' : ((lenD a : Nat) : Int) < (lenD b : Nat) := by omega
        simp only [PySem.W.keyToks, PyProof.Rows.lexLt, itemOrd, itemLt, h, h', h1, decide_false]
        simp
      · have h3 : lenD a = lenD b := by omega
        rw [h3, lex_irrefl]
        simp
  rw [e]
  by_cases h : lenD b < lenD a
  · rw [decide_eq_true h, decide_eq_false (by omega)]; rfl
  · rw [decide_eq_false h, decide_eq_true (by omega)]; rfl
theorem merge_len (l : List D) : l.mergeSort (PySem.W.dataLe false (fun d => PyData.int (lenD d : Nat))) = isort (fun a b => decide (lenD a ≤ lenD b)) l := by
  have e : PySem.W.dataLe false (fun d => PyData.int (lenD d : Nat)) = fun a b : D => decide (lenD a ≤ lenD b) := by funext a b; exact lenLe a b
  rw [e]
  refine merge_isort (fun a b c h1 h2 => ?_) (fun a b => ?_) l
  · simp only [decide_eq_true_eq] at h1 h2 ⊢; omega
  · simp only [Bool.or_eq_true, decide_eq_true_eq]; omega
theorem call_sortLen (hu : X.A.units + 64 < cLine) {pins : List (Addr × Obj)} {s : Shared} {σ : L2.St} {H : Hp} {x : V} {u : Value} {Q : VK} (I : Inv X pins σ H s) (r : RelV x u) (h : rSortLen X x H Q) :
    wpAny (model X.prog X.w) X.A (call (.builtin "sorted") [u] [(Str.ofString "key", .builtin "len")]) (EP X pins σ Q) X.xe s := by
  obtain ⟨im, am, st, ys, so, rp, htp, hlen, q⟩ := h
  cases rp with
  | @lst a vs _ q1 q2 =>
    obtain rfl : u = Value.ref a := r
    obtain ⟨_, its, n, rv, ho⟩ := I.hok a _ (so.same _ _ q1)
    have e := each_of q2 rv
    refine PySem.W.sorted_key_data (k := fun d => PyData.int (lenD d : Nat)) (b := false) (l := a) (vs := its) (bs := ys) ⟨_, ho, rfl, n, rfl⟩ e (fun d hd d' hd' => ?_) (.inr fun d hd => ?_) (lim_size hlen) (fun d hd => ?_) (ksk_s1 _ _) (fun _ => ksk_l1 _ _) (fun x => ksk_t4 "len" x) (fun v d ⟨x, rx, px⟩ hd h' tk hk => ?_) fun out c h' tk hk hf hat hol eo => ?_
    · obtain ⟨x, hx, rfl⟩ := List.mem_map.mp hd
      obtain ⟨y, hy, rfl⟩ := List.mem_map.mp hd'
      rfl
    · obtain ⟨x, hx, rfl⟩ := List.mem_map.mp hd
      exact ⟨by simp, fun xs => by simp⟩
    · show X.A.units + 2 + _ < cLine
      have : (PyData.int (lenD d : Nat)).depth = 0 := by simp [PyData.depth]
      omega
    · have := htp d hd
      cases d with
      | tup zs =>
        cases px with
        | @tup b ws _ p1 p2 =>
          obtain rfl : v = Value.ref b := rx
          obtain ⟨jts, rj, ⟨o, hob, hcb, m, hdb⟩, hz⟩ := I.tuple (Same.seqT so.same p1)
          have hn := line63
          refine len_tuple (t := b) (items := jts.toArray) ⟨o, hk _ _ hob, hcb, m, hdb⟩ (by simp only [List.size_toArray]; have := rj.length; omega) ?_
          refine ⟨h', _, rfl, fun _ _ e => e, ?_⟩
          have el : jts.toArray.size = lenD (.tup zs) := by rw [List.size_toArray, ← rj.length, ← p2.length]; rfl
          rw [el]
          exact .int _ _
      | _ => cases this
    · rw [merge_len] at eo
      obtain ⟨vs', rv', rp'⟩ := of_each eo
      have hn : H (s.heap.objs.size + 1) = none := I.hok.fresh (Nat.le_succ _)
      have hz : vs'.length ≤ sizeLine := by rw [rv'.length, hol]; exact lim_size hlen
      exact ⟨.ref (s.heap.objs.size + 1), upd H (s.heap.objs.size + 1) (.lst vs'), I.laid (t' := tk) hk (Nat.le_succ _) ⟨hz, out, c, rv', hat⟩, rfl, q _ _ hn rp'⟩
def tSortLen (X : Cx) (ta : TA) : TE := fun σ H Q => ta σ H fun vs H1 => ∃ x, vs = [x] ∧ rSortLen X x H1 Q
theorem pe_sortLen {e : Expr} {ta : TA} {p p2 kp pos : Pos} (hu : X.A.units + 64 < cLine) (hg : Gl X "sorted") (hm : X.mg "sorted" = none) (hg2 : Gl X "len") (hm2 : X.mg "len" = none) (ha : PA X [e] ta)
    (he : starEach [e] X.env = (false, eval e X.env) :: starEach [] X.env) :
    PE X (.Call (.Name "sorted" p) [e] [⟨some "key", .Name "len" p2, kp⟩] pos) (tSortLen X ta) := by
  refine ⟨fun pins s σ H Q I h => ?_⟩
  refine wpAny_Call_Name_kw (ld_blt I hg hm (u := .builtin "sorted") (by first | rfl | decide +kernel) ?_ (by first | decide +kernel | decide) (by first | decide +kernel | decide))
  refine PyProof.Rows.callWith_kw (thn (ha.run pos pins s σ H _ I h) fun us s1 ⟨vs, H1, I1, r1, x, ex, q1⟩ => ?_) (by rw [he]; rfl) (by rw [he]; rfl) rfl rfl
  subst ex
  obtain ⟨u, rfl, ru⟩ := vals1 r1
  show wpAny (model X.prog X.w) X.A (evalAll ((do let v ← eval (.Name "len" p2) X.env; standAt pos; pure v) :: [])) _ _ s1
  refine wpAny_evalAll_cons (wpAny_bind (ld_blt I1 hg2 hm2 (u := .builtin "len") (by first | rfl | decide +kernel) (wpAny_bind (wpAny_standAt (wpAny_pure (wpAny_evalAll_nil ?_)))) (by first | decide +kernel | decide) (by first | decide +kernel | decide)))
  exact call_sortLen hu I1 ru q1
end
end PP
end

section
set_option linter.all false
set_option autoImplicit false
set_option maxRecDepth 100000
set_option maxHeartbeats 1000000
set_option Elab.async false
/-! list({x: True for x in xs}): the members of xs, each once, in their order. -/
namespace PP
open PySem PySem.Spec PyProof.Rows L2
abbrev Ents := List (NestedKey × Addr × Value)
/-- a dict whose keys are tuples, by its one object -/
def Ndo (P : Program) (w : World) (D : Addr) (L : Ents) : HO := .ext fun h => (D == sysModules) = false ∧ ∃ (o : Obj) (es : Array DictEntry) (ep : Nat),
  h.get? D = some o ∧ o.ExactDict ∧ o.data = .dict es ep ∧ es.toList = L.map (entryOfKey (nestedKind P w)) ∧ (L.map (·.1)).Nodup
def KeyOk (K : PySem.W.Frag) (H : Hp) (k : NestedKey) (a : Addr) : Prop := ∃ im am d, Same im H ∧ Rp K im am d (.ref a) ∧ hshk d = true ∧ dep d ≤ 8 ∧ k = nk d
theorem ndo_ok {P : Program} {w : World} {H : Hp} {h : Heap} {D : Addr} {L : Ents} (hd : (D == sysModules) = false) {o : Obj} {es : Array DictEntry} {ep : Nat} (h1 : h.get? D = some o) (h2 : o.ExactDict) (h3 : o.data = .dict es ep)
    (h4 : es.toList = L.map (entryOfKey (nestedKind P w))) (h5 : (L.map (·.1)).Nodup) : ObjOk P w H h D (Ndo P w D L) :=
  ⟨⟨hd, o, es, ep, h1, h2, h3, h4, h5⟩, ⟨o, h1⟩, fun g1 g2 ⟨q0, o, es, ep, q1, q⟩ hk => ⟨q0, o, es, ep, hk o q1, q⟩⟩
section
variable {X : Cx} {pins : List (Addr × Obj)} {σ : L2.St} {H : Hp} {s : Shared}
theorem key_is (I : Inv X pins σ H s) {k : NestedKey} {a : Addr} (h : KeyOk X.K H k a) : (nestedKind X.prog X.w).is s.heap k a := by
  obtain ⟨im, am, d, hs, r, h1, h2, rfl⟩ := h
  exact ⟨nested_of I hs d _ _ h1 r rfl, by rw [nk_dep d h1]; exact h2⟩
theorem nd_set {E : Value → Shared → Prop} {D a : Addr} {L : Ents} {k : NestedKey} {v : Value} {Q : Unit → Shared → Prop} (I : Inv X pins σ H s) (hD : H D = some (Ndo X.prog X.w D L)) (hz : L.length ≤ sizeLine) (hk : KeyOk X.K H k a) (hL : ∀ e ∈ L, KeyOk X.K H e.1 e.2.1)
    (hu : X.A.units + 8 < cLine) (h : ∀ s', Inv X pins σ (upd H D (Ndo X.prog X.w D (storedH L k a v))) s' → Q () s') : wpAny (model X.prog X.w) X.A (dictSet D (.ref a) v) Q E s := by
  obtain ⟨⟨hd, o, es, ep, h1, h2, h3, h4, h5⟩, _⟩ : ObjOk X.prog X.w H s.heap D (Ndo X.prog X.w D L) := I.hok D _ hD
  refine wpAny_dictSet_heap (knd := nestedKind X.prog X.w) hu (key_is I hk) ⟨o, es, ep, h1, h2, h3, h4, fun x hx => key_is I (hL x hx), h5⟩ (fun h' dof sb => h _ ?_) hz
  obtain ⟨o', es', ep', g1, g2, g3, g4, _, g5⟩ := dof
  exact d_write I (by rw [hD]; exact True.intro) sb ⟨o', g1⟩ (ndo_ok hd g1 g2 g3 g4 g5)
end
section
variable {X : Cx}
/-- {k: True for target in iter}, keys tuples: D the new dict -/
def tNdc (X : Cx) (wi : TI) (g : TG) (tk : TE) (vs : List Nat) : TE := fun σ H Q => wi σ H fun J H1 => ∀ D, H1 D = none → ∃ W : Nat → Nat → Hp → Prop, (∃ m, W 0 m (upd H1 D (Ndo X.prog X.w D []))) ∧ ∀ i m H, W i m H →
  (J.stop i H ∧ Q (.ref D) H) ∨ (J.go i H ∧ ∃ Nx : Hp → Prop, (∀ H', Nx H' → ∃ m', m' < m ∧ W (i + 1) m' H') ∧ ∀ x H', J.yld i H x H' → g x (wipe σ vs) H' fun σ2 H2 => wipe σ2 vs = wipe σ vs ∧
    tk σ2 H2 fun y H4 => ∃ a L k, y = .ref a ∧ KeyOk X.K H4 k a ∧ (∀ e ∈ L, KeyOk X.K H4 e.1 e.2.1) ∧ H4 D = some (Ndo X.prog X.w D L) ∧ L.length ≤ sizeLine ∧ Nx (upd H4 D (Ndo X.prog X.w D (storedH L k a (.bool true)))))
theorem pe_ndc {kx tg iter : Expr} {kt : Nat} {pt : Pos} {scope : Scope} {own : List (Str × Nat)} {pos : Pos} {wi : TI} {g : TG} {tk : TE} (hc : X.calm = true) (hu : X.A.units + 8 < cLine) (hN : X.N.Nodup) (hi : PI X tg iter wi) (ok : BlkOk X.N X.env.scope scope own)
    (hg : ∀ (s : Shared) (H : Hp) (C : Addr) (cl : List (Str × Addr)) (fp : List Addr), PG (X.blk s H scope (compEnvC scope cl C X.env) fp) tg g)
    (hk : ∀ (s : Shared) (H : Hp) (C : Addr) (cl : List (Str × Addr)) (fp : List Addr), PE (X.blk s H scope (compEnvC scope cl C X.env) fp) kx tk) (hs : ∀ x, foldedSetIterable iter X.env x = pure x) :
    PE X (.DictComp kx (.Constant (.bool true) kt pt) [⟨tg, iter, [], 0⟩] scope pos) (tNdc X wi g tk (own.map (·.2))) := by
  refine ⟨fun pins s σ H Q I h => ?_⟩
  rw [arm_eval_DictComp]
  have hfree : ∀ y ∈ scope.names, y.2 = .free → ∃ c, X.env.cells.lookup y.1 = some c := fun y hy e => (ok.free y hy e).elim (fun k => I.ok.has _ (.inl k)) (fun k => I.ok.has _ (.inr k))
  refine wpAny_comprehension_free (use := none) rfl hs (closure_ok hfree) ok.kind (fun y hy e => by rw [ok.uniq y hy, e]) (thn (hi.run pins s σ H _ I h) fun xv s1 hx => thn hx fun itv s2 h2 => ?_)
  obtain ⟨it, fp, tn, J, H2, e, I2, Tn, st2, f2, q⟩ := h2
  subst e
  refine wpAny_newObj_type (newEnv_comp ?_)
  generalize hD : s2.heap.objs.size = D
  have hsys : (D == sysModules) = false := beq_eq_false_iff_ne.mpr (Ne.symm (Nat.ne_of_lt (by rw [← hD]; exact I2.big)))
  obtain ⟨W, ⟨m0, w0⟩, turn⟩ := q D (I2.hok.fresh (Nat.le_of_eq hD))
  generalize hs3 : ({ s2 with heap := s2.heap.push { cls := .type "dict", data := .dict #[] } } : Shared) = s3
  have h3 : s3.heap = s2.heap.push { cls := .type "dict", data := .dict #[] } := by rw [← hs3]
  generalize hH3 : upd H2 D (Ndo X.prog X.w D []) = H3 at w0
  have I3 : Inv X pins σ H3 s3 := by
    rw [← hs3, ← hH3]
    exact I2.laid (t' := s2.toks) (fun b o e => Heap.get?_push_of_some _ e) (Nat.le_of_eq hD) (ndo_ok hsys (by rw [← hD]; exact Heap.get?_push_size _ rfl) ⟨rfl, rfl, rfl⟩ rfl rfl List.nodup_nil)
  have f3 : ∀ b ∈ fp, FpOk X pins H3 b ∧ b < s3.heap.objs.size := fun b hb => by
    obtain ⟨o, e, _⟩ := Tn.obj _ _ st2 b hb
    have hlt := Heap.lt_size e
    refine ⟨⟨?_, (f2 b hb).2⟩, by rw [h3, Heap.size_push]; exact Nat.lt_succ_of_lt hlt⟩
    rw [← hH3, upd_ne (by rw [← hD]; exact Nat.ne_of_lt hlt)]
    exact (f2 b hb).1
  have st3 : tn 0 s3.heap := Tn.keep _ _ _ st2 fun b _ o e => by rw [h3]; exact Heap.get?_push_of_some _ e
  have I4 := block_start I3 ok hN f3
  show codeAny _ _ (.compStart (.DictComp kx (.Constant (.bool true) kt pt) [⟨tg, iter, [], 0⟩] scope pos) 0 (.ref it) (.ref D) (compEnvC scope (cellsFrom (s3.heap.objs.size + 1) scope.names (cloFrom X.env.cells scope.names [])) s3.heap.objs.size X.env)) (compPost (model X.prog X.w) X.A X.xe none (EP X pins σ Q) (.ref D) s3.heap.objs.size) { s3 with heap := pushCells (s3.heap.push { cls := .type "dict", data := .dict #[] }) scope.names }
  generalize hce : compEnvC scope (cellsFrom (s3.heap.objs.size + 1) scope.names (cloFrom X.env.cells scope.names [])) s3.heap.objs.size X.env = ce at I4 ⊢
  have pg : PG (X.blk s3 H3 scope ce fp) tg g := by rw [← hce]; exact hg _ _ _ _ _
  have pk : PE (X.blk s3 H3 scope ce fp) kx tk := by rw [← hce]; exact hk _ _ _ _ _
  have cL : ce.locals = s3.heap.objs.size := by rw [← hce]; rfl
  generalize hs4 : ({ s3 with heap := pushCells (s3.heap.push { cls := .type "dict", data := .dict #[] }) scope.names } : Shared) = s4 at I4 ⊢
  have st4 : tn 0 s4.heap := Tn.keep _ _ _ st3 fun b _ o e => by rw [← hs4]; exact pushCells_keeps _ _ _ _ (Heap.get?_push_of_some _ e)
  have stat : ∀ {σ' : L2.St} {H' : Hp} {s' : Shared}, Inv (X.blk s3 H3 scope ce fp) [] σ' H' s' → (∀ b ∈ fp, H' b = none) → ∀ b ∈ fp, FpOk (X.blk s3 H3 scope ce fp) [] H' b := fun {σ' H' s'} I' hn b hb =>
    ⟨hn b hb, (I'.ok.exf b hb).1, I'.ok.exfs b hb, .inl hb, fun x c e => (I'.ok.exf b hb).2 x c e, fun p hp => absurd (show p ∈ ([] : List (Addr × Obj)) ++ [] from hp) (by simp)⟩
  have loop : codeAny (model X.prog X.w) X.A (.compLoop (.DictComp kx (.Constant (.bool true) kt pt) [⟨tg, iter, [], 0⟩] scope pos) 0 (.ref it) (.ref D) ce) (compPost (model X.prog X.w) X.A X.xe none (EP X pins σ Q) (.ref D) s3.heap.objs.size) s4 := by
    refine compLoop_anyD (fun n s' => ∃ i H', Inv (X.blk s3 H3 scope ce fp) [] (wipe σ (own.map (·.2))) H' s' ∧ tn i s'.heap ∧ (∀ b ∈ fp, H' b = none) ∧ W i n H') ?_ m0 ⟨0, H3, I4, st4, fun b hb => (f3 b hb).1.1, w0⟩
    rintro n s5 ⟨i, H5, I5, st5, n5, w5⟩
    rcases turn i n H5 w5 with ⟨stop, qq⟩ | ⟨go, Nx, hNx, step⟩
    · refine thnF (Tn.done (X.blk s3 H3 scope ce fp) rfl rfl rfl hc i [] s5 _ H5 (fun _ _ => False) I5 (stat I5 n5) st5 stop) fun r s6 ⟨hr, I6⟩ => ?_
      subst hr
      have I7 : Inv X pins σ H5 s6 := I3.call' (ch := fp) I6.os I6.base I6.hok I6.bare fun b hb => ⟨(f3 b hb).1.2.2.2.1, (f3 b hb).1.2.1, (f3 b hb).1.2.2.2.2.1, (f3 b hb).1.2.2.2.2.2⟩
      have nC : H5 s3.heap.objs.size = none := by rw [← cL]; exact I6.free
      obtain ⟨m, hn, _⟩ := I6.loc
      obtain ⟨e0, e1, e2, e3, e4, e5⟩ := I3.fpOk (Nat.le_refl _) nC
      refine ⟨m, by rw [← cL]; exact hn, fun h'' sb => ⟨.ref D, H5, I7.turned (t' := s6.toks) (fun b o hb e => (sb.2 b hb).trans e) e0 e1 e3 e4 e5, rfl, qq⟩⟩
    · refine thnF (Tn.item (X.blk s3 H3 scope ce fp) rfl rfl rfl hc i [] s5 _ H5 (fun _ _ => False) I5 (stat I5 n5) st5 go) fun r s6 ⟨u, hr, h6⟩ => ?_
      subst hr
      refine thnF h6 fun _ s7 ⟨x, H7, I7, r7, y7, st7, n7⟩ => ?_
      refine thnF (pg.run _ s7 _ H7 x u _ (I7.pinned (stat I7 n7) (Tn.obj _ _ st7)) r7 (step x H7 y7)) fun _ s8 ⟨σ8, H8, I8, hw8, q8⟩ => ?_
      refine thnF ((pts_nil (X := X.blk s3 H3 scope ce fp)).run _ s8 σ8 H8 (fun b H' => b = true ∧ H' = H8) I8 ⟨rfl, rfl⟩) fun b s9 ⟨H9, I9, eb, eH⟩ => ?_
      subst eb; subst eH
      simp only [if_true]
      refine thnF (pk.run _ s9 σ8 _ _ I9 q8) fun z s10 ⟨yk, H10, I10, r10, a, L, k, ey, hka, hL, hD10, hz10, nx⟩ => ?_
      subst ey
      obtain rfl : z = Value.ref a := r10
      refine thnF ((pe_bl (X := X.blk s3 H3 scope ce fp)).run _ s10 σ8 H10 (fun x H' => x = .bl true ∧ H' = H10) I10 ⟨rfl, rfl⟩) fun z2 s11 ⟨xb, H11, I11, r11, eb, eH⟩ => ?_
      subst eb; subst eH
      obtain rfl : z2 = Value.bool true := r11
      refine nd_set (X := X.blk s3 H3 scope ce fp) I11 hD10 hz10 hka hL hu fun s12 I12 => ?_
      obtain ⟨m', hm, w'⟩ := hNx _ nx
      have pin' : ∀ b ∈ fp, ∀ o, s7.heap.get? b = some o → s12.heap.get? b = some o ∧ _ = none := fun b hb o e =>
        let z := I12.pin (b, o) (List.mem_append_right _ (List.mem_append_right _ (mem_pinsAt hb e)))
        ⟨z.1, z.2.1⟩
      have hl : (wipe σ (own.map (·.2))).length = σ8.length := by rw [← hw8, wipe_length]
      refine ⟨m', hm, i + 1, _, (I12.unpinned (pins := [])).weak hl (fun j v e => by rw [← hw8] at e; exact (wipe_some e).1), Tn.keep _ _ _ st7 fun b hb o e => (pin' b hb o e).1, fun b hb => ?_, w'⟩
      obtain ⟨o, e, _⟩ := Tn.obj _ _ st7 b hb
      exact (pin' b hb o e).2
  exact codeAny_compStart_dict loop (Tn.self X.A 0 _ _ _ st4 loop)
/-! ### list(d) -/
def rListNd (X : Cx) : List V → Hp → VK → Prop := fun xs H Q => ∃ a L, xs = [V.ref a] ∧ H a = some (Ndo X.prog X.w a L) ∧ L.length ≤ sizeLine ∧ ∀ p, H p = none → Q (.ref p) (upd H p (.lst (L.map fun e => V.ref e.2.1)))
theorem call_listNd (hc : X.calm = true) : CallR X (.type "list") (rListNd X) := by
  intro pins s σ H xs us Q I r ⟨d, L, ex, hd, hz, q⟩
  subst ex
  obtain ⟨u, rfl, ru⟩ := vals1 r
  obtain rfl : u = Value.ref d := ru
  obtain ⟨⟨hs, o, es, ep, ho, hx, hdt, he, hn⟩, _⟩ : ObjOk X.prog X.w H s.heap d (Ndo X.prog X.w d L) := I.hok d _ hd
  have l1 : es.size = L.length := size_of_entries he
  refine PySem.W.kdl_call (kdl_raw hs hx hdt) (I.ok.hd hc) ho (by omega) fun h' tk acc' c' kp e it => ?_
  have ea : acc'.toList = L.map fun x => Value.ref x.2.1 := by
    have hl : acc'.toList.length = L.length := by rw [Array.length_toList, it.1]; exact l1
    refine List.ext_getElem (by rw [hl, List.length_map]) fun j h1 h2 => ?_
    obtain ⟨en, hen, hv⟩ := it.2 j acc'.toList[j] (by rw [← Array.getElem?_toList]; exact List.getElem?_eq_getElem h1)
    have qe := entry_at he j
    rw [hen, List.getElem?_eq_getElem (by omega : j < L.length)] at qe
    rw [hv, Option.some.inj qe, List.getElem_map]
    rfl
  refine ⟨.ref s.heap.objs.size, upd H s.heap.objs.size (.lst (L.map fun e => V.ref e.2.1)), I.laid (t' := tk) kp (Nat.le_refl _) ⟨by rw [List.length_map]; exact hz, acc'.toList, c', ?_, ?_⟩, rfl, q _ (I.hok.fresh (Nat.le_refl _))⟩
  · rw [ea]
    have := vals_refs (L.map fun x => x.2.1)
    rw [List.map_map, List.map_map] at this
    exact this
  · rw [Array.toArray_toList]; exact e
end
end PP
end

section
set_option linter.all false
set_option autoImplicit false
set_option maxRecDepth 100000
set_option maxHeartbeats 1000000
set_option Elab.async false
/-! sorted(set(x)), len(set(x)), list({x: True for x in xs}), sum(d.values()), sorted(xs, key=len). -/
namespace PP
open PySem PySem.Spec PyProof.Rows L2
def isSetE : Expr → Bool
  | .Set .. => true
  | _ => false
/-- a block's names as they stand in the run -/
def rel (scope outer : Scope) : Scope :=
  { scope with names := scope.names.map fun (n, k) => if (k == .free && outer.kind == .function && outer.names.lookup n == some .cell) then (n, .cell) else (n, k) }
theorem rel_eq (scope : Scope) (env : PySem.Env) : relabel scope env = rel scope env.scope := rfl
theorem fold_of {iter : Expr} {env : PySem.Env} (h : isSetE iter = false) : ∀ x, foldedSetIterable iter env x = pure x := by
  intro x
  cases iter <;> first | rfl | (cases h)
theorem settable_hsh {ds : List D} (h : settable ds = true) : ∀ x ∈ ds, hshk x = true := by
  simp only [settable, Bool.and_eq_true, Bool.or_eq_true, decide_eq_true_eq, List.all_eq_true] at h
  rcases h.1 with h | h
  · cases hi : intsD ds with
    | none => rw [hi] at h; cases h
    | some ns =>
      rw [intsD_map hi]
      intro x hx
      obtain ⟨k, _, rfl⟩ := List.mem_map.mp hx
      rfl
  · exact h.1.1
section
variable {X : Cx} {ca : Nat → Addr} {E : XK} {T : Tb} {N : List Str} {call : Nat → List D → Sto → Res D}
theorem snd_setOf {f : Bi} {x : Str} {id : String} {r : List V → Hp → VK → Prop} {a : Expr} {p p2 q pos : Pos} {m : Env → Sto → Res D} (c : Cxt T N ca call X) (hbx : bootBuiltins x = some (.builtin id)) (hcr : CallR X (.builtin id) r) (hg : gloB X.env.scope x = true) (hb : x ∈ T.bis) (hg2 : gloB X.env.scope "set" = true) (hb2 : ("set" : Str) ∈ T.bis) (hx : okN x = true) (ha : Snd X ca E a m) (na : noStar a = true)
    (key : ∀ im am st d H Q y, StOk X.K st im am H → Rp X.K im am d y → Wp X.K ca (Rp X.K) E im am H (biR f [d] st) Q → rSetD X [y] H fun z H2 => r [z] H2 Q) :
    Snd X ca E (.Call (.Name x p) [.Call (.Name "set" p2) [a] [] q] [] pos) (fun env st => (m env st).bind fun x st => biR f [x] st) := by
  have hu : X.A.units + 64 < cLine := by have := c.un; omega
  have inner := pe_callTy (p := p2) (pos := q) (set_D c.calm hu) (gloB_ok hg2) (c.bi _ hb2) PyProof.Rows.boot_set (pa_cons ha.pe pa_nil (star_of na)) (by decide) (by decide) (star_of na) rfl
  refine Snd.val (PE.im (pe_callB hcr (gloB_ok hg) (c.bi _ hb) hbx (pa_cons inner pa_nil (star_of rfl)) (okN_ok hx).n (okN_ok hx).d (star_of rfl) rfl) fun σ H Q ⟨im, am, env, st, eo, so, w⟩ => ?_) rfl
  exact ⟨im, am, env, st, eo, so, Wp.seq w fun y H1 im1 am1 d st1 e1 s1 r1 w1 => key im1 am1 st1 d H1 Q y s1 r1 w1⟩
theorem snd_sortedSet {a : Expr} {p p2 q pos : Pos} {m : Env → Sto → Res D} (c : Cxt T N ca call X) (hg : gloB X.env.scope "sorted" = true) (hb : ("sorted" : Str) ∈ T.bis) (hg2 : gloB X.env.scope "set" = true) (hb2 : ("set" : Str) ∈ T.bis) (ha : Snd X ca E a m) (na : noStar a = true) :
    Snd X ca E (.Call (.Name "sorted" p) [.Call (.Name "set" p2) [a] [] q] [] pos) (fun env st => (m env st).bind fun x st => biR .sortedSet [x] st) := by
  have hu : X.A.units + 64 < cLine := by have := c.un; omega
  refine snd_setOf (r := rSortSetD X) c PyProof.Rows.boot_sorted (sortSet_D c.calm hu) hg hb hg2 hb2 (by decide +kernel) ha na fun im am st d H Q y so rd w => ?_
  cases he : elems d st with
  | none =>
    have : biR .sortedSet [d] st = .stuck := by simp only [biR, he]
    rw [this] at w; exact w.elim
  | some ds =>
    have e : biR .sortedSet [d] st = if sortable ds && settable ds && decide (ds.length ≤ 60) then .ok (.lst (sortD (dedup ds))) st else .stuck := by simp only [biR, he]
    rw [e] at w
    split at w
    · rename_i hc
      simp only [Bool.and_eq_true, decide_eq_true_eq] at hc
      exact ⟨im, am, st, d, ds, y, rfl, so, rd, he, hc.1.2, hc.2, fun p hp => ⟨p, im, am, _, am, st, ds, rfl, upd_same, same_upd (so.imn hp), List.prefix_refl _, so.add hp, hc.1.1, settable_hsh hc.1.2, hc.2, fun p' vs' hp' rp' =>
        fin_new (Wp.ext (Ext.add so hp) w) (so.add hp) hp' fun im' hs hi => .lst hi (RpAll.mono hs (List.prefix_refl _) _ _ rp')⟩⟩
    · exact w.elim
theorem snd_lenSet {a : Expr} {p p2 q pos : Pos} {m : Env → Sto → Res D} (c : Cxt T N ca call X) (hg : gloB X.env.scope "len" = true) (hb : ("len" : Str) ∈ T.bis) (hg2 : gloB X.env.scope "set" = true) (hb2 : ("set" : Str) ∈ T.bis) (ha : Snd X ca E a m) (na : noStar a = true) :
    Snd X ca E (.Call (.Name "len" p) [.Call (.Name "set" p2) [a] [] q] [] pos) (fun env st => (m env st).bind fun x st => biR .lenSet [x] st) := by
  refine snd_setOf (r := rLenSetD X) c PySem.boot_len lenSet_D hg hb hg2 hb2 (by decide +kernel) ha na fun im am st d H Q y so rd w => ?_
  cases he : elems d st with
  | none =>
    have : biR .lenSet [d] st = .stuck := by simp only [biR, he]
    rw [this] at w; exact w.elim
  | some ds =>
    have e : biR .lenSet [d] st = if settable ds && decide (ds.length ≤ 60) then .ok (.int (dedup ds).length) st else .stuck := by simp only [biR, he]
    rw [e] at w
    split at w
    · rename_i hc
      simp only [Bool.and_eq_true, decide_eq_true_eq] at hc
      exact ⟨im, am, st, d, ds, y, rfl, so, rd, he, hc.1, hc.2, fun p hp => ⟨p, im, am, ds, rfl, upd_same, settable_hsh hc.1, Wp.fin (st := st) (Wp.ext (Ext.add so hp) w) (so.add hp) (.int _)⟩⟩
    · exact w.elim
/-! ### sum(d.values()), sorted(xs, key=len) -/
theorem ks_vals {K : PySem.W.Frag} {im : Hp} {am : List Addr} : ∀ {ds : List (D × D)} {ks : List (Key × V)} {is : List Int}, RpKs K im am ds ks → intsD (ds.map (·.2)) = some is → ks.map (·.2) = is.map V.int
  | [], _, is, h, e => by cases h; cases e; rfl
  | (k, d) :: ds, _, is, h, e => by
    cases h with
    | cons ok r t =>
      rw [List.map_cons] at e
      cases d with
      | int i =>
        simp only [intsD] at e
        cases e2 : intsD (ds.map (·.2)) with
        | none => rw [e2] at e; cases e
        | some js =>
          rw [e2] at e
          cases e
          cases r
          rw [List.map_cons, List.map_cons, ks_vals t e2]
      | _ => simp [intsD] at e
theorem snd_sumV {o : Expr} {p pos apos mpos : Pos} {m : Env → Sto → Res D} (c : Cxt T N ca call X) (hg : gloB X.env.scope "sum" = true) (hb : ("sum" : Str) ∈ T.bis) (ha : Snd X ca E o m) (hp : plainBase o = true) (hl : (apos.endLine == mpos.line) = true) :
    Snd X ca E (.Call (.Name "sum" p) [.Call (.Attribute o "values" apos) [] [] mpos] [] pos) (fun env st => (m env st).bind fun x st => sumR x st) :=
  Snd.val (PE.im (pe_sumVals c.calm (gloB_ok hg) (c.bi _ hb) ha.pe (base_of hp) hl (star_of rfl)) fun σ H Q ⟨im, am, env, st, eo, so, w⟩ => ⟨im, am, env, st, eo, so, Wp.seq w fun x H1 im1 am1 a st1 e1 s1 r1 w1 => by
    cases a with
    | dct kvs =>
      cases r1 with
      | @dct a o ks _ q1 q2 =>
        have w1 : Wp X.K ca (Rp X.K) E im1 am1 H1 (ofO ((intsD (kvs.map (·.2))).map fun ns => .int ns.sum) st1) Q := w1
        cases hi : intsD (kvs.map (·.2)) with
        | none => rw [hi] at w1; exact w1.elim
        | some is =>
          rw [hi] at w1
          exact ⟨a, ks, is, rfl, .inr ⟨o, s1.same _ _ q1⟩, ks_vals q2 hi, Wp.fin (st := st1) w1 s1 (.int _)⟩
    | _ => exact w1.elim⟩) rfl
theorem snd_sortLen {a : Expr} {p p2 kp pos : Pos} {m : Env → Sto → Res D} (c : Cxt T N ca call X) (hg : gloB X.env.scope "sorted" = true) (hb : ("sorted" : Str) ∈ T.bis) (hg2 : gloB X.env.scope "len" = true) (hb2 : ("len" : Str) ∈ T.bis) (ha : Snd X ca E a m) (na : noStar a = true) :
    Snd X ca E (.Call (.Name "sorted" p) [a] [⟨some "key", .Name "len" p2, kp⟩] pos) (fun env st => (m env st).bind fun x st => biR .sortLen [x] st) :=
  Snd.val (PE.im (pe_sortLen (by have := c.un; omega) (gloB_ok hg) (c.bi _ hb) (gloB_ok hg2) (c.bi _ hb2) (pa_cons ha.pe pa_nil (star_of na)) (star_of na)) fun σ H Q ⟨im, am, env, st, eo, so, w⟩ => ⟨im, am, env, st, eo, so, Wp.seq w fun x H1 im1 am1 a st1 e1 s1 r1 w1 => by
    refine ⟨x, rfl, ?_⟩
    cases a with
    | lst ys =>
      have w1 : Wp X.K ca (Rp X.K) E im1 am1 H1 (if ys.all isTp && decide (ys.length ≤ lim) then .ok (.lst (isort (fun a b => decide (lenD a ≤ lenD b)) ys)) st1 else .stuck) Q := w1
      split at w1
      · rename_i hc
        simp only [Bool.and_eq_true, decide_eq_true_eq, List.all_eq_true] at hc
        exact ⟨im1, am1, st1, ys, s1, r1, hc.1, hc.2, fun p vs' hp rp => fin_new w1 s1 hp fun im' hs hi => .lst hi (RpAll.mono hs (List.prefix_refl _) _ _ rp)⟩
      · exact w1.elim
    | _ => exact w1.elim⟩) rfl
/-! ### list({x: True for x in xs}) -/
theorem dedup_snoc {d : D} (hd : hshk d = true) : ∀ {xs : List D}, (∀ x ∈ xs, hshk x = true) → dedup (xs ++ [d]) = if nk d ∈ (dedup xs).map nk then dedup xs else dedup xs ++ [d]
  | [], _ => by simp [dedup]
  | x :: xs, h => by
    have hx := h x List.mem_cons_self
    have ih := dedup_snoc hd fun y hy => h y (List.mem_cons_of_mem _ hy)
    rw [List.cons_append, dedup, dedup, ih, List.map_cons]
    by_cases e : nk d = nk x
    · rw [e, if_pos List.mem_cons_self]
      have e1 : eqD x d = true := (eqD_nk x d hx hd).mpr e.symm
      split
      · rfl
      · rw [List.filter_append]; simp [e1]
    · have e1 : eqD x d = false := by
        cases c : eqD x d with
        | false => rfl
        | true => exact absurd ((eqD_nk x d hx hd).mp c).symm e
      by_cases hm : nk d ∈ (dedup xs).map nk
      · rw [if_pos hm, if_pos]
        obtain ⟨y, hy, ey⟩ := List.mem_map.mp hm
        refine List.mem_cons_of_mem _ (List.mem_map.mpr ⟨y, List.mem_filter.mpr ⟨hy, ?_⟩, ey⟩)
        cases c : eqD x y with
        | false => rfl
        | true => exact absurd (ey.symm.trans ((eqD_nk x y hx (h y (List.mem_cons_of_mem _ (dedup_sub xs y hy)))).mp c).symm) e
      · rw [if_neg hm, if_neg, List.filter_append]
        · simp [e1]
        · intro hq
          rcases List.mem_cons.mp hq with q | q
          · exact e q
          · obtain ⟨y, hy, ey⟩ := List.mem_map.mp q
            exact hm (List.mem_map.mpr ⟨y, (List.mem_filter.mp hy).1, ey⟩)
theorem dedup_le : ∀ l : List D, (dedup l).length ≤ l.length
  | [] => Nat.le_refl _
  | x :: l => by rw [dedup, List.length_cons, List.length_cons]; exact Nat.succ_le_succ (Nat.le_trans (List.length_filter_le _ _) (dedup_le l))
def EntsR (K : PySem.W.Frag) (im : Hp) (am : List Addr) : Ents → List D → Prop := PySem.W.EachIs fun e d => e.1 = nk d ∧ Rp K im am d (.ref e.2.1) ∧ hshk d = true ∧ dep d ≤ 8
theorem EntsR.mono {K : PySem.W.Frag} {im im' : Hp} {am am' : List Addr} {L : Ents} {ds : List D} (hs : Same im im') (hp : am <+: am') (h : EntsR K im am L ds) : EntsR K im' am' L ds :=
  PySem.W.EachIs.mono (fun e d ⟨h1, h2, h3⟩ => ⟨h1, h2.mono hs hp _ _, h3⟩) h
theorem EntsR.key {K : PySem.W.Frag} {im H : Hp} {am : List Addr} {L : Ents} {ds : List D} (h : EntsR K im am L ds) (hs : Same im H) : ∀ e ∈ L, KeyOk K H e.1 e.2.1 := fun e he => by
  obtain ⟨d, _, h1, h2, h3, h4⟩ := PySem.W.EachIs.left h e he
  exact ⟨im, am, d, hs, h2, h3, h4, h1⟩
theorem EntsR.keys {K : PySem.W.Frag} {im : Hp} {am : List Addr} {L : Ents} {ds : List D} (h : EntsR K im am L ds) : L.map (·.1) = ds.map nk := by
  induction h with
  | nil => rfl
  | cons r h ih => rw [List.map_cons, List.map_cons, ih, r.1]
theorem EntsR.vals {K : PySem.W.Frag} {im : Hp} {am : List Addr} {L : Ents} {ds : List D} (h : EntsR K im am L ds) : RpAll K im am ds (L.map fun e => V.ref e.2.1) := by
  induction h with
  | nil => exact .nil
  | cons r h ih => rw [List.map_cons]; exact .cons r.2.1 ih
theorem EntsR.put {K : PySem.W.Frag} {im : Hp} {am : List Addr} {L : Ents} {ds : List D} (h : EntsR K im am L ds) (k : NestedKey) (v : Value) : EntsR K im am (L.map (putAt k v)) ds := by
  induction h with
  | nil => exact .nil
  | cons r h ih =>
    rw [List.map_cons]
    refine .cons ?_ ih
    unfold putAt
    split <;> exact r
theorem EachIs.snoc {α β : Type} {R : α → β → Prop} {as : List α} {bs : List β} (h : PySem.W.EachIs R as bs) {a : α} {b : β} (r : R a b) : PySem.W.EachIs R (as ++ [a]) (bs ++ [b]) := by
  induction h with
  | nil => exact .cons r .nil
  | cons r0 h ih => exact .cons r0 ih
theorem EntsR.store {K : PySem.W.Frag} {im : Hp} {am : List Addr} {L : Ents} {xs : List D} {d : D} {a : Addr} {v : Value} (h : EntsR K im am L (dedup xs)) (hx : ∀ x ∈ xs, hshk x = true) (hd : hshk d = true) (h8 : dep d ≤ 8) (r : Rp K im am d (.ref a)) : EntsR K im am (storedH L (nk d) a v) (dedup (xs ++ [d])) := by
  rw [dedup_snoc hd hx, ← h.keys]
  by_cases hm : nk d ∈ L.map (·.1)
  · rw [if_pos hm]
    cases e : atKey L (nk d) with
    | none =>
      exfalso
      obtain ⟨p, hp, ep⟩ := List.mem_map.mp hm
      unfold atKey at e
      rw [Option.map_eq_none_iff, List.find?_eq_none] at e
      exact e p hp (by simpa using ep)
    | some q => rw [storedH_old e]; exact h.put _ _
  · rw [if_neg hm]
    have e : atKey L (nk d) = none := by
      unfold atKey
      rw [Option.map_eq_none_iff, List.find?_eq_none]
      intro p hp
      simp only [decide_eq_true_eq]
      exact fun e => hm (List.mem_map.mpr ⟨p, hp, e⟩)
    rw [storedH_new e]
    exact EachIs.snoc h ⟨rfl, r, hd, h8⟩
theorem upd_noop {H : Hp} {D : Addr} {o : HO} (h : H D = some o) : upd H D o = H := by
  funext b
  by_cases e : b = D
  · subst e; rw [upd_same, h]
  · rw [upd_ne e]
theorem dd_tE {j : Nat} {m : Env → Sto → Res D} {σ : L2.St} {H : Hp} {Q : VK}
    (h : tE X.K ca E (fun env st => (m env st).bind fun x st => if j < env.length then biR .dedupe [x] st else .stuck) σ H Q) :
    tCB (rListNd X) (tCons (tNdc X (tI X.K ca E fun env st => (m env st).bind fun d st => ofO (wkOf d st) st) (gT X.K (.name j)) (tE X.K ca E0 fun env st => ofO (getS env j) st) [j]) tNil) σ H Q := by
  obtain ⟨im, am, env, st, eo, so, w⟩ := h
  refine ⟨im, am, env, st, eo, so, ?_⟩
  have w : Wp X.K ca (Rp X.K) E im am H ((m env st).bind fun x st => if j < env.length then biR .dedupe [x] st else .stuck) Q := w
  show Wp X.K ca (ItR X.K) E im am H ((m env st).bind fun d st => ofO (wkOf d st) st) _
  cases hr : m env st with
  | err c st1 => rw [hr] at w; exact w
  | stuck => rw [hr] at w; exact w.elim
  | ok d st1 =>
    rw [hr, Res.bind_ok] at w
    rw [Res.bind_ok]
    split at w
    case isFalse => exact w.elim
    rename_i hj
    cases d with
    | lst xs =>
      have w : Wp X.K ca (Rp X.K) E im am H (if (xs.all hshk && xs.all isTp && xs.all fun x => decide (dep x ≤ 8)) && decide (xs.length ≤ lim) then .ok (.lst (dedup xs)) st1 else .stuck) Q := w
      split at w
      case isFalse => exact w.elim
      rename_i hc
      simp only [Bool.and_eq_true, decide_eq_true_eq, List.all_eq_true] at hc
      obtain ⟨⟨⟨c1, c2⟩, c3⟩, c4⟩ := hc
      show Wp X.K ca (ItR X.K) E im am H (.ok ⟨xs, []⟩ st1) _
      intro im1 am1 H1 J e1 s1 r1
      have w1 := Wp.ext e1 w
      obtain ⟨G, Y, wlk, hG⟩ := r1
      intro D hD
      have f0 : Flo im1 am1 H1 D im1 am1 (upd H1 D (Ndo X.prog X.w D [])) := Flo.start s1 hD
      refine ⟨fun i n H' => n = xs.length - i ∧ i ≤ xs.length ∧ ∃ im2 am2 L, Flo im1 am1 H1 D im2 am2 H' ∧ StOk X.K st1 im2 am2 H' ∧ H' D = some (Ndo X.prog X.w D L) ∧ EntsR X.K im2 am2 L (dedup (xs.take i)),
        ⟨_, rfl, Nat.zero_le _, im1, am1, [], f0, s1.flo (s1.imn hD) (s1.amn hD), upd_same, .nil⟩, ?_⟩
      rintro i n H' ⟨rfl, hi, im2, am2, L, f, s, hd, ra⟩
      have hLl : L.length ≤ sizeLine := by
        have h1 : L.length = (dedup (xs.take i)).length := PySem.W.EachIs.length ra
        have h2 : (dedup (xs.take i)).length ≤ (xs.take i).length := dedup_le _
        have h3 : (xs.take i).length ≤ xs.length := by rw [List.length_take]; exact Nat.min_le_right _ _
        exact lim_size (by omega)
      obtain ⟨g1, g2⟩ := hG im2 am2 H' st1 f.ext.same f.ext.pre s rfl
      rcases Nat.lt_or_ge i xs.length with hlt | hge
      case inr =>
        have ei : i = xs.length := by omega
        subst ei
        rw [List.take_length] at ra
        refine .inl ⟨wlk.stops H' g1, D, L, rfl, hd, hLl, fun p hp => ?_⟩
        obtain ⟨e3, s3, hs3, hi3⟩ := f.fin s (o := Ndo X.prog X.w D L)
        rw [upd_noop hd] at e3 s3
        exact fin_new (Wp.ext e3 w1) s3 hp fun im' hs hi => .lst hi (RpAll.mono hs (List.prefix_refl _) _ _ (ra.mono hs3 (List.prefix_refl _)).vals)
      refine .inr ⟨wlk.goes i H' hlt g1, fun H'' => ∃ im2 am2 L, Flo im1 am1 H1 D im2 am2 H'' ∧ StOk X.K st1 im2 am2 H'' ∧ H'' D = some (Ndo X.prog X.w D L) ∧ EntsR X.K im2 am2 L (dedup (xs.take (i + 1))), fun H'' p' => ⟨xs.length - (i + 1), by omega, rfl, hlt, p'⟩, fun x H'' y => ?_⟩
      obtain ⟨im3, d, hx, e3, s3, r3⟩ := g2 i x H'' hlt (wlk.yields i H' x H'' hlt g1 y)
      have hx : xs[i]? = some d := hx
      have hdm : d ∈ xs := List.mem_of_getElem? hx
      obtain ⟨f3, k3⟩ := f.step e3
      have eo3 : EnvOk X.K im3 am2 (wipeE env [j]) (wipe σ [j]) := (((eo.ext e1).ext f.ext).ext e3).wipe [j]
      refine ⟨im3, am2, wipeE env [j], st1, d, _, eo3, s3, r3, rfl, fun σ2 eo4 hw => ⟨(hw [j] (fun i hi => hi)).trans wipe_wipe, ?_⟩⟩
      refine ⟨im3, am2, _, st1, eo4, s3, ?_⟩
      have hget : getS ((wipeE env [j]).set j (some d)) j = some d := by
        unfold getS
        rw [List.getElem?_set_self (by unfold wipeE; unfold wipeE; simpa using hj)]
        rfl
      show Wp X.K ca (Rp X.K) E0 im3 am2 H'' (ofO (getS (List.set (wipeE env [j]) j (some d)) j) st1) _
      rw [hget]
      intro im4 am4 H4 z e4 s4 r4
      obtain ⟨f4, k4⟩ := f3.step e4
      have hnk : ∃ a, z = V.ref a := by
        have := c2 d hdm
        cases d with
        | tup ys => cases r4 with | tup _ _ => exact ⟨_, rfl⟩
        | _ => cases this
      obtain ⟨a, rfl⟩ := hnk
      have ra4 := ra.mono (e3.same.trans e4.same) (e3.pre.trans e4.pre)
      have hsub : ∀ x ∈ xs.take i, hshk x = true := fun x hx => c1 x (List.mem_of_mem_take hx)
      refine ⟨a, L, nk d, rfl, ⟨im4, am4, d, s4.same, r4, c1 d hdm, c3 d hdm, rfl⟩, ra4.key s4.same, k4 _ (k3 _ hd), hLl, im4, am4, _, f4.write, s4.flo f4.im f4.am, upd_same, ?_⟩
      rw [List.take_succ, hx]
      exact ra4.store hsub (c1 d hdm) (c3 d hdm) r4
    | _ => exact w.elim
theorem snd_dd {j : Nat} {y : Str} {iter : Expr} {kt : Nat} {p p1 pt p3 dpos pos : Pos} {scope : Scope} {m : Env → Sto → Res D} (c : Cxt T N ca call X) (hg : gloB X.env.scope "list" = true) (hb : ("list" : Str) ∈ T.bis) (ha : Snd X ca E iter m) (hj : N[j]? = some y) (hbl : blkC N X.env.scope scope [(y, j)] = true) (hs : isSetE iter = false)
    (hv : visB (rel scope X.env.scope) y = true) (hy : okN y = true) (ht : ckTg N (fun x => scope.names.lookup x == some .cell) (rel scope X.env.scope) (.name j) (.Name y p3) = true) :
    Snd X ca E (.Call (.Name "list" p) [.DictComp (.Name y p1) (.Constant (.bool true) kt pt) [⟨.Name y p3, iter, [], 0⟩] scope dpos] [] pos) (fun env st => (m env st).bind fun x st => if j < env.length then biR .dedupe [x] st else .stuck) := by
  have hN : X.N.Nodup := by rw [c.nm]; exact c.nd
  have ok : BlkOk X.N X.env.scope scope [(y, j)] := by rw [c.nm]; exact blkOk_by hbl
  have inner := pe_ndc (tk := tE X.K ca E0 fun env st => ofO (getS env j) st) (g := gT X.K (.name j)) (tg := .Name y p3) (kx := .Name y p1) (kt := kt) (pt := pt) (pos := dpos) c.calm (by have := c.un; omega) hN (pi_ex ha.pe) ok
    (fun s H C cl fp => pg_ck (F := fun x => scope.names.lookup x == some .cell) (c.blk s H scope cl C fp) (fun x hx => hx) _ _ ht)
    (fun s H C cl fp => (snd_slot (E := E0) (p := p1) (c.blk s H scope cl C fp) hj hv hy).pe) (fold_of hs)
  exact Snd.val (PE.im (pe_callTy (call_listNd c.calm) (gloB_ok hg) (c.bi _ hb) PyProof.Rows.boot_list (pa_cons inner pa_nil (star_of rfl)) (by decide) (by decide) (star_of rfl) rfl) fun σ H Q w => dd_tE w) rfl
end
end PP
end

section
set_option linter.all false
set_option autoImplicit false
set_option maxRecDepth 100000
set_option Elab.async false
/-! The pairing of expressions, checked. -/
namespace PP
open PySem PySem.Spec PyProof.Rows L2
def opB : BOp → Operator → Bool
  | .add, .Add | .sub, .Sub | .mul, .Mult | .mod, .Mod | .fdiv, .FloorDiv | .pow, .Pow => true
  | _, _ => false
def cmpB : COp → CmpOp → Bool
  | .eq, .Eq | .ne, .NotEq | .lt, .Lt | .le, .LtE | .gt, .Gt | .ge, .GtE | .isin, .In | .notin, .NotIn => true
  | _, _ => false
def opO : BOp → Operator
  | .add => .Add | .sub => .Sub | .mul => .Mult | .mod => .Mod | .fdiv => .FloorDiv | .pow => .Pow
def cmpO : COp → CmpOp
  | .eq => .Eq | .ne => .NotEq | .lt => .Lt | .le => .LtE | .gt => .Gt | .ge => .GtE | .isin => .In | .notin => .NotIn
def biN : Bi → Str
  | .len => "len" | .list => "list" | .tuple => "tuple" | .all => "all" | .any => "any" | .sum => "sum" | .abs => "abs" | .min2 => "min" | .max2 => "max" | .maxl => "max" | .int => "int" | .bool => "bool" | .str => "str"
  | .sorted => "sorted" | .sortedSet => "sorted" | .lenSet => "len" | _ => ""
/-- the built-ins that are called plainly -/
def biPl : Bi → Bool
  | .len | .list | .tuple | .all | .any | .sum | .abs | .min2 | .max2 | .maxl | .int | .bool | .str | .sorted => true
  | _ => false
def mtN : Mt → Str
  | .append => "append" | .pop => "pop" | .count => "count" | .index => "index" | _ => ""
def inB (T : Tb) (sc : Scope) (x : Str) : Bool := gloB sc x && T.bis.contains x
section
variable (T : Tb) (N : List Str)
mutual
def ckE : E → Scope → Expr → Bool
  | .slot i, sc, e => match e with
    | .Name x _ => decide (N[i]? = some x) && visB sc x && okN x
    | _ => false
  | .lit d, sc, e => litB T d sc e
  | .tup es, sc, e => match e with
    | .Tuple l _ _ => ckEs es sc l && decide (l.length ≤ 1000)
    | _ => false
  | .lst es, sc, e => match e with
    | .List l _ => ckEs es sc l && decide (l.length ≤ 1000)
    | _ => false
  | .mlst es, sc, e => match e with
    | .List l _ => ckEs es sc l && decide (l.length ≤ 1000)
    | _ => false
  | .dsp ks es, sc, e => match e with
    | .Dict keys vals _ => dKeys keys ks && ckEs es sc vals && decide (keys.length = vals.length) && decide (0 < keys.length) && decide (keys.length ≤ 15)
    | _ => false
  | .bin op a b, sc, e => match e with
    | .BinOp l o r _ => opB op o && ckE a sc l && ckE b sc r
    | _ => false
  | .neg a, sc, e => match e with
    | .UnaryOp .USub x _ => ckE a sc x
    | _ => false
  | .cmp op a b, sc, e => match e with
    | .Compare l [o] [r] _ => cmpB op o && !behindInMarks o r && ckE a sc l && ckE b sc r
    | _ => false
  | .rng lo x hi, sc, e => match e with
    | .Compare l [.LtE, .LtE] [b, c] _ => !lastMarks [.LtE, .LtE] [b, c] && ckE lo sc l && ckE x sc b && ckE hi sc c
    | _ => false
  | .and a b, sc, e => match e with
    | .BoolOp .And (x :: y :: r) p => ckE a sc x && (match r with
      | [] => ckE b sc y
      | z :: r => ckE b sc (.BoolOp .And (y :: z :: r) p))
    | _ => false
  | .or a b, sc, e => match e with
    | .BoolOp .Or (x :: y :: r) p => ckE a sc x && (match r with
      | [] => ckE b sc y
      | z :: r => ckE b sc (.BoolOp .Or (y :: z :: r) p))
    | _ => false
  | .not a, sc, e => match e with
    | .UnaryOp .Not x _ => ckE a sc x
    | _ => false
  | .ife t a b, sc, e => match e with
    | .IfExp c x y _ => ckE t sc c && ckE a sc x && ckE b sc y
    | _ => false
  | .idx a i, sc, e => match e with
    | .Subscript x y _ => plainIx y && ckE a sc x && ckE i sc y
    | _ => false
  | .slc a lo hi, sc, e => match e with
    | .Subscript x (.Slice (some l) (some h) none _) _ => ckE a sc x && ckE lo sc l && ckE hi sc h
    | _ => false
  | .slcF a lo, sc, e => match e with
    | .Subscript x (.Slice (some l) none none _) _ => ckE a sc x && ckE lo sc l
    | _ => false
  | .slcT a hi, sc, e => match e with
    | .Subscript x (.Slice none (some h) none _) _ => ckE a sc x && ckE hi sc h
    | _ => false
  | .slcN n a, sc, e => match e with
    | .Subscript x (.Slice (some (.Constant (.int j) _ _)) none none _) _ => decide (j = (n : Int)) && ckE a sc x
    | _ => false
  | .rev a, sc, e => match e with
    | .Subscript x (.Slice none none (some (.UnaryOp .USub (.Constant (.int 1) _ _) _)) _) _ => ckE a sc x
    | _ => false
  | .call f es, sc, e => match e with
    | .Call (.Name x _) args [] _ => decide (T.fns.lookup x = some (f, args.length)) && gloB sc x && okN x && ckEs es sc args
    | _ => false
  | .bi b es, sc, e => match e with
    | .Call (.Name x _) (a :: args) [] _ => decide (x = biN b) && inB T sc x && biPl b && ckEs es sc (a :: args)
    | _ => false
  | .isi ts a, sc, e => match e with
    | .Call (.Name x _) [y, .Name z _] [] _ => (match ts with
      | [t] => decide (x = "isinstance") && decide (z = tyS t) && inB T sc x && inB T sc z && noStar y && ckE a sc y
      | _ => false)
    | .Call (.Name x _) [y, .Tuple [.Name z _, .Name z2 _] _ _] [] _ => (match ts with
      | [t, t2] => decide (x = "isinstance") && decide (z = tyS t) && decide (z2 = tyS t2) && inB T sc x && inB T sc z && inB T sc z2 && noStar y && ckE a sc y
      | _ => false)
    | _ => false
  | .mt m o es, sc, e => match e with
    | .Call (.Attribute ob name apos) args [] cpos => decide (name = mtN m) && (apos.endLine == cpos.line) && plainBase ob && ckE o sc ob && ckEs es sc args && (match m with
      | .append | .count | .index => decide (args.length = 1)
      | .pop => args.isEmpty
      | _ => false)
    | _ => false
  | .isn b a, sc, e => match e with
    | .Compare x [o] [.Constant .none _ _] _ => (match b, o with
      | false, .Is => ckE a sc x
      | true, .IsNot => ckE a sc x
      | _, _ => false)
    | _ => false
  | .isf a, sc, e => match e with
    | .Compare x [.Is] [.Constant (.bool false) _ _] _ => ckE a sc x
    | _ => false
  | .get2 o k d, sc, e => match e with
    | .Call (.Attribute ob name apos) [x, y] [] cpos => decide (name = "get") && (apos.endLine == cpos.line) && plainBase ob && noStar x && noStar y && ckE o sc ob && ckE k sc x && ckE d sc y
    | _ => false
  | .lc elt tg it cond own, sc, e => match e with
    | .ListComp el [⟨t, iter, ifs, 0⟩] scope _ => blkC N sc scope (own.map fun i => (N.getD i "", i)) && !isSetE iter && ckTg N (fun x => scope.names.lookup x == some .cell) (rel scope sc) tg t && (tgSl tg).all (fun i => decide (i ∈ own)) && ckI it sc t iter && ckE elt (rel scope sc) el && (match ifs with
      | [] => (match cond with
        | .lit (.bl true) => true
        | _ => false)
      | [c] => ckE cond (rel scope sc) c
      | _ => false)
    | _ => false
  | .lc2 elt tg it cond tg2 it2 cond2 own own2, sc, e => match e with
    | .ListComp el [⟨t, iter, ifs, 0⟩, ⟨t2, iter2, ifs2, 0⟩] scope _ => blkC N sc scope (own.map fun i => (N.getD i "", i)) && (!isSetE iter && !isSetE iter2) &&
      (ckTg N (fun x => scope.names.lookup x == some .cell) (rel scope sc) tg t && (tgSl tg).all (fun i => decide (i ∈ own))) &&
      (ckTg N (fun x => scope.names.lookup x == some .cell) (rel scope sc) tg2 t2 && (tgSl tg2).all (fun i => decide (i ∈ own2)) && own2.all (fun i => decide (i ∈ own))) &&
      (ckI it sc t iter && ckI it2 (rel scope sc) t2 iter2) && ckE elt (rel scope sc) el && (match ifs with
      | [] => (match cond with
        | .lit (.bl true) => true
        | _ => false)
      | [c] => ckE cond (rel scope sc) c
      | _ => false) && (match ifs2 with
      | [] => (match cond2 with
        | .lit (.bl true) => true
        | _ => false)
      | [c] => ckE cond2 (rel scope sc) c
      | _ => false)
    | _ => false
  | .dc k v tg it own, sc, e => match e with
    | .DictComp kx vx [⟨t, iter, [], 0⟩] scope _ => blkC N sc scope (own.map fun i => (N.getD i "", i)) && !isSetE iter && ckTg N (fun x => scope.names.lookup x == some .cell) (rel scope sc) tg t && (tgSl tg).all (fun i => decide (i ∈ own)) && ckI it sc t iter && ckE k (rel scope sc) kx && ckE v (rel scope sc) vx
    | _ => false
  | .sumV a, sc, e => match e with
    | .Call (.Name x _) [.Call (.Attribute ob name apos) [] [] mpos] [] _ => decide (x = "sum") && inB T sc x && decide (name = "values") && (apos.endLine == mpos.line) && plainBase ob && ckE a sc ob
    | _ => false
  | .ddp j a, sc, e => match e with
    | .Call (.Name x _) [.DictComp (.Name y _) (.Constant (.bool true) _ _) [⟨.Name y2 p3, iter, [], 0⟩] scope _] [] _ => decide (x = "list") && inB T sc x && decide (y2 = y) && decide (N[j]? = some y) && blkC N sc scope [(y, j)] && !isSetE iter && visB (rel scope sc) y && okN y &&
      ckTg N (fun x => scope.names.lookup x == some .cell) (rel scope sc) (.name j) (.Name y p3) && ckE a sc iter
    | _ => false
  | .sp b a, sc, e => match e with
    | .Call (.Name x _) [.Call (.Name y _) [z] [] _] [] _ => inB T sc x && inB T sc y && noStar z && ckE a sc z && (match b with
      | .listRg => decide (x = "list") && decide (y = "range")
      | .sortedSet => decide (x = "sorted") && decide (y = "set")
      | .lenSet => decide (x = "len") && decide (y = "set")
      | _ => false)
    | .Call (.Name x _) [z] [⟨some k, .Name y _, _⟩] _ => inB T sc x && inB T sc y && noStar z && ckE a sc z && (match b with
      | .sortLen => decide (x = "sorted") && decide (k = "key") && decide (y = "len")
      | _ => false)
    | _ => false
  | .never, _, _ => true
def ckEs : Es → Scope → List Expr → Bool
  | .nil, _, l => l.isEmpty
  | .cons a es, sc, l => match l with
    | e :: l => noStar e && ckE a sc e && ckEs es sc l
    | [] => false
def ckI : It → Scope → Expr → Expr → Bool
  | .ex a, sc, _, e => ckE a sc e
  | .range a, sc, _, e => match e with
    | .Call (.Name x _) [y] [] _ => decide (x = "range") && inB T sc x && noStar y && ckE a sc y
    | _ => false
  | .range2 a b, sc, _, e => match e with
    | .Call (.Name x _) [y, z] [] _ => decide (x = "range") && inB T sc x && noStar y && noStar z && ckE a sc y && ckE b sc z
    | _ => false
  | .enum a, sc, t, e => match t, e with
    | .Tuple .., .Call (.Name x _) [y] [] _ => decide (x = "enumerate") && inB T sc x && noStar y && ckE a sc y
    | _, _ => false
  | .zip a b, sc, t, e => match t, e with
    | .Tuple .., .Call (.Name x _) [y, z] [] _ => decide (x = "zip") && inB T sc x && noStar y && noStar z && ckE a sc y && ckE b sc z
    | _, _ => false
  | .items a, sc, t, e => match t, e with
    | .Tuple .., .Call (.Attribute ob name apos) [] [] cpos => decide (name = "items") && (apos.endLine == cpos.line) && plainBase ob && ckE a sc ob
    | _, _ => false
end
end
theorem inB_ok {T : Tb} {sc : Scope} {x : Str} (h : inB T sc x = true) : gloB sc x = true ∧ x ∈ T.bis := by
  simp only [inB, Bool.and_eq_true, List.contains_iff_mem] at h
  exact h
section
variable {T : Tb} {N : List Str} {ca : Nat → Addr} {call : Nat → List D → Sto → Res D}
theorem opB_eq {op : BOp} {o : Operator} (h : opB op o = true) : o = opO op := by
  cases op <;> cases o <;> first | rfl | (cases h)
theorem cmpB_eq {op : COp} {o : CmpOp} (h : cmpB op o = true) : o = cmpO op := by
  cases op <;> cases o <;> first | rfl | (cases h)
section
variable {X : Cx} {E' : XK}
theorem op_binD {op : BOp} {o : Operator} (h : opB op o = true) : OpR X (binaryOp o) (Got2 X ca E' (binR op)) := by
  obtain rfl := opB_eq h
  cases op
  case add => exact op_addD
  case sub => exact op_subD
  case mul => exact op_mulD
  case mod => exact op_modD
  case fdiv => exact op_fdivD
  case pow => exact op_powD
theorem op_cmpD {op : COp} {o : CmpOp} (c : Cxt T N ca call X) (h : cmpB op o = true) : OpR X (compareOp o) (Got2 X ca E' (bw (cmpR op))) := by
  have u := c.un
  obtain rfl := cmpB_eq h
  cases op
  case eq => exact op_eqR (by omega)
  case ne => exact cmp_of (op_neR (ca := ca) (E := E') (by omega)) (by funext d e st; simp only [bw, cmpR, Res.bind_bind, Res.bind_ok])
  case lt => exact op_ltR (by omega)
  case le => exact op_leR
  case gt => exact op_gtR
  case ge => exact op_geR
  case isin => exact op_inR (by omega)
  case notin => exact cmp_of (op_notInR (ca := ca) (E := E') (by omega)) (by funext d e st; simp only [bw, cmpR, Res.bind_bind, Res.bind_ok])
theorem biN_ok (b : Bi) (h : biPl b = true) : okN (biN b) = true := by cases b <;> first | (cases h; done) | decide +kernel
theorem snd_biD {b : Bi} {e : Expr} {es : List Expr} {n : Nat} {p pos : Pos} {m : Env → Sto → Res (List D)} (c : Cxt T N ca call X) (hp : biPl b = true) (hg : gloB X.env.scope (biN b) = true) (hb : biN b ∈ T.bis) (h : SndA X ca E' (e :: es) n m) :
    Snd X ca E' (.Call (.Name (biN b) p) (e :: es) [] pos) (fun env st => (m env st).bind fun ds st => biR b ds st) := by
  have ok := biN_ok b hp
  cases b
  case len => exact snd_bi c PySem.boot_len (.inl rfl) callLen_D hg hb ok h
  case list => exact snd_bi c PyProof.Rows.boot_list (.inr rfl) callList_D hg hb ok h
  case tuple => exact snd_bi c PyProof.Rows.boot_tuple (.inr rfl) callTuple_D hg hb ok h
  case all => exact snd_bi c PyProof.Rows.boot_all (.inl rfl) (callAll_D c.calm) hg hb ok h
  case any => exact snd_bi c PyProof.Rows.boot_any (.inl rfl) (callAny_D c.calm) hg hb ok h
  case sum => exact snd_bi c PyProof.Rows.boot_sum (.inl rfl) (callSum_D c.calm) hg hb ok h
  case abs => exact snd_bi c PyProof.Rows.boot_abs (.inl rfl) callAbs_D hg hb ok h
  case min2 => exact snd_bi c PyProof.Rows.boot_min (.inl rfl) (callMin2_D c.calm) hg hb ok h
  case max2 => exact snd_bi c PyProof.Rows.boot_max (.inl rfl) (callMax2_D c.calm) hg hb ok h
  case maxl => exact snd_bi c PyProof.Rows.boot_max (.inl rfl) (callMaxl_D c.calm) hg hb ok h
  case int => exact snd_bi c PyProof.Rows.boot_int (.inr rfl) callInt_D hg hb ok h
  case bool => exact snd_bi c PyProof.Rows.boot_bool (.inr rfl) callBool_D hg hb ok h
  case str => exact snd_bi c PyProof.Rows.boot_str (.inr rfl) callStr_D hg hb ok h
  case sorted => exact snd_bi c PyProof.Rows.boot_sorted (.inl rfl) (callSorted_D (by have := c.un; omega)) hg hb ok h
  all_goals cases hp
theorem ifE_snd {t a b : Expr} {p : Pos} {m1 m2 m3 : Env → Sto → Res D} (ht : Snd X ca E' t m1) (ha : Snd X ca E' a m2) (hb : Snd X ca E' b m3) : Snd X ca E' (.IfExp t a b p) (ifM m1 m2 m3) := by
  refine ⟨snd_ife ht ha hb, ⟨fun pins s σ H Q I w => ?_⟩, (fun _ _ _ e => nomatch e), (fun _ _ _ _ e => nomatch e)⟩
  refine isTrue_IfExp (thn (ht.pt.run pins s σ H (fun c H1 => if c = true then tT X.K ca E' m2 σ H1 Q else tT X.K ca E' m3 σ H1 Q) I ?_) fun d s1 ⟨H1, I1, q1⟩ => ?_)
  · obtain ⟨im, am, env, st, eo, so, w⟩ := w
    have w : Wp X.K ca RB E' im am H ((m1 env st).bind fun x st => (asB x st).bind fun p st => (if p then m2 env st else m3 env st).bind asB) Q := by
      simpa only [ifM, Res.bind_bind] using w
    obtain ⟨im', am', env', st', eo', so', w'⟩ := bool_firstT (f := fun p env st => (if p then m2 env st else m3 env st).bind asB) eo so w
    refine ⟨im', am', env', st', eo', so', w'.mono ?_⟩
    rintro c H1 ⟨im1, am1, st1, eo1, s1, w1⟩
    cases c with
    | true => exact ⟨im1, am1, env, st1, eo1, s1, w1⟩
    | false => exact ⟨im1, am1, env, st1, eo1, s1, w1⟩
  · cases d with
    | true => exact ha.pt.run pins s1 σ H1 Q I1 q1
    | false => exact hb.pt.run pins s1 σ H1 Q I1 q1
theorem snd_lcD {elt tg' iter : Expr} {ifs : List Expr} {scope : Scope} {own : List Nat} {pos : Pos} {tg : Tg} {mi : Env → Sto → Res Wk} {mc me : Env → Sto → Res D} (c : Cxt T N ca call X) (hi : PI X tg' iter (tI X.K ca E' mi)) (hb : blkC N X.env.scope scope (own.map fun i => (N.getD i "", i)) = true)
    (hg : ∀ (s : Shared) (H : Hp) (C : Addr) (cl : List (Str × Addr)) (fp : List Addr), PG (X.blk s H scope (compEnvC scope cl C X.env) fp) tg' (gT X.K tg)) (ht : ∀ (s : Shared) (H : Hp) (C : Addr) (cl : List (Str × Addr)) (fp : List Addr), PTs (X.blk s H scope (compEnvC scope cl C X.env) fp) ifs (tT X.K ca E0 mc))
    (he : ∀ (s : Shared) (H : Hp) (C : Addr) (cl : List (Str × Addr)) (fp : List Addr), PE (X.blk s H scope (compEnvC scope cl C X.env) fp) elt (tE X.K ca E0 me)) (hs : isSetE iter = false) (hown : ∀ i ∈ tgSl tg, i ∈ own) :
    Snd X ca E' (.ListComp elt [⟨tg', iter, ifs, 0⟩] scope pos) (fun env st => (mi env st).bind fun w st => (lcGo (gdOk w.gd) (lcF tg own mc me env) w.xs [] st).calm) := by
  have ok := blkOk_by hb
  have eown : (own.map fun i => (N.getD i "", i)).map (·.2) = own := by rw [List.map_map]; exact List.map_id' _
  have hN : X.N.Nodup := by rw [c.nm]; exact c.nd
  have ok : BlkOk X.N X.env.scope scope (own.map fun i => (N.getD i "", i)) := by rw [c.nm]; exact ok
  have key : ∀ σ H Q, tE X.K ca E' (fun env st => (mi env st).bind fun w st => (lcGo (gdOk w.gd) (lcF tg own mc me env) w.xs [] st).calm) σ H Q → tLc (tI X.K ca E' mi) (gT X.K tg) (tT X.K ca E0 mc) (tE X.K ca E0 me) ((own.map fun i => (N.getD i "", i)).map (·.2)) σ H Q := fun σ H Q w => by
    rw [eown]; exact lc_tE hown w
  have pe := PE.im (pe_lc (pos := pos) c.calm hN hi ok hg ht he (fold_of hs)) key
  refine ⟨pe, PT.im (pt_val pe fun _ => rfl) (fun σ H Q w => tT_tB w), (fun _ _ _ e => nomatch e), ?_⟩
  intro elt' gens scope' pos' e i y py spos hy hl hsw
  cases e
  exact PS.im (ps_setLc c.calm hN hy hl hsw hi ok hg ht he (fold_of hs)) fun D σ H w => key σ H _ w
theorem snd_lc2D {elt t1 iter t2 iter2 : Expr} {ifs ifs2 : List Expr} {scope : Scope} {own own2 : List Nat} {pos : Pos} {tg tg2 : Tg} {mi mi2 : Env → Sto → Res Wk} {mc mc2 me : Env → Sto → Res D} (c : Cxt T N ca call X) (hi : PI X t1 iter (tI X.K ca E' mi)) (hb : blkC N X.env.scope scope (own.map fun i => (N.getD i "", i)) = true)
    (hg : ∀ (s : Shared) (H : Hp) (C : Addr) (cl : List (Str × Addr)) (fp : List Addr), PG (X.blk s H scope (compEnvC scope cl C X.env) fp) t1 (gT X.K tg)) (ht : ∀ (s : Shared) (H : Hp) (C : Addr) (cl : List (Str × Addr)) (fp : List Addr), PTs (X.blk s H scope (compEnvC scope cl C X.env) fp) ifs (tT X.K ca E0 mc))
    (hi2 : ∀ (s : Shared) (H : Hp) (C : Addr) (cl : List (Str × Addr)) (fp : List Addr), PI (X.blk s H scope (compEnvC scope cl C X.env) fp) t2 iter2 (tI X.K ca E0 mi2))
    (hg2 : ∀ (s : Shared) (H : Hp) (C : Addr) (cl : List (Str × Addr)) (fp : List Addr), PG (X.blk s H scope (compEnvC scope cl C X.env) fp) t2 (gT X.K tg2)) (ht2 : ∀ (s : Shared) (H : Hp) (C : Addr) (cl : List (Str × Addr)) (fp : List Addr), PTs (X.blk s H scope (compEnvC scope cl C X.env) fp) ifs2 (tT X.K ca E0 mc2))
    (he : ∀ (s : Shared) (H : Hp) (C : Addr) (cl : List (Str × Addr)) (fp : List Addr), PE (X.blk s H scope (compEnvC scope cl C X.env) fp) elt (tE X.K ca E0 me)) (hs : isSetE iter = false) (hs2 : isSetE iter2 = false) (hown : ∀ i ∈ tgSl tg, i ∈ own) (hown2 : ∀ i ∈ tgSl tg2, i ∈ own2) (ho : ∀ i ∈ own2, i ∈ own) :
    Snd X ca E' (.ListComp elt [⟨t1, iter, ifs, 0⟩, ⟨t2, iter2, ifs2, 0⟩] scope pos) (fun env st => (mi env st).bind fun w st => (lcGo2 (gdOk w.gd) (lcF2 tg own mc mi2 tg2 own2 mc2 me env) w.xs [] st).calm) := by
  have ok := blkOk_by hb
  have eown : (own.map fun i => (N.getD i "", i)).map (·.2) = own := by rw [List.map_map]; exact List.map_id' _
  have hN : X.N.Nodup := by rw [c.nm]; exact c.nd
  have ok : BlkOk X.N X.env.scope scope (own.map fun i => (N.getD i "", i)) := by rw [c.nm]; exact ok
  have hv : ∀ i ∈ own2, i ∈ (own.map fun i => (N.getD i "", i)).map (·.2) := by rw [eown]; exact ho
  have key : ∀ σ H Q, tE X.K ca E' (fun env st => (mi env st).bind fun w st => (lcGo2 (gdOk w.gd) (lcF2 tg own mc mi2 tg2 own2 mc2 me env) w.xs [] st).calm) σ H Q → tLc2 (tI X.K ca E' mi) (gT X.K tg) (tT X.K ca E0 mc) (tI X.K ca E0 mi2) (gT X.K tg2) (tT X.K ca E0 mc2) (tE X.K ca E0 me) ((own.map fun i => (N.getD i "", i)).map (·.2)) own2 σ H Q := fun σ H Q w => by
    rw [eown]; exact lc2_tE hown hown2 w
  have pe := PE.im (pe_lc2 (pos := pos) c.calm hN hi ok hv hg ht hi2 hg2 ht2 he (fold_of hs) (fun _ => fold_of hs2)) key
  refine ⟨pe, PT.im (pt_val pe fun _ => rfl) (fun σ H Q w => tT_tB w), (fun _ _ _ e => nomatch e), ?_⟩
  intro elt' gens scope' pos' e i y py spos hy hl hsw
  cases e
  exact PS.im (ps_setLc2 c.calm hN hy hl hsw hi ok hv hg ht hi2 hg2 ht2 he (fold_of hs) (fun _ => fold_of hs2)) fun D σ H w => key σ H _ w
theorem snd_dcD {kx vx t1 iter : Expr} {scope : Scope} {own : List Nat} {pos : Pos} {tg : Tg} {mi : Env → Sto → Res Wk} {mk mv : Env → Sto → Res D} (c : Cxt T N ca call X) (hi : PI X t1 iter (tI X.K ca E' mi)) (hb : blkC N X.env.scope scope (own.map fun i => (N.getD i "", i)) = true)
    (hg : ∀ (s : Shared) (H : Hp) (C : Addr) (cl : List (Str × Addr)) (fp : List Addr), PG (X.blk s H scope (compEnvC scope cl C X.env) fp) t1 (gT X.K tg))
    (hk : ∀ (s : Shared) (H : Hp) (C : Addr) (cl : List (Str × Addr)) (fp : List Addr), PE (X.blk s H scope (compEnvC scope cl C X.env) fp) kx (tE X.K ca E0 mk))
    (hv : ∀ (s : Shared) (H : Hp) (C : Addr) (cl : List (Str × Addr)) (fp : List Addr), PE (X.blk s H scope (compEnvC scope cl C X.env) fp) vx (tE X.K ca E0 mv)) (hs : isSetE iter = false) (hown : ∀ i ∈ tgSl tg, i ∈ own) :
    Snd X ca E' (.DictComp kx vx [⟨t1, iter, [], 0⟩] scope pos) (fun env st => (mi env st).bind fun w st => (dcGo (gdOk w.gd) (dcF tg own mk mv env) w.xs [] st).calm) := by
  have ok := blkOk_by hb
  have eown : (own.map fun i => (N.getD i "", i)).map (·.2) = own := by rw [List.map_map]; exact List.map_id' _
  have hN : X.N.Nodup := by rw [c.nm]; exact c.nd
  have ok : BlkOk X.N X.env.scope scope (own.map fun i => (N.getD i "", i)) := by rw [c.nm]; exact ok
  refine Snd.val (PE.im (pe_frz (pe_dc c.calm hN hi ok hg (fun _ _ _ _ _ => pts_nil) hk hv (fold_of hs))) fun σ H Q w => ?_) rfl
  rw [eown]; exact dc_tE hown w
theorem rp_range {K : PySem.W.Frag} {im : Hp} {am : List Addr} {n : Int} : RpAll K im am (rangeL 0 n) (rgV 0 n) := by
  have key : ∀ (f : Nat → Int) (l : List Nat), RpAll K im am (l.map fun k => D.int (f k)) (l.map fun k => V.int (f k)) := by
    intro f l
    induction l with
    | nil => exact .nil
    | cons k l ih => exact .cons (.int _) ih
  exact key (fun k => 0 + (k : Int)) _
theorem snd_listRg {a : Expr} {p p2 q pos : Pos} {m : Env → Sto → Res D} (c : Cxt T N ca call X) (hg : gloB X.env.scope "list" = true) (hb : ("list" : Str) ∈ T.bis) (hg2 : gloB X.env.scope "range" = true) (hb2 : ("range" : Str) ∈ T.bis) (ha : Snd X ca E' a m) (na : noStar a = true) :
    Snd X ca E' (.Call (.Name "list" p) [.Call (.Name "range" p2) [a] [] q] [] pos) (fun env st => (m env st).bind fun x st => biR .listRg [x] st) :=
  Snd.val (PE.im (pe_listRg c.calm (gloB_ok hg) (c.bi _ hb) (prg_1 (gloB_ok hg2) (c.bi _ hb2) ha.pe (star_of na)) (star_of rfl)) fun σ H Q ⟨im, am, env, st, eo, so, w⟩ => ⟨im, am, env, st, eo, so, Wp.seq w fun x H1 im1 am1 a st1 e1 s1 r1 w1 => by
    cases a with
    | int n =>
      cases r1
      have w1 : Wp X.K ca (Rp X.K) E' im1 am1 H1 (if decide (0 ≤ n) && decide (n ≤ 1000) then .ok (.lst (rangeL 0 n)) st1 else .stuck) Q := w1
      split at w1
      · rename_i hc
        simp only [Bool.and_eq_true, decide_eq_true_eq] at hc
        exact ⟨n, rfl, .of_le (by omega) (by omega) (by omega) (by omega), fun q hq => fin_new w1 s1 hq fun im' hs hi => .lst hi rp_range⟩
      · exact w1.elim
    | _ => exact w1.elim⟩) rfl
theorem snd_never {e : Expr} : Snd X ca E' e (fun _ _ => .stuck) :=
  ⟨⟨fun _ _ _ _ _ _ ⟨_, _, _, _, _, _, w⟩ => w.elim⟩, ⟨fun _ _ _ _ _ _ ⟨_, _, _, _, _, _, w⟩ => w.elim⟩, fun _ _ _ _ => ⟨fun _ _ _ _ _ _ _ ⟨_, _, _, _, _, _, w⟩ => w.elim⟩, fun _ _ _ _ _ _ _ _ _ _ _ _ => ⟨fun _ _ _ _ _ _ ⟨_, _, _, _, _, _, w⟩ => w.elim⟩⟩
end
theorem dKeys_ok : ∀ {keys : List (Option Expr)} {ks : List Str}, dKeys keys ks = true → keys.all (·.isSome) = true ∧ ks.length = keys.length ∧ ks.all (fun x => PyData.strOk x) = true
  | [], [], _ => ⟨rfl, rfl, rfl⟩
  | [], _ :: _, h => by simp [dKeys] at h
  | none :: _, _, h => by simp [dKeys] at h
  | some e :: keys, [], h => by cases e <;> simp [dKeys] at h
  | some e :: keys, x :: ks, h => by
    cases e with
    | Constant c j p =>
      cases c with
      | str y =>
        simp only [dKeys, Bool.and_eq_true] at h
        obtain ⟨h1, h2, h3⟩ := dKeys_ok h.2
        exact ⟨by rw [List.all_cons, h1]; rfl, by rw [List.length_cons, List.length_cons, h2], by rw [List.all_cons, h3, h.1.2]; rfl⟩
      | _ => simp [dKeys] at h
    | _ => simp [dKeys] at h
end
end PP
end

section
set_option linter.all false
set_option autoImplicit false
set_option maxRecDepth 100000
set_option Elab.async false
/-! What the check of an expression shows. -/
namespace PP
open PySem PySem.Spec PyProof.Rows L2
section
variable {T : Tb} {N : List Str} {ca : Nat → Addr} {call : Nat → List D → Sto → Res D}
theorem b2 {a b : Bool} (h : (a && b) = true) : a = true ∧ b = true := Bool.and_eq_true_iff.mp h
mutual
theorem ck_E : ∀ (e' : E) (X : Cx) (Er : XK), Cxt T N ca call X → Passes (L2.CX X.prog X.w) X Er → ∀ (e : Expr), ckE T N e' X.env.scope e = true → Snd X ca Er e (ev call e')
  | .slot i, X, Er, c, px, e, h => by
    rw [show ev call (.slot i) = fun env st => ofO (getS env i) st from by funext env st; rw [ev]]
    unfold ckE at h
    split at h
    · obtain ⟨h1, h2⟩ := b2 h; obtain ⟨h1, h3⟩ := b2 h1
      exact snd_slot c (of_decide_eq_true h1) h3 h2
    · cases h
  | .lit d, X, Er, c, px, e, h => by
    rw [show ev call (.lit d) = fun _ st => .ok d st from by funext env st; rw [ev]]
    exact snd_lit c (by unfold ckE at h; exact h)
  | .tup es, X, Er, c, px, e, h => by
    rw [show ev call (.tup es) = fun env st => (evs call es env st).bind fun ds st => .ok (.tup ds) st from by funext env st; rw [ev]]
    unfold ckE at h
    split at h
    · obtain ⟨h1, h2⟩ := b2 h
      exact snd_tup (ck_Es es X Er c px _ h1) (of_decide_eq_true h2)
    · cases h
  | .lst es, X, Er, c, px, e, h => by
    rw [show ev call (.lst es) = fun env st => (evs call es env st).bind fun ds st => .ok (.lst ds) st from by funext env st; rw [ev]]
    unfold ckE at h
    split at h
    · obtain ⟨h1, h2⟩ := b2 h
      exact snd_lst (ck_Es es X Er c px _ h1) (of_decide_eq_true h2)
    · cases h
  | .mlst es, X, Er, c, px, e, h => by
    rw [show ev call (.mlst es) = fun env st => (evs call es env st).bind fun ds st => .ok (.cel st.length) (st ++ [.lst ds]) from by funext env st; rw [ev]]
    unfold ckE at h
    split at h
    · obtain ⟨h1, h2⟩ := b2 h
      exact snd_mlst (ck_Es es X Er c px _ h1) (of_decide_eq_true h2)
    · cases h
  | .dsp ks es, X, Er, c, px, e, h => by
    rw [show ev call (.dsp ks es) = fun env st => (evs call es env st).bind fun ds st => if ks.length = ds.length ∧ ks.Nodup then .ok (.dct (List.zip (ks.map D.str) ds)) st else .stuck from by funext env st; rw [ev]]
    unfold ckE at h
    split at h
    · obtain ⟨h, h5⟩ := b2 h; obtain ⟨h, h4⟩ := b2 h; obtain ⟨h, h3⟩ := b2 h; obtain ⟨h1, h2⟩ := b2 h
      obtain ⟨k1, k2, k3⟩ := dKeys_ok h1
      exact snd_dsp (ck_Ps es X Er c px _ _ _ h1 h2 (of_decide_eq_true h3)) k1 (by rw [k2]) (of_decide_eq_true h4) (of_decide_eq_true h5) k3
    · cases h
  | .bin op a b, X, Er, c, px, e, h => by
    rw [show ev call (.bin op a b) = fun env st => (ev call a env st).bind fun x st => (ev call b env st).bind fun y st => binR op x y st from by funext env st; rw [ev]]
    unfold ckE at h
    split at h
    · obtain ⟨h, h3⟩ := b2 h; obtain ⟨h1, h2⟩ := b2 h
      exact snd_op (op_binD h1) (ck_E a X Er c px _ h2) (ck_E b X Er c px _ h3)
    · cases h
  | .neg a, X, Er, c, px, e, h => by
    rw [show ev call (.neg a) = fun env st => (ev call a env st).bind fun x st => (asI x st).bind fun i st => .ok (.int (-i)) st from by funext env st; rw [ev]]
    unfold ckE at h
    split at h
    · exact snd_neg (ck_E a X Er c px _ h)
    · cases h
  | .cmp op a b, X, Er, c, px, e, h => by
    rw [show ev call (.cmp op a b) = fun env st => (ev call a env st).bind fun x st => (ev call b env st).bind fun y st => bw (cmpR op) x y st from by funext env st; rw [ev]]
    unfold ckE at h
    split at h
    · obtain ⟨h, h4⟩ := b2 h; obtain ⟨h, h3⟩ := b2 h; obtain ⟨h1, h2⟩ := b2 h
      exact snd_cmp (op_cmpD c h1) (ck_E a X Er c px _ h3) (ck_E b X Er c px _ h4) (by simpa using h2)
    · cases h
  | .rng lo x hi, X, Er, c, px, e, h => by
    rw [show ev call (.rng lo x hi) = fun env st => (ev call lo env st).bind fun l st => (ev call x env st).bind fun y st => (cmpR .le l y st).bind fun r st =>
      if r then (ev call hi env st).bind fun h st => (cmpR .le y h st).bind fun r st => .ok (.bl r) st else .ok (.bl false) st from by funext env st; rw [ev]]
    unfold ckE at h
    split at h
    · obtain ⟨h, h4⟩ := b2 h; obtain ⟨h, h3⟩ := b2 h; obtain ⟨h1, h2⟩ := b2 h
      exact snd_chain (ck_E lo X Er c px _ h2) (ck_E x X Er c px _ h3) (ck_E hi X Er c px _ h4) (by simpa using h1)
    · cases h
  | .and a b, X, Er, c, px, e, h => by
    rw [show ev call (.and a b) = andM (ev call a) (ev call b) from by funext env st; rw [ev]; rfl]
    unfold ckE at h
    split at h
    · rename_i x y r p
      obtain ⟨h1, h2⟩ := b2 h
      refine snd_and (ck_E a X Er c px _ h1) ?_
      cases r with
      | nil => exact ck_E b X Er c px _ h2
      | cons z r => exact ck_E b X Er c px _ h2
    · cases h
  | .or a b, X, Er, c, px, e, h => by
    rw [show ev call (.or a b) = orM (ev call a) (ev call b) from by funext env st; rw [ev]; rfl]
    unfold ckE at h
    split at h
    · rename_i x y r p
      obtain ⟨h1, h2⟩ := b2 h
      refine snd_or (ck_E a X Er c px _ h1) ?_
      cases r with
      | nil => exact ck_E b X Er c px _ h2
      | cons z r => exact ck_E b X Er c px _ h2
    · cases h
  | .not a, X, Er, c, px, e, h => by
    rw [show ev call (.not a) = notM (ev call a) from by funext env st; rw [ev]; rfl]
    unfold ckE at h
    split at h
    · exact snd_not (ck_E a X Er c px _ h)
    · cases h
  | .ife t a b, X, Er, c, px, e, h => by
    rw [show ev call (.ife t a b) = ifM (ev call t) (ev call a) (ev call b) from by funext env st; rw [ev]; rfl]
    unfold ckE at h
    split at h
    · obtain ⟨h, h3⟩ := b2 h; obtain ⟨h1, h2⟩ := b2 h
      exact ifE_snd (ck_E t X Er c px _ h1) (ck_E a X Er c px _ h2) (ck_E b X Er c px _ h3)
    · cases h
  | .idx a i, X, Er, c, px, e, h => by
    rw [show ev call (.idx a i) = fun env st => (ev call a env st).bind fun x st => (ev call i env st).bind fun y st => idxR x y st from by funext env st; rw [ev]]
    unfold ckE at h
    split at h
    · obtain ⟨h, h3⟩ := b2 h; obtain ⟨h1, h2⟩ := b2 h
      exact snd_idx c (ck_E a X Er c px _ h2) (ck_E i X Er c px _ h3) h1
    · cases h
  | .slc a lo hi, X, Er, c, px, e, h => by
    rw [show ev call (.slc a lo hi) = fun env st => (ev call a env st).bind fun x st => (ev call lo env st).bind fun l st => (asI l st).bind fun l st => (ev call hi env st).bind fun h st => (asI h st).bind fun h st => sliceR x (some l) (some h) st from by funext env st; rw [ev]]
    unfold ckE at h
    split at h
    · obtain ⟨h, h3⟩ := b2 h; obtain ⟨h1, h2⟩ := b2 h
      exact snd_slc (ck_E a X Er c px _ h1) (ck_E lo X Er c px _ h2) (ck_E hi X Er c px _ h3)
    · cases h
  | .slcF a lo, X, Er, c, px, e, h => by
    rw [show ev call (.slcF a lo) = fun env st => (ev call a env st).bind fun x st => (ev call lo env st).bind fun l st => (asI l st).bind fun l st => sliceR x (some l) none st from by funext env st; rw [ev]]
    unfold ckE at h
    split at h
    · obtain ⟨h1, h2⟩ := b2 h
      exact snd_slcF (ck_E a X Er c px _ h1) (ck_E lo X Er c px _ h2)
    · cases h
  | .slcT a hi, X, Er, c, px, e, h => by
    rw [show ev call (.slcT a hi) = fun env st => (ev call a env st).bind fun x st => (ev call hi env st).bind fun h st => (asI h st).bind fun h st => sliceR x none (some h) st from by funext env st; rw [ev]]
    unfold ckE at h
    split at h
    · obtain ⟨h1, h2⟩ := b2 h
      exact snd_slcT (ck_E a X Er c px _ h1) (ck_E hi X Er c px _ h2)
    · cases h
  | .slcN n a, X, Er, c, px, e, h => by
    rw [show ev call (.slcN n a) = fun env st => (ev call a env st).bind fun x st => slcNR n x st from by funext env st; rw [ev]]
    unfold ckE at h
    split at h
    · obtain ⟨h1, h2⟩ := b2 h
      exact snd_slcN (ck_E a X Er c px _ h2) (of_decide_eq_true h1)
    · cases h
  | .rev a, X, Er, c, px, e, h => by
    rw [show ev call (.rev a) = fun env st => (ev call a env st).bind fun x st => revR x st from by funext env st; rw [ev]]
    unfold ckE at h
    split at h
    · exact snd_rev (ck_E a X Er c px _ h)
    · cases h
  | .call f es, X, Er, c, px, e, h => by
    rw [show ev call (.call f es) = fun env st => (evs call es env st).bind fun ds st => call f ds st from by funext env st; rw [ev]]
    unfold ckE at h
    split at h
    · rename_i x p args pos
      obtain ⟨h, h4⟩ := b2 h; obtain ⟨h, h3⟩ := b2 h; obtain ⟨h1, h2⟩ := b2 h
      have A := ck_Es es X Er c px _ h4
      cases args with
      | nil =>
        cases es with
        | nil =>
          rw [show evs call .nil = fun _ st => .ok [] st from by funext env st; rw [evs]]
          exact snd_call0 c px (of_decide_eq_true h1) h2 h3
        | cons e es => simp [ckEs] at h4
      | cons y args => exact snd_call c px (of_decide_eq_true h1) h2 h3 A
    · cases h
  | .bi b es, X, Er, c, px, e, h => by
    rw [show ev call (.bi b es) = fun env st => (evs call es env st).bind fun ds st => biR b ds st from by funext env st; rw [ev]]
    unfold ckE at h
    split at h
    · obtain ⟨h, h4⟩ := b2 h; obtain ⟨h, h3⟩ := b2 h; obtain ⟨h1, h2⟩ := b2 h
      obtain rfl := of_decide_eq_true h1
      obtain ⟨g1, g2⟩ := inB_ok h2
      exact snd_biD c h3 g1 g2 (ck_Es es X Er c px _ h4)
    · cases h
  | .isi ts a, X, Er, c, px, e, h => by
    unfold ckE at h
    split at h
    · split at h
      · rename_i t
        obtain ⟨h, h6⟩ := b2 h; obtain ⟨h, h5⟩ := b2 h; obtain ⟨h, h4⟩ := b2 h; obtain ⟨h, h3⟩ := b2 h; obtain ⟨h1, h2⟩ := b2 h
        obtain rfl := of_decide_eq_true h1
        obtain rfl := of_decide_eq_true h2
        rw [show ev call (.isi [t] a) = fun env st => (ev call a env st).bind fun x st => isiR [t] x st from by funext env st; rw [ev]]
        exact snd_isi c (ck_E a X Er c px _ h6) h5 (inB_ok h3).1 (inB_ok h3).2 (inB_ok h4).1 (inB_ok h4).2
      · cases h
    · split at h
      · rename_i t t2
        obtain ⟨h, h8⟩ := b2 h; obtain ⟨h, h7⟩ := b2 h; obtain ⟨h, h6⟩ := b2 h; obtain ⟨h, h5⟩ := b2 h; obtain ⟨h, h4⟩ := b2 h; obtain ⟨h, h3⟩ := b2 h; obtain ⟨h1, h2⟩ := b2 h
        obtain rfl := of_decide_eq_true h1
        obtain rfl := of_decide_eq_true h2
        obtain rfl := of_decide_eq_true h3
        rw [show ev call (.isi [t, t2] a) = fun env st => (ev call a env st).bind fun x st => isiR [t, t2] x st from by funext env st; rw [ev]]
        exact snd_isi2 c (ck_E a X Er c px _ h8) h7 (inB_ok h4).1 (inB_ok h4).2 (inB_ok h5).1 (inB_ok h5).2 (inB_ok h6).1 (inB_ok h6).2
      · cases h
    · cases h
  | .mt m o es, X, Er, c, px, e, h => by
    rw [show ev call (.mt m o es) = fun env st => (ev call o env st).bind fun x st => if mtOk m x st then (evs call es env st).bind fun ds st => mtR m x ds st else .stuck from by funext env st; rw [ev]]
    unfold ckE at h
    split at h
    · rename_i ob name apos args cpos
      obtain ⟨h, h6⟩ := b2 h; obtain ⟨h, h5⟩ := b2 h; obtain ⟨h, h4⟩ := b2 h; obtain ⟨h, h3⟩ := b2 h; obtain ⟨h1, h2⟩ := b2 h
      obtain rfl := of_decide_eq_true h1
      have A := ck_Es es X Er c px _ h5
      have O := ck_E o X Er c px _ h4
      cases m with
      | append =>
        have hl : args.length = 1 := of_decide_eq_true h6
        cases args with
        | nil => cases hl
        | cons y args => exact snd_mtL (mm := .append) (fun x st q => by unfold mtOk at q; split at q <;> first | exact ⟨_, by assumption⟩ | (cases q; done) | simp_all) PySem.F.slot_list_append PySem.F.type_list_append mtAppend_D O A h3 h2 (by rw [hl]; decide)
      | count =>
        have hl : args.length = 1 := of_decide_eq_true h6
        cases args with
        | nil => cases hl
        | cons y args => exact snd_mtL (mm := .count) (fun x st q => by unfold mtOk at q; split at q <;> first | exact ⟨_, by assumption⟩ | (cases q; done) | simp_all) PySem.F.slot_list_count PySem.F.type_list_count mtCount_D O A h3 h2 (by rw [hl]; decide)
      | index =>
        have hl : args.length = 1 := of_decide_eq_true h6
        cases args with
        | nil => cases hl
        | cons y args =>
          cases args with
          | nil => exact snd_tidx O A h3 h2
          | cons _ _ => simp at hl
      | pop =>
        cases args with
        | nil =>
          cases es with
          | nil =>
            rw [show evs call .nil = fun _ st => .ok [] st from by funext env st; rw [evs]]
            exact snd_mtL0 (mm := .pop) (fun x st q => by unfold mtOk at q; split at q <;> first | exact ⟨_, by assumption⟩ | (cases q; done) | simp_all) PySem.F.slot_list_pop PySem.F.type_list_pop mtPop_D O h3 h2
          | cons e es => simp [ckEs] at h5
        | cons y args => cases h6
      | _ => cases h6
    · cases h
  | .isn b a, X, Er, c, px, e, h => by
    unfold ckE at h
    split at h
    · split at h
      · rw [show ev call (.isn false a) = fun env st => (ev call a env st).bind fun x st => .ok (.bl (false != isNon x)) st from by funext env st; rw [ev]]
        exact snd_isn (ck_E a X Er c px _ h)
      · rw [show ev call (.isn true a) = fun env st => (ev call a env st).bind fun x st => .ok (.bl (true != isNon x)) st from by funext env st; rw [ev]]
        exact snd_isnn (ck_E a X Er c px _ h)
      · cases h
    · cases h
  | .isf a, X, Er, c, px, e, h => by
    rw [show ev call (.isf a) = fun env st => (ev call a env st).bind fun x st => (asB x st).bind fun p st => .ok (.bl (!p)) st from by funext env st; rw [ev]]
    unfold ckE at h
    split at h
    · exact snd_isf (ck_E a X Er c px _ h)
    · cases h
  | .get2 o k d, X, Er, c, px, e, h => by
    rw [show ev call (.get2 o k d) = fun env st => (ev call o env st).bind fun x st => if isDct x then (ev call k env st).bind fun y st => (ev call d env st).bind fun z st => getR x y z st else .stuck from by funext env st; rw [ev]]
    unfold ckE at h
    split at h
    · obtain ⟨h, h8⟩ := b2 h; obtain ⟨h, h7⟩ := b2 h; obtain ⟨h, h6⟩ := b2 h; obtain ⟨h, h5⟩ := b2 h; obtain ⟨h, h4⟩ := b2 h; obtain ⟨h, h3⟩ := b2 h; obtain ⟨h1, h2⟩ := b2 h
      obtain rfl := of_decide_eq_true h1
      exact snd_get2 c (ck_E o X Er c px _ h6) (ck_E k X Er c px _ h7) (ck_E d X Er c px _ h8) h3 h2 h4 h5
    · cases h
  | .lc elt tg it cond own, X, Er, c, px, e, h => by
    rw [show ev call (.lc elt tg it cond own) = fun env st => (evI call it env st).bind fun w st => (lcGo (gdOk w.gd) (lcF tg own (ev call cond) (ev call elt) env) w.xs [] st).calm from by funext env st; rw [ev]; rfl]
    unfold ckE at h
    split at h
    · rename_i el t iter ifs scope pos
      obtain ⟨h, h7⟩ := b2 h; obtain ⟨h, h6⟩ := b2 h; obtain ⟨h, h5⟩ := b2 h; obtain ⟨h, h4⟩ := b2 h; obtain ⟨h, h3⟩ := b2 h; obtain ⟨h1, h2⟩ := b2 h
      have hown : ∀ i ∈ tgSl tg, i ∈ own := fun i hi => of_decide_eq_true ((List.all_eq_true.mp h4) i hi)
      refine snd_lcD c (ck_I it X Er c px t iter h5) h1 (fun s H C cl fp => ?_) (fun s H C cl fp => ?_) (fun s H C cl fp => ?_) (by simpa using h2) hown
      · exact pg_ck (F := fun x => scope.names.lookup x == some .cell) (c.blk s H scope cl C fp) (fun x hx => hx) tg t h3
      · have cc : ∀ x, ckE T N cond (rel scope X.env.scope) x = true → Snd (X.blk s H scope (compEnvC scope cl C X.env) fp) ca E0 x (ev call cond) := fun x hx => ck_E cond _ E0 (c.blk s H scope cl C fp) passL x hx
        split at h7
        · split at h7
          · refine ⟨fun pins s σ H Q I w => pts_nil.run pins s σ H Q I ?_⟩
            obtain ⟨im, am, env, st, eo, so, w⟩ := w
            rw [show ev call (.lit (.bl true)) env st = .ok (.bl true) st from by rw [ev]] at w
            exact Wp.fin (α := Bool) (st := st) w so rfl
          · cases h7
        · exact pts_one (cc _ h7).pt
        · cases h7
      · exact (ck_E elt _ E0 (c.blk s H scope cl C fp) passL el h6).pe
    · cases h
  | .lc2 elt tg it cond tg2 it2 cond2 own own2, X, Er, c, px, e, h => by
    rw [show ev call (.lc2 elt tg it cond tg2 it2 cond2 own own2) = fun env st => (evI call it env st).bind fun w st => (lcGo2 (gdOk w.gd) (lcF2 tg own (ev call cond) (evI call it2) tg2 own2 (ev call cond2) (ev call elt) env) w.xs [] st).calm from by funext env st; rw [ev]; rfl]
    unfold ckE at h
    split at h
    · rename_i el t iter ifs t2 iter2 ifs2 scope pos
      obtain ⟨h, h8⟩ := b2 h; obtain ⟨h, h7⟩ := b2 h; obtain ⟨h, h6⟩ := b2 h; obtain ⟨h, h5⟩ := b2 h; obtain ⟨h, h4⟩ := b2 h; obtain ⟨h, h3⟩ := b2 h; obtain ⟨h1, h2⟩ := b2 h
      obtain ⟨h2, h2'⟩ := b2 h2; obtain ⟨h3, h3'⟩ := b2 h3; obtain ⟨h4, h4''⟩ := b2 h4; obtain ⟨h4, h4'⟩ := b2 h4; obtain ⟨h5, h5'⟩ := b2 h5
      have cc : ∀ (cond : E), (∀ X Er, Cxt T N ca call X → Passes (L2.CX X.prog X.w) X Er → ∀ e, ckE T N cond X.env.scope e = true → Snd X ca Er e (ev call cond)) → ∀ (ifs : List Expr), (match ifs with
          | [] => (match cond with
            | .lit (.bl true) => true
            | _ => false)
          | [c] => ckE T N cond (rel scope X.env.scope) c
          | _ => false) = true → ∀ (s : Shared) (H : Hp) (C : Addr) (cl : List (Str × Addr)) (fp : List Addr), PTs (X.blk s H scope (compEnvC scope cl C X.env) fp) ifs (tT X.K ca E0 (ev call cond)) := by
        intro cond IH ifs h7 s H C cl fp
        split at h7
        · split at h7
          · refine ⟨fun pins s σ H Q I w => pts_nil.run pins s σ H Q I ?_⟩
            obtain ⟨im, am, env, st, eo, so, w⟩ := w
            rw [show ev call (.lit (.bl true)) env st = .ok (.bl true) st from by rw [ev]] at w
            exact Wp.fin (α := Bool) (st := st) w so rfl
          · cases h7
        · exact pts_one (IH _ E0 (c.blk s H scope cl C fp) passL _ h7).pt
        · cases h7
      exact snd_lc2D c (ck_I it X Er c px t iter h5) h1
        (fun s H C cl fp => pg_ck (F := fun x => scope.names.lookup x == some .cell) (c.blk s H scope cl C fp) (fun x hx => hx) tg t h3)
        (cc cond (ck_E cond) ifs h7)
        (fun s H C cl fp => ck_I it2 _ E0 (c.blk s H scope cl C fp) passL t2 iter2 h5')
        (fun s H C cl fp => pg_ck (F := fun x => scope.names.lookup x == some .cell) (c.blk s H scope cl C fp) (fun x hx => hx) tg2 t2 h4)
        (cc cond2 (ck_E cond2) ifs2 h8)
        (fun s H C cl fp => (ck_E elt _ E0 (c.blk s H scope cl C fp) passL el h6).pe)
        (by simpa using h2) (by simpa using h2') (fun i hi => of_decide_eq_true ((List.all_eq_true.mp h3') i hi)) (fun i hi => of_decide_eq_true ((List.all_eq_true.mp h4') i hi)) (fun i hi => of_decide_eq_true ((List.all_eq_true.mp h4'') i hi))
    · cases h
  | .dc k v tg it own, X, Er, c, px, e, h => by
    rw [show ev call (.dc k v tg it own) = fun env st => (evI call it env st).bind fun w st => (dcGo (gdOk w.gd) (dcF tg own (ev call k) (ev call v) env) w.xs [] st).calm from by funext env st; rw [ev]; rfl]
    unfold ckE at h
    split at h
    · rename_i kx vx t iter scope pos
      obtain ⟨h, h7⟩ := b2 h; obtain ⟨h, h6⟩ := b2 h; obtain ⟨h, h5⟩ := b2 h; obtain ⟨h, h4⟩ := b2 h; obtain ⟨h, h3⟩ := b2 h; obtain ⟨h1, h2⟩ := b2 h
      exact snd_dcD c (ck_I it X Er c px t iter h5) h1
        (fun s H C cl fp => pg_ck (F := fun x => scope.names.lookup x == some .cell) (c.blk s H scope cl C fp) (fun x hx => hx) tg t h3)
        (fun s H C cl fp => (ck_E k _ E0 (c.blk s H scope cl C fp) passL kx h6).pe)
        (fun s H C cl fp => (ck_E v _ E0 (c.blk s H scope cl C fp) passL vx h7).pe)
        (by simpa using h2) (fun i hi => of_decide_eq_true ((List.all_eq_true.mp h4) i hi))
    · cases h
  | .sumV a, X, Er, c, px, e, h => by
    rw [show ev call (.sumV a) = fun env st => (ev call a env st).bind fun x st => sumR x st from by funext env st; rw [ev]]
    unfold ckE at h
    split at h
    · obtain ⟨h, h6⟩ := b2 h; obtain ⟨h, h5⟩ := b2 h; obtain ⟨h, h4⟩ := b2 h; obtain ⟨h, h3⟩ := b2 h; obtain ⟨h1, h2⟩ := b2 h
      obtain rfl := of_decide_eq_true h1
      obtain rfl := of_decide_eq_true h3
      exact snd_sumV c (inB_ok h2).1 (inB_ok h2).2 (ck_E a X Er c px _ h6) h5 h4
    · cases h
  | .ddp j a, X, Er, c, px, e, h => by
    rw [show ev call (.ddp j a) = fun env st => (ev call a env st).bind fun x st => if j < env.length then biR .dedupe [x] st else .stuck from by funext env st; rw [ev]]
    unfold ckE at h
    split at h
    · obtain ⟨h, h10⟩ := b2 h; obtain ⟨h, h9⟩ := b2 h; obtain ⟨h, h8⟩ := b2 h; obtain ⟨h, h7⟩ := b2 h; obtain ⟨h, h6⟩ := b2 h; obtain ⟨h, h5⟩ := b2 h; obtain ⟨h, h4⟩ := b2 h; obtain ⟨h, h3⟩ := b2 h; obtain ⟨h1, h2⟩ := b2 h
      obtain rfl := of_decide_eq_true h1
      obtain rfl := of_decide_eq_true h3
      exact snd_dd c (inB_ok h2).1 (inB_ok h2).2 (ck_E a X Er c px _ h10) (of_decide_eq_true h4) h5 (by simpa using h6) h7 h8 h9
    · cases h
  | .sp b a, X, Er, c, px, e, h => by
    rw [show ev call (.sp b a) = fun env st => (ev call a env st).bind fun x st => biR b [x] st from by funext env st; rw [ev]]
    unfold ckE at h
    split at h
    · obtain ⟨h, h5⟩ := b2 h; obtain ⟨h, h4⟩ := b2 h; obtain ⟨h, h3⟩ := b2 h; obtain ⟨h1, h2⟩ := b2 h
      split at h5
      · obtain ⟨h5, h6⟩ := b2 h5
        obtain rfl := of_decide_eq_true h5
        obtain rfl := of_decide_eq_true h6
        exact snd_listRg c (inB_ok h1).1 (inB_ok h1).2 (inB_ok h2).1 (inB_ok h2).2 (ck_E a X Er c px _ h4) h3
      · obtain ⟨h5, h6⟩ := b2 h5
        obtain rfl := of_decide_eq_true h5
        obtain rfl := of_decide_eq_true h6
        exact snd_sortedSet c (inB_ok h1).1 (inB_ok h1).2 (inB_ok h2).1 (inB_ok h2).2 (ck_E a X Er c px _ h4) h3
      · obtain ⟨h5, h6⟩ := b2 h5
        obtain rfl := of_decide_eq_true h5
        obtain rfl := of_decide_eq_true h6
        exact snd_lenSet c (inB_ok h1).1 (inB_ok h1).2 (inB_ok h2).1 (inB_ok h2).2 (ck_E a X Er c px _ h4) h3
      · cases h5
    · obtain ⟨h, h5⟩ := b2 h; obtain ⟨h, h4⟩ := b2 h; obtain ⟨h, h3⟩ := b2 h; obtain ⟨h1, h2⟩ := b2 h
      split at h5
      · obtain ⟨h5, h7⟩ := b2 h5; obtain ⟨h5, h6⟩ := b2 h5
        obtain rfl := of_decide_eq_true h5
        obtain rfl := of_decide_eq_true h6
        obtain rfl := of_decide_eq_true h7
        exact snd_sortLen c (inB_ok h1).1 (inB_ok h1).2 (inB_ok h2).1 (inB_ok h2).2 (ck_E a X Er c px _ h4) h3
      · cases h5
    · cases h
  | .never, X, Er, c, px, e, h => by
    rw [show ev call .never = fun _ _ => .stuck from by funext env st; rw [ev]]
    exact snd_never
theorem ck_Es : ∀ (es' : Es) (X : Cx) (Er : XK), Cxt T N ca call X → Passes (L2.CX X.prog X.w) X Er → ∀ (l : List Expr), ckEs T N es' X.env.scope l = true → SndA X ca Er l l.length (evs call es')
  | .nil, X, Er, c, px, l, h => by
    rw [show evs call .nil = fun _ st => .ok [] st from by funext env st; rw [evs]]
    cases l with
    | nil => exact snd_nil
    | cons e l => simp [ckEs] at h
  | .cons a es, X, Er, c, px, l, h => by
    rw [show evs call (.cons a es) = fun env st => (ev call a env st).bind fun d st => (evs call es env st).bind fun ds st => .ok (d :: ds) st from by funext env st; rw [evs]]
    cases l with
    | nil => simp [ckEs] at h
    | cons e l =>
      simp only [ckEs] at h
      obtain ⟨h, h3⟩ := b2 h; obtain ⟨h1, h2⟩ := b2 h
      exact snd_cons (ck_E a X Er c px _ h2) h1 (ck_Es es X Er c px _ h3)
theorem ck_Ps : ∀ (es' : Es) (X : Cx) (Er : XK), Cxt T N ca call X → Passes (L2.CX X.prog X.w) X Er → ∀ (keys : List (Option Expr)) (vals : List Expr) (ks : List Str) {pos : Pos}, dKeys keys ks = true → ckEs T N es' X.env.scope vals = true → keys.length = vals.length → SndP X ca Er pos keys vals ks keys.length (evs call es')
  | .nil, X, Er, c, px, keys, vals, ks, pos, hk, h, hl => by
    rw [show evs call .nil = fun _ st => .ok [] st from by funext env st; rw [evs]]
    cases vals with
    | nil =>
      cases keys with
      | nil => exact sndp_nil
      | cons k keys => cases hl
    | cons e l => simp [ckEs] at h
  | .cons a es, X, Er, c, px, keys, vals, ks, pos, hk, h, hl => by
    rw [show evs call (.cons a es) = fun env st => (ev call a env st).bind fun d st => (evs call es env st).bind fun ds st => .ok (d :: ds) st from by funext env st; rw [evs]]
    cases vals with
    | nil => simp [ckEs] at h
    | cons e l =>
      simp only [ckEs] at h
      obtain ⟨h, h3⟩ := b2 h; obtain ⟨h1, h2⟩ := b2 h
      cases keys with
      | nil => cases hl
      | cons k keys =>
        cases ks with
        | nil => cases k with
          | none => simp [dKeys] at hk
          | some k => cases k <;> simp [dKeys] at hk
        | cons x ks =>
          cases k with
          | none => simp [dKeys] at hk
          | some k =>
            cases k with
            | Constant q j p =>
              cases q with
              | str y =>
                simp only [dKeys] at hk
                obtain ⟨hk, k3⟩ := b2 hk; obtain ⟨k1, k2⟩ := b2 hk
                obtain rfl := of_decide_eq_true k1
                exact sndp_cons (ck_E a X Er c px _ h2) (ck_Ps es X Er c px _ _ _ k3 h3 (by simpa using hl))
              | _ => simp [dKeys] at hk
            | _ => simp [dKeys] at hk
theorem ck_I : ∀ (it : It) (X : Cx) (Er : XK), Cxt T N ca call X → Passes (L2.CX X.prog X.w) X Er → ∀ (tg e : Expr), ckI T N it X.env.scope tg e = true → PI X tg e (tI X.K ca Er (evI call it))
  | .ex a, X, Er, c, px, tg, e, h => by
    rw [show evI call (.ex a) = fun env st => (ev call a env st).bind fun d st => ofO (wkOf d st) st from by funext env st; rw [evI]]
    exact pi_ex (ck_E a X Er c px _ (by unfold ckI at h; exact h)).pe
  | .range a, X, Er, c, px, tg, e, h => by
    rw [show evI call (.range a) = fun env st => (ev call a env st).bind fun d st => (asI d st).bind fun n st => if decide (-(2 ^ 62) ≤ n) && decide (n < 2 ^ 62) then .ok ⟨rangeL 0 n, []⟩ st else .stuck from by funext env st; rw [evI]]
    unfold ckI at h
    split at h
    · obtain ⟨h, h4⟩ := b2 h; obtain ⟨h, h3⟩ := b2 h; obtain ⟨h1, h2⟩ := b2 h
      obtain rfl := of_decide_eq_true h1
      exact pi_rng1 c (inB_ok h2).1 (inB_ok h2).2 (ck_E a X Er c px _ h4).pe h3
    · cases h
  | .range2 a b, X, Er, c, px, tg, e, h => by
    rw [show evI call (.range2 a b) = fun env st => (ev call a env st).bind fun d st => (asI d st).bind fun m st => (ev call b env st).bind fun d st => (asI d st).bind fun n st =>
      if decide (-(2 ^ 62) ≤ m) && decide (m < 2 ^ 62) && decide (-(2 ^ 62) ≤ n) && decide (n < 2 ^ 62) then .ok ⟨rangeL m n, []⟩ st else .stuck from by funext env st; rw [evI]]
    unfold ckI at h
    split at h
    · obtain ⟨h, h6⟩ := b2 h; obtain ⟨h, h5⟩ := b2 h; obtain ⟨h, h4⟩ := b2 h; obtain ⟨h, h3⟩ := b2 h; obtain ⟨h1, h2⟩ := b2 h
      obtain rfl := of_decide_eq_true h1
      exact pi_rng2 c (inB_ok h2).1 (inB_ok h2).2 (ck_E a X Er c px _ h5).pe (ck_E b X Er c px _ h6).pe h3 h4
    · cases h
  | .enum a, X, Er, c, px, tg, e, h => by
    rw [show evI call (.enum a) = fun env st => (ev call a env st).bind fun d st => ofO (enumW d st) st from by funext env st; rw [evI]]
    unfold ckI at h
    split at h
    · obtain ⟨h, h4⟩ := b2 h; obtain ⟨h, h3⟩ := b2 h; obtain ⟨h1, h2⟩ := b2 h
      obtain rfl := of_decide_eq_true h1
      exact pi_enumD c (inB_ok h2).1 (inB_ok h2).2 (ck_E a X Er c px _ h4).pe h3
    · cases h
  | .zip a b, X, Er, c, px, tg, e, h => by
    rw [show evI call (.zip a b) = fun env st => (ev call a env st).bind fun x st => (ev call b env st).bind fun y st => ofO (zipW x y st) st from by funext env st; rw [evI]]
    unfold ckI at h
    split at h
    · obtain ⟨h, h6⟩ := b2 h; obtain ⟨h, h5⟩ := b2 h; obtain ⟨h, h4⟩ := b2 h; obtain ⟨h, h3⟩ := b2 h; obtain ⟨h1, h2⟩ := b2 h
      obtain rfl := of_decide_eq_true h1
      exact pi_zipD c (inB_ok h2).1 (inB_ok h2).2 (ck_E a X Er c px _ h5).pe (ck_E b X Er c px _ h6).pe h3 h4
    · cases h
  | .items a, X, Er, c, px, tg, e, h => by
    rw [show evI call (.items a) = fun env st => (ev call a env st).bind fun x st => ofO (itemsW x) st from by funext env st; rw [evI]]
    unfold ckI at h
    split at h
    · obtain ⟨h, h4⟩ := b2 h; obtain ⟨h, h3⟩ := b2 h; obtain ⟨h1, h2⟩ := b2 h
      obtain rfl := of_decide_eq_true h1
      exact pi_itemsD (ck_E a X Er c px _ h4).pe h3 h2
    · cases h
end
end
end PP
end

section
set_option linter.all false
set_option autoImplicit false
set_option maxRecDepth 100000
set_option Elab.async false
/-! Statements: readings, rules. -/
namespace PP
open PySem PySem.Spec PyProof.Rows L2
inductive OV where
  | nx (σ : L2.St) | rt (v : V) | bk (σ : L2.St) | ct (σ : L2.St)
def OR (K : PySem.W.Frag) : Hp → List Addr → Out → OV → Prop := fun im am o b => match o, b with
  | .nx env, .nx σ | .bk env, .bk σ | .ct env, .ct σ => EnvOk K im am env σ
  | .rt d, .rt v => Rp K im am d v
  | _, _ => False
def DQ (D : Ends) : OV → Hp → Prop := fun b H => match b with
  | .nx σ => D.nx σ H
  | .rt v => D.rt v H
  | .bk σ => D.bk σ H
  | .ct σ => D.ct σ H
def tS (K : PySem.W.Frag) (ca : Nat → Addr) (E : XK) (m : Env → Sto → Res Out) : TS := fun D σ H => ∃ im am env st, EnvOk K im am env σ ∧ StOk K st im am H ∧ Wp K ca (OR K) E im am H (m env st) (DQ D)
/-- around a def's statements -/
structure Sxt (ca : Nat → Addr) (xs : List (Str × Nat)) (X : Cx) (E : XK) : Prop where
  px : Passes (L2.CX X.prog X.w) X E
  own : PassesOwn (model X.prog X.w) X.A X.env X.xe
  tk : Takes X (fun cls d _ H => E cls d H)
  fn : ∀ x, X.fn x = true
  ki : X.env.scope.kind = .function
  ex : ∀ x c, xs.lookup x = some c → X.mg x = some (.ref (ca c)) ∧ PySem.W.excIn X.K (ca c) He.veBase "ValueError.__new__" = true ∧ PySem.W.keepIn X.K (.ref (ca c)) = true ∧ Raises X (.ref (ca c))
section
variable {X : Cx} {ca : Nat → Addr} {E : XK} {T : Tb} {N : List Str} {call : Nat → List D → Sto → Res D} {xs : List (Str × Nat)}
/-! ### name = value -/
def isDC : Expr → Bool
  | .SetComp .. => true
  | _ => false
def isDD : Expr → Bool
  | .DictComp .. => true
  | _ => false
def swapB (sc : Scope) (e : Expr) (y : Str) (py : Pos) : Bool := match e with
  | .ListComp _ _ s _ | .DictComp _ _ _ s _ => (if sc.kind.isAnnotationScope then ScopeKind.function else sc.kind) == .function && sc.names.lookup y == some .local && py.line == e.pos.line && !(s.names.any fun (n, k) => n == y && (k == .local || k == .cell))
  | _ => false
theorem swap_eq {e : Expr} {y : Str} {py : Pos} {l : Nat} {env : PySem.Env} (h : isDC e = false) : swapsWith e (some (.Name y py)) l env = pure (swapB env.scope e y py) := by
  cases e <;> first | rfl | (cases h)
theorem set_reading {i : Nat} {m : Env → Sto → Res D} {D : Ends} {σ : L2.St} {H : Hp} (w : tS X.K ca E (fun env st => (m env st).bind fun d st => (ofO (asg (.name i) d env) st).bind fun env st => .ok (.nx env) st) D σ H) : tAsg (tE X.K ca E m) (gName i) D σ H := by
  obtain ⟨im, am, env, st, eo, so, w⟩ := w
  refine ⟨im, am, env, st, eo, so, Wp.seq w fun x H1 im1 am1 a st1 e1 s1 r1 w1 => ?_⟩
  exact Wp.fin (α := Out) (β := OV) (b := .nx (σ.set i (some x))) (st := st1) w1 s1 ((eo.ext e1).set r1 i)
theorem s_set (c : Cxt T N ca call X) (sx : Sxt ca xs X E) {i : Nat} {y : Str} {py pos : Pos} {e : Expr} {m : Env → Sto → Res D} (hi : N[i]? = some y) (hl : locB X.env.scope y = true) (hd : isDC e = false) (hq : isDD e = true → swapB X.env.scope e y py = false) (he : Snd X ca E e m) :
    PS X (.Assign [.Name y py] e pos) (tS X.K ca E (fun env st => (m env st).bind fun d st => (ofO (asg (.name i) d env) st).bind fun env st => .ok (.nx env) st)) := by
  have hN : X.N.Nodup := by rw [c.nm]; exact c.nd
  have hy : X.N[i]? = some y := by rw [c.nm]; exact hi
  cases hs : swapB X.env.scope e y py with
  | false => exact PS.im (ps_set hN hy (locB_ok hl) he.pe (by rw [swap_eq hd, hs]) (.inl (sx.fn y))) fun D σ H w => set_reading w
  | true =>
    cases e with
    | ListComp elt gens scope p =>
      have hs2 := hs
      simp only [swapB, Bool.and_eq_true, beq_iff_eq] at hs2
      exact PS.im (he.sw elt gens scope p rfl i y py pos hy hs2.1.1.2 (by rw [swap_eq hd, hs])) fun D σ H w => set_reading w
    | DictComp _ _ _ _ _ => rw [hq rfl] at hs; cases hs
    | _ => cases hs
/-! ### (a, b) = value -/
def isTupE : Expr → Bool
  | .Tuple .. => true
  | _ => false
theorem sole_eq {l : List Expr} {k : Nat} {p : Pos} {e : Expr} {n : Nat} {env : PySem.Env} : swapsWithSole [.Tuple l k p] e n env = pure false := by
  cases e <;> rfl
theorem stores_eq {l : List Expr} {k : Nat} {p : Pos} {e : Expr} {env : PySem.Env} (h : isTupE e = false) : swappedStores [.Tuple l k p] e env = pure none := by
  cases e <;> first | rfl | (cases h)
theorem s_asg (c : Cxt T N ca call X) (sx : Sxt ca xs X E) {ts : Tgs} {l : List Expr} {k : Nat} {p pos : Pos} {e : Expr} {m : Env → Sto → Res D} (hg : ckTg N (fun _ => true) X.env.scope (.tup ts) (.Tuple l k p) = true) (ht : swappedStores [.Tuple l k p] e X.env = pure none) (he : Snd X ca E e m) :
    PS X (.Assign [.Tuple l k p] e pos) (tS X.K ca E (fun env st => (m env st).bind fun d st => (ofO (asg (.tup ts) d env) st).bind fun env st => .ok (.nx env) st)) :=
  PS.im (ps_asg he.pe (pg_ck c (fun x _ => sx.fn x) _ _ hg) sole_eq ht rfl) fun D σ H ⟨im, am, env, st, eo, so, w⟩ => by
    refine ⟨im, am, env, st, eo, so, Wp.seq w fun x H1 im1 am1 a st1 e1 s1 r1 w1 => ?_⟩
    cases ha : asg (.tup ts) a env with
    | none =>
      have w1 : Wp X.K ca (OR X.K) E im1 am1 H1 ((ofO (asg (.tup ts) a env) st1).bind fun env st => .ok (.nx env) st) (DQ D) := w1
      rw [ha] at w1; exact w1.elim
    | some env2 =>
      have w1 : Wp X.K ca (OR X.K) E im1 am1 H1 ((ofO (asg (.tup ts) a env) st1).bind fun env st => .ok (.nx env) st) (DQ D) := w1
      rw [ha] at w1
      exact ⟨im1, am1, env, st1, a, env2, eo.ext e1, s1, r1, ha, fun σ' eo' _ => Wp.fin (α := Out) (β := OV) (b := .nx σ') (st := st1) w1 s1 eo'⟩
/-! ### a, b = x, y -/
def starB : Expr → Bool
  | .Starred .. => true
  | _ => false
def parOk (sc : Scope) (ts vs : List Expr) (ns : List Str) : Bool :=
  (ts.length == 2 || ts.length == 3) && vs.length == ts.length && (if sc.kind.isAnnotationScope then ScopeKind.function else sc.kind) == .function && !(vs.any fun | .Starred .. => true | _ => false) &&
    decide ((ts.filterMap fun
      | .Name id pos => if sc.names.lookup id == some .local && pos.line == (ts.head?.map (·.pos.line)).getD 0 then some id else none
      | _ => none) = ns) && ns.length == ts.length && ns.eraseDups.length == ns.length && !(vs.all (foldedForSure 8)) && !(vs.all (constantsAlone 8))
theorem par_eq {ts vs : List Expr} {ns : List Str} {k k2 : Nat} {p p2 : Pos} {env : PySem.Env} (h : parOk env.scope ts vs ns = true) : swappedStores [.Tuple ts k p] (.Tuple vs k2 p2) env = pure (some ns) := by
  unfold parOk at h
  obtain ⟨h, h9⟩ := b2 h; obtain ⟨h, h8⟩ := b2 h; obtain ⟨h, h7⟩ := b2 h; obtain ⟨h, h6⟩ := b2 h; obtain ⟨h, h5⟩ := b2 h; obtain ⟨h, h4⟩ := b2 h; obtain ⟨h, h3⟩ := b2 h; obtain ⟨h1, h2⟩ := b2 h
  have h5 := of_decide_eq_true h5
  have e3 : env.blockKind = .function := eq_of_beq h3
  rw [Bool.not_eq_true'] at h4 h8 h9
  unfold swappedStores
  show (if (!(ts.length == 2 || ts.length == 3) || vs.length != ts.length || env.blockKind != .function) = true then _ else _) = _
  rw [if_neg (by simp only [h1, e3, eq_of_beq h2, Bool.not_true, Bool.false_or, bne_self_eq_false]; decide)]
  rw [if_neg (by intro q; exact absurd (q.symm.trans h4) (by decide))]
  dsimp only
  generalize hn : List.filterMap _ ts = names
  have e : names = ns := hn.symm.trans h5
  subst e
  rw [if_neg (by simp only [bne, h6, h7]; decide), if_neg (by rw [h8]; decide), if_neg (by rw [h9]; decide)]
/-- .. where nothing is swapped -/
def parNo (sc : Scope) (ts vs : List Expr) : Bool :=
  (ts.length == 2 || ts.length == 3) && vs.length == ts.length && (if sc.kind.isAnnotationScope then ScopeKind.function else sc.kind) == .function && !(vs.any fun | .Starred .. => true | _ => false) &&
    ((ts.filterMap fun
      | .Name id pos => if sc.names.lookup id == some .local && pos.line == (ts.head?.map (·.pos.line)).getD 0 then some id else none
      | _ => none).length != ts.length || vs.all (foldedForSure 8))
theorem parNo_eq {ts vs : List Expr} {k k2 : Nat} {p p2 : Pos} {env : PySem.Env} (h : parNo env.scope ts vs = true) : swappedStores [.Tuple ts k p] (.Tuple vs k2 p2) env = pure none := by
  unfold parNo at h
  obtain ⟨h, h5⟩ := b2 h; obtain ⟨h, h4⟩ := b2 h; obtain ⟨h, h3⟩ := b2 h; obtain ⟨h1, h2⟩ := b2 h
  have e3 : env.blockKind = .function := eq_of_beq h3
  rw [Bool.not_eq_true'] at h4
  rw [Bool.or_eq_true] at h5
  unfold swappedStores
  show (if (!(ts.length == 2 || ts.length == 3) || vs.length != ts.length || env.blockKind != .function) = true then _ else _) = _
  rw [if_neg (by simp only [h1, e3, eq_of_beq h2, Bool.not_true, Bool.false_or, bne_self_eq_false]; decide)]
  rw [if_neg (by intro q; exact absurd (q.symm.trans h4) (by decide))]
  dsimp only
  generalize hn : List.filterMap _ ts = names
  have h5 : (names.length != ts.length) = true ∨ vs.all (foldedForSure 8) = true := h5.imp (fun q => by rw [← hn]; exact q) id
  by_cases h6 : (names.length != ts.length || names.eraseDups.length != names.length) = true
  · rw [if_pos h6]
  · rw [if_neg h6]
    rcases h5 with h5 | h5
    · exact absurd (by rw [h5, Bool.true_or]) h6
    · rw [if_pos h5]
def tPar3 (i j l : Nat) (ta : TA) : TS := fun D σ H => ta σ H fun vs H1 => ∃ v w u, vs = [v, w, u] ∧ D.nx (((σ.set i (some v)).set j (some w)).set l (some u)) H1
theorem ps_par3 {i j l : Nat} {x y z : Str} {a b c : Expr} {ta : TA} {px py pz pt pos : Pos} {kt k2 pt2} (hc : X.calm = true) (hN : X.N.Nodup) (hi : X.N[i]? = some x) (hj : X.N[j]? = some y) (hl : X.N[l]? = some z) (hij : i ≠ j) (hil : i ≠ l) (hjl : j ≠ l)
    (hx : X.env.scope.names.lookup x = some .local) (hy : X.env.scope.names.lookup y = some .local) (hz : X.env.scope.names.lookup z = some .local) (ha : PA X [a, b, c] ta)
    (hw : swappedStores [.Tuple [.Name x px, .Name y py, .Name z pz] kt pt] (.Tuple [a, b, c] k2 pt2) X.env = pure (some [x, y, z]))
    (hs : swapsWithSole [.Tuple [.Name x px, .Name y py, .Name z pz] kt pt] (.Tuple [a, b, c] k2 pt2) pos.line X.env = pure false) :
    PS X (.Assign [.Tuple [.Name x px, .Name y py, .Name z pz] kt pt] (.Tuple [a, b, c] k2 pt2) pos) (tPar3 i j l ta) := by
  refine ⟨fun pins s σ H D I h => ?_⟩
  rw [exec_Assign_arm]
  refine wpAny_bind (wpAny_standAt ?_)
  rw [hs]
  refine wpAny_bind (wpAny_pure ?_)
  rw [if_neg (by decide)]
  refine wpAny_bind (Tuple_ (thn (ha.run _ pins s σ H _ I h) fun us s1 ⟨vs, H1, I1, r1, q1⟩ => ?_))
  obtain ⟨v, w, u, e1, q1⟩ := q1
  subst e1
  obtain ⟨u1, u2, u3, rfl, rv, rw', ru⟩ : ∃ u1 u2 u3, us = [u1, u2, u3] ∧ RelV v u1 ∧ RelV w u2 ∧ RelV u u3 := by
    cases r1 with
    | cons p q =>
      cases q with
      | cons p' q' =>
        cases q' with
        | cons p'' q'' =>
          cases q''
          exact ⟨_, _, _, rfl, p, p', p''⟩
  refine wpAny_newObj_type ?_ (by show 3 ≤ sizeLine; decide)
  have I2 : Inv X pins σ H1 { s1 with heap := s1.heap.push { cls := .type "tuple", data := .seq [u1, u2, u3].toArray } } := I1.kept (t' := s1.toks) fun b o e => Heap.get?_push_of_some _ e
  rw [hw]
  refine wpAny_bind (wpAny_pure ?_)
  show wpAny (model X.prog X.w) X.A (do rule "assign.swapped-stores"; let items ← unpackItems (.ref s1.heap.objs.size) 3 none; assignInOrder [fun v => bindName X.env z v, fun v => bindName X.env y v, fun v => bindName X.env x v] items.reverse; pure Flow.next) _ _ _
  refine wpAny_bind (wpAny_rule (wpAny_bind (unpackItems_tuple (items := #[u1, u2, u3]) (I.ok.hd hc) (IsTup.new s1.heap _) fun h' hx' => ?_)))
  have I3 := I2.kept (h' := h') (t' := s1.toks) fun b o e => hx' b o (Nat.ne_of_lt (Heap.lt_size e)) e
  show wpAny _ _ (assignInOrder [fun v => bindName X.env z v, fun v => bindName X.env y v, fun v => bindName X.env x v] [u3, u2, u1] >>= fun _ => pure Flow.next) _ _ _
  refine wpAny_bind (assignInOrder_cons (wpAny_bindName (store_ok I3 hN hl (.inl hz) ru (fun s2 I4 => ?_) (.inr hz))))
  refine assignInOrder_cons (wpAny_bindName (store_ok I4 hN hj (.inl hy) rw' (fun s3 I5 => ?_) (.inr hy)))
  refine assignInOrder_cons (wpAny_bindName (store_ok I5 hN hi (.inl hx) rv (fun s4 I6 => assignInOrder_nil (wpAny_pure ?_)) (.inr hx)))
  have e6 : ((σ.set l (some u)).set j (some w)).set i (some v) = ((σ.set i (some v)).set j (some w)).set l (some u) := by
    rw [List.set_comm _ _ (Ne.symm hjl), List.set_comm _ _ (Ne.symm hil), List.set_comm _ _ (Ne.symm hij)]
  rw [e6] at I6
  exact ⟨_, H1, I6, q1⟩
/-! ### o[i] = v -/
def GotP (X : Cx) (ca : Nat → Addr) (E : XK) : TSet := fun o i v H Q => ∃ im am st d e x, StOk X.K st im am H ∧ Rp X.K im am d o ∧ Rp X.K im am e i ∧ Rp X.K im am x v ∧ Wp X.K ca (fun _ _ _ (_ : Unit) => True) E im am H (putR d e x st) (fun _ H' => Q H')
theorem ixAt_ixN {n : Nat} {k : Int} {j : Nat} (h : ixAt n k = some j) : ixN n k = some j := by
  unfold ixAt at h; unfold ixN
  split at h
  · rename_i h0
    split at h
    · cases h; rw [if_pos h0, if_pos (by omega)]
    · cases h
  · rename_i h0
    split at h
    · cases h; rw [if_neg h0, if_pos (by omega)]
      first | rfl | (congr 1; omega)
    · cases h
end
end PP
end

section
set_option linter.all false
set_option autoImplicit false
set_option maxRecDepth 100000
set_option Elab.async false
/-! Statements: the check, and what it shows. -/
namespace PP
open PySem PySem.Spec PyProof.Rows L2
section
variable {X : Cx} {ca : Nat → Addr} {E : XK} {T : Tb} {N : List Str} {call : Nat → List D → Sto → Res D} {xs : List (Str × Nat)}
theorem put_D : PSet X (GotP X ca E) := by
  intro pins s σ H o i v ov iv u Q I ro ri rv ⟨im, am, st, d, e, x, so, rd, re, rx, w⟩
  cases d with
  | cel a =>
    cases rd with
    | @cel _ p hp =>
      cases e with
      | int k =>
        cases re
        simp only [putR] at w
        cases hc : st[a]? with
        | none => rw [hc] at w; exact w.elim
        | some c =>
          rw [hc] at w
          cases c with
          | lst ys =>
            obtain ⟨vs, q1, q2⟩ := so.cell _ _ _ hp hc
            dsimp only at w
            cases hj : ixAt ys.length k with
            | none => rw [hj] at w; exact w.elim
            | some j =>
              rw [hj] at w
              refine set_list pins s σ H _ _ _ ov iv u Q I ro ri rv ⟨p, vs, k, j, rfl, rfl, q1, by rw [← q2.length]; exact ixAt_ixN hj, ?_⟩
              exact w im am _ () (Ext.write hp) (so.write hp ⟨_, upd_same, q2.set rx j⟩) trivial
          | dct _ => exact w.elim
      | _ => exact w.elim
  | _ => exact w.elim
theorem sub_ok {o i : Expr} {p : Pos} {env : PySem.Env} (h : plainIx i = true) : ∀ v, assign (.Subscript o i p) env v = (do
      let ov ← holding [v] (eval o env)
      let iv ← holding [v, ov] (eval i env)
      standAt p
      holding [v, ov, iv] (setItem ov iv v)
      release [v, ov, iv] []) := by
  intro v
  cases i with
  | Slice l u s q => cases s with
    | none => cases h
    | some s => rfl
  | _ => rfl
theorem s_put (c : Cxt T N ca call X) {o i e : Expr} {p pos : Pos} {mo mi me : Env → Sto → Res D} (hi : plainIx i = true) (ho : Snd X ca E o mo) (hix : Snd X ca E i mi) (he : Snd X ca E e me) :
    PS X (.Assign [.Subscript o i p] e pos) (tS X.K ca E (fun env st => (me env st).bind fun v st => (mo env st).bind fun x st => (mi env st).bind fun y st => (putR x y v st).bind fun _ st => .ok (.nx env) st)) :=
  PS.im (ps_asg he.pe (pg_sub ho.pe hix.pe (put_D (ca := ca) (E := E)) (sub_ok hi)) (by cases e <;> rfl) (by cases e <;> rfl) rfl) fun D σ H ⟨im, am, env, st, eo, so, w⟩ => by
    refine ⟨im, am, env, st, eo, so, Wp.seq w fun v H1 im1 am1 a st1 e1 s1 r1 w1 => ?_⟩
    refine ⟨im1, am1, env, st1, eo.ext e1, s1, Wp.seq w1 fun x H2 im2 am2 b st2 e2 s2 r2 w2 => ?_⟩
    refine ⟨im2, am2, env, st2, (eo.ext e1).ext e2, s2, Wp.seq w2 fun y H3 im3 am3 g st3 e3 s3 r3 w3 => ?_⟩
    refine ⟨im3, am3, st3, b, g, a, s3, r2.mono e3.same e3.pre _ _, r3, (r1.mono e2.same e2.pre _ _).mono e3.same e3.pre _ _, Wp.seq w3 fun _ H4 im4 am4 _ st4 e4 s4 _ w4 => ?_⟩
    exact Wp.fin (α := Out) (β := OV) (b := .nx σ) (st := st4) w4 s4 ((((eo.ext e1).ext e2).ext e3).ext e4)
/-! ### rows of statements -/
theorem s_nil : PSs X [] (tS X.K ca E fun env st => .ok (.nx env) st) :=
  PSs.im pss_nil fun D σ H ⟨im, am, env, st, eo, so, w⟩ => Wp.fin (α := Out) (β := OV) (b := .nx σ) (st := st) w so eo
def seqM (m1 m2 : Env → Sto → Res Out) : Env → Sto → Res Out := fun env st => (m1 env st).bind fun o st => match o with
    | .nx env => m2 env st
    | o => .ok o st
theorem s_cons {s : Stmt} {ss : List Stmt} {m1 m2 : Env → Sto → Res Out} (h1 : PS X s (tS X.K ca E m1)) (h2 : PSs X ss (tS X.K ca E m2)) : PSs X (s :: ss) (tS X.K ca E (seqM m1 m2)) :=
  PSs.im (pss_cons h1 h2) fun D σ H ⟨im, am, env, st, eo, so, w⟩ => by
    refine ⟨im, am, env, st, eo, so, Wp.seq w fun b H1 im1 am1 o st1 e1 s1 r1 w1 => ?_⟩
    cases o with
    | nx env2 => cases b with
      | nx σ2 => exact ⟨im1, am1, env2, st1, r1, s1, w1⟩
      | _ => exact r1.elim
    | rt d => cases b with
      | rt v => exact w1 im1 am1 H1 (.rt v) Ext.refl s1 r1
      | _ => exact r1.elim
    | bk env2 => cases b with
      | bk σ2 => exact w1 im1 am1 H1 (.bk σ2) Ext.refl s1 r1
      | _ => exact r1.elim
    | ct env2 => cases b with
      | ct σ2 => exact w1 im1 am1 H1 (.ct σ2) Ext.refl s1 r1
      | _ => exact r1.elim
theorem s_if {t : Expr} {a b : List Stmt} {p : Pos} {mc : Env → Sto → Res D} {m1 m2 : Env → Sto → Res Out} (ht : Snd X ca E t mc) (ha : PSs X a (tS X.K ca E m1)) (hb : PSs X b (tS X.K ca E m2)) :
    PS X (.If t a b p) (tS X.K ca E (fun env st => (mc env st).bind fun x st => (asB x st).bind fun p st => if p then m1 env st else m2 env st)) :=
  PS.im (ps_if ht.pt ha hb) fun D σ H ⟨im, am, env, st, eo, so, w⟩ => by
    obtain ⟨im', am', env', st', eo', so', w'⟩ := bool_firstT (f := fun p env st => if p then m1 env st else m2 env st) eo so w
    refine ⟨im', am', env', st', eo', so', w'.mono ?_⟩
    rintro c H1 ⟨im1, am1, st1, eo1, s1, w1⟩
    cases c with
    | true => exact ⟨im1, am1, env, st1, eo1, s1, w1⟩
    | false => exact ⟨im1, am1, env, st1, eo1, s1, w1⟩
theorem s_ret {e : Expr} {p : Pos} {m : Env → Sto → Res D} (he : Snd X ca E e m) : PS X (.Return (some e) p) (tS X.K ca E (fun env st => (m env st).bind fun d st => .ok (.rt d) st)) :=
  PS.im (ps_ret he.pe) fun D σ H ⟨im, am, env, st, eo, so, w⟩ => ⟨im, am, env, st, eo, so, Wp.seq w fun x H1 im1 am1 a st1 e1 s1 r1 w1 => Wp.fin (α := Out) (β := OV) (b := .rt x) (st := st1) w1 s1 r1⟩
theorem s_retN {p : Pos} : PS X (.Return none p) (tS X.K ca E (fun _ st => .ok (.rt .non) st)) :=
  PS.im ps_retN fun D σ H ⟨im, am, env, st, eo, so, w⟩ => Wp.fin (α := Out) (β := OV) (b := .rt .non) (st := st) w so .non
theorem s_ex {e : Expr} {p : Pos} {m : Env → Sto → Res D} (hc : swapsWith e none p.line X.env = pure false) (he : Snd X ca E e m) : PS X (.Expr e p) (tS X.K ca E (fun env st => (m env st).bind fun _ st => .ok (.nx env) st)) :=
  PS.im (ps_expr he.pe hc) fun D σ H ⟨im, am, env, st, eo, so, w⟩ => ⟨im, am, env, st, eo, so, Wp.seq w fun x H1 im1 am1 a st1 e1 s1 r1 w1 => Wp.fin (α := Out) (β := OV) (b := .nx σ) (st := st1) w1 s1 (eo.ext e1)⟩
theorem s_pass {p : Pos} : PS X (.Pass p) (tS X.K ca E (fun env st => .ok (.nx env) st)) :=
  PS.im ps_pass fun D σ H ⟨im, am, env, st, eo, so, w⟩ => Wp.fin (α := Out) (β := OV) (b := .nx σ) (st := st) w so eo
theorem s_brk {p : Pos} : PS X (.Break p) (tS X.K ca E (fun env st => .ok (.bk env) st)) :=
  PS.im ps_break fun D σ H ⟨im, am, env, st, eo, so, w⟩ => Wp.fin (α := Out) (β := OV) (b := .bk σ) (st := st) w so eo
theorem s_cont {p : Pos} : PS X (.Continue p) (tS X.K ca E (fun env st => .ok (.ct env) st)) :=
  PS.im ps_continue fun D σ H ⟨im, am, env, st, eo, so, w⟩ => Wp.fin (α := Out) (β := OV) (b := .ct σ) (st := st) w so eo
theorem s_raise (c : Cxt T N ca call X) (sx : Sxt ca xs X E) {x m : Str} {i j : Nat} {p p2 p3 pos : Pos} (hx : xs.lookup x = some i) (hg : gloB X.env.scope x = true) (hn : okN x = true) :
    PS X (.Raise (some (.Call (.Name x p) [.Constant (.str m) j p2] [] p3)) none pos) (tS X.K ca E (fun _ st => .err i st)) := by
  obtain ⟨h1, h2, h3, h4⟩ := sx.ex x i hx
  exact PS.im (ps_raise c.calm sx.tk (pmk_own PySem.F.excBase_ValueError h2 h1 h3 h4 (gloB_ok hg) (okN_ok hn).d)) fun D σ H ⟨im, am, env, st, eo, so, w⟩ => w im am H Ext.refl so
theorem s_aug (c : Cxt T N ca call X) (sx : Sxt ca xs X E) {op : BOp} {o : Operator} {i : Nat} {y : Str} {py pos : Pos} {e : Expr} {m : Env → Sto → Res D} (ho : opB op o = true) (hop : op = .add ∨ op = .sub) (hi : N[i]? = some y) (hl : locB X.env.scope y = true) (he : Snd X ca E e m) :
    PS X (.AugAssign (.Name y py) o e pos) (tS X.K ca E (fun env st => (ofO (getS env i) st).bind fun x st => (m env st).bind fun y st => (augR op x y st).bind fun z st => .ok (.nx (env.set i (some z))) st)) := by
  obtain rfl := opB_eq ho
  have hN : X.N.Nodup := by rw [c.nm]; exact c.nd
  have hy : X.N[i]? = some y := by rw [c.nm]; exact hi
  have key : ∀ (f : Int → Int → Int), (∀ a b st, augR op a b st = match a, b with | .int i, .int j => .ok (.int (f i j)) st | _, _ => .stuck) → ∀ D σ H, tS X.K ca E (fun env st => (ofO (getS env i) st).bind fun x st => (m env st).bind fun y st => (augR op x y st).bind fun z st => .ok (.nx (env.set i (some z))) st) D σ H → tAug i (tE X.K ca E m) (ipI f) D σ H := by
    intro f hf D σ H ⟨im, am, env, st, eo, so, w⟩
    cases hg : getS env i with
    | none =>
      have w : Wp X.K ca (OR X.K) E im am H ((ofO (getS env i) st).bind fun x st => (m env st).bind fun y st => (augR op x y st).bind fun z st => .ok (.nx (env.set i (some z))) st) (DQ D) := w
      rw [hg] at w; exact w.elim
    | some a =>
      have w : Wp X.K ca (OR X.K) E im am H ((ofO (getS env i) st).bind fun x st => (m env st).bind fun y st => (augR op x y st).bind fun z st => .ok (.nx (env.set i (some z))) st) (DQ D) := w
      rw [hg, ofO_some, Res.bind_ok] at w
      obtain ⟨v, e, r⟩ := eo.get hg
      refine ⟨v, e, im, am, env, st, eo, so, Wp.seq w fun y H1 im1 am1 b st1 e1 s1 r1 w1 => ?_⟩
      rw [hf] at w1
      cases a with
      | int p =>
        cases b with
        | int q =>
          cases r; cases r1
          exact ⟨p, q, rfl, rfl, Wp.fin (α := Out) (β := OV) (b := .nx (σ.set i (some (.int (f p q))))) (st := st1) w1 s1 ((eo.ext e1).set (.int _) i)⟩
        | _ => exact w1.elim
      | _ => exact w1.elim
  rcases hop with rfl | rfl
  · exact PS.im (ps_aug hN hy (locB_ok hl) he.pe ip_add (.inl (sx.fn y))) (key (fun i j => i + j) (fun a b st => by cases a <;> cases b <;> rfl))
  · exact PS.im (ps_aug hN hy (locB_ok hl) he.pe ip_sub (.inl (sx.fn y))) (key (fun i j => i - j) (fun a b st => by cases a <;> cases b <;> rfl))
/-! ### for -/
theorem s_for (c : Cxt T N ca call X) (sx : Sxt ca xs X E) {tg : Tg} {t iter : Expr} {body : List Stmt} {pos : Pos} {mi : Env → Sto → Res Wk} {mb : Env → Sto → Res Out} (hi : PI X t iter (tI X.K ca E mi)) (hg : PG X t (gT X.K tg)) (hb : PSs X body (tS X.K ca E mb)) (hs : isSetE iter = false) :
    PS X (.For t iter body [] pos) (tS X.K ca E (fun env st => (mi env st).bind fun w st => forGo (gdOk w.gd) (fun x env st => (ofO (asg tg x env) st).bind fun env st => mb env st) w.xs env st)) :=
  PS.im (ps_for sx.own c.calm hi hg hb (fold_of hs)) fun D σ H ⟨im, am, env, st, eo, so, w⟩ => by
    refine ⟨im, am, env, st, eo, so, Wp.seq w fun J H1 im1 am1 wk st1 e1 s1 r1 w1 => ?_⟩
    obtain ⟨G, Y, wlk, hG⟩ := r1
    have gd : ∀ {xs env2 st2}, Wp X.K ca (OR X.K) E im1 am1 H1 (forGo (gdOk wk.gd) (fun x env st => (ofO (asg tg x env) st).bind fun env st => mb env st) xs env2 st2) (DQ D) → gdOk wk.gd st2 = true := fun {xs env2 st2} w => by
      cases hg : gdOk wk.gd st2 with
      | true => rfl
      | false => cases xs <;> (simp only [forGo, hg] at w; exact w.elim)
    refine for_it wlk (fun i σ' H' => ∃ im2 am2 st2 env2, Ext im1 am1 H1 im2 am2 H' ∧ EnvOk X.K im2 am2 env2 σ' ∧ StOk X.K st2 im2 am2 H' ∧ Wp X.K ca (OR X.K) E im1 am1 H1 (forGo (gdOk wk.gd) (fun x env st => (ofO (asg tg x env) st).bind fun env st => mb env st) (wk.xs.drop i) env2 st2) (DQ D))
      ⟨im1, am1, st1, env, Ext.refl, eo.ext e1, s1, by rw [List.drop_zero]; exact w1⟩ ?_ ?_ ?_
    · rintro i σ' H' hi ⟨im2, am2, st2, env2, e2, eo2, s2, w2⟩
      exact (hG im2 am2 H' st2 e2.same e2.pre s2 (gd w2)).1
    · rintro i x σ' H' H'' hi ⟨im2, am2, st2, env2, e2, eo2, s2, w2⟩ y
      have hg2 := gd w2
      obtain ⟨im3, d, hx, e3, s3, r3⟩ := (hG im2 am2 H' st2 e2.same e2.pre s2 hg2).2 i x H'' hi y
      rw [drop_at hx] at w2
      cases ha : asg tg d env2 with
      | none =>
        simp only [forGo, hg2, if_true, ha, ofO_none, Res.bind_stuck] at w2
        exact w2.elim
      | some env3 =>
        simp only [forGo, hg2, if_true, ha, ofO_some, Res.bind_ok] at w2
        refine ⟨im3, am2, env2, st2, d, env3, eo2.ext e3, s3, r3, ha, fun σ3 eo3 _ => ⟨im3, am2, env3, st2, eo3, s3, Wp.from w2 (e2.trans e3) fun o st4 im4 am4 H4 b he w4 e4 s4 r4 => ?_⟩⟩
        have e5 := (e2.trans e3).trans e4
        cases o with
        | nx env4 => cases b with
          | nx σ4 => exact ⟨im4, am4, st4, env4, e5, r4, s4, w4⟩
          | _ => exact r4.elim
        | ct env4 => cases b with
          | ct σ4 => exact ⟨im4, am4, st4, env4, e5, r4, s4, w4⟩
          | _ => exact r4.elim
        | bk env4 => cases b with
          | bk σ4 => exact w4 im4 am4 H4 (.nx σ4) e5 s4 r4
          | _ => exact r4.elim
        | rt d4 => cases b with
          | rt v4 => exact w4 im4 am4 H4 (.rt v4) e5 s4 r4
          | _ => exact r4.elim
    · rintro σ' H' ⟨im2, am2, st2, env2, e2, eo2, s2, w2⟩
      have hg2 := gd w2
      rw [List.drop_length] at w2
      simp only [forGo, hg2, if_true] at w2
      exact w2 im2 am2 H' (.nx σ') e2 s2 eo2
/-! ### while -/
theorem s_while (c : Cxt T N ca call X) (sx : Sxt ca xs X E) {wf : Nat} {t : Expr} {body : List Stmt} {pos : Pos} {mc : Env → Sto → Res D} {mb : Env → Sto → Res Out} (ht : Snd X ca E t mc) (hb : PSs X body (tS X.K ca E mb)) :
    PS X (.While t body [] pos) (tS X.K ca E (fun env st => whileGo (fun env st => mb env st) (fun env st => (mc env st).bind fun x st => asB x st) wf env st)) :=
  PS.im (ps_while sx.own ht.pt hb) fun D σ H ⟨im, am, env, st, eo, so, w⟩ => by
    refine ⟨fun n σ' H' => ∃ im2 am2 st2 env2, Ext im am H im2 am2 H' ∧ EnvOk X.K im2 am2 env2 σ' ∧ StOk X.K st2 im2 am2 H' ∧ Wp X.K ca (OR X.K) E im am H (whileGo (fun env st => mb env st) (fun env st => (mc env st).bind fun x st => asB x st) n env2 st2) (DQ D), ⟨wf, im, am, st, env, Ext.refl, eo, so, w⟩, ?_⟩
    rintro n σ' H' ⟨im2, am2, st2, env2, e2, eo2, s2, w2⟩
    cases n with
    | zero => exact w2.elim
    | succ n =>
      simp only [whileGo] at w2
      refine ⟨im2, am2, env2, st2, eo2, s2, Wp.from w2 e2 fun cb st3 im3 am3 H3 b he w3 e3 s3 r3 => ?_⟩
      have eb : b = cb := r3.symm
      subst eb
      have e4 := e2.trans e3
      cases b with
      | false => exact w3 im3 am3 H3 (.nx σ') e4 s3 (eo2.ext e3)
      | true =>
        simp only [if_true] at w3
        refine ⟨fun σ4 H4 => ∃ m', m' < n + 1 ∧ ∃ im2 am2 st2 env2, Ext im am H im2 am2 H4 ∧ EnvOk X.K im2 am2 env2 σ4 ∧ StOk X.K st2 im2 am2 H4 ∧ Wp X.K ca (OR X.K) E im am H (whileGo (fun env st => mb env st) (fun env st => (mc env st).bind fun x st => asB x st) m' env2 st2) (DQ D), fun _ _ h => h, ?_⟩
        refine ⟨im3, am3, env2, st3, eo2.ext e3, s3, Wp.from w3 e4 fun o st4 im4 am4 H4 b he w4 e5 s4 r4 => ?_⟩
        have e6 := e4.trans e5
        cases o with
        | nx env4 => cases b with
          | nx σ4 => exact ⟨n, Nat.lt_succ_self _, im4, am4, st4, env4, e6, r4, s4, w4⟩
          | _ => exact r4.elim
        | ct env4 => cases b with
          | ct σ4 => exact ⟨n, Nat.lt_succ_self _, im4, am4, st4, env4, e6, r4, s4, w4⟩
          | _ => exact r4.elim
        | bk env4 => cases b with
          | bk σ4 => exact w4 im4 am4 H4 (.nx σ4) e6 s4 r4
          | _ => exact r4.elim
        | rt d4 => cases b with
          | rt v4 => exact w4 im4 am4 H4 (.rt v4) e6 s4 r4
          | _ => exact r4.elim
end
end PP
end

section
set_option linter.all false
set_option autoImplicit false
set_option maxRecDepth 100000
set_option Elab.async false
/-! The pairing of statements, checked; a def keeps its promise. -/
namespace PP
open PySem PySem.Spec PyProof.Rows L2
section
variable (T : Tb) (xs : List (Str × Nat)) (N : List Str)
def allT : Str → Bool := fun _ => true
def noCp : Expr → Bool
  | .ListComp .. | .SetComp .. | .DictComp .. => false
  | _ => true
def noSw (sc : Scope) (l : List Expr) (e : Expr) : Bool := match e with
  | .Tuple vs _ _ => parNo sc l vs
  | _ => true
def parCk (sc : Scope) (is : List Nat) (ts vs : List Expr) : Bool := match is, ts, vs with
  | [i, j], [.Name x _, .Name y _], [_, _] => decide (N[i]? = some x) && decide (N[j]? = some y) && decide (i ≠ j) && lclB sc x && lclB sc y && parOk sc ts vs [x, y]
  | [i, j, l], [.Name x _, .Name y _, .Name z _], [_, _, _] => decide (N[i]? = some x) && decide (N[j]? = some y) && decide (N[l]? = some z) && decide (i ≠ j) && decide (i ≠ l) && decide (j ≠ l) && lclB sc x && lclB sc y && lclB sc z && parOk sc ts vs [x, y, z]
  | _, _, _ => false
mutual
def ckS : S → Scope → Stmt → Bool
  | .set tg e, sc, s => match s with
    | .Assign [t] ex _ => (match tg, t with
      | .name i, .Name y py => decide (N[i]? = some y) && locB sc y && (!isDC ex && (!isDD ex || !swapB sc ex y py)) && ckE T N e sc ex
      | .tup ts, .Tuple l k p => ckTg N allT sc (.tup ts) (.Tuple l k p) && noSw sc l ex && ckE T N e sc ex
      | _, _ => false)
    | _ => false
  | .par is es, sc, s => match s with
    | .Assign [.Tuple ts _ _] (.Tuple vs _ _) _ => parCk N sc is ts vs && ckEs T N es sc vs
    | _ => false
  | .aug i op e, sc, s => match s with
    | .AugAssign (.Name y _) o ex _ => opB op o && (match op with | .add | .sub => true | _ => false) && decide (N[i]? = some y) && locB sc y && ckE T N e sc ex
    | _ => false
  | .ex e, sc, s => match s with
    | .Expr ex _ => noCp ex && ckE T N e sc ex
    | _ => false
  | .ret e, sc, s => match s with
    | .Return (some ex) _ => ckE T N e sc ex
    | _ => false
  | .retN, sc, s => match s with
    | .Return none _ => true
    | _ => false
  | .ite c a b, sc, s => match s with
    | .If t x y _ => ckE T N c sc t && ckSs a sc x && ckSs b sc y
    | _ => false
  | .for_ tg it body, sc, s => match s with
    | .For t iter b [] _ => ckTg N allT sc tg t && ckI T N it sc t iter && !isSetE iter && ckSs body sc b
    | _ => false
  | .while_ c body, sc, s => match s with
    | .While t b [] _ => ckE T N c sc t && ckSs body sc b
    | _ => false
  | .raise i, sc, s => match s with
    | .Raise (some (.Call (.Name x _) [.Constant (.str _) _ _] [] _)) none _ => decide (xs.lookup x = some i) && gloB sc x && okN x
    | _ => false
  | .put o i e, sc, s => match s with
    | .Assign [.Subscript x y _] ex _ => plainIx y && ckE T N o sc x && ckE T N i sc y && ckE T N e sc ex
    | _ => false
  | .pass, sc, s => match s with
    | .Pass _ => true
    | _ => false
  | .brk, sc, s => match s with
    | .Break _ => true
    | _ => false
  | .cont, sc, s => match s with
    | .Continue _ => true
    | _ => false
  | .never, _, _ => true
def ckSs : Ss → Scope → List Stmt → Bool
  | .nil, sc, l => l.isEmpty
  | .cons s ss, sc, l => match l with
    | x :: l => ckS s sc x && ckSs ss sc l
    | [] => false
end
end
section
variable {T : Tb} {N : List Str} {ca : Nat → Addr} {call : Nat → List D → Sto → Res D} {xs : List (Str × Nat)} {X : Cx} {E : XK} {wf : Nat}
theorem noSw_ok {l : List Expr} {k : Nat} {p : Pos} {e : Expr} {env : PySem.Env} (h : noSw env.scope l e = true) : swappedStores [.Tuple l k p] e env = pure none := by
  cases e <;> first | rfl | exact parNo_eq h
theorem noCp_ok {e : Expr} {l : Nat} {env : PySem.Env} (h : noCp e = true) : swapsWith e none l env = pure false := by
  cases e <;> first | rfl | (cases h)
theorem s_par (c : Cxt T N ca call X) (sx : Sxt ca xs X E) {is : List Nat} {ts vs : List Expr} {k k2 n : Nat} {p p2 pos : Pos} {m : Env → Sto → Res (List D)} (h : parCk N X.env.scope is ts vs = true) (ha : SndA X ca E vs n m) :
    PS X (.Assign [.Tuple ts k p] (.Tuple vs k2 p2) pos) (tS X.K ca E (fun env st => (m env st).bind fun ds st => (ofO (setAll is ds env) st).bind fun env st => .ok (.nx env) st)) := by
  have hN : X.N.Nodup := by rw [c.nm]; exact c.nd
  have at_ : ∀ {i : Nat} {x : Str}, N[i]? = some x → X.N[i]? = some x := fun h => by rw [c.nm]; exact h
  unfold parCk at h
  split at h
  · rename_i i j x px y py a b
    obtain ⟨h, h6⟩ := b2 h; obtain ⟨h, h5⟩ := b2 h; obtain ⟨h, h4⟩ := b2 h; obtain ⟨h, h3⟩ := b2 h; obtain ⟨h1, h2⟩ := b2 h
    refine PS.im (ps_par c.calm hN (at_ (of_decide_eq_true h1)) (at_ (of_decide_eq_true h2)) (of_decide_eq_true h3) (lclB_ok h4) (lclB_ok h5) ha.pa (par_eq h6) sole_eq) fun D σ H ⟨im, am, env, st, eo, so, w⟩ => ?_
    refine ⟨im, am, env, st, eo, so, Wp.seq w fun ys H1 im1 am1 ds st1 e1 s1 r1 w1 => ?_⟩
    have w1 : Wp X.K ca (OR X.K) E im1 am1 H1 ((ofO (setAll [i, j] ds env) st1).bind fun env st => .ok (.nx env) st) (DQ D) := w1
    cases ds with
    | nil => exact w1.elim
    | cons d ds =>
      cases ds with
      | nil => exact w1.elim
      | cons d2 ds =>
        cases ds with
        | nil =>
          cases r1 with | cons r1 r => cases r with | cons r2 r => cases r with | nil =>
          refine ⟨_, _, rfl, ?_⟩
          simp only [setAll, ofO_some, Res.bind_ok] at w1
          exact Wp.fin (α := Out) (β := OV) (b := .nx ((σ.set i (some _)).set j (some _))) (st := st1) w1 s1 (((eo.ext e1).set r1 i).set r2 j)
        | cons _ _ => exact w1.elim
  · rename_i i j l x px y py z pz a b cc
    obtain ⟨h, h10⟩ := b2 h; obtain ⟨h, h9⟩ := b2 h; obtain ⟨h, h8⟩ := b2 h; obtain ⟨h, h7⟩ := b2 h; obtain ⟨h, h6⟩ := b2 h; obtain ⟨h, h5⟩ := b2 h; obtain ⟨h, h4⟩ := b2 h; obtain ⟨h, h3⟩ := b2 h; obtain ⟨h1, h2⟩ := b2 h
    refine PS.im (ps_par3 c.calm hN (at_ (of_decide_eq_true h1)) (at_ (of_decide_eq_true h2)) (at_ (of_decide_eq_true h3)) (of_decide_eq_true h4) (of_decide_eq_true h5) (of_decide_eq_true h6) (lclB_ok h7) (lclB_ok h8) (lclB_ok h9) ha.pa (par_eq h10) sole_eq) fun D σ H ⟨im, am, env, st, eo, so, w⟩ => ?_
    refine ⟨im, am, env, st, eo, so, Wp.seq w fun ys H1 im1 am1 ds st1 e1 s1 r1 w1 => ?_⟩
    have w1 : Wp X.K ca (OR X.K) E im1 am1 H1 ((ofO (setAll [i, j, l] ds env) st1).bind fun env st => .ok (.nx env) st) (DQ D) := w1
    cases ds with
    | nil => exact w1.elim
    | cons d ds =>
      cases ds with
      | nil => exact w1.elim
      | cons d2 ds =>
        cases ds with
        | nil => exact w1.elim
        | cons d3 ds =>
          cases ds with
          | nil =>
            cases r1 with | cons r1 r => cases r with | cons r2 r => cases r with | cons r3 r => cases r with | nil =>
            refine ⟨_, _, _, rfl, ?_⟩
            simp only [setAll, ofO_some, Res.bind_ok] at w1
            exact Wp.fin (α := Out) (β := OV) (b := .nx (((σ.set i (some _)).set j (some _)).set l (some _))) (st := st1) w1 s1 ((((eo.ext e1).set r1 i).set r2 j).set r3 l)
          | cons _ _ => exact w1.elim
  · cases h
mutual
theorem ck_S (c : Cxt T N ca call X) (sx : Sxt ca xs X E) : ∀ (s' : S) (s : Stmt), ckS T xs N s' X.env.scope s = true → PS X s (tS X.K ca E (exS call wf s'))
  | .set tg e, s, h => by
    rw [show exS call wf (.set tg e) = fun env st => (ev call e env st).bind fun d st => (ofO (asg tg d env) st).bind fun env st => .ok (.nx env) st from by funext env st; rw [exS]]
    unfold ckS at h
    split at h
    · split at h
      · obtain ⟨h, h4⟩ := b2 h; obtain ⟨h, h3⟩ := b2 h; obtain ⟨h1, h2⟩ := b2 h
        obtain ⟨h5, h6⟩ := b2 h3
        exact s_set c sx (of_decide_eq_true h1) h2 (by simpa using h5) (fun hd => by rw [hd] at h6; simpa using h6) (ck_E e X E c sx.px _ h4)
      · obtain ⟨h, h3⟩ := b2 h; obtain ⟨h1, h2⟩ := b2 h
        exact s_asg c sx h1 (noSw_ok h2) (ck_E e X E c sx.px _ h3)
      · cases h
    · cases h
  | .par is es, s, h => by
    rw [show exS call wf (.par is es) = fun env st => (evs call es env st).bind fun ds st => (ofO (setAll is ds env) st).bind fun env st => .ok (.nx env) st from by funext env st; rw [exS]]
    unfold ckS at h
    split at h
    · obtain ⟨h1, h2⟩ := b2 h
      exact s_par c sx h1 (ck_Es es X E c sx.px _ h2)
    · cases h
  | .aug i op e, s, h => by
    rw [show exS call wf (.aug i op e) = fun env st => (ofO (getS env i) st).bind fun x st => (ev call e env st).bind fun y st => (augR op x y st).bind fun z st => .ok (.nx (env.set i (some z))) st from by funext env st; rw [exS]]
    unfold ckS at h
    split at h
    · obtain ⟨h, h5⟩ := b2 h; obtain ⟨h, h4⟩ := b2 h; obtain ⟨h, h3⟩ := b2 h; obtain ⟨h1, h2⟩ := b2 h
      refine s_aug c sx h1 ?_ (of_decide_eq_true h3) h4 (ck_E e X E c sx.px _ h5)
      cases op <;> first | exact .inl rfl | exact .inr rfl | cases h2
    · cases h
  | .ex e, s, h => by
    rw [show exS call wf (.ex e) = fun env st => (ev call e env st).bind fun _ st => .ok (.nx env) st from by funext env st; rw [exS]]
    unfold ckS at h
    split at h
    · obtain ⟨h1, h2⟩ := b2 h
      exact s_ex (noCp_ok h1) (ck_E e X E c sx.px _ h2)
    · cases h
  | .ret e, s, h => by
    rw [show exS call wf (.ret e) = fun env st => (ev call e env st).bind fun d st => .ok (.rt d) st from by funext env st; rw [exS]]
    unfold ckS at h
    split at h
    · exact s_ret (ck_E e X E c sx.px _ h)
    · cases h
  | .retN, s, h => by
    rw [show exS call wf .retN = fun _ st => .ok (.rt .non) st from by funext env st; rw [exS]]
    unfold ckS at h
    split at h
    · exact s_retN
    · cases h
  | .ite t a b, s, h => by
    rw [show exS call wf (.ite t a b) = fun env st => (ev call t env st).bind fun x st => (asB x st).bind fun p st => if p then exSs call wf a env st else exSs call wf b env st from by funext env st; rw [exS]]
    unfold ckS at h
    split at h
    · obtain ⟨h, h3⟩ := b2 h; obtain ⟨h1, h2⟩ := b2 h
      exact s_if (ck_E t X E c sx.px _ h1) (ck_Ss c sx a _ h2) (ck_Ss c sx b _ h3)
    · cases h
  | .for_ tg it body, s, h => by
    rw [show exS call wf (.for_ tg it body) = fun env st => (evI call it env st).bind fun w st => forGo (gdOk w.gd) (fun x env st => (ofO (asg tg x env) st).bind fun env st => exSs call wf body env st) w.xs env st from by funext env st; rw [exS]]
    unfold ckS at h
    split at h
    · obtain ⟨h, h4⟩ := b2 h; obtain ⟨h, h3⟩ := b2 h; obtain ⟨h1, h2⟩ := b2 h
      exact s_for c sx (ck_I it X E c sx.px _ _ h2) (pg_ck c (fun x _ => sx.fn x) _ _ h1) (ck_Ss c sx body _ h4) (by simpa using h3)
    · cases h
  | .while_ t body, s, h => by
    rw [show exS call wf (.while_ t body) = fun env st => whileGo (fun env st => exSs call wf body env st) (fun env st => (ev call t env st).bind fun x st => asB x st) wf env st from by funext env st; rw [exS]]
    unfold ckS at h
    split at h
    · obtain ⟨h1, h2⟩ := b2 h
      exact s_while c sx (ck_E t X E c sx.px _ h1) (ck_Ss c sx body _ h2)
    · cases h
  | .raise i, s, h => by
    rw [show exS call wf (.raise i) = fun _ st => .err i st from by funext env st; rw [exS]]
    unfold ckS at h
    split at h
    · obtain ⟨h, h3⟩ := b2 h; obtain ⟨h1, h2⟩ := b2 h
      exact s_raise c sx (of_decide_eq_true h1) h2 h3
    · cases h
  | .put o i e, s, h => by
    rw [show exS call wf (.put o i e) = fun env st => (ev call e env st).bind fun v st => (ev call o env st).bind fun x st => (ev call i env st).bind fun y st => (putR x y v st).bind fun _ st => .ok (.nx env) st from by funext env st; rw [exS]]
    unfold ckS at h
    split at h
    · obtain ⟨h, h4⟩ := b2 h; obtain ⟨h, h3⟩ := b2 h; obtain ⟨h1, h2⟩ := b2 h
      exact s_put c h1 (ck_E o X E c sx.px _ h2) (ck_E i X E c sx.px _ h3) (ck_E e X E c sx.px _ h4)
    · cases h
  | .pass, s, h => by
    rw [show exS call wf .pass = fun env st => .ok (.nx env) st from by funext env st; rw [exS]]
    unfold ckS at h
    split at h
    · exact s_pass
    · cases h
  | .brk, s, h => by
    rw [show exS call wf .brk = fun env st => .ok (.bk env) st from by funext env st; rw [exS]]
    unfold ckS at h
    split at h
    · exact s_brk
    · cases h
  | .cont, s, h => by
    rw [show exS call wf .cont = fun env st => .ok (.ct env) st from by funext env st; rw [exS]]
    unfold ckS at h
    split at h
    · exact s_cont
    · cases h
  | .never, s, h => by
    rw [show exS call wf .never = fun _ _ => .stuck from by funext env st; rw [exS]]
    exact ⟨fun _ _ _ _ _ _ ⟨_, _, _, _, _, _, w⟩ => w.elim⟩
theorem ck_Ss (c : Cxt T N ca call X) (sx : Sxt ca xs X E) : ∀ (s' : Ss) (l : List Stmt), ckSs T xs N s' X.env.scope l = true → PSs X l (tS X.K ca E (exSs call wf s'))
  | .nil, l, h => by
    rw [show exSs call wf .nil = fun env st => .ok (.nx env) st from by funext env st; rw [exSs]]
    cases l with
    | nil => exact s_nil
    | cons s l => simp [ckSs] at h
  | .cons s ss, l, h => by
    rw [show exSs call wf (.cons s ss) = seqM (exS call wf s) (exSs call wf ss) from by funext env st; rw [exSs]; rfl]
    cases l with
    | nil => simp [ckSs] at h
    | cons x l =>
      simp only [ckSs] at h
      obtain ⟨h1, h2⟩ := b2 h
      exact s_cons (ck_S c sx s _ h1) (ck_Ss c sx ss _ h2)
end
end
/-! ### a def -/
theorem env_start {K : PySem.W.Frag} {im : Hp} {am : List Addr} {N : List Str} {ds : List D} {vs : List V} (r : RpAll K im am ds vs) : EnvOk K im am (startE N.length ds) (L2.start N vs) := by
  have hl := r.length
  refine ⟨by simp [startE, L2.start, hl], fun i d h => ?_⟩
  unfold startE at h
  unfold L2.start
  by_cases hi : i < ds.length
  · rw [List.getElem?_append_left (by simpa using hi), List.getElem?_map] at h
    cases e : ds[i]? with
    | none => rw [e] at h; cases h
    | some d' =>
      rw [e] at h
      have e2 : d' = d := by simpa using h
      subst e2
      obtain ⟨v, h1, h2⟩ := r.get e
      exact ⟨v, by rw [List.getElem?_append_left (by simpa [← hl] using hi), List.getElem?_map, h1]; rfl, h2⟩
  · rw [List.getElem?_append_right (by simpa using Nat.le_of_not_lt hi), List.getElem?_replicate] at h
    split at h <;> cases h
/-- the facts of a text: what each level of calls may lean on -/
structure Txt (T : Tb) (ca : Nat → Addr) (xs : List (Str × Nat)) (P : Program) (w : World) (K : PySem.W.Frag) (mg : Str → Option Value) (base : Heap) (k : Nat) (call : Nat → List D → Sto → Res D) : Prop where
  fn : ∀ x i a, T.fns.lookup x = some (i, a) → ∃ f fd ps, FnOk P w K mg base (L2.CX P w) k f fd ps (spD K ca a (call i)) ∧ mg x = some (.ref f) ∧ PySem.W.keepIn K (.ref f) = true ∧ Binds K fd ps []
  cn : ∀ x i, T.cns.lookup x = some i → ∃ t, mg x = some (.int i t)
  bi : ∀ x ∈ T.bis, mg x = none
  ex : ∀ x c, xs.lookup x = some c → mg x = some (.ref (ca c)) ∧ PySem.W.excIn K (ca c) He.veBase "ValueError.__new__" = true ∧ PySem.W.keepIn K (.ref (ca c)) = true ∧ PySem.W.subIn K (.ref (ca c)) (.type "BaseException") = some true ∧ PySem.W.typeIn K (.ref (ca c)) = some (.type "type")
theorem def_ok {T : Tb} {ca : Nat → Addr} {xs : List (Str × Nat)} {P : Program} {w : World} {K : PySem.W.Frag} {mg : Str → Option Value} {base : Heap} {k wf : Nat} {call : Nat → List D → Sto → Res D} {x qual : Str} {params : Arguments} {body : List Stmt} {scope : Scope} {f : Addr} {fd : FuncData} {N ps : List Str} {body' : Ss}
    (t : Txt T ca xs P w K mg base k call) (F : FunD K x qual params body scope [] [] f fd) (S : FnScope N ps scope) (h : ckSs T xs N body' scope body = true) :
    FnOk P w K mg base (L2.CX P w) (k + 1) f fd ps (spD K ca ps.length fun ds st => if ds.length = ps.length then outR (exSs call wf body' (startE N.length ds) st) else .stuck) := by
  refine F.ok S (fun vs H Q E h => h.1) fun cdv A outer s H vs Q E hr hsp => ?_
  obtain ⟨hl, im, am, st, ds, so, ra, w0⟩ := hsp
  have c : Cxt T N ca call (cxOf (L2.CX P w) P w K mg base N qual scope f cdv A outer s H E) := ⟨rfl, S.nd, rfl, by have h2 := hr.un; exact (by omega : (A.deeper (envOfC qual scope s.heap.objs.size f cdv)).units + 100 < cLine), fun x i a hx => by
      obtain ⟨f, fd, ps, h1, h2, h3, h4⟩ := t.fn x i a hx
      exact ⟨k, f, fd, ps, h1, hr, h2, h3, h4⟩, t.cn, t.bi⟩
  have tk : Takes (cxOf (L2.CX P w) P w K mg base N qual scope f cdv A outer s H E) (fun cls d _ H => E cls d H) := takes_of rfl rfl rfl rfl
  have sx : Sxt ca xs (cxOf (L2.CX P w) P w K mg base N qual scope f cdv A outer s H E) E := ⟨passes_call tk fun _ _ _ _ h => h, passes_of rfl, tk, fun _ => rfl, S.kind, fun x c hx => by
      obtain ⟨h1, h2, h3, h4, h5⟩ := t.ex x c hx
      exact ⟨h1, h2, h3, raises_own h4 h5⟩⟩
  refine ⟨_, ck_Ss (wf := wf) c sx body' body h, im, am, startE N.length ds, st, env_start ra, so, ?_⟩
  have w0 : Wp K ca (Rp K) E im am H (if ds.length = ps.length then outR (exSs call wf body' (startE N.length ds) st) else .stuck) Q := w0
  rw [if_pos (by rw [ra.length, hl])] at w0
  show Wp K ca (OR K) E im am H (exSs call wf body' (startE N.length ds) st) _
  generalize exSs call wf body' (startE N.length ds) st = r at w0 ⊢
  cases r with
  | ok o st' =>
    intro im' am' H' b e s q
    cases o with
    | rt d => cases b with
      | rt v => exact w0 im' am' H' v e s q
      | _ => exact q.elim
    | nx env => cases b with
      | nx σ => exact w0 im' am' H' .non e s .non
      | _ => exact q.elim
    | bk env => exact w0.elim
    | ct env => exact w0.elim
  | err c st' => exact w0
  | stuck => exact w0
end PP
end

section
set_option linter.all false
set_option autoImplicit false
set_option maxRecDepth 100000
set_option Elab.async false
/-! A program of checked defs: each keeps its promise, at any depth of calls. -/
namespace PP
open PySem PySem.Spec PyProof.Rows L2
/-- a def's plain form: slots, parameters, body -/
abbrev Pd : Type := List Str × Nat × Ss
def prgOf (ds : List Pd) : Prg := fun i => (ds[i]?).map fun d => .inl ⟨d.2.1, d.1.length, d.2.2⟩
def scB (N ps : List Str) (sc : Scope) : Bool := (sc.kind == .function) && !sc.isCoroutine && !sc.isGenerator && decide N.Nodup && decide (N.take ps.length = ps) && ps.all (fun x => lclB sc x || (match sc.names.lookup x with | some .cell => true | _ => false)) && sc.names.all fun y => match y.2 with | .free => false | _ => true
theorem scB_ok {N ps : List Str} {sc : Scope} (h : scB N ps sc = true) : FnScope N ps sc := by
  unfold scB at h
  obtain ⟨h, h7⟩ := b2 h; obtain ⟨h, h6⟩ := b2 h; obtain ⟨h, h5⟩ := b2 h; obtain ⟨h, h4⟩ := b2 h; obtain ⟨h, h3⟩ := b2 h; obtain ⟨h1, h2⟩ := b2 h
  refine ⟨eq_of_beq h1, by simpa using h2, by simpa using h3, of_decide_eq_true h4, of_decide_eq_true h5, fun x hx => ?_, fun y hy => ?_⟩
  · have := List.all_eq_true.mp h6 x hx
    rw [Bool.or_eq_true] at this
    rcases this with q | q
    · exact .inl (lclB_ok q)
    · refine .inr ?_
      split at q
      · assumption
      · cases q
  · have := List.all_eq_true.mp h7 y hy
    intro e
    rw [e] at this
    cases this
def argB (a : Arguments) (ps : List Str) : Bool := a.posonlyargs.isEmpty && a.vararg.isNone && a.kwonlyargs.isEmpty && a.kw_defaults.isEmpty && a.kwarg.isNone && a.defaults.isEmpty && decide (a.args.map (·.arg) = ps) && decide ps.Nodup
theorem zip_look : ∀ {ns : List Str} {us : List Value}, ns.Nodup → us.length = ns.length → (ns.filter fun n => ((ns.zip us).lookup n).isNone) = [] ∧ (ns.filterMap fun n => ((ns.zip us).lookup n).map (n, ·)) = ns.zip us
  | [], [], _, _ => ⟨rfl, rfl⟩
  | n :: ns, u :: us, hn, hl => by
    rw [List.nodup_cons] at hn
    obtain ⟨h1, h2⟩ := zip_look (us := us) hn.2 (by simpa using hl)
    have e : ∀ m ∈ ns, List.lookup m ((n :: ns).zip (u :: us)) = List.lookup m (ns.zip us) := fun m hm => by
      rw [List.zip_cons_cons, List.lookup_cons]
      have : (m == n) = false := by
        rw [beq_eq_false_iff_ne]
        intro e; exact hn.1 (e ▸ hm)
      rw [this]
    have e0 : List.lookup n ((n :: ns).zip (u :: us)) = some u := by
      rw [List.zip_cons_cons, List.lookup_cons, beq_self_eq_true]
    constructor
    · rw [List.filter_cons, e0]
      simp only [Option.isNone_some, Bool.false_eq_true, if_false]
      rw [← h1]
      exact List.filter_congr fun m hm => by rw [e m hm]
    · rw [List.filterMap_cons, e0]
      simp only [Option.map_some]
      rw [List.zip_cons_cons]
      congr 1
      have gen : ∀ l : List Str, (∀ m ∈ l, m ∈ ns) → (l.filterMap fun m => (List.lookup m ((n, u) :: ns.zip us)).map (m, ·)) = l.filterMap fun m => (List.lookup m (ns.zip us)).map (m, ·) := fun l => by
        induction l with
        | nil => intro _; rfl
        | cons m l ih =>
          intro h
          have := e m (h m List.mem_cons_self)
          rw [List.zip_cons_cons] at this
          rw [List.filterMap_cons, List.filterMap_cons, this, ih fun k hk => h k (List.mem_cons_of_mem _ hk)]
      rw [gen ns fun _ h => h, h2]
  | [], _ :: _, _, h => by simp at h
  | _ :: _, [], _, h => by simp at h
theorem bind_plain {x qual : Str} {as : List Arg} {body : List Stmt} {scope : Scope} {kV doc pm : Value} {an : Option Addr} {cdv ct : Value} {us : List Value} (hn : (as.map (·.arg)).Nodup) (hl : us.length = as.length) :
    bindArgs (PySem.W.fnOf x qual ⟨[], as, none, [], [], none, []⟩ body scope .none kV doc pm an cdv ct) ⟨us, []⟩ = pure ((as.map (·.arg)).zip us) := by
  obtain ⟨h1, h2⟩ := zip_look (us := us) hn (by rw [List.length_map]; exact hl)
  generalize hns : as.map (·.arg) = ns at hn h1 h2 ⊢
  have hl2 : us.length = ns.length := by rw [← hns, List.length_map]; exact hl
  unfold bindArgs
  simp only [PySem.W.fnOf, hns, List.map_nil, List.nil_append, seqItems?, pure_bind, List.forIn_nil, Option.getD_none, List.drop_nil, List.length_nil, Nat.sub_zero, List.take_length, h1, List.isEmpty_nil, Bool.not_true, List.append_nil, h2, List.drop_length, List.zip_nil_right, List.zip_nil_left, hl2, notAStandIn, bind_assoc, gt_iff_lt, Nat.lt_irrefl, decide_false, Bool.false_and, Bool.false_eq_true, if_false, Nat.zero_sub, List.drop_zero]
theorem argB_ok {a : Arguments} {ps : List Str} (h : argB a ps = true) : ∃ as, a = ⟨[], as, none, [], [], none, []⟩ ∧ as.map (·.arg) = ps ∧ ps.Nodup := by
  unfold argB at h
  obtain ⟨h, h8⟩ := b2 h; obtain ⟨h, h7⟩ := b2 h; obtain ⟨h, h6⟩ := b2 h; obtain ⟨h, h5⟩ := b2 h; obtain ⟨h, h4⟩ := b2 h; obtain ⟨h, h3⟩ := b2 h; obtain ⟨h1, h2⟩ := b2 h
  obtain ⟨po, ar, va, ko, kd, kw, df⟩ := a
  obtain rfl := List.isEmpty_iff.mp h1
  obtain rfl := Option.isNone_iff_eq_none.mp h2
  obtain rfl := List.isEmpty_iff.mp h3
  obtain rfl := List.isEmpty_iff.mp h4
  obtain rfl := Option.isNone_iff_eq_none.mp h5
  obtain rfl := List.isEmpty_iff.mp h6
  have e := of_decide_eq_true h7
  have l := of_decide_eq_true h8
  exact ⟨ar, rfl, e, l⟩
def noDv (d : He.DefD) : Bool := d.dfl.isEmpty && d.kwd.isEmpty
/-- one def: its plain form and its text -/
def ckD (T : Tb) (xs : List (Str × Nat)) (p : Pd) (x : Str) (a : Nat) (d : He.DefD) : Bool :=
  decide (d.at_ = (x, none)) && decide (p.2.1 = a) && decide (a ≤ p.1.length) && scB p.1 (p.1.take a) d.scope && argB d.params (p.1.take a) && noDv d && ckSs T xs p.1 p.2.2 d.scope d.body
def ckA (T : Tb) (xs : List (Str × Nat)) (ds : List Pd) (fn : List He.DefD) (e : Str × (Nat × Nat)) : Bool := match ds[e.2.1]?, fn[e.2.1]? with
  | some p, some d => ckD T xs p e.1 e.2.2 d
  | _, _ => false
def faOf (T : Tb) (xs : List (Str × Nat)) : List He.Fa := T.fns.map (fun e => .glo e.1) ++ (T.bis.map .free ++ (xs.map (fun e => .glo e.1) ++ (xs.map (fun e => .exc e.1) ++ T.cns.map fun e => .int e.1 e.2)))
def exN (xs : List (Str × Nat)) (i : Nat) : Str := match xs.find? fun e => e.2 == i with
  | some e => e.1
  | none => ""
def caOf (K : PySem.W.Frag) (xs : List (Str × Nat)) (i : Nat) : Addr := He.ga K (exN xs i)
def ckX (xs : List (Str × Nat)) : Bool := xs.all fun e => decide (exN xs e.2 = e.1)
theorem look_mem {α : Type} {x : Str} {v : α} : ∀ {l : List (Str × α)}, l.lookup x = some v → (x, v) ∈ l
  | [], h => by cases h
  | (y, u) :: l, h => by
    rw [List.lookup_cons] at h
    cases e : (x == y) with
    | true =>
      rw [e] at h
      have e1 : x = y := eq_of_beq e
      have e2 : u = v := Option.some.inj h
      rw [e1, e2]; exact List.mem_cons_self
    | false => rw [e] at h; exact List.mem_cons_of_mem _ (look_mem h)
section
variable {T : Tb} {xs : List (Str × Nat)} {ds : List Pd} {fn : List He.DefD} {K : PySem.W.Frag} {h : Heap} {mg : Str → Option Value} {P : Program} {w : World} {base : Heap} {wf : Nat}
theorem fact_mem (c : He.SaysD (faOf T xs) fn K) {f : He.Fa} (hf : f ∈ faOf T xs) : f.ok K = true := He.SaysD.facts c hf
/-- a def of the table -/
theorem def_at (c : He.SaysD (faOf T xs) fn K) (X : K.In h) (G : h.Ns mainGlobals mg) (ck : T.fns.all (ckA T xs ds fn) = true) {x : Str} {i a : Nat} (hx : T.fns.lookup x = some (i, a)) :
    ∃ p d fd, ds[i]? = some p ∧ ckD T xs p x a d = true ∧ FunD K d.name d.qual d.params d.body d.scope [] [] (He.ga K x) fd ∧ mg x = some (.ref (He.ga K x)) ∧ PySem.W.keepIn K (.ref (He.ga K x)) = true ∧ p.2.1 = a ∧ a ≤ p.1.length ∧
      (∀ (s : Shared) (us : List Value), us.length = a → BindsTo s fd ⟨us, []⟩ ((p.1.take a).zip us)) ∧ Binds K fd (p.1.take a) [] := by
  have hm := look_mem hx
  have hc := List.all_eq_true.mp ck _ hm
  unfold ckA at hc
  split at hc
  · rename_i p d e1 e2
    have hc2 := hc
    unfold ckD at hc2
    obtain ⟨hc2, h7⟩ := b2 hc2; obtain ⟨hc2, h6⟩ := b2 hc2; obtain ⟨hc2, h5⟩ := b2 hc2; obtain ⟨hc2, h4⟩ := b2 hc2; obtain ⟨hc2, h3⟩ := b2 hc2; obtain ⟨h1, h2⟩ := b2 hc2
    obtain ⟨fd, F⟩ := c.def_ i (d := d) e2
    have h1 := of_decide_eq_true h1
    have h2 := of_decide_eq_true h2
    have h3 : a ≤ p.1.length := of_decide_eq_true h3
    have h2 : p.2.1 = a := h2
    obtain ⟨n1, n2⟩ := b2 (show (d.dfl.isEmpty && d.kwd.isEmpty) = true from h6)
    have ed : d.dvs K = [] := by unfold He.DefD.dvs; rw [List.isEmpty_iff.mp n1]; rfl
    have ek : d.kws K = [] := by unfold He.DefD.kws; rw [List.isEmpty_iff.mp n2]; rfl
    rw [ed, ek, h1] at F
    have F : FunD K d.name d.qual d.params d.body d.scope [] [] (He.ga K x) fd := F
    obtain ⟨as, ea, en, el⟩ := argB_ok h5
    have hbind : ∀ (kV doc pm : Value) (an : Option Addr) (cdv ct : Value) (us : List Value), us.length = (p.1.take a).length → bindArgs (PySem.W.fnOf d.name d.qual d.params d.body d.scope .none kV doc pm an cdv ct) ⟨us, []⟩ = pure ((p.1.take a).zip us) := fun kV doc pm an cdv ct us hl => by
      rw [ea, ← en]
      exact bind_plain (by rw [en]; exact el) (by rw [hl, ← en, List.length_map])
    have hlen : (p.1.take a).length = a := by rw [List.length_take]; omega
    refine ⟨p, d, fd, e1, hc, F, He.glo_ok X G (fact_mem c ?_), F.kp, h2, h3, fun s us hl => FunD.bindsA F hbind s us (by rw [hl, hlen]), FunD.bindsN F hbind⟩
    exact List.mem_append_left _ (List.mem_map.mpr ⟨_, hm, rfl⟩)
  · cases hc
theorem fn_at {p : Pd} {d : He.DefD} {fd : FuncData} {x : Str} {i a : Nat} (e1 : ds[i]? = some p) (hc : ckD T xs p x a d = true) (F : FunD K d.name d.qual d.params d.body d.scope [] [] (He.ga K x) fd) (n : Nat) (t : n = 0 ∨ ∃ m, n = m + 1 ∧ Txt T (caOf K xs) xs P w K mg base n (callN wf (prgOf ds) m)) :
    FnOk P w K mg base (L2.CX P w) (n + 1) (He.ga K x) fd (p.1.take a) (spD K (caOf K xs) a (callN wf (prgOf ds) n i)) := by
  unfold ckD at hc
  obtain ⟨hc, h7⟩ := b2 hc; obtain ⟨hc, h6⟩ := b2 hc; obtain ⟨hc, h5⟩ := b2 hc; obtain ⟨hc, h4⟩ := b2 hc; obtain ⟨hc, h3⟩ := b2 hc; obtain ⟨h1, h2⟩ := b2 hc
  have h2 := of_decide_eq_true h2
  have h3 := of_decide_eq_true h3
  have hlen : (p.1.take a).length = a := by rw [List.length_take]; omega
  rcases t with rfl | ⟨m, rfl, t⟩
  · refine F.ok (scB_ok h4) (fun vs H Q E q => by rw [hlen]; exact q.1) fun cdv A outer s H vs Q E hr ⟨_, im, am, st, es, so, ra, w0⟩ => ?_
    exact w0.elim
  · have := def_ok (wf := wf) t F (scB_ok h4) h7
    rw [hlen] at this
    have e : (callN wf (prgOf ds) (m + 1) i) = fun es st => if es.length = a then outR (exSs (callN wf (prgOf ds) m) wf p.2.2 (startE p.1.length es) st) else .stuck := by
      funext es st
      show (match prgOf ds i with
        | some (.inl f) => if es.length = f.np then outR (exSs (callN wf (prgOf ds) m) wf f.body (startE f.ns es) st) else .stuck
        | some (.inr g) => g (callN wf (prgOf ds) m) es st
        | none => .stuck) = _
      have : prgOf ds i = some (.inl ⟨p.2.1, p.1.length, p.2.2⟩) := by unfold prgOf; rw [e1]; rfl
      rw [this]
      dsimp only
      rw [h2]
    rw [e]
    exact this
theorem def_fn (c : He.SaysD (faOf T xs) fn K) (X : K.In h) (G : h.Ns mainGlobals mg) (ck : T.fns.all (ckA T xs ds fn) = true) (n : Nat) (t : n = 0 ∨ ∃ m, n = m + 1 ∧ Txt T (caOf K xs) xs P w K mg base n (callN wf (prgOf ds) m)) {x : Str} {i a : Nat} (hx : T.fns.lookup x = some (i, a)) :
    ∃ f fd ps, FnOk P w K mg base (L2.CX P w) (n + 1) f fd ps (spD K (caOf K xs) a (callN wf (prgOf ds) n i)) ∧ mg x = some (.ref f) ∧ PySem.W.keepIn K (.ref f) = true ∧ Binds K fd ps [] := by
  obtain ⟨p, d, fd, e1, hc, F, hg, hk, h2, h3, hb, hb2⟩ := def_at c X G ck hx
  exact ⟨_, fd, _, fn_at e1 hc F n t, hg, hk, hb2⟩
theorem txt_all (c : He.SaysD (faOf T xs) fn K) (X : K.In h) (G : h.Ns mainGlobals mg) (ck : T.fns.all (ckA T xs ds fn) = true) (cx : ckX xs = true) : ∀ n, Txt T (caOf K xs) xs P w K mg base (n + 1) (callN wf (prgOf ds) n) := by
  have rest : ∀ n, (∀ x i a, T.fns.lookup x = some (i, a) → ∃ f fd ps, FnOk P w K mg base (L2.CX P w) (n + 1) f fd ps (spD K (caOf K xs) a (callN wf (prgOf ds) n i)) ∧ mg x = some (.ref f) ∧ PySem.W.keepIn K (.ref f) = true ∧ Binds K fd ps []) → Txt T (caOf K xs) xs P w K mg base (n + 1) (callN wf (prgOf ds) n) := fun n hf => by
    refine ⟨hf, fun x i hx => ?_, fun x hx => ?_, fun x i hx => ?_⟩
    · refine He.int_ok X G (i := i) (fact_mem c ?_)
      exact List.mem_append_right _ (List.mem_append_right _ (List.mem_append_right _ (List.mem_append_right _ (List.mem_map.mpr ⟨_, look_mem hx, rfl⟩))))
    · refine He.free_ok X G (fact_mem c ?_)
      exact List.mem_append_right _ (List.mem_append_left _ (List.mem_map.mpr ⟨_, hx, rfl⟩))
    · have hm := look_mem hx
      have e : caOf K xs i = He.ga K x := by
        unfold caOf
        rw [of_decide_eq_true (List.all_eq_true.mp cx _ hm)]
      obtain ⟨q1, q2, q3, q4⟩ := He.exc_ok (x := x) (fact_mem c (List.mem_append_right _ (List.mem_append_right _ (List.mem_append_right _ (List.mem_append_left _ (List.mem_map.mpr ⟨_, hm, rfl⟩))))))
      rw [e]
      exact ⟨He.glo_ok X G (fact_mem c (List.mem_append_right _ (List.mem_append_right _ (List.mem_append_left _ (List.mem_map.mpr ⟨_, hm, rfl⟩))))), q1, q2, q3, q4⟩
  intro n
  induction n with
  | zero => exact rest 0 fun x i a hx => let ⟨f, fd, ps, h1, h2, h3, h4⟩ := def_fn c X G ck 0 (.inl rfl) hx; ⟨f, fd, ps, h1, h2, h3, h4⟩
  | succ n ih => exact rest (n + 1) fun x i a hx => let ⟨f, fd, ps, h1, h2, h3, h4⟩ := def_fn c X G ck (n + 1) (.inr ⟨n, rfl, ih⟩) hx; ⟨f, fd, ps, h1, h2, h3, h4⟩
/-- the law's own def, of a list of whole numbers -/
theorem law_fn (c : He.SaysD (faOf T xs) fn K) (X : K.In h) (G : h.Ns mainGlobals mg) (ck : T.fns.all (ckA T xs ds fn) = true) (cx : ckX xs = true) (n : Nat) {x : Str} {i : Nat} {y : Str} (hx : T.fns.lookup x = some (i, 1)) (hy : (ds[i]?).map (fun p => p.1.take 1) = some [y]) :
    ∃ fd, mg x = some (.ref (He.ga K x)) ∧ (∀ (s : Shared) (u : Value), BindsTo s fd ⟨[u], []⟩ [(y, u)]) ∧ ∀ (P : Program) (w : World) (base : Heap), K.In base → base.Ns mainGlobals mg → FnOk P w K mg base (L2.CX P w) (n + 2) (He.ga K x) fd [y] (spD K (caOf K xs) 1 (callN wf (prgOf ds) (n + 1) i)) := by
  obtain ⟨p, d, fd, e1, hc, F, hg, hk, h2, h3, hb, hb2⟩ := def_at c X G ck hx
  rw [e1] at hy
  have e : p.1.take 1 = [y] := Option.some.inj hy
  rw [e] at hb
  refine ⟨fd, hg, fun s u => hb s [u] rfl, fun P w base Xb Gb => ?_⟩
  have := fn_at (P := P) (w := w) (mg := mg) (base := base) (wf := wf) e1 hc F (n + 1) (.inr ⟨n, rfl, txt_all c Xb Gb ck cx n⟩)
  rw [e] at this
  exact this
theorem rp_ints' {im : Hp} {am : List Addr} : ∀ ns : List Int, RpAll K im am (ns.map D.int) (ns.map V.int)
  | [] => .nil
  | _ :: ns => .cons (.int _) (rp_ints' ns)
theorem law_sp {ca : Nat → Addr} {f : List D → Sto → Res D} {H : Hp} {a : Addr} {ns : List Int} (hs : SqL K H a (ns.map V.int)) {st : Sto} (hf : f [.frz (ns.map D.int)] [] = .ok (.bl true) st) : spD K ca 1 f [.ref a] H (fun v _ => v = .bl true) fun _ _ _ => False := by
  refine ⟨rfl, H, [], [], [.frz (ns.map D.int)], ⟨Same.refl _, rfl, List.nodup_nil, (fun a h => nomatch h), (fun i a c h => by simp at h)⟩, .cons (.frz hs (rp_ints' ns)) .nil, ?_⟩
  rw [hf]
  intro im' am' H' b e s r
  cases r; rfl
end
end PP
namespace PP
open PySem PySem.Spec PyProof.Rows L2
/-- what a law's call may let out, in any world -/
def CXw (P : Program) : CXT := fun outer H s E e s' => ∃ w, L2.CX P w outer H s E e s'
theorem fn_w {P : Program} {w : World} {K : PySem.W.Frag} {mg : Str → Option Value} {base : Heap} {k : Nat} {f : Addr} {fd : FuncData} {ps : List Str} {sp : Sp} (F : FnOk P w K mg base (L2.CX P w) k f fd ps sp) : FnOk P w K mg base (CXw P) k f fd ps sp :=
  ⟨F.len, fun A outer s H args us vs Q E hr he hb hv hs => codeAny_mono (F.run A outer s H args us vs Q E hr he hb hv hs) fun r s' h => by
    cases r with
    | ok fl => cases fl <;> exact h
    | error e => exact ⟨w, h⟩⟩
theorem cx_w {P : Program} (H : Hp) (s : Shared) (e : Value) (s' : Shared) (h : CXw P [] H s (fun _ _ _ => False) e s') : False := by
  obtain ⟨w, a, B, H', cls, d, _, _, _, _, _, _, _, h⟩ := h
  exact h
end PP
end

section
set_option linter.all false
set_option maxRecDepth 100000
set_option Elab.async false
namespace K12
open PySem PP
/-- is_within -/
def n0 : List Str := ["value", "low", "high"]
def b0 : Ss := (.cons (.ret (.and (.isi [.int] (.slot 0)) (.and (.not (.isi [.bool] (.slot 0))) (.rng (.slot 1) (.slot 0) (.slot 2)))))
  .nil)
/-- is_wide -/
def n1 : List Str := ["value", "low", "high"]
def b1 : Ss := (.cons (.ret (.and (.isi [.tuple] (.slot 0)) (.rng (.slot 1) (.bi .len (.cons (.slot 0) .nil)) (.slot 2))))
  .nil)
/-- is_word -/
def n2 : List Str := ["value", "words"]
def b2 : Ss := (.cons (.ret (.and (.isi [.str] (.slot 0)) (.cmp .isin (.slot 0) (.slot 1))))
  .nil)
/-- are_kinds -/
def n3 : List Str := ["value", "kinds", "kind"]
def b3 : Ss := (.cons (.ite (.or (.not (.call 1 (.cons (.slot 0) (.cons (.lit (.int 0)) (.cons (.lit (.int 2)) .nil))))) (.not (.bi .all (.cons (.lc (.call 0 (.cons (.slot 2) (.cons (.lit (.int 0)) (.cons (.bin .sub (.slot 1) (.lit (.int 1))) .nil)))) (.name 2) (.ex (.slot 0)) (.lit (.bl true)) [2]) .nil)))) (.cons (.ret (.lit (.bl false)))
  .nil) .nil)
  (.cons (.ret (.cmp .eq (.bi .list (.cons (.slot 0) .nil)) (.sp .sortedSet (.slot 0))))
  .nil))
/-- is_pattern -/
def n4 : List Str := ["value", "kinds", "ties"]
def b4 : Ss := (.cons (.ite (.or (.not (.call 1 (.cons (.slot 0) (.cons (.lit (.int 2)) (.cons (.lit (.int 2)) .nil))))) (.not (.call 2 (.cons (.idx (.slot 0) (.lit (.int 0))) (.cons (.tup (.cons (.lit (.str "kind")) (.cons (.lit (.str "tie")) .nil))) .nil))))) (.cons (.ret (.lit (.bl false)))
  .nil) .nil)
  (.cons (.ret (.call 0 (.cons (.idx (.slot 0) (.lit (.int 1))) (.cons (.lit (.int 0)) (.cons (.ife (.cmp .eq (.idx (.slot 0) (.lit (.int 0))) (.lit (.str "kind"))) (.bin .sub (.slot 1) (.lit (.int 1))) (.bin .sub (.slot 2) (.lit (.int 1)))) .nil)))))
  .nil))
/-- is_then -/
def n5 : List Str := ["value", "kinds", "ties", "most"]
def b5 : Ss := (.cons (.ite (.and (.call 1 (.cons (.slot 0) (.cons (.lit (.int 3)) (.cons (.lit (.int 3)) .nil)))) (.call 2 (.cons (.idx (.slot 0) (.lit (.int 0))) (.cons (.tup (.cons (.lit (.str "kind")) .nil)) .nil)))) (.cons (.ret (.and (.call 0 (.cons (.idx (.slot 0) (.lit (.int 1))) (.cons (.lit (.int 0)) (.cons (.slot 3) .nil)))) (.call 0 (.cons (.idx (.slot 0) (.lit (.int 2))) (.cons (.lit (.int 0)) (.cons (.bin .sub (.slot 1) (.lit (.int 1))) .nil))))))
  .nil) .nil)
  (.cons (.ite (.and (.call 1 (.cons (.slot 0) (.cons (.lit (.int 3)) (.cons (.lit (.int 3)) .nil)))) (.call 2 (.cons (.idx (.slot 0) (.lit (.int 0))) (.cons (.tup (.cons (.lit (.str "tie")) .nil)) .nil)))) (.cons (.ret (.and (.call 0 (.cons (.idx (.slot 0) (.lit (.int 1))) (.cons (.lit (.int 0)) (.cons (.bin .sub (.slot 2) (.lit (.int 1))) .nil)))) (.and (.isi [.bool] (.idx (.slot 0) (.lit (.int 2)))) (.or (.cmp .eq (.slot 3) (.lit (.int 1))) (.not (.idx (.slot 0) (.lit (.int 2))))))))
  .nil) .nil)
  (.cons (.ite (.or (.not (.call 1 (.cons (.slot 0) (.cons (.lit (.int 5)) (.cons (.lit (.int 5)) .nil))))) (.or (.not (.call 2 (.cons (.idx (.slot 0) (.lit (.int 0))) (.cons (.tup (.cons (.lit (.str "new")) .nil)) .nil)))) (.not (.call 0 (.cons (.idx (.slot 0) (.lit (.int 1))) (.cons (.lit (.int 0)) (.cons (.slot 3) .nil))))))) (.cons (.ret (.lit (.bl false)))
  .nil) .nil)
  (.cons (.ret (.and (.call 0 (.cons (.idx (.slot 0) (.lit (.int 2))) (.cons (.lit (.int 0)) (.cons (.bin .sub (.slot 2) (.lit (.int 1))) .nil)))) (.and (.call 2 (.cons (.idx (.slot 0) (.lit (.int 3))) (.cons (.tup (.cons (.lit (.str "to")) (.cons (.lit (.str "from")) .nil))) .nil))) (.call 3 (.cons (.idx (.slot 0) (.lit (.int 4))) (.cons (.slot 1) .nil))))))
  .nil))))
/-- is_rule -/
def n6 : List Str := ["value", "kinds", "ties"]
def b6 : Ss := (.cons (.ite (.or (.not (.call 1 (.cons (.slot 0) (.cons (.lit (.int 2)) (.cons (.lit (.int 2)) .nil))))) (.not (.call 4 (.cons (.idx (.slot 0) (.lit (.int 0))) (.cons (.slot 1) (.cons (.slot 2) .nil)))))) (.cons (.ret (.lit (.bl false)))
  .nil) .nil)
  (.cons (.ret (.call 5 (.cons (.idx (.slot 0) (.lit (.int 1))) (.cons (.slot 1) (.cons (.slot 2) (.cons (.ife (.cmp .eq (.idx (.idx (.slot 0) (.lit (.int 0))) (.lit (.int 0))) (.lit (.str "kind"))) (.lit (.int 0)) (.lit (.int 1))) .nil))))))
  .nil))
/-- is_fit -/
def n7 : List Str := ["value", "rule"]
def b7 : Ss := (.cons (.ite (.or (.not (.call 1 (.cons (.slot 0) (.cons (.lit (.int 3)) (.cons (.lit (.int 3)) .nil))))) (.or (.not (.call 0 (.cons (.idx (.slot 0) (.lit (.int 0))) (.cons (.lit (.int 1)) (.cons (.lit (.int 4)) .nil))))) (.not (.call 0 (.cons (.idx (.slot 0) (.lit (.int 1))) (.cons (.lit (.int 1)) (.cons (.lit (.int 3)) .nil))))))) (.cons (.ret (.lit (.bl false)))
  .nil) .nil)
  (.cons (.ite (.or (.not (.call 1 (.cons (.idx (.slot 0) (.lit (.int 2))) (.cons (.lit (.int 0)) (.cons (.lit (.int 6)) .nil))))) (.not (.bi .all (.cons (.lc (.call 6 (.cons (.slot 1) (.cons (.idx (.slot 0) (.lit (.int 0))) (.cons (.idx (.slot 0) (.lit (.int 1))) .nil)))) (.name 1) (.ex (.idx (.slot 0) (.lit (.int 2)))) (.lit (.bl true)) [1]) .nil)))) (.cons (.ret (.lit (.bl false)))
  .nil) .nil)
  (.cons (.ret (.cmp .eq (.sp .lenSet (.idx (.slot 0) (.lit (.int 2)))) (.bi .len (.cons (.idx (.slot 0) (.lit (.int 2))) .nil))))
  .nil)))
/-- is_fact -/
def n8 : List Str := ["value", "kinds", "ties", "many"]
def b8 : Ss := (.cons (.ite (.and (.call 1 (.cons (.slot 0) (.cons (.lit (.int 3)) (.cons (.lit (.int 3)) .nil)))) (.call 2 (.cons (.idx (.slot 0) (.lit (.int 0))) (.cons (.tup (.cons (.lit (.str "kind")) .nil)) .nil)))) (.cons (.ret (.and (.call 0 (.cons (.idx (.slot 0) (.lit (.int 1))) (.cons (.lit (.int 0)) (.cons (.bin .sub (.slot 1) (.lit (.int 1))) .nil)))) (.call 0 (.cons (.idx (.slot 0) (.lit (.int 2))) (.cons (.lit (.int 0)) (.cons (.bin .sub (.slot 3) (.lit (.int 1))) .nil))))))
  .nil) .nil)
  (.cons (.ite (.or (.not (.call 1 (.cons (.slot 0) (.cons (.lit (.int 4)) (.cons (.lit (.int 4)) .nil))))) (.or (.not (.call 2 (.cons (.idx (.slot 0) (.lit (.int 0))) (.cons (.tup (.cons (.lit (.str "tie")) .nil)) .nil)))) (.not (.call 0 (.cons (.idx (.slot 0) (.lit (.int 1))) (.cons (.lit (.int 0)) (.cons (.bin .sub (.slot 2) (.lit (.int 1))) .nil))))))) (.cons (.ret (.lit (.bl false)))
  .nil) .nil)
  (.cons (.ret (.and (.call 0 (.cons (.idx (.slot 0) (.lit (.int 2))) (.cons (.lit (.int 0)) (.cons (.bin .sub (.slot 3) (.lit (.int 1))) .nil)))) (.call 0 (.cons (.idx (.slot 0) (.lit (.int 3))) (.cons (.lit (.int 0)) (.cons (.bin .sub (.slot 3) (.lit (.int 1))) .nil))))))
  .nil)))
/-- is_store_of -/
def n9 : List Str := ["book", "value", "fact"]
def b9 : Ss := (.cons (.ite (.or (.not (.call 1 (.cons (.slot 1) (.cons (.lit (.int 2)) (.cons (.lit (.int 2)) .nil))))) (.or (.not (.call 0 (.cons (.idx (.slot 1) (.lit (.int 0))) (.cons (.lit (.int 1)) (.cons (.lit (.int 4)) .nil))))) (.not (.call 1 (.cons (.idx (.slot 1) (.lit (.int 1))) (.cons (.lit (.int 0)) (.cons (.lit (.int 8)) .nil))))))) (.cons (.ret (.lit (.bl false)))
  .nil) .nil)
  (.cons (.ite (.not (.bi .all (.cons (.lc (.call 8 (.cons (.slot 2) (.cons (.idx (.slot 0) (.lit (.int 0))) (.cons (.idx (.slot 0) (.lit (.int 1))) (.cons (.idx (.slot 1) (.lit (.int 0))) .nil))))) (.name 2) (.ex (.idx (.slot 1) (.lit (.int 1)))) (.lit (.bl true)) [2]) .nil))) (.cons (.ret (.lit (.bl false)))
  .nil) .nil)
  (.cons (.ret (.cmp .eq (.bi .list (.cons (.idx (.slot 1) (.lit (.int 1))) .nil)) (.sp .sortedSet (.idx (.slot 1) (.lit (.int 1))))))
  .nil)))
/-- look_at_book -/
def n10 : List Str := ["book"]
def b10 : Ss := (.cons (.ite (.not (.call 7 (.cons (.slot 0) .nil))) (.cons (.raise 1)
  .nil) .nil)
  .nil)
/-- look_at_store -/
def n11 : List Str := ["book", "store"]
def b11 : Ss := (.cons (.ex (.call 10 (.cons (.slot 0) .nil)))
  (.cons (.ex (.call 12 (.cons (.slot 0) (.cons (.slot 1) .nil))))
  .nil))
/-- look_at_lone_store -/
def n12 : List Str := ["book", "store"]
def b12 : Ss := (.cons (.ite (.not (.call 9 (.cons (.slot 0) (.cons (.slot 1) .nil)))) (.cons (.raise 2)
  .nil) .nil)
  .nil)
/-- look_at_index -/
def n13 : List Str := ["book", "index"]
def b13 : Ss := (.cons (.ite (.not (.call 0 (.cons (.slot 1) (.cons (.lit (.int 0)) (.cons (.bin .sub (.bi .len (.cons (.idx (.slot 0) (.lit (.int 2))) .nil)) (.lit (.int 1))) .nil))))) (.cons (.raise 5)
  .nil) .nil)
  .nil)
/-- less_by -/
def n14 : List Str := ["book", "index"]
def b14 : Ss := (.cons (.ret (.tup (.cons (.idx (.slot 0) (.lit (.int 0))) (.cons (.idx (.slot 0) (.lit (.int 1))) (.cons (.bin .add (.slcT (.idx (.slot 0) (.lit (.int 2))) (.slot 1)) (.slcF (.idx (.slot 0) (.lit (.int 2))) (.bin .add (.slot 1) (.lit (.int 1))))) .nil)))))
  .nil)
/-- is_book -/
def n15 : List Str := ["value"]
def b15 : Ss := (.cons (.ret (.call 7 (.cons (.slot 0) .nil)))
  .nil)
/-- is_store -/
def n16 : List Str := ["book", "value"]
def b16 : Ss := (.cons (.ex (.call 10 (.cons (.slot 0) .nil)))
  (.cons (.ret (.call 9 (.cons (.slot 0) (.cons (.slot 1) .nil))))
  .nil))
/-- without -/
def n17 : List Str := ["book", "index"]
def b17 : Ss := (.cons (.ex (.call 10 (.cons (.slot 0) .nil)))
  (.cons (.ex (.call 13 (.cons (.slot 0) (.cons (.slot 1) .nil))))
  (.cons (.ret (.call 14 (.cons (.slot 0) (.cons (.slot 1) .nil))))
  .nil)))
/-- tied_items -/
def n18 : List Str := ["book", "start", "found", "line", "one", "item"]
def b18 : Ss := (.cons (.set (.tup (.cons (.name 2) (.cons (.name 3) .nil))) (.tup (.cons (.lst .nil) (.cons (.bi .list (.cons (.slot 1) .nil)) .nil))))
  (.cons (.while_ (.cmp .ne (.slot 3) (.lst .nil)) (.cons (.set (.name 2) (.bin .add (.slot 2) (.slot 3)))
  (.cons (.set (.name 3) (.lc2 (.slot 5) (.name 4) (.ex (.slot 2)) (.lit (.bl true)) (.name 5) (.ex (.call 19 (.cons (.slot 0) (.cons (.slot 4) .nil)))) (.cmp .notin (.slot 5) (.slot 2)) [4, 5] [5]))
  (.cons (.set (.name 3) (.ddp 5 (.slot 3)))
  .nil))))
  (.cons (.ret (.slot 2))
  .nil)))
/-- next_tied -/
def n19 : List Str := ["book", "item", "found", "ends", "index", "when", "then"]
def b19 : Ss := (.cons (.set (.name 2) (.lst .nil))
  (.cons (.ite (.cmp .eq (.idx (.slot 1) (.lit (.int 0))) (.lit (.str "tie"))) (.cons (.set (.name 3) (.slcF (.slot 1) (.lit (.int 2))))
  (.cons (.for_ (.tup (.cons (.name 4) (.cons (.tup (.cons (.name 5) (.cons (.name 6) .nil))) .nil))) (.enum (.idx (.slot 0) (.lit (.int 2)))) (.cons (.ite (.and (.cmp .eq (.slot 5) (.slcT (.slot 1) (.lit (.int 2)))) (.cmp .eq (.idx (.slot 6) (.lit (.int 0))) (.lit (.str "kind")))) (.cons (.set (.name 2) (.bin .add (.slot 2) (.lst (.cons (.tup (.cons (.tup (.cons (.lit (.str "kind")) (.cons (.idx (.slot 6) (.lit (.int 2))) .nil))) (.cons (.idx (.slot 3) (.idx (.slot 6) (.lit (.int 1)))) .nil))) .nil))))
  .nil) (.cons (.ite (.and (.cmp .eq (.slot 5) (.slcT (.slot 1) (.lit (.int 2)))) (.cmp .eq (.idx (.slot 6) (.lit (.int 0))) (.lit (.str "new")))) (.cons (.set (.name 2) (.bin .add (.slot 2) (.lst (.cons (.tup (.cons (.tup (.cons (.lit (.str "make")) (.cons (.slot 4) .nil))) (.cons (.idx (.slot 3) (.idx (.slot 6) (.lit (.int 1)))) .nil))) .nil))))
  .nil) (.cons (.ite (.cmp .eq (.slot 5) (.slcT (.slot 1) (.lit (.int 2)))) (.cons (.set (.name 2) (.bin .add (.slot 2) (.lst (.cons (.bin .add (.tup (.cons (.lit (.str "tie")) (.cons (.idx (.slot 6) (.lit (.int 1))) .nil))) (.ife (.idx (.slot 6) (.lit (.int 2))) (.rev (.slot 3)) (.slot 3))) .nil))))
  .nil) .nil)
  .nil))
  .nil))
  .nil))
  .nil)) .nil)
  (.cons (.ret (.slot 2))
  .nil)))
/-- of_thing -/
def n20 : List Str := ["items", "thing", "item"]
def b20 : Ss := (.cons (.ret (.lc (.idx (.slot 2) (.lit (.int 0))) (.name 2) (.ex (.slot 0)) (.and (.cmp .eq (.bi .len (.cons (.slot 2) .nil)) (.lit (.int 2))) (.cmp .eq (.idx (.slot 2) (.lit (.int 1))) (.slot 1))) [2]))
  .nil)
/-- ties_in -/
def n21 : List Str := ["items", "item"]
def b21 : Ss := (.cons (.ret (.lc (.slcF (.slot 1) (.lit (.int 1))) (.name 1) (.ex (.slot 0)) (.cmp .eq (.bi .len (.cons (.slot 1) .nil)) (.lit (.int 4))) [1]))
  .nil)
/-- first_tie -/
def n22 : List Str := ["then"]
def b22 : Ss := (.cons (.ret (.lst (.cons (.ife (.cmp .eq (.idx (.slot 0) (.lit (.int 3))) (.lit (.str "to"))) (.tup (.cons (.lit (.str "tie")) (.cons (.idx (.slot 0) (.lit (.int 2))) (.cons (.lit (.int 0)) (.cons (.lit (.int 1)) .nil))))) (.tup (.cons (.lit (.str "tie")) (.cons (.idx (.slot 0) (.lit (.int 2))) (.cons (.lit (.int 1)) (.cons (.lit (.int 0)) .nil)))))) .nil)))
  .nil)
/-- child_ties -/
def n23 : List Str := ["book", "index"]
def b23 : Ss := (.cons (.ret (.call 21 (.cons (.call 18 (.cons (.slot 0) (.cons (.call 22 (.cons (.idx (.idx (.idx (.slot 0) (.lit (.int 2))) (.slot 1)) (.lit (.int 1))) .nil)) .nil))) .nil)))
  .nil)
/-- child_items -/
def n24 : List Str := ["book", "index", "then", "start", "kind"]
def b24 : Ss := (.cons (.set (.name 2) (.idx (.idx (.idx (.slot 0) (.lit (.int 2))) (.slot 1)) (.lit (.int 1))))
  (.cons (.set (.name 3) (.bin .add (.call 20 (.cons (.call 18 (.cons (.slot 0) (.cons (.call 22 (.cons (.slot 2) .nil)) .nil))) (.cons (.lit (.int 1)) .nil))) (.lc (.tup (.cons (.lit (.str "kind")) (.cons (.slot 4) .nil))) (.name 4) (.ex (.idx (.slot 2) (.lit (.int 4)))) (.lit (.bl true)) [4])))
  (.cons (.ret (.call 26 (.cons (.slot 0) (.cons (.slot 3) .nil))))
  .nil)))
/-- next_items -/
def n25 : List Str := ["book", "item", "found", "index", "when", "then"]
def b25 : Ss := (.cons (.ite (.cmp .eq (.idx (.slot 1) (.lit (.int 0))) (.lit (.str "make"))) (.cons (.ret (.call 20 (.cons (.call 18 (.cons (.slot 0) (.cons (.call 22 (.cons (.idx (.idx (.idx (.slot 0) (.lit (.int 2))) (.idx (.slot 1) (.lit (.int 1)))) (.lit (.int 1))) .nil)) .nil))) (.cons (.lit (.int 0)) .nil))))
  .nil) .nil)
  (.cons (.set (.name 2) (.lst .nil))
  (.cons (.for_ (.tup (.cons (.name 3) (.cons (.tup (.cons (.name 4) (.cons (.name 5) .nil))) .nil))) (.enum (.idx (.slot 0) (.lit (.int 2)))) (.cons (.ite (.cmp .eq (.slot 4) (.ife (.cmp .eq (.idx (.slot 1) (.lit (.int 0))) (.lit (.str "kind"))) (.slot 1) (.tup (.cons (.lit (.str "tie")) (.cons (.idx (.slot 1) (.lit (.int 1))) .nil))))) (.cons (.ite (.cmp .eq (.idx (.slot 5) (.lit (.int 0))) (.lit (.str "new"))) (.cons (.set (.name 2) (.bin .add (.slot 2) (.lst (.cons (.tup (.cons (.lit (.str "make")) (.cons (.slot 3) .nil))) .nil))))
  .nil) (.cons (.set (.name 2) (.bin .add (.slot 2) (.lst (.cons (.ife (.cmp .eq (.idx (.slot 5) (.lit (.int 0))) (.lit (.str "kind"))) (.tup (.cons (.lit (.str "kind")) (.cons (.idx (.slot 5) (.lit (.int 2))) .nil))) (.tup (.cons (.lit (.str "loop")) (.cons (.idx (.slot 5) (.lit (.int 1))) .nil)))) .nil))))
  .nil))
  .nil) .nil)
  .nil))
  (.cons (.ret (.slot 2))
  .nil))))
/-- closed -/
def n26 : List Str := ["book", "items", "found", "line", "one", "item"]
def b26 : Ss := (.cons (.set (.tup (.cons (.name 2) (.cons (.name 3) .nil))) (.tup (.cons (.lst .nil) (.cons (.bi .list (.cons (.slot 1) .nil)) .nil))))
  (.cons (.while_ (.cmp .ne (.slot 3) (.lst .nil)) (.cons (.set (.name 2) (.sp .sortedSet (.bin .add (.slot 2) (.slot 3))))
  (.cons (.set (.name 3) (.lc2 (.slot 5) (.name 4) (.ex (.slot 2)) (.lit (.bl true)) (.name 5) (.ex (.call 25 (.cons (.slot 0) (.cons (.slot 4) .nil)))) (.cmp .notin (.slot 5) (.slot 2)) [4, 5] [5]))
  .nil)))
  (.cons (.ret (.slot 2))
  .nil)))
/-- thing_items -/
def n27 : List Str := ["book", "many", "facts", "thing", "fact", "ties", "starts", "items", "some", "ends", "at", "tie", "one", "other"]
def b27 : Ss := (.cons (.par [5, 6] (.cons (.lst .nil) (.cons (.lst .nil) .nil)))
  (.cons (.for_ (.name 3) (.range (.slot 1)) (.cons (.set (.name 6) (.bin .add (.slot 6) (.lst (.cons (.lc (.tup (.cons (.lit (.str "kind")) (.cons (.idx (.slot 4) (.lit (.int 1))) .nil))) (.name 4) (.ex (.slot 2)) (.and (.cmp .eq (.idx (.slot 4) (.lit (.int 0))) (.lit (.str "kind"))) (.cmp .eq (.idx (.slot 4) (.lit (.int 2))) (.slot 3))) [4]) .nil))))
  .nil))
  (.cons (.for_ (.name 4) (.ex (.slot 2)) (.cons (.ite (.and (.cmp .eq (.idx (.slot 4) (.lit (.int 0))) (.lit (.str "tie"))) (.cmp .eq (.idx (.slot 4) (.lit (.int 2))) (.idx (.slot 4) (.lit (.int 3))))) (.cons (.set (.name 6) (.lc (.ife (.cmp .eq (.slot 10) (.idx (.slot 4) (.lit (.int 2)))) (.bin .add (.slot 7) (.lst (.cons (.tup (.cons (.lit (.str "loop")) (.cons (.idx (.slot 4) (.lit (.int 1))) .nil))) .nil))) (.slot 7)) (.tup (.cons (.name 10) (.cons (.name 7) .nil))) (.enum (.slot 6)) (.lit (.bl true)) [10, 7]))
  .nil) (.cons (.ite (.cmp .eq (.idx (.slot 4) (.lit (.int 0))) (.lit (.str "tie"))) (.cons (.set (.tup (.cons (.name 8) (.cons (.name 9) .nil))) (.tup (.cons (.call 18 (.cons (.slot 0) (.cons (.lst (.cons (.tup (.cons (.lit (.str "tie")) (.cons (.idx (.slot 4) (.lit (.int 1))) (.cons (.lit (.int 0)) (.cons (.lit (.int 1)) .nil))))) .nil)) .nil))) (.cons (.slcN 2 (.slot 4)) .nil))))
  (.cons (.set (.name 5) (.bin .add (.slot 5) (.lc (.tup (.cons (.slot 11) (.cons (.idx (.slot 9) (.slot 12)) (.cons (.idx (.slot 9) (.slot 13)) .nil)))) (.tup (.cons (.name 11) (.cons (.name 12) (.cons (.name 13) .nil)))) (.ex (.call 21 (.cons (.slot 8) .nil))) (.lit (.bl true)) [11, 12, 13])))
  (.cons (.set (.name 6) (.lc (.bin .add (.slot 7) (.ife (.cmp .isin (.slot 10) (.slot 9)) (.call 20 (.cons (.slot 8) (.cons (.mt .index (.slot 9) (.cons (.slot 10) .nil)) .nil))) (.lst .nil))) (.tup (.cons (.name 10) (.cons (.name 7) .nil))) (.enum (.slot 6)) (.lit (.bl true)) [10, 7]))
  .nil))) .nil)
  .nil))
  .nil))
  (.cons (.ret (.tup (.cons (.lc (.call 26 (.cons (.slot 0) (.cons (.slot 7) .nil))) (.name 7) (.ex (.slot 6)) (.lit (.bl true)) [7]) (.cons (.sp .sortedSet (.slot 5)) .nil))))
  .nil))))
/-- pattern_store -/
def n28 : List Str := ["pattern"]
def b28 : Ss := (.cons (.ret (.ife (.cmp .eq (.idx (.slot 0) (.lit (.int 0))) (.lit (.str "kind"))) (.tup (.cons (.lit (.int 1)) (.cons (.tup (.cons (.tup (.cons (.lit (.str "kind")) (.cons (.idx (.slot 0) (.lit (.int 1))) (.cons (.lit (.int 0)) .nil)))) .nil)) .nil))) (.tup (.cons (.lit (.int 2)) (.cons (.tup (.cons (.tup (.cons (.lit (.str "tie")) (.cons (.idx (.slot 0) (.lit (.int 1))) (.cons (.lit (.int 0)) (.cons (.lit (.int 1)) .nil))))) .nil)) .nil)))))
  .nil)
/-- facts_by -/
def n29 : List Str := ["book", "store", "found", "things", "ties", "thing", "items", "tie", "word", "number"]
def b29 : Ss := (.cons (.set (.tup (.cons (.name 3) (.cons (.name 4) .nil))) (.call 27 (.cons (.slot 0) (.cons (.idx (.slot 1) (.lit (.int 0))) (.cons (.idx (.slot 1) (.lit (.int 1))) .nil)))))
  (.cons (.set (.name 2) (.lc (.bin .add (.tup (.cons (.lit (.str "tie")) .nil)) (.slot 7)) (.name 7) (.ex (.slot 4)) (.lit (.bl true)) [7]))
  (.cons (.for_ (.tup (.cons (.name 5) (.cons (.name 6) .nil))) (.enum (.slot 3)) (.cons (.for_ (.tup (.cons (.name 8) (.cons (.name 9) .nil))) (.ex (.slot 6)) (.cons (.ite (.cmp .eq (.slot 8) (.lit (.str "kind"))) (.cons (.set (.name 2) (.bin .add (.slot 2) (.lst (.cons (.tup (.cons (.lit (.str "kind")) (.cons (.slot 9) (.cons (.slot 5) .nil)))) .nil))))
  .nil) (.cons (.ite (.cmp .eq (.slot 8) (.lit (.str "loop"))) (.cons (.set (.name 2) (.bin .add (.slot 2) (.lst (.cons (.tup (.cons (.lit (.str "tie")) (.cons (.slot 9) (.cons (.slot 5) (.cons (.slot 5) .nil))))) .nil))))
  .nil) .nil)
  .nil))
  .nil))
  .nil))
  (.cons (.ret (.bi .sorted (.cons (.slot 2) .nil)))
  .nil))))
/-- makes -/
def n30 : List Str := ["items", "word", "number"]
def b30 : Ss := (.cons (.ret (.lc (.slot 2) (.tup (.cons (.name 1) (.cons (.name 2) .nil))) (.ex (.slot 0)) (.cmp .eq (.slot 1) (.lit (.str "make"))) [1, 2]))
  .nil)
/-- kinds_in -/
def n31 : List Str := ["items", "word", "number"]
def b31 : Ss := (.cons (.ret (.lc (.slot 2) (.tup (.cons (.name 1) (.cons (.name 2) .nil))) (.ex (.slot 0)) (.cmp .eq (.slot 1) (.lit (.str "kind"))) [1, 2]))
  .nil)
/-- makers -/
def n32 : List Str := ["book", "index", "rule"]
def b32 : Ss := (.cons (.ret (.lc (.slot 1) (.tup (.cons (.name 1) (.cons (.name 2) .nil))) (.enum (.idx (.slot 0) (.lit (.int 2)))) (.cmp .eq (.idx (.idx (.slot 2) (.lit (.int 1))) (.lit (.int 0))) (.lit (.str "new"))) [1, 2]))
  .nil)
/-- followers -/
def n33 : List Str := ["book", "index"]
def b33 : Ss := (.cons (.ret (.dc (.slot 1) (.call 30 (.cons (.call 24 (.cons (.slot 0) (.cons (.slot 1) .nil))) .nil)) (.name 1) (.ex (.call 32 (.cons (.slot 0) .nil))) [1]))
  .nil)
/-- look_at_pattern -/
def n34 : List Str := ["book", "pattern"]
def b34 : Ss := (.cons (.ex (.call 10 (.cons (.slot 0) .nil)))
  (.cons (.ite (.not (.call 4 (.cons (.slot 1) (.cons (.idx (.slot 0) (.lit (.int 0))) (.cons (.idx (.slot 0) (.lit (.int 1))) .nil))))) (.cons (.raise 3)
  .nil) .nil)
  .nil))
/-- becomes -/
def n35 : List Str := ["book", "pattern"]
def b35 : Ss := (.cons (.ex (.call 34 (.cons (.slot 0) (.cons (.slot 1) .nil))))
  (.cons (.ret (.call 29 (.cons (.slot 0) (.cons (.call 28 (.cons (.slot 1) .nil)) .nil))))
  .nil))
/-- follows -/
def n36 : List Str := ["book", "table", "index", "other"]
def b36 : Ss := (.cons (.ex (.call 10 (.cons (.slot 0) .nil)))
  (.cons (.set (.name 1) (.call 33 (.cons (.slot 0) .nil)))
  (.cons (.ret (.lc2 (.tup (.cons (.slot 2) (.cons (.slot 3) .nil))) (.name 2) (.ex (.call 32 (.cons (.slot 0) .nil))) (.lit (.bl true)) (.name 3) (.ex (.idx (.slot 1) (.slot 2))) (.lit (.bl true)) [2, 3] [3]))
  .nil)))
/-- kinds_of -/
def n37 : List Str := ["book", "index"]
def b37 : Ss := (.cons (.ex (.call 10 (.cons (.slot 0) .nil)))
  (.cons (.ex (.call 13 (.cons (.slot 0) (.cons (.slot 1) .nil))))
  (.cons (.ite (.cmp .ne (.idx (.idx (.idx (.idx (.slot 0) (.lit (.int 2))) (.slot 1)) (.lit (.int 1))) (.lit (.int 0))) (.lit (.str "new"))) (.cons (.raise 5)
  .nil) .nil)
  (.cons (.ret (.call 31 (.cons (.call 24 (.cons (.slot 0) (.cons (.slot 1) .nil))) .nil)))
  .nil))))
/-- behind -/
def n38 : List Str := ["table", "index", "found", "line", "one", "other"]
def b38 : Ss := (.cons (.set (.tup (.cons (.name 2) (.cons (.name 3) .nil))) (.tup (.cons (.lst .nil) (.cons (.bi .list (.cons (.idx (.slot 0) (.slot 1)) .nil)) .nil))))
  (.cons (.while_ (.cmp .ne (.slot 3) (.lst .nil)) (.cons (.set (.name 2) (.sp .sortedSet (.bin .add (.slot 2) (.slot 3))))
  (.cons (.set (.name 3) (.lc2 (.slot 5) (.name 4) (.ex (.slot 2)) (.lit (.bl true)) (.name 5) (.ex (.idx (.slot 0) (.slot 4))) (.cmp .notin (.slot 5) (.slot 2)) [4, 5] [5]))
  .nil)))
  (.cons (.ret (.slot 2))
  .nil)))
/-- ring_from -/
def n39 : List Str := ["table", "index", "rows", "turn", "row", "there"]
def b39 : Ss := (.cons (.set (.name 2) (.lst (.cons (.tup (.cons (.slot 1) .nil)) .nil)))
  (.cons (.for_ (.name 3) (.range (.bi .len (.cons (.slot 0) .nil))) (.cons (.for_ (.name 4) (.ex (.slot 2)) (.cons (.ite (.cmp .isin (.slot 1) (.idx (.slot 0) (.idx (.slot 4) (.neg (.lit (.int 1)))))) (.cons (.ret (.slot 4))
  .nil) .nil)
  .nil))
  (.cons (.set (.name 2) (.lc2 (.bin .add (.slot 4) (.tup (.cons (.slot 5) .nil))) (.name 4) (.ex (.slot 2)) (.lit (.bl true)) (.name 5) (.ex (.idx (.slot 0) (.idx (.slot 4) (.neg (.lit (.int 1)))))) (.cmp .notin (.slot 5) (.slot 4)) [4, 5] [5]))
  .nil)))
  (.cons (.ret (.lit .non))
  .nil)))
/-- ring_by -/
def n40 : List Str := ["book", "table", "index", "found"]
def b40 : Ss := (.cons (.set (.name 1) (.call 33 (.cons (.slot 0) .nil)))
  (.cons (.for_ (.name 2) (.ex (.call 32 (.cons (.slot 0) .nil))) (.cons (.set (.name 3) (.call 39 (.cons (.slot 1) (.cons (.slot 2) .nil))))
  (.cons (.ite (.isn true (.slot 3)) (.cons (.ret (.slot 3))
  .nil) .nil)
  .nil)))
  (.cons (.ret (.lit .non))
  .nil)))
/-- firsts -/
def n41 : List Str := ["book", "store", "items"]
def b41 : Ss := (.cons (.ret (.lc (.call 30 (.cons (.slot 2) .nil)) (.name 2) (.ex (.idx (.call 27 (.cons (.slot 0) (.cons (.idx (.slot 1) (.lit (.int 0))) (.cons (.idx (.slot 1) (.lit (.int 1))) .nil)))) (.lit (.int 0)))) (.lit (.bl true)) [2]))
  .nil)
/-- is_ended -/
def n42 : List Str := ["table", "starts", "come", "index", "one", "other"]
def b42 : Ss := (.cons (.set (.name 2) (.sp .sortedSet (.bin .add (.slot 1) (.lc2 (.slot 5) (.name 4) (.ex (.slot 1)) (.lit (.bl true)) (.name 5) (.ex (.call 38 (.cons (.slot 0) (.cons (.slot 4) .nil)))) (.lit (.bl true)) [4, 5] [5]))))
  (.cons (.ret (.bi .all (.cons (.lc (.cmp .notin (.slot 3) (.call 38 (.cons (.slot 0) (.cons (.slot 3) .nil)))) (.name 3) (.ex (.slot 2)) (.lit (.bl true)) [3]) .nil)))
  .nil))
/-- counts_by -/
def n43 : List Str := ["book", "starts", "depth", "table", "now", "found", "turn", "index", "other", "many"]
def b43 : Ss := (.cons (.set (.name 3) (.call 33 (.cons (.slot 0) .nil)))
  (.cons (.set (.name 4) (.dc (.slot 7) (.mt .count (.slot 1) (.cons (.slot 7) .nil)) (.name 7) (.ex (.slot 3)) [7]))
  (.cons (.set (.name 5) (.lst (.cons (.sumV (.slot 4)) .nil)))
  (.cons (.for_ (.name 6) (.range (.bin .sub (.slot 2) (.lit (.int 1)))) (.cons (.set (.name 4) (.dc (.slot 7) (.bi .sum (.cons (.lc (.slot 9) (.tup (.cons (.name 8) (.cons (.name 9) .nil))) (.items (.slot 4)) (.cmp .isin (.slot 7) (.idx (.slot 3) (.slot 8))) [8, 9]) .nil)) (.name 7) (.ex (.slot 3)) [7]))
  (.cons (.set (.name 5) (.bin .add (.slot 5) (.lst (.cons (.sumV (.slot 4)) .nil))))
  .nil)))
  (.cons (.ret (.slot 5))
  .nil)))))
/-- number_by -/
def n44 : List Str := ["book", "starts"]
def b44 : Ss := (.cons (.ite (.not (.call 42 (.cons (.call 33 (.cons (.slot 0) .nil)) (.cons (.slot 1) .nil)))) (.cons (.ret (.lit .non))
  .nil) .nil)
  (.cons (.ret (.bi .sum (.cons (.call 43 (.cons (.slot 0) (.cons (.slot 1) (.cons (.bin .add (.bi .len (.cons (.idx (.slot 0) (.lit (.int 2))) .nil)) (.lit (.int 1))) .nil)))) .nil)))
  .nil))
/-- all_firsts -/
def n45 : List Str := ["book", "store", "row", "index"]
def b45 : Ss := (.cons (.ret (.lc2 (.slot 3) (.name 2) (.ex (.call 41 (.cons (.slot 0) (.cons (.slot 1) .nil)))) (.lit (.bl true)) (.name 3) (.ex (.slot 2)) (.lit (.bl true)) [2, 3] [3]))
  .nil)
/-- made_by -/
def n46 : List Str := ["book", "store", "line", "table", "found", "index", "thing", "row", "other", "path"]
def b46 : Ss := (.cons (.set (.tup (.cons (.name 3) (.cons (.name 4) .nil))) (.tup (.cons (.call 33 (.cons (.slot 0) .nil)) (.cons (.lst .nil) .nil))))
  (.cons (.set (.name 2) (.lc2 (.tup (.cons (.slot 6) (.cons (.tup (.cons (.slot 5) .nil)) .nil))) (.tup (.cons (.name 6) (.cons (.name 7) .nil))) (.enum (.call 41 (.cons (.slot 0) (.cons (.slot 1) .nil)))) (.lit (.bl true)) (.name 5) (.ex (.slot 7)) (.lit (.bl true)) [6, 7, 5] [5]))
  (.cons (.while_ (.cmp .ne (.slot 2) (.lst .nil)) (.cons (.set (.name 4) (.bin .add (.slot 4) (.slot 2)))
  (.cons (.set (.name 2) (.lc2 (.tup (.cons (.slot 6) (.cons (.bin .add (.slot 9) (.tup (.cons (.slot 8) .nil))) .nil))) (.tup (.cons (.name 6) (.cons (.name 9) .nil))) (.ex (.slot 2)) (.lit (.bl true)) (.name 8) (.ex (.idx (.slot 3) (.idx (.slot 9) (.neg (.lit (.int 1)))))) (.lit (.bl true)) [6, 9, 8] [8]))
  .nil)))
  (.cons (.ret (.bi .sorted (.cons (.slot 4) .nil)))
  .nil))))
/-- ring -/
def n47 : List Str := ["book"]
def b47 : Ss := (.cons (.ex (.call 10 (.cons (.slot 0) .nil)))
  (.cons (.ret (.call 40 (.cons (.slot 0) .nil)))
  .nil))
/-- ends -/
def n48 : List Str := ["book", "store"]
def b48 : Ss := (.cons (.ex (.call 11 (.cons (.slot 0) (.cons (.slot 1) .nil))))
  (.cons (.ret (.call 42 (.cons (.call 33 (.cons (.slot 0) .nil)) (.cons (.call 45 (.cons (.slot 0) (.cons (.slot 1) .nil))) .nil))))
  .nil))
/-- count_made -/
def n49 : List Str := ["book", "store"]
def b49 : Ss := (.cons (.ex (.call 11 (.cons (.slot 0) (.cons (.slot 1) .nil))))
  (.cons (.ret (.call 44 (.cons (.slot 0) (.cons (.call 45 (.cons (.slot 0) (.cons (.slot 1) .nil))) .nil))))
  .nil))
/-- count_at -/
def n50 : List Str := ["book", "store", "depth"]
def b50 : Ss := (.cons (.ex (.call 11 (.cons (.slot 0) (.cons (.slot 1) .nil))))
  (.cons (.ite (.not (.call 0 (.cons (.slot 2) (.cons (.lit (.int 0)) (.cons (.lit (.int 300)) .nil))))) (.cons (.raise 6)
  .nil) .nil)
  (.cons (.ret (.ife (.cmp .gt (.slot 2) (.lit (.int 0))) (.idx (.call 43 (.cons (.slot 0) (.cons (.call 45 (.cons (.slot 0) (.cons (.slot 1) .nil))) (.cons (.slot 2) .nil)))) (.neg (.lit (.int 1)))) (.lit (.int 0))))
  .nil)))
/-- made -/
def n51 : List Str := ["book", "store", "number"]
def b51 : Ss := (.cons (.ex (.call 11 (.cons (.slot 0) (.cons (.slot 1) .nil))))
  (.cons (.set (.name 2) (.call 44 (.cons (.slot 0) (.cons (.call 45 (.cons (.slot 0) (.cons (.slot 1) .nil))) .nil))))
  (.cons (.ite (.isn false (.slot 2)) (.cons (.raise 8)
  .nil) .nil)
  (.cons (.ite (.cmp .gt (.slot 2) (.lit (.int 500))) (.cons (.raise 10)
  .nil) .nil)
  (.cons (.ret (.call 46 (.cons (.slot 0) (.cons (.slot 1) .nil))))
  .nil)))))
/-- ring_of -/
def n52 : List Str := ["table", "index", "other"]
def b52 : Ss := (.cons (.ret (.lc (.slot 2) (.name 2) (.ex (.call 38 (.cons (.slot 0) (.cons (.slot 1) .nil)))) (.cmp .isin (.slot 1) (.call 38 (.cons (.slot 0) (.cons (.slot 2) .nil)))) [2]))
  .nil)
/-- rings_behind -/
def n53 : List Str := ["table", "index", "mine", "others", "other"]
def b53 : Ss := (.cons (.set (.name 2) (.call 52 (.cons (.slot 0) (.cons (.slot 1) .nil))))
  (.cons (.set (.name 3) (.lc (.slot 4) (.name 4) (.ex (.call 38 (.cons (.slot 0) (.cons (.slot 1) .nil)))) (.and (.cmp .notin (.slot 4) (.slot 2)) (.cmp .ne (.slot 4) (.slot 1))) [4]))
  (.cons (.ret (.bin .add (.bi .int (.cons (.cmp .ne (.slot 2) (.lst .nil)) .nil)) (.bi .maxl (.cons (.bin .add (.lst (.cons (.lit (.int 0)) .nil)) (.lc (.call 53 (.cons (.slot 0) (.cons (.slot 4) .nil))) (.name 4) (.ex (.slot 3)) (.lit (.bl true)) [4])) .nil))))
  .nil)))
/-- growth_by -/
def n54 : List Str := ["book", "starts", "number", "table", "index", "mine", "one", "other"]
def b54 : Ss := (.cons (.set (.name 2) (.call 44 (.cons (.slot 0) (.cons (.slot 1) .nil))))
  (.cons (.ite (.isn true (.slot 2)) (.cons (.ret (.tup (.cons (.lit (.str "ends")) (.cons (.slot 2) .nil))))
  .nil) .nil)
  (.cons (.set (.name 3) (.call 33 (.cons (.slot 0) .nil)))
  (.cons (.for_ (.name 4) (.ex (.sp .sortedSet (.bin .add (.slot 1) (.lc2 (.slot 7) (.name 6) (.ex (.slot 1)) (.lit (.bl true)) (.name 7) (.ex (.call 38 (.cons (.slot 3) (.cons (.slot 6) .nil)))) (.lit (.bl true)) [6, 7] [7])))) (.cons (.set (.name 5) (.call 52 (.cons (.slot 3) (.cons (.slot 4) .nil))))
  (.cons (.ite (.cmp .gt (.bi .len (.cons (.lc (.slot 7) (.name 7) (.ex (.idx (.slot 3) (.slot 4))) (.cmp .isin (.slot 7) (.slot 5)) [7]) .nil)) (.lit (.int 1))) (.cons (.ret (.tup (.cons (.lit (.str "doubling")) (.cons (.lit (.int 0)) .nil))))
  .nil) .nil)
  .nil)))
  (.cons (.ret (.tup (.cons (.lit (.str "power")) (.cons (.bin .sub (.bi .maxl (.cons (.lc (.call 53 (.cons (.slot 3) (.cons (.slot 4) .nil))) (.name 4) (.ex (.slot 1)) (.lit (.bl true)) [4]) .nil)) (.lit (.int 1))) .nil))))
  .nil)))))
/-- lots_of -/
def n55 : List Str := ["many", "found", "number", "lot"]
def b55 : Ss := (.cons (.set (.name 1) (.lst (.cons (.tup .nil) .nil)))
  (.cons (.for_ (.name 2) (.range (.slot 0)) (.cons (.set (.name 1) (.bin .add (.slot 1) (.lc (.bin .add (.slot 3) (.tup (.cons (.slot 2) .nil))) (.name 3) (.ex (.slot 1)) (.lit (.bl true)) [3])))
  .nil))
  (.cons (.ret (.sp .sortLen (.slot 1)))
  .nil)))
/-- struck -/
def n56 : List Str := ["book", "lot", "index", "rule"]
def b56 : Ss := (.cons (.ret (.tup (.cons (.idx (.slot 0) (.lit (.int 0))) (.cons (.idx (.slot 0) (.lit (.int 1))) (.cons (.bi .tuple (.cons (.lc (.slot 3) (.tup (.cons (.name 2) (.cons (.name 3) .nil))) (.enum (.idx (.slot 0) (.lit (.int 2)))) (.cmp .notin (.slot 2) (.slot 1)) [2, 3]) .nil)) .nil)))))
  .nil)
/-- strikes_by -/
def n57 : List Str := ["book", "found", "lot", "one", "index"]
def b57 : Ss := (.cons (.set (.name 1) (.lst .nil))
  (.cons (.for_ (.name 2) (.ex (.call 55 (.cons (.bi .len (.cons (.idx (.slot 0) (.lit (.int 2))) .nil)) .nil))) (.cons (.ite (.bi .all (.cons (.lc (.cmp .ne (.lc (.slot 4) (.name 4) (.ex (.slot 3)) (.cmp .notin (.slot 4) (.slot 2)) [4]) (.lst .nil)) (.name 3) (.ex (.slot 1)) (.lit (.bl true)) [3]) .nil)) (.cons (.ite (.isn false (.call 40 (.cons (.call 56 (.cons (.slot 0) (.cons (.slot 2) .nil))) .nil))) (.cons (.set (.name 1) (.bin .add (.slot 1) (.lst (.cons (.slot 2) .nil))))
  .nil) .nil)
  .nil) .nil)
  .nil))
  (.cons (.ret (.bi .sorted (.cons (.slot 1) .nil)))
  .nil)))
/-- growth -/
def n58 : List Str := ["book", "pattern"]
def b58 : Ss := (.cons (.ex (.call 34 (.cons (.slot 0) (.cons (.slot 1) .nil))))
  (.cons (.ret (.call 54 (.cons (.slot 0) (.cons (.call 45 (.cons (.slot 0) (.cons (.call 28 (.cons (.slot 1) .nil)) .nil))) .nil))))
  .nil))
/-- strikes -/
def n59 : List Str := ["book"]
def b59 : Ss := (.cons (.ex (.call 10 (.cons (.slot 0) .nil)))
  (.cons (.ret (.call 57 (.cons (.slot 0) .nil)))
  .nil))
/-- is_step -/
def n60 : List Str := ["book", "value"]
def b60 : Ss := (.cons (.ite (.or (.not (.call 1 (.cons (.slot 1) (.cons (.lit (.int 3)) (.cons (.lit (.int 3)) .nil))))) (.not (.call 0 (.cons (.idx (.slot 1) (.lit (.int 0))) (.cons (.lit (.int 0)) (.cons (.bin .sub (.idx (.slot 0) (.lit (.int 1))) (.lit (.int 1))) .nil)))))) (.cons (.ret (.lit (.bl false)))
  .nil) .nil)
  (.cons (.ret (.and (.call 2 (.cons (.idx (.slot 1) (.lit (.int 1))) (.cons (.tup (.cons (.lit (.str "to")) (.cons (.lit (.str "from")) .nil))) .nil))) (.call 3 (.cons (.idx (.slot 1) (.lit (.int 2))) (.cons (.idx (.slot 0) (.lit (.int 0))) .nil)))))
  .nil))
/-- is_question -/
def n61 : List Str := ["book", "value", "step"]
def b61 : Ss := (.cons (.ite (.or (.not (.call 1 (.cons (.slot 1) (.cons (.lit (.int 2)) (.cons (.lit (.int 2)) .nil))))) (.or (.not (.call 3 (.cons (.idx (.slot 1) (.lit (.int 0))) (.cons (.idx (.slot 0) (.lit (.int 0))) .nil)))) (.not (.call 1 (.cons (.idx (.slot 1) (.lit (.int 1))) (.cons (.lit (.int 0)) (.cons (.lit (.int 3)) .nil))))))) (.cons (.ret (.lit (.bl false)))
  .nil) .nil)
  (.cons (.ret (.bi .all (.cons (.lc (.call 60 (.cons (.slot 0) (.cons (.slot 2) .nil))) (.name 2) (.ex (.idx (.slot 1) (.lit (.int 1)))) (.lit (.bl true)) [2]) .nil)))
  .nil))
/-- loops_of -/
def n62 : List Str := ["items", "thing", "word", "number"]
def b62 : Ss := (.cons (.ret (.lc (.tup (.cons (.slot 3) (.cons (.slot 1) (.cons (.slot 1) .nil)))) (.tup (.cons (.name 2) (.cons (.name 3) .nil))) (.ex (.slot 0)) (.cmp .eq (.slot 2) (.lit (.str "loop"))) [2, 3]))
  .nil)
/-- piece_of -/
def n63 : List Str := ["book", "items", "ties", "table", "line", "turn", "kinds", "ends", "thing", "some", "later", "index", "new", "pair", "other", "tie", "one"]
def b63 : Ss := (.cons (.set (.name 3) (.call 33 (.cons (.slot 0) .nil)))
  (.cons (.par [6, 7] (.cons (.lc (.call 31 (.cons (.slot 9) .nil)) (.name 9) (.ex (.slot 1)) (.lit (.bl true)) [9]) (.cons (.bi .list (.cons (.slot 2) .nil)) .nil)))
  (.cons (.set (.name 4) (.lst .nil))
  (.cons (.for_ (.tup (.cons (.name 8) (.cons (.name 9) .nil))) (.enum (.slot 1)) (.cons (.set (.name 7) (.bin .add (.slot 7) (.call 62 (.cons (.slot 9) (.cons (.slot 8) .nil)))))
  (.cons (.set (.name 4) (.bin .add (.slot 4) (.lc (.tup (.cons (.slot 8) (.cons (.slot 11) .nil))) (.name 11) (.ex (.call 30 (.cons (.slot 9) .nil))) (.lit (.bl true)) [11])))
  .nil)))
  (.cons (.for_ (.name 5) (.range (.lit (.int 3))) (.cons (.set (.name 10) (.lst .nil))
  (.cons (.for_ (.tup (.cons (.name 8) (.cons (.name 11) .nil))) (.ex (.slot 4)) (.cons (.set (.name 12) (.bi .len (.cons (.slot 6) .nil)))
  (.cons (.set (.name 9) (.call 24 (.cons (.slot 0) (.cons (.slot 11) .nil))))
  (.cons (.set (.name 6) (.bin .add (.slot 6) (.lst (.cons (.call 31 (.cons (.slot 9) .nil)) .nil))))
  (.cons (.set (.name 13) (.tup (.cons (.slot 8) (.cons (.slot 12) .nil))))
  (.cons (.set (.name 7) (.bin .add (.slot 7) (.lc (.tup (.cons (.slot 15) (.cons (.idx (.slot 13) (.slot 16)) (.cons (.idx (.slot 13) (.slot 14)) .nil)))) (.tup (.cons (.name 15) (.cons (.name 16) (.cons (.name 14) .nil)))) (.ex (.call 23 (.cons (.slot 0) (.cons (.slot 11) .nil)))) (.lit (.bl true)) [15, 16, 14])))
  (.cons (.set (.name 7) (.bin .add (.slot 7) (.call 62 (.cons (.slot 9) (.cons (.slot 12) .nil)))))
  (.cons (.set (.name 10) (.bin .add (.slot 10) (.lc (.tup (.cons (.slot 12) (.cons (.slot 14) .nil))) (.name 14) (.ex (.idx (.slot 3) (.slot 11))) (.lit (.bl true)) [14])))
  .nil))))))))
  (.cons (.set (.name 4) (.slot 10))
  .nil))))
  (.cons (.ret (.tup (.cons (.slot 6) (.cons (.slot 7) .nil))))
  .nil))))))
/-- holds_in -/
def n64 : List Str := ["piece", "question", "here", "kinds", "ends", "tie", "way", "wanted", "found", "thing", "name", "one", "other", "last", "there", "kind"]
def b64 : Ss := (.cons (.set (.tup (.cons (.name 3) (.cons (.name 4) .nil))) (.slot 0))
  (.cons (.set (.name 2) (.lc (.slot 9) (.name 9) (.range (.bi .len (.cons (.slot 3) .nil))) (.bi .all (.cons (.lc (.cmp .isin (.slot 15) (.idx (.slot 3) (.slot 9))) (.name 15) (.ex (.idx (.slot 1) (.lit (.int 0)))) (.lit (.bl true)) [15]) .nil)) [9]))
  (.cons (.for_ (.tup (.cons (.name 5) (.cons (.name 6) (.cons (.name 7) .nil)))) (.ex (.idx (.slot 1) (.lit (.int 1)))) (.cons (.set (.name 8) (.lst .nil))
  (.cons (.for_ (.tup (.cons (.name 10) (.cons (.name 11) (.cons (.name 12) .nil)))) (.ex (.slot 4)) (.cons (.set (.tup (.cons (.name 13) (.cons (.name 14) .nil))) (.ife (.cmp .eq (.slot 6) (.lit (.str "to"))) (.tup (.cons (.slot 11) (.cons (.slot 12) .nil))) (.tup (.cons (.slot 12) (.cons (.slot 11) .nil)))))
  (.cons (.ite (.and (.cmp .eq (.slot 10) (.slot 5)) (.and (.cmp .isin (.slot 13) (.slot 2)) (.bi .all (.cons (.lc (.cmp .isin (.slot 15) (.idx (.slot 3) (.slot 14))) (.name 15) (.ex (.slot 7)) (.lit (.bl true)) [15]) .nil)))) (.cons (.set (.name 8) (.bin .add (.slot 8) (.lst (.cons (.slot 14) .nil))))
  .nil) .nil)
  .nil)))
  (.cons (.set (.name 2) (.sp .sortedSet (.slot 8)))
  .nil))))
  (.cons (.ret (.cmp .ne (.slot 2) (.lst .nil)))
  .nil))))
/-- holds_by -/
def n65 : List Str := ["book", "store", "question", "come", "items", "ties", "table", "starts", "index", "one", "other"]
def b65 : Ss := (.cons (.set (.tup (.cons (.name 4) (.cons (.name 5) .nil))) (.call 27 (.cons (.slot 0) (.cons (.idx (.slot 1) (.lit (.int 0))) (.cons (.idx (.slot 1) (.lit (.int 1))) .nil)))))
  (.cons (.ite (.call 64 (.cons (.call 63 (.cons (.slot 0) (.cons (.slot 4) (.cons (.slot 5) .nil)))) (.cons (.slot 2) .nil))) (.cons (.ret (.lit (.bl true)))
  .nil) .nil)
  (.cons (.set (.tup (.cons (.name 6) (.cons (.name 7) .nil))) (.tup (.cons (.call 33 (.cons (.slot 0) .nil)) (.cons (.call 45 (.cons (.slot 0) (.cons (.slot 1) .nil))) .nil))))
  (.cons (.set (.name 3) (.sp .sortedSet (.bin .add (.slot 7) (.lc2 (.slot 10) (.name 9) (.ex (.slot 7)) (.lit (.bl true)) (.name 10) (.ex (.call 38 (.cons (.slot 6) (.cons (.slot 9) .nil)))) (.lit (.bl true)) [9, 10] [10]))))
  (.cons (.ret (.bi .any (.cons (.lc (.call 64 (.cons (.call 63 (.cons (.slot 0) (.cons (.lst (.cons (.call 24 (.cons (.slot 0) (.cons (.slot 8) .nil))) .nil)) (.cons (.lst .nil) .nil)))) (.cons (.slot 2) .nil))) (.name 8) (.ex (.slot 3)) (.lit (.bl true)) [8]) .nil)))
  .nil)))))
/-- holds -/
def n66 : List Str := ["book", "store", "question"]
def b66 : Ss := (.cons (.ex (.call 11 (.cons (.slot 0) (.cons (.slot 1) .nil))))
  (.cons (.ite (.not (.call 61 (.cons (.slot 0) (.cons (.slot 2) .nil)))) (.cons (.raise 7)
  .nil) .nil)
  (.cons (.ret (.call 65 (.cons (.slot 0) (.cons (.slot 1) (.cons (.slot 2) .nil)))))
  .nil)))
/-- pairs_tied -/
def n67 : List Str := ["book", "store", "fact"]
def b67 : Ss := (.cons (.ex (.call 11 (.cons (.slot 0) (.cons (.slot 1) .nil))))
  (.cons (.ret (.lc (.slcF (.slot 2) (.lit (.int 1))) (.name 2) (.ex (.call 29 (.cons (.slot 0) (.cons (.slot 1) .nil)))) (.cmp .eq (.idx (.slot 2) (.lit (.int 0))) (.lit (.str "tie"))) [2]))
  .nil))
/-- has_thing -/
def n68 : List Str := ["book", "store", "then", "facts", "other", "ends", "index", "word", "who", "tie", "way", "kinds", "some", "kind"]
def b68 : Ss := (.cons (.set (.tup (.cons (.name 7) (.cons (.name 8) (.cons (.name 9) (.cons (.name 10) (.cons (.name 11) .nil)))))) (.slot 2))
  (.cons (.set (.name 3) (.call 29 (.cons (.slot 0) (.cons (.slot 1) .nil))))
  (.cons (.for_ (.name 4) (.range (.idx (.slot 1) (.lit (.int 0)))) (.cons (.set (.name 5) (.ife (.cmp .eq (.slot 10) (.lit (.str "to"))) (.tup (.cons (.slot 8) (.cons (.slot 4) .nil))) (.tup (.cons (.slot 4) (.cons (.slot 8) .nil)))))
  (.cons (.ite (.and (.cmp .isin (.bin .add (.tup (.cons (.lit (.str "tie")) (.cons (.slot 9) .nil))) (.slot 5)) (.slot 3)) (.bi .all (.cons (.lc (.cmp .isin (.tup (.cons (.lit (.str "kind")) (.cons (.slot 13) (.cons (.slot 4) .nil)))) (.slot 3)) (.name 13) (.ex (.slot 11)) (.lit (.bl true)) [13]) .nil))) (.cons (.ret (.lit (.bl true)))
  .nil) .nil)
  .nil)))
  (.cons (.set (.name 5) (.ife (.cmp .eq (.slot 10) (.lit (.str "to"))) (.tup (.cons (.lit (.int 0)) (.cons (.lit (.int 1)) .nil))) (.tup (.cons (.lit (.int 1)) (.cons (.lit (.int 0)) .nil)))))
  (.cons (.for_ (.name 6) (.ex (.call 30 (.cons (.idx (.idx (.call 27 (.cons (.slot 0) (.cons (.idx (.slot 1) (.lit (.int 0))) (.cons (.idx (.slot 1) (.lit (.int 1))) .nil)))) (.lit (.int 0))) (.slot 8)) .nil))) (.cons (.set (.name 12) (.call 31 (.cons (.call 24 (.cons (.slot 0) (.cons (.slot 6) .nil))) .nil)))
  (.cons (.ite (.and (.cmp .isin (.bin .add (.tup (.cons (.slot 9) .nil)) (.slot 5)) (.call 23 (.cons (.slot 0) (.cons (.slot 6) .nil)))) (.bi .all (.cons (.lc (.cmp .isin (.slot 13) (.slot 12)) (.name 13) (.ex (.slot 11)) (.lit (.bl true)) [13]) .nil))) (.cons (.ret (.lit (.bl true)))
  .nil) .nil)
  .nil)))
  (.cons (.ret (.lit (.bl false)))
  .nil))))))
/-- is_so_by -/
def n69 : List Str := ["book", "rule", "store", "ends", "when", "then"]
def b69 : Ss := (.cons (.set (.tup (.cons (.name 4) (.cons (.name 5) .nil))) (.slot 1))
  (.cons (.set (.name 2) (.call 28 (.cons (.slot 4) .nil)))
  (.cons (.ite (.cmp .eq (.idx (.slot 5) (.lit (.int 0))) (.lit (.str "new"))) (.cons (.ret (.call 68 (.cons (.slot 0) (.cons (.slot 2) (.cons (.slot 5) .nil)))))
  .nil) .nil)
  (.cons (.ite (.cmp .eq (.idx (.slot 5) (.lit (.int 0))) (.lit (.str "kind"))) (.cons (.ret (.cmp .isin (.tup (.cons (.lit (.str "kind")) (.cons (.idx (.slot 5) (.lit (.int 2))) (.cons (.idx (.slot 5) (.lit (.int 1))) .nil)))) (.call 29 (.cons (.slot 0) (.cons (.slot 2) .nil)))))
  .nil) .nil)
  (.cons (.set (.name 3) (.tup (.cons (.lit (.int 0)) (.cons (.bin .sub (.idx (.slot 2) (.lit (.int 0))) (.lit (.int 1))) .nil))))
  (.cons (.ret (.cmp .isin (.bin .add (.tup (.cons (.lit (.str "tie")) (.cons (.idx (.slot 5) (.lit (.int 1))) .nil))) (.ife (.idx (.slot 5) (.lit (.int 2))) (.rev (.slot 3)) (.slot 3))) (.call 29 (.cons (.slot 0) (.cons (.slot 2) .nil)))))
  .nil))))))
/-- lacking -/
def n70 : List Str := ["one", "other", "index", "rule"]
def b70 : Ss := (.cons (.ret (.lc (.slot 2) (.tup (.cons (.name 2) (.cons (.name 3) .nil))) (.enum (.idx (.slot 1) (.lit (.int 2)))) (.not (.call 69 (.cons (.slot 0) (.cons (.slot 3) .nil)))) [2, 3]))
  .nil)
/-- look_at_two -/
def n71 : List Str := ["one", "other"]
def b71 : Ss := (.cons (.ex (.call 10 (.cons (.slot 0) .nil)))
  (.cons (.ex (.call 10 (.cons (.slot 1) .nil)))
  (.cons (.ite (.cmp .ne (.slcT (.slot 0) (.lit (.int 2))) (.slcT (.slot 1) (.lit (.int 2)))) (.cons (.raise 9)
  .nil) .nil)
  .nil)))
/-- is_so -/
def n72 : List Str := ["book", "rule"]
def b72 : Ss := (.cons (.ex (.call 10 (.cons (.slot 0) .nil)))
  (.cons (.ite (.not (.call 6 (.cons (.slot 1) (.cons (.idx (.slot 0) (.lit (.int 0))) (.cons (.idx (.slot 0) (.lit (.int 1))) .nil))))) (.cons (.raise 4)
  .nil) .nil)
  (.cons (.ret (.call 69 (.cons (.slot 0) (.cons (.slot 1) .nil))))
  .nil)))
/-- says_all -/
def n73 : List Str := ["one", "other"]
def b73 : Ss := (.cons (.ex (.call 71 (.cons (.slot 0) (.cons (.slot 1) .nil))))
  (.cons (.ret (.cmp .eq (.call 70 (.cons (.slot 0) (.cons (.slot 1) .nil))) (.lst .nil)))
  .nil))
/-- same -/
def n74 : List Str := ["one", "other"]
def b74 : Ss := (.cons (.ex (.call 71 (.cons (.slot 0) (.cons (.slot 1) .nil))))
  (.cons (.ret (.and (.cmp .eq (.call 70 (.cons (.slot 0) (.cons (.slot 1) .nil))) (.lst .nil)) (.cmp .eq (.call 70 (.cons (.slot 1) (.cons (.slot 0) .nil))) (.lst .nil))))
  .nil))
/-- parting -/
def n75 : List Str := ["one", "other", "found", "index"]
def b75 : Ss := (.cons (.ex (.call 71 (.cons (.slot 0) (.cons (.slot 1) .nil))))
  (.cons (.set (.name 2) (.bin .add (.lc (.tup (.cons (.lit (.int 0)) (.cons (.slot 3) .nil))) (.name 3) (.ex (.call 70 (.cons (.slot 1) (.cons (.slot 0) .nil)))) (.lit (.bl true)) [3]) (.lc (.tup (.cons (.lit (.int 1)) (.cons (.slot 3) .nil))) (.name 3) (.ex (.call 70 (.cons (.slot 0) (.cons (.slot 1) .nil)))) (.lit (.bl true)) [3])))
  (.cons (.ret (.ife (.cmp .ne (.slot 2) (.lst .nil)) (.idx (.slot 2) (.lit (.int 0))) (.lit .non)))
  .nil)))
/-- idle_rules -/
def n76 : List Str := ["book", "index", "rule"]
def b76 : Ss := (.cons (.ex (.call 10 (.cons (.slot 0) .nil)))
  (.cons (.ret (.lc (.slot 1) (.tup (.cons (.name 1) (.cons (.name 2) .nil))) (.enum (.idx (.slot 0) (.lit (.int 2)))) (.call 69 (.cons (.call 14 (.cons (.slot 0) (.cons (.slot 1) .nil))) (.cons (.slot 2) .nil))) [1, 2]))
  .nil))
/-- _law_spring -/
def n77 : List Str := ["_law_script", "_law_at", "_law_cell", "_law_mixed"]
def b77 : Ss := (.cons (.set (.name 2) (.lit (.int 7)))
  (.cons (.ite (.cmp .lt (.slot 1) (.bi .len (.cons (.slot 0) .nil))) (.cons (.set (.name 2) (.bi .abs (.cons (.idx (.slot 0) (.slot 1)) .nil)))
  .nil) .nil)
  (.cons (.set (.name 3) (.bin .mod (.bi .int (.cons (.bin .add (.bin .add (.bin .mul (.slot 2) (.lit (.int 863))) (.bin .mul (.lit (.int 524287)) (.slot 1))) (.lit (.int 1))) .nil)) (.lit (.int 999999999989))))
  (.cons (.ret (.mlst (.cons (.ife (.cmp .ge (.slot 2) (.bin .pow (.lit (.int 10)) (.lit (.int 18)))) (.slot 2) (.lit (.int 0))) (.cons (.slot 3) .nil))))
  .nil))))
/-- _law_pick -/
def n78 : List Str := ["_law_spring_here", "_law_many", "_law_digit"]
def b78 : Ss := (.cons (.ite (.cmp .gt (.idx (.slot 0) (.lit (.int 0))) (.lit (.int 0))) (.cons (.set (.name 2) (.bin .mod (.bi .int (.cons (.idx (.slot 0) (.lit (.int 0))) .nil)) (.slot 1)))
  (.cons (.put (.slot 0) (.lit (.int 0)) (.bin .fdiv (.idx (.slot 0) (.lit (.int 0))) (.slot 1)))
  (.cons (.ret (.slot 2))
  .nil))) .nil)
  (.cons (.put (.slot 0) (.lit (.int 1)) (.bin .mod (.bi .int (.cons (.bin .add (.bin .mul (.idx (.slot 0) (.lit (.int 1))) (.lit (.int 393555900739))) (.lit (.int 8191))) .nil)) (.lit (.int 999999999989))))
  (.cons (.ret (.bin .mod (.bi .int (.cons (.bin .fdiv (.idx (.slot 0) (.lit (.int 1))) (.lit (.int 4093))) .nil)) (.slot 1)))
  .nil)))
/-- _law_kind -/
def n79 : List Str := ["_law_value"]
def b79 : Ss := (.cons (.ite (.or (.isn false (.slot 0)) (.isi [.bool] (.slot 0))) (.cons (.ret (.ife (.isn false (.slot 0)) (.lit (.int 0)) (.lit (.int 1))))
  .nil) .nil)
  (.cons (.ite (.isi [.list, .tuple] (.slot 0)) (.cons (.ret (.ife (.isi [.list] (.slot 0)) (.lit (.int 2)) (.lit (.int 3))))
  .nil) .nil)
  (.cons (.ret (.ife (.isi [.int] (.slot 0)) (.lit (.int 4)) (.ife (.isi [.str] (.slot 0)) (.lit (.int 5)) (.lit (.int 6)))))
  .nil)))
/-- _law_twins -/
def n80 : List Str := ["_law_one", "_law_other", "_law_a", "_law_b"]
def b80 : Ss := (.cons (.ite (.cmp .ne (.call 79 (.cons (.slot 0) .nil)) (.call 79 (.cons (.slot 1) .nil))) (.cons (.ret (.lit (.bl false)))
  .nil) .nil)
  (.cons (.ite (.cmp .isin (.call 79 (.cons (.slot 0) .nil)) (.lst (.cons (.lit (.int 2)) (.cons (.lit (.int 3)) .nil)))) (.cons (.ret (.and (.cmp .eq (.bi .len (.cons (.slot 0) .nil)) (.bi .len (.cons (.slot 1) .nil))) (.cmp .eq (.lc (.lit (.int 1)) (.tup (.cons (.name 2) (.cons (.name 3) .nil))) (.zip (.slot 0) (.slot 1)) (.not (.call 80 (.cons (.slot 2) (.cons (.slot 3) .nil)))) [2, 3]) (.lst .nil))))
  .nil) .nil)
  (.cons (.ret (.cmp .eq (.slot 0) (.slot 1)))
  .nil)))
/-- _law_known -/
def n81 : List Str := ["_law_found", "_law_one", "_law_two"]
def b81 : Ss := (.cons (.set (.tup (.cons (.name 1) (.cons (.name 2) .nil))) (.tup (.cons (.tup (.cons (.lit (.str "new")) (.cons (.lit (.int 0)) (.cons (.lit (.int 0)) (.cons (.lit (.str "to")) (.cons (.tup (.cons (.lit (.int 0)) .nil)) .nil)))))) (.cons (.tup (.cons (.lit (.str "new")) (.cons (.lit (.int 0)) (.cons (.lit (.int 0)) (.cons (.lit (.str "to")) (.cons (.tup (.cons (.lit (.int 1)) .nil)) .nil)))))) .nil))))
  (.cons (.set (.name 0) (.mlst (.cons (.tup (.cons (.lit (.int 1)) (.cons (.lit (.int 1)) (.cons (.tup (.cons (.tup (.cons (.tup (.cons (.lit (.str "kind")) (.cons (.lit (.int 0)) .nil))) (.cons (.slot 1) .nil))) .nil)) .nil)))) (.cons (.tup (.cons (.lit (.int 2)) (.cons (.lit (.int 1)) (.cons (.tup (.cons (.tup (.cons (.tup (.cons (.lit (.str "kind")) (.cons (.lit (.int 0)) .nil))) (.cons (.slot 2) .nil))) .nil)) .nil)))) .nil))))
  (.cons (.ex (.mt .append (.slot 0) (.cons (.tup (.cons (.lit (.int 1)) (.cons (.lit (.int 1)) (.cons (.tup (.cons (.tup (.cons (.tup (.cons (.lit (.str "kind")) (.cons (.lit (.int 0)) .nil))) (.cons (.slot 1) .nil))) (.cons (.tup (.cons (.tup (.cons (.lit (.str "kind")) (.cons (.lit (.int 0)) .nil))) (.cons (.tup (.cons (.lit (.str "new")) (.cons (.lit (.int 0)) (.cons (.lit (.int 0)) (.cons (.lit (.str "from")) (.cons (.tup (.cons (.lit (.int 0)) .nil)) .nil)))))) .nil))) .nil))) .nil)))) .nil)))
  (.cons (.ex (.mt .append (.slot 0) (.cons (.tup (.cons (.lit (.int 2)) (.cons (.lit (.int 1)) (.cons (.tup (.cons (.tup (.cons (.tup (.cons (.lit (.str "tie")) (.cons (.lit (.int 0)) .nil))) (.cons (.tup (.cons (.lit (.str "kind")) (.cons (.lit (.int 1)) (.cons (.lit (.int 1)) .nil)))) .nil))) (.cons (.tup (.cons (.tup (.cons (.lit (.str "kind")) (.cons (.lit (.int 1)) .nil))) (.cons (.tup (.cons (.lit (.str "new")) (.cons (.lit (.int 0)) (.cons (.lit (.int 0)) (.cons (.lit (.str "to")) (.cons (.tup .nil) .nil)))))) .nil))) .nil))) .nil)))) .nil)))
  (.cons (.ex (.mt .append (.slot 0) (.cons (.tup (.cons (.lit (.int 2)) (.cons (.lit (.int 1)) (.cons (.tup (.cons (.tup (.cons (.tup (.cons (.lit (.str "tie")) (.cons (.lit (.int 0)) .nil))) (.cons (.tup (.cons (.lit (.str "tie")) (.cons (.lit (.int 0)) (.cons (.lit (.bl true)) .nil)))) .nil))) (.cons (.tup (.cons (.tup (.cons (.lit (.str "kind")) (.cons (.lit (.int 0)) .nil))) (.cons (.tup (.cons (.lit (.str "kind")) (.cons (.lit (.int 0)) (.cons (.lit (.int 1)) .nil)))) .nil))) .nil))) .nil)))) .nil)))
  (.cons (.ret (.bin .add (.slot 0) (.lst (.cons (.tup (.cons (.lit (.int 1)) (.cons (.tup (.cons (.tup (.cons (.lit (.str "kind")) (.cons (.lit (.int 0)) (.cons (.lit (.int 0)) .nil)))) .nil)) .nil))) .nil))))
  .nil))))))
/-- _law_making_right -/
def n82 : List Str := ["_law_given", "_law_due", "_law_more", "_law_one", "_law_two", "_law_three", "_law_four", "_law_five", "_law_store", "_law_kind_here", "_law_tie", "_law_book"]
def b82 : Ss := (.cons (.set (.tup (.cons (.name 3) (.cons (.name 4) (.cons (.name 5) (.cons (.name 6) (.cons (.name 7) (.cons (.name 8) .nil))))))) (.call 81 .nil))
  (.cons (.set (.tup (.cons (.name 9) (.cons (.name 10) .nil))) (.tup (.cons (.tup (.cons (.lit (.str "kind")) (.cons (.lit (.int 0)) .nil))) (.cons (.tup (.cons (.lit (.str "tie")) (.cons (.lit (.int 0)) .nil))) .nil))))
  (.cons (.set (.name 0) (.lst (.cons (.call 35 (.cons (.slot 4) (.cons (.slot 9) .nil))) (.cons (.call 35 (.cons (.slot 6) (.cons (.slot 10) .nil))) (.cons (.call 35 (.cons (.slot 7) (.cons (.slot 10) .nil))) (.cons (.call 35 (.cons (.slot 7) (.cons (.slot 9) .nil))) .nil))))))
  (.cons (.set (.name 1) (.lst (.cons (.lst (.cons (.tup (.cons (.lit (.str "kind")) (.cons (.lit (.int 0)) (.cons (.lit (.int 0)) .nil)))) .nil)) (.cons (.lst (.cons (.tup (.cons (.lit (.str "kind")) (.cons (.lit (.int 1)) (.cons (.lit (.int 1)) .nil)))) (.cons (.tup (.cons (.lit (.str "tie")) (.cons (.lit (.int 0)) (.cons (.lit (.int 0)) (.cons (.lit (.int 1)) .nil))))) .nil))) (.cons (.lst (.cons (.tup (.cons (.lit (.str "tie")) (.cons (.lit (.int 0)) (.cons (.lit (.int 0)) (.cons (.lit (.int 1)) .nil))))) (.cons (.tup (.cons (.lit (.str "tie")) (.cons (.lit (.int 0)) (.cons (.lit (.int 1)) (.cons (.lit (.int 0)) .nil))))) .nil))) .nil)))))
  (.cons (.ite (.not (.call 80 (.cons (.slot 0) (.cons (.bin .add (.slot 1) (.lst (.cons (.lst (.cons (.tup (.cons (.lit (.str "kind")) (.cons (.lit (.int 0)) (.cons (.lit (.int 0)) .nil)))) (.cons (.tup (.cons (.lit (.str "kind")) (.cons (.lit (.int 1)) (.cons (.lit (.int 0)) .nil)))) .nil))) .nil))) .nil)))) (.cons (.ret (.lit (.bl false)))
  .nil) .nil)
  (.cons (.set (.name 0) (.lst (.cons (.call 36 (.cons (.slot 3) .nil)) (.cons (.call 36 (.cons (.slot 4) .nil)) (.cons (.call 36 (.cons (.slot 5) .nil)) (.cons (.call 36 (.cons (.slot 6) .nil)) (.cons (.call 37 (.cons (.slot 4) (.cons (.lit (.int 0)) .nil))) (.cons (.call 37 (.cons (.slot 6) (.cons (.lit (.int 1)) .nil))) .nil))))))))
  (.cons (.ite (.not (.call 80 (.cons (.slot 0) (.cons (.lst (.cons (.lst (.cons (.tup (.cons (.lit (.int 0)) (.cons (.lit (.int 0)) .nil))) .nil)) (.cons (.lst .nil) (.cons (.lst (.cons (.tup (.cons (.lit (.int 0)) (.cons (.lit (.int 0)) .nil))) (.cons (.tup (.cons (.lit (.int 0)) (.cons (.lit (.int 1)) .nil))) (.cons (.tup (.cons (.lit (.int 1)) (.cons (.lit (.int 0)) .nil))) (.cons (.tup (.cons (.lit (.int 1)) (.cons (.lit (.int 1)) .nil))) .nil))))) (.cons (.lst (.cons (.tup (.cons (.lit (.int 1)) (.cons (.lit (.int 1)) .nil))) .nil)) (.cons (.lst (.cons (.lit (.int 1)) .nil)) (.cons (.lst (.cons (.lit (.int 1)) .nil)) .nil))))))) .nil)))) (.cons (.ret (.lit (.bl false)))
  .nil) .nil)
  (.cons (.set (.name 0) (.lst (.cons (.call 47 (.cons (.slot 3) .nil)) (.cons (.call 47 (.cons (.slot 4) .nil)) (.cons (.call 47 (.cons (.slot 6) .nil)) (.cons (.call 48 (.cons (.slot 3) (.cons (.slot 8) .nil))) (.cons (.call 48 (.cons (.slot 3) (.cons (.tup (.cons (.lit (.int 2)) (.cons (.tup .nil) .nil))) .nil))) (.cons (.call 49 (.cons (.slot 4) (.cons (.slot 8) .nil))) .nil))))))))
  (.cons (.ite (.or (.not (.call 80 (.cons (.slot 0) (.cons (.lst (.cons (.tup (.cons (.lit (.int 0)) .nil)) (.cons (.lit .non) (.cons (.tup (.cons (.lit (.int 1)) .nil)) (.cons (.lit (.bl false)) (.cons (.lit (.bl true)) (.cons (.lit (.int 1)) .nil))))))) .nil)))) (.isn true (.call 49 (.cons (.slot 3) (.cons (.slot 8) .nil))))) (.cons (.ret (.lit (.bl false)))
  .nil) .nil)
  (.cons (.set (.name 0) (.lst (.cons (.call 49 (.cons (.slot 4) (.cons (.tup (.cons (.lit (.int 2)) (.cons (.tup (.cons (.tup (.cons (.lit (.str "kind")) (.cons (.lit (.int 0)) (.cons (.lit (.int 0)) .nil)))) (.cons (.tup (.cons (.lit (.str "kind")) (.cons (.lit (.int 0)) (.cons (.lit (.int 1)) .nil)))) .nil))) .nil))) .nil))) (.cons (.call 50 (.cons (.slot 5) (.cons (.slot 8) (.cons (.lit (.int 10)) .nil)))) .nil))))
  (.cons (.set (.name 0) (.bin .add (.slot 0) (.lst (.cons (.call 50 (.cons (.slot 6) (.cons (.tup (.cons (.lit (.int 2)) (.cons (.tup (.cons (.tup (.cons (.lit (.str "tie")) (.cons (.lit (.int 0)) (.cons (.lit (.int 0)) (.cons (.lit (.int 1)) .nil))))) .nil)) .nil))) (.cons (.lit (.int 300)) .nil)))) (.cons (.call 51 (.cons (.slot 4) (.cons (.slot 8) .nil))) (.cons (.call 51 (.cons (.call 17 (.cons (.slot 5) (.cons (.lit (.int 0)) .nil))) (.cons (.tup (.cons (.lit (.int 1)) (.cons (.tup .nil) .nil))) .nil))) .nil))))))
  (.cons (.ite (.not (.call 80 (.cons (.slot 0) (.cons (.lst (.cons (.lit (.int 2)) (.cons (.lit (.int 1024)) (.cons (.lit (.int 1)) (.cons (.lst (.cons (.tup (.cons (.lit (.int 0)) (.cons (.tup (.cons (.lit (.int 0)) .nil)) .nil))) .nil)) (.cons (.lst .nil) .nil)))))) .nil)))) (.cons (.ret (.lit (.bl false)))
  .nil) .nil)
  (.cons (.set (.name 2) (.tup (.cons (.lit (.int 2)) (.cons (.lit (.int 1)) (.cons (.bin .add (.idx (.slot 4) (.lit (.int 2))) (.tup (.cons (.tup (.cons (.tup (.cons (.lit (.str "kind")) (.cons (.lit (.int 1)) .nil))) (.cons (.tup (.cons (.lit (.str "new")) (.cons (.lit (.int 0)) (.cons (.lit (.int 0)) (.cons (.lit (.str "from")) (.cons (.tup .nil) .nil)))))) .nil))) .nil))) .nil)))))
  (.cons (.ite (.not (.call 80 (.cons (.call 51 (.cons (.slot 2) (.cons (.slot 8) .nil))) (.cons (.lst (.cons (.tup (.cons (.lit (.int 0)) (.cons (.tup (.cons (.lit (.int 0)) .nil)) .nil))) (.cons (.tup (.cons (.lit (.int 0)) (.cons (.tup (.cons (.lit (.int 0)) (.cons (.lit (.int 1)) .nil))) .nil))) .nil))) .nil)))) (.cons (.ret (.lit (.bl false)))
  .nil) .nil)
  (.cons (.set (.name 0) (.lst (.cons (.call 58 (.cons (.slot 3) (.cons (.slot 9) .nil))) (.cons (.call 58 (.cons (.slot 4) (.cons (.slot 9) .nil))) (.cons (.call 58 (.cons (.slot 5) (.cons (.slot 9) .nil))) (.cons (.call 58 (.cons (.slot 6) (.cons (.slot 10) .nil))) (.cons (.call 58 (.cons (.slot 6) (.cons (.slot 9) .nil))) .nil)))))))
  (.cons (.set (.name 1) (.lst (.cons (.tup (.cons (.lit (.str "power")) (.cons (.lit (.int 0)) .nil))) (.cons (.tup (.cons (.lit (.str "ends")) (.cons (.lit (.int 1)) .nil))) (.cons (.tup (.cons (.lit (.str "doubling")) (.cons (.lit (.int 0)) .nil))) (.cons (.tup (.cons (.lit (.str "power")) (.cons (.lit (.int 0)) .nil))) (.cons (.tup (.cons (.lit (.str "ends")) (.cons (.lit (.int 0)) .nil))) .nil)))))))
  (.cons (.ite (.not (.call 80 (.cons (.bin .add (.slot 0) (.lst (.cons (.call 58 (.cons (.slot 7) (.cons (.slot 10) .nil))) .nil))) (.cons (.bin .add (.slot 1) (.lst (.cons (.tup (.cons (.lit (.str "ends")) (.cons (.lit (.int 0)) .nil))) .nil))) .nil)))) (.cons (.ret (.lit (.bl false)))
  .nil) .nil)
  (.cons (.ret (.call 80 (.cons (.lc (.call 59 (.cons (.slot 11) .nil)) (.name 11) (.ex (.tup (.cons (.slot 3) (.cons (.slot 4) (.cons (.slot 5) (.cons (.slot 6) .nil)))))) (.lit (.bl true)) [11]) (.cons (.lst (.cons (.lst (.cons (.tup (.cons (.lit (.int 0)) .nil)) .nil)) (.cons (.lst (.cons (.tup .nil) .nil)) (.cons (.lst (.cons (.tup (.cons (.lit (.int 0)) (.cons (.lit (.int 1)) .nil))) .nil)) (.cons (.lst (.cons (.tup (.cons (.lit (.int 0)) .nil)) (.cons (.tup (.cons (.lit (.int 1)) .nil)) .nil))) .nil))))) .nil))))
  .nil))))))))))))))))))
/-- _law_saying_right -/
def n83 : List Str := ["_law_six", "_law_given", "_law_far", "_law_one", "_law_two", "_law_three", "_law_four", "_law_five", "_law_store", "_law_kind_here", "_law_new"]
def b83 : Ss := (.cons (.set (.tup (.cons (.name 3) (.cons (.name 4) (.cons (.name 5) (.cons (.name 6) (.cons (.name 7) (.cons (.name 8) .nil))))))) (.call 81 .nil))
  (.cons (.set (.tup (.cons (.name 9) (.cons (.name 10) .nil))) (.tup (.cons (.tup (.cons (.lit (.str "kind")) (.cons (.lit (.int 0)) .nil))) (.cons (.tup (.cons (.lit (.str "new")) (.cons (.lit (.int 0)) (.cons (.lit (.int 0)) (.cons (.lit (.str "to")) (.cons (.tup .nil) .nil)))))) .nil))))
  (.cons (.set (.name 0) (.tup (.cons (.lit (.int 2)) (.cons (.lit (.int 1)) (.cons (.bin .add (.idx (.slot 4) (.lit (.int 2))) (.tup (.cons (.tup (.cons (.slot 9) (.cons (.slot 10) .nil))) .nil))) .nil)))))
  (.cons (.set (.name 1) (.lst (.cons (.call 72 (.cons (.slot 4) (.cons (.tup (.cons (.slot 9) (.cons (.slot 10) .nil))) .nil))) (.cons (.call 72 (.cons (.slot 4) (.cons (.tup (.cons (.slot 9) (.cons (.tup (.cons (.lit (.str "kind")) (.cons (.lit (.int 0)) (.cons (.lit (.int 1)) .nil)))) .nil))) .nil))) (.cons (.call 74 (.cons (.slot 4) (.cons (.slot 0) .nil))) (.cons (.call 75 (.cons (.slot 4) (.cons (.slot 0) .nil))) .nil))))))
  (.cons (.set (.name 1) (.bin .add (.slot 1) (.lst (.cons (.call 73 (.cons (.slot 4) (.cons (.slot 7) .nil))) (.cons (.call 75 (.cons (.slot 4) (.cons (.slot 7) .nil))) (.cons (.call 76 (.cons (.slot 0) .nil)) (.cons (.call 76 (.cons (.slot 5) .nil)) .nil)))))))
  (.cons (.ite (.not (.call 80 (.cons (.slot 1) (.cons (.lst (.cons (.lit (.bl true)) (.cons (.lit (.bl false)) (.cons (.lit (.bl true)) (.cons (.lit .non) (.cons (.lit (.bl false)) (.cons (.tup (.cons (.lit (.int 0)) (.cons (.lit (.int 0)) .nil))) (.cons (.lst (.cons (.lit (.int 1)) .nil)) (.cons (.lst .nil) .nil))))))))) .nil)))) (.cons (.ret (.lit (.bl false)))
  .nil) .nil)
  (.cons (.ite (.not (.call 72 (.cons (.slot 7) (.cons (.tup (.cons (.tup (.cons (.lit (.str "tie")) (.cons (.lit (.int 0)) .nil))) (.cons (.tup (.cons (.lit (.str "new")) (.cons (.lit (.int 1)) (.cons (.lit (.int 0)) (.cons (.lit (.str "to")) (.cons (.tup .nil) .nil)))))) .nil))) .nil)))) (.cons (.ret (.lit (.bl false)))
  .nil) .nil)
  (.cons (.set (.name 2) (.tup (.cons (.tup (.cons (.lit (.int 0)) .nil)) (.cons (.bin .mul (.tup (.cons (.tup (.cons (.lit (.int 0)) (.cons (.lit (.str "to")) (.cons (.tup (.cons (.lit (.int 0)) .nil)) .nil)))) .nil)) (.lit (.int 3))) .nil))))
  (.cons (.set (.name 1) (.mlst (.cons (.call 66 (.cons (.slot 3) (.cons (.slot 8) (.cons (.slot 2) .nil)))) (.cons (.call 66 (.cons (.slot 4) (.cons (.slot 8) (.cons (.slot 2) .nil)))) (.cons (.call 66 (.cons (.slot 4) (.cons (.slot 8) (.cons (.tup (.cons (.tup (.cons (.lit (.int 0)) .nil)) (.cons (.tup (.cons (.tup (.cons (.lit (.int 0)) (.cons (.lit (.str "to")) (.cons (.tup (.cons (.lit (.int 1)) .nil)) .nil)))) .nil)) .nil))) .nil)))) .nil)))))
  (.cons (.ex (.mt .append (.slot 1) (.cons (.call 66 (.cons (.slot 5) (.cons (.slot 8) (.cons (.tup (.cons (.tup .nil) (.cons (.tup (.cons (.tup (.cons (.lit (.int 0)) (.cons (.lit (.str "from")) (.cons (.tup .nil) .nil)))) (.cons (.tup (.cons (.lit (.int 0)) (.cons (.lit (.str "from")) (.cons (.tup .nil) .nil)))) .nil))) .nil))) .nil)))) .nil)))
  (.cons (.ex (.mt .append (.slot 1) (.cons (.call 66 (.cons (.slot 6) (.cons (.tup (.cons (.lit (.int 1)) (.cons (.tup (.cons (.tup (.cons (.lit (.str "tie")) (.cons (.lit (.int 0)) (.cons (.lit (.int 0)) (.cons (.lit (.int 0)) .nil))))) .nil)) .nil))) (.cons (.tup (.cons (.tup (.cons (.lit (.int 1)) .nil)) (.cons (.tup (.cons (.tup (.cons (.lit (.int 0)) (.cons (.lit (.str "to")) (.cons (.tup (.cons (.lit (.int 1)) .nil)) .nil)))) .nil)) .nil))) .nil)))) .nil)))
  (.cons (.ex (.mt .append (.slot 1) (.cons (.call 67 (.cons (.slot 7) (.cons (.tup (.cons (.lit (.int 2)) (.cons (.tup (.cons (.tup (.cons (.lit (.str "tie")) (.cons (.lit (.int 0)) (.cons (.lit (.int 0)) (.cons (.lit (.int 1)) .nil))))) .nil)) .nil))) .nil))) .nil)))
  (.cons (.ite (.not (.call 80 (.cons (.slot 1) (.cons (.lst (.cons (.lit (.bl true)) (.cons (.lit (.bl false)) (.cons (.lit (.bl true)) (.cons (.lit (.bl true)) (.cons (.lit (.bl true)) (.cons (.lst (.cons (.tup (.cons (.lit (.int 0)) (.cons (.lit (.int 0)) (.cons (.lit (.int 1)) .nil)))) (.cons (.tup (.cons (.lit (.int 0)) (.cons (.lit (.int 1)) (.cons (.lit (.int 0)) .nil)))) .nil))) .nil))))))) .nil)))) (.cons (.ret (.lit (.bl false)))
  .nil) .nil)
  (.cons (.ret (.and (.call 15 (.cons (.slot 6) .nil)) (.and (.call 16 (.cons (.slot 3) (.cons (.slot 8) .nil))) (.not (.call 16 (.cons (.slot 3) (.cons (.tup (.cons (.lit (.int 1)) (.cons (.tup (.cons (.tup (.cons (.lit (.str "tie")) (.cons (.lit (.int 0)) (.cons (.lit (.int 0)) (.cons (.lit (.int 1)) .nil))))) .nil)) .nil))) .nil)))))))
  .nil))))))))))))))
/-- _law_chain_right -/
def n84 : List Str := ["_law_size", "_law_closed_so", "_law_rules", "_law_at", "_law_given", "_law_book", "_law_store", "_law_lots"]
def b84 : Ss := (.cons (.set (.name 2) (.tup .nil))
  (.cons (.for_ (.name 3) (.range (.bin .add (.bin .sub (.slot 0) (.lit (.int 1))) (.bi .int (.cons (.slot 1) .nil)))) (.cons (.set (.name 2) (.bin .add (.slot 2) (.tup (.cons (.tup (.cons (.tup (.cons (.lit (.str "kind")) (.cons (.slot 3) .nil))) (.cons (.tup (.cons (.lit (.str "new")) (.cons (.lit (.int 0)) (.cons (.lit (.int 0)) (.cons (.lit (.str "to")) (.cons (.tup (.cons (.bin .mod (.bin .add (.slot 3) (.lit (.int 1))) (.slot 0)) .nil)) .nil)))))) .nil))) .nil))))
  .nil))
  (.cons (.par [5, 6] (.cons (.tup (.cons (.slot 0) (.cons (.lit (.int 1)) (.cons (.slot 2) .nil)))) (.cons (.tup (.cons (.lit (.int 1)) (.cons (.tup (.cons (.tup (.cons (.lit (.str "kind")) (.cons (.lit (.int 0)) (.cons (.lit (.int 0)) .nil)))) .nil)) .nil))) .nil)))
  (.cons (.ite (.slot 1) (.cons (.set (.name 4) (.lst (.cons (.call 58 (.cons (.slot 5) (.cons (.tup (.cons (.lit (.str "kind")) (.cons (.lit (.int 0)) .nil))) .nil))) (.cons (.call 50 (.cons (.slot 5) (.cons (.slot 6) (.cons (.lit (.int 299)) .nil)))) (.cons (.bi .sorted (.cons (.call 47 (.cons (.slot 5) .nil)) .nil)) (.cons (.call 59 (.cons (.slot 5) .nil)) .nil))))))
  (.cons (.set (.name 7) (.lc (.tup (.cons (.slot 3) .nil)) (.name 3) (.range (.slot 0)) (.lit (.bl true)) [3]))
  (.cons (.ret (.call 80 (.cons (.slot 4) (.cons (.lst (.cons (.tup (.cons (.lit (.str "power")) (.cons (.lit (.int 0)) .nil))) (.cons (.lit (.int 1)) (.cons (.sp .listRg (.slot 0)) (.cons (.slot 7) .nil))))) .nil))))
  .nil))) .nil)
  (.cons (.set (.name 4) (.lst (.cons (.call 58 (.cons (.slot 5) (.cons (.tup (.cons (.lit (.str "kind")) (.cons (.lit (.int 0)) .nil))) .nil))) (.cons (.call 49 (.cons (.slot 5) (.cons (.slot 6) .nil))) (.cons (.call 47 (.cons (.slot 5) .nil)) (.cons (.call 59 (.cons (.slot 5) .nil)) (.cons (.call 76 (.cons (.slot 5) .nil)) .nil)))))))
  (.cons (.ret (.call 80 (.cons (.slot 4) (.cons (.lst (.cons (.tup (.cons (.lit (.str "ends")) (.cons (.bin .sub (.slot 0) (.lit (.int 1))) .nil))) (.cons (.bin .sub (.slot 0) (.lit (.int 1))) (.cons (.lit .non) (.cons (.lst (.cons (.tup .nil) .nil)) (.cons (.lst .nil) .nil)))))) .nil))))
  .nil))))))
/-- _law_gift_right -/
def n85 : List Str := ["_law_way", "_law_who", "_law_rules", "_law_given", "_law_due", "_law_back", "_law_book", "_law_store"]
def b85 : Ss := (.cons (.set (.name 1) (.ife (.cmp .eq (.slot 0) (.lit (.str "to"))) (.lit (.int 0)) (.lit (.int 1))))
  (.cons (.set (.name 2) (.tup (.cons (.tup (.cons (.tup (.cons (.lit (.str "kind")) (.cons (.lit (.int 0)) .nil))) (.cons (.tup (.cons (.lit (.str "new")) (.cons (.lit (.int 0)) (.cons (.lit (.int 0)) (.cons (.slot 0) (.cons (.tup .nil) .nil)))))) .nil))) (.cons (.tup (.cons (.tup (.cons (.lit (.str "tie")) (.cons (.lit (.int 0)) .nil))) (.cons (.tup (.cons (.lit (.str "kind")) (.cons (.slot 1) (.cons (.lit (.int 1)) .nil)))) .nil))) .nil))))
  (.cons (.set (.name 2) (.bin .add (.slot 2) (.tup (.cons (.tup (.cons (.tup (.cons (.lit (.str "kind")) (.cons (.lit (.int 1)) .nil))) (.cons (.tup (.cons (.lit (.str "new")) (.cons (.lit (.int 0)) (.cons (.lit (.int 1)) (.cons (.slot 0) (.cons (.tup .nil) .nil)))))) .nil))) .nil))))
  (.cons (.par [6, 7] (.cons (.tup (.cons (.lit (.int 2)) (.cons (.lit (.int 2)) (.cons (.slot 2) .nil)))) (.cons (.tup (.cons (.lit (.int 1)) (.cons (.tup (.cons (.tup (.cons (.lit (.str "kind")) (.cons (.lit (.int 0)) (.cons (.lit (.int 0)) .nil)))) .nil)) .nil))) .nil)))
  (.cons (.set (.name 3) (.lst (.cons (.call 35 (.cons (.slot 6) (.cons (.tup (.cons (.lit (.str "kind")) (.cons (.lit (.int 0)) .nil))) .nil))) (.cons (.call 49 (.cons (.slot 6) (.cons (.slot 7) .nil))) (.cons (.call 51 (.cons (.slot 6) (.cons (.slot 7) .nil))) (.cons (.call 58 (.cons (.slot 6) (.cons (.tup (.cons (.lit (.str "tie")) (.cons (.lit (.int 0)) .nil))) .nil))) .nil))))))
  (.cons (.set (.name 4) (.lst (.cons (.lst (.cons (.tup (.cons (.lit (.str "kind")) (.cons (.lit (.int 0)) (.cons (.lit (.int 0)) .nil)))) (.cons (.tup (.cons (.lit (.str "kind")) (.cons (.lit (.int 1)) (.cons (.lit (.int 0)) .nil)))) .nil))) (.cons (.lit (.int 2)) (.cons (.lst (.cons (.tup (.cons (.lit (.int 0)) (.cons (.tup (.cons (.lit (.int 0)) .nil)) .nil))) (.cons (.tup (.cons (.lit (.int 0)) (.cons (.tup (.cons (.lit (.int 2)) .nil)) .nil))) .nil))) (.cons (.tup (.cons (.lit (.str "ends")) (.cons (.lit (.int 1)) .nil))) .nil))))))
  (.cons (.ite (.or (.not (.call 80 (.cons (.slot 3) (.cons (.slot 4) .nil)))) (.cmp .ne (.call 36 (.cons (.slot 6) .nil)) (.lst .nil))) (.cons (.ret (.lit (.bl false)))
  .nil) .nil)
  (.cons (.set (.name 5) (.tup (.cons (.lit (.int 2)) (.cons (.lit (.int 2)) (.cons (.tup (.cons (.idx (.slot 2) (.lit (.int 0))) (.cons (.tup (.cons (.tup (.cons (.lit (.str "tie")) (.cons (.lit (.int 0)) .nil))) (.cons (.tup (.cons (.lit (.str "kind")) (.cons (.bin .sub (.lit (.int 1)) (.slot 1)) (.cons (.lit (.int 0)) .nil)))) .nil))) .nil))) .nil)))))
  (.cons (.ret (.call 80 (.cons (.lst (.cons (.call 58 (.cons (.slot 5) (.cons (.tup (.cons (.lit (.str "kind")) (.cons (.lit (.int 0)) .nil))) .nil))) (.cons (.call 36 (.cons (.slot 5) .nil)) .nil))) (.cons (.lst (.cons (.tup (.cons (.lit (.str "power")) (.cons (.lit (.int 0)) .nil))) (.cons (.lst (.cons (.tup (.cons (.lit (.int 0)) (.cons (.lit (.int 0)) .nil))) .nil)) .nil))) .nil))))
  .nil)))))))))
/-- law -/
def n86 : List Str := ["_law_script", "_law_at", "_law_spring_here"]
def b86 : Ss := (.cons (.for_ (.name 1) (.range (.bin .add (.bi .min2 (.cons (.bi .len (.cons (.slot 0) .nil)) (.cons (.lit (.int 4)) .nil))) (.lit (.int 1)))) (.cons (.set (.name 2) (.call 77 (.cons (.slot 0) (.cons (.slot 1) .nil))))
  (.cons (.ite (.not (.call 84 (.cons (.bin .add (.lit (.int 1)) (.call 78 (.cons (.slot 2) (.cons (.lit (.int 4)) .nil)))) (.cons (.cmp .eq (.call 78 (.cons (.slot 2) (.cons (.lit (.int 2)) .nil))) (.lit (.int 0))) .nil)))) (.cons (.ret (.lit (.bl false)))
  .nil) .nil)
  (.cons (.ite (.not (.call 85 (.cons (.idx (.lst (.cons (.lit (.str "to")) (.cons (.lit (.str "from")) .nil))) (.call 78 (.cons (.slot 2) (.cons (.lit (.int 2)) .nil)))) .nil))) (.cons (.ret (.lit (.bl false)))
  .nil) .nil)
  .nil))))
  (.cons (.ret (.and (.call 82 .nil) (.call 83 .nil)))
  .nil))
def ds0_ : List (List Str × Nat × Ss) := [(n0, 3, b0), (n1, 3, b1), (n2, 2, b2), (n3, 2, b3), (n4, 3, b4), (n5, 4, b5), (n6, 3, b6), (n7, 1, b7), (n8, 4, b8), (n9, 2, b9), (n10, 1, b10), (n11, 2, b11), (n12, 2, b12), (n13, 2, b13), (n14, 2, b14), (n15, 1, b15), (n16, 2, b16), (n17, 2, b17), (n18, 2, b18), (n19, 2, b19), (n20, 2, b20), (n21, 1, b21), (n22, 1, b22), (n23, 2, b23), (n24, 2, b24)]
def ds1_ : List (List Str × Nat × Ss) := [(n25, 2, b25), (n26, 2, b26), (n27, 3, b27), (n28, 1, b28), (n29, 2, b29), (n30, 1, b30), (n31, 1, b31), (n32, 1, b32), (n33, 1, b33), (n34, 2, b34), (n35, 2, b35), (n36, 1, b36), (n37, 2, b37), (n38, 2, b38), (n39, 2, b39), (n40, 1, b40), (n41, 2, b41), (n42, 2, b42), (n43, 3, b43), (n44, 2, b44), (n45, 2, b45), (n46, 2, b46), (n47, 1, b47), (n48, 2, b48), (n49, 2, b49)]
def ds2_ : List (List Str × Nat × Ss) := [(n50, 3, b50), (n51, 2, b51), (n52, 2, b52), (n53, 2, b53), (n54, 2, b54), (n55, 1, b55), (n56, 2, b56), (n57, 1, b57), (n58, 2, b58), (n59, 1, b59), (n60, 2, b60), (n61, 2, b61), (n62, 2, b62), (n63, 3, b63), (n64, 2, b64), (n65, 3, b65), (n66, 3, b66), (n67, 2, b67), (n68, 3, b68), (n69, 2, b69), (n70, 2, b70), (n71, 2, b71), (n72, 2, b72), (n73, 2, b73), (n74, 2, b74)]
def ds3_ : List (List Str × Nat × Ss) := [(n75, 2, b75), (n76, 1, b76), (n77, 2, b77), (n78, 2, b78), (n79, 1, b79), (n80, 2, b80), (n81, 0, b81), (n82, 0, b82), (n83, 0, b83), (n84, 2, b84), (n85, 1, b85), (n86, 1, b86)]
def ds : List (List Str × Nat × Ss) := ds0_ ++ ds1_ ++ ds2_ ++ ds3_
def fns0_ : List (Str × (Nat × Nat)) := [("is_within", (0, 3)), ("is_wide", (1, 3)), ("is_word", (2, 2)), ("are_kinds", (3, 2)), ("is_pattern", (4, 3)), ("is_then", (5, 4)), ("is_rule", (6, 3)), ("is_fit", (7, 1)), ("is_fact", (8, 4)), ("is_store_of", (9, 2)), ("look_at_book", (10, 1)), ("look_at_store", (11, 2)), ("look_at_lone_store", (12, 2)), ("look_at_index", (13, 2)), ("less_by", (14, 2)), ("is_book", (15, 1)), ("is_store", (16, 2)), ("without", (17, 2)), ("tied_items", (18, 2)), ("next_tied", (19, 2)), ("of_thing", (20, 2)), ("ties_in", (21, 1)), ("first_tie", (22, 1)), ("child_ties", (23, 2)), ("child_items", (24, 2))]
def fns1_ : List (Str × (Nat × Nat)) := [("next_items", (25, 2)), ("closed", (26, 2)), ("thing_items", (27, 3)), ("pattern_store", (28, 1)), ("facts_by", (29, 2)), ("makes", (30, 1)), ("kinds_in", (31, 1)), ("makers", (32, 1)), ("followers", (33, 1)), ("look_at_pattern", (34, 2)), ("becomes", (35, 2)), ("follows", (36, 1)), ("kinds_of", (37, 2)), ("behind", (38, 2)), ("ring_from", (39, 2)), ("ring_by", (40, 1)), ("firsts", (41, 2)), ("is_ended", (42, 2)), ("counts_by", (43, 3)), ("number_by", (44, 2)), ("all_firsts", (45, 2)), ("made_by", (46, 2)), ("ring", (47, 1)), ("ends", (48, 2)), ("count_made", (49, 2))]
def fns2_ : List (Str × (Nat × Nat)) := [("count_at", (50, 3)), ("made", (51, 2)), ("ring_of", (52, 2)), ("rings_behind", (53, 2)), ("growth_by", (54, 2)), ("lots_of", (55, 1)), ("struck", (56, 2)), ("strikes_by", (57, 1)), ("growth", (58, 2)), ("strikes", (59, 1)), ("is_step", (60, 2)), ("is_question", (61, 2)), ("loops_of", (62, 2)), ("piece_of", (63, 3)), ("holds_in", (64, 2)), ("holds_by", (65, 3)), ("holds", (66, 3)), ("pairs_tied", (67, 2)), ("has_thing", (68, 3)), ("is_so_by", (69, 2)), ("lacking", (70, 2)), ("look_at_two", (71, 2)), ("is_so", (72, 2)), ("says_all", (73, 2)), ("same", (74, 2))]
def fns3_ : List (Str × (Nat × Nat)) := [("parting", (75, 2)), ("idle_rules", (76, 1)), ("_law_spring", (77, 2)), ("_law_pick", (78, 2)), ("_law_kind", (79, 1)), ("_law_twins", (80, 2)), ("_law_known", (81, 0)), ("_law_making_right", (82, 0)), ("_law_saying_right", (83, 0)), ("_law_chain_right", (84, 2)), ("_law_gift_right", (85, 1)), ("law", (86, 1))]
def fns : List (Str × (Nat × Nat)) := fns0_ ++ fns1_ ++ fns2_ ++ fns3_
def cns0_ : List (Str × Int) := [("MOST_RULES", 6), ("MOST_MADE", 500), ("MOST_DEPTH", 300), ("MOST_STEPS", 3)]
def cns : List (Str × Int) := cns0_
def exs0_ : List (Str × Nat) := [("MakerError", 0), ("InvalidBook", 1), ("InvalidStore", 2), ("InvalidPattern", 3), ("InvalidRule", 4), ("InvalidIndex", 5), ("InvalidNumber", 6), ("InvalidQuestion", 7), ("Endless", 8), ("Unlike", 9), ("TooMany", 10)]
def exs : List (Str × Nat) := exs0_
end K12
end

section
set_option linter.all false
set_option maxRecDepth 100000
set_option Elab.async false
set_option maxHeartbeats 0
namespace K12
open PySem PySem.Spec PyProof.Rows PP L2
def tb : Tb := ⟨fns, cns, ["len", "list", "tuple", "sorted", "all", "any", "sum", "abs", "min", "max", "int", "bool", "str", "isinstance", "range", "enumerate", "zip", "set"]⟩
def dF (i : Nat) : He.DefD := match PySem.Challenge.pw_thingmakers_k12_whole_facts_of_makers.main.body.getD i (.Pass ⟨0, 0, 0, 0⟩) with
  | .FunctionDef n a b _ _ _ sc _ _ _ => ⟨(n, none), n, n, a, b, sc, [], []⟩
  | _ => ⟨("", none), "", "", ⟨[], [], none, [], [], none, []⟩, [], ⟨.function, [], false, false, []⟩, [], []⟩
def fnp0 : List He.DefD := [dF 14, dF 15, dF 16, dF 17, dF 18, dF 19, dF 20, dF 21, dF 22, dF 23, dF 24, dF 25, dF 26, dF 27, dF 28, dF 29, dF 30, dF 31, dF 33, dF 34, dF 35, dF 36, dF 37, dF 38, dF 39, dF 40, dF 41, dF 42, dF 43, dF 44]
def fnp1 : List He.DefD := [dF 45, dF 46, dF 47, dF 48, dF 49, dF 50, dF 51, dF 52, dF 56, dF 57, dF 58, dF 59, dF 60, dF 61, dF 62, dF 63, dF 64, dF 65, dF 66, dF 67, dF 68, dF 69, dF 71, dF 72, dF 73, dF 74, dF 75, dF 76, dF 77, dF 78]
def fnp2 : List He.DefD := [dF 81, dF 82, dF 83, dF 84, dF 85, dF 86, dF 87, dF 88, dF 90, dF 91, dF 92, dF 93, dF 94, dF 95, dF 96, dF 97, dF 98, dF 100, dF 101, dF 102, dF 103, dF 104, dF 105, dF 106, dF 107, dF 108, dF 109]
def fn : List He.DefD := fnp0 ++ fnp1 ++ fnp2
def nm0 : List Str := ["is_within", "is_wide", "is_word", "are_kinds", "is_pattern", "is_then", "is_rule", "is_fit", "is_fact", "is_store_of", "look_at_book", "look_at_store", "look_at_lone_store", "look_at_index", "less_by", "is_book", "is_store", "without", "tied_items", "next_tied", "of_thing", "ties_in", "first_tie", "child_ties", "child_items", "next_items", "closed", "thing_items", "pattern_store", "facts_by"]
def nm1 : List Str := ["makes", "kinds_in", "makers", "followers", "look_at_pattern", "becomes", "follows", "kinds_of", "behind", "ring_from", "ring_by", "firsts", "is_ended", "counts_by", "number_by", "all_firsts", "made_by", "ring", "ends", "count_made", "count_at", "made", "ring_of", "rings_behind", "growth_by", "lots_of", "struck", "strikes_by", "growth", "strikes"]
def nm2 : List Str := ["is_step", "is_question", "loops_of", "piece_of", "holds_in", "holds_by", "holds", "pairs_tied", "has_thing", "is_so_by", "lacking", "look_at_two", "is_so", "says_all", "same", "parting", "idle_rules", "_law_spring", "_law_pick", "_law_kind", "_law_twins", "_law_known", "_law_making_right", "_law_saying_right", "_law_chain_right", "_law_gift_right", "MakerError", "InvalidBook", "InvalidStore", "InvalidPattern"]
def nm3 : List Str := ["InvalidRule", "InvalidIndex", "InvalidNumber", "InvalidQuestion", "Endless", "Unlike", "TooMany", "MOST_RULES", "MOST_MADE", "MOST_DEPTH", "MOST_STEPS"]
def nms : List Str := nm0 ++ nm1 ++ nm2 ++ nm3
theorem ck : tb.fns.all (ckA tb exs ds fn) = true := by decide +kernel
theorem cx : ckX exs = true := by decide +kernel
abbrev R : PySem.W.OpenRow := PySem.W.OpenLaw.row PySem.Challenge.rw_thingmakers_k12_whole_facts_of_makers
abbrev hk : PySem.W.Hook := He.hookD 2 (faOf tb exs) fn
def ob (s : PySem.W.SharedT) : He.AlD := He.obsDG 2 (faOf tb exs) fn (HandSHeadRun.getT s)
theorem ob_eq (s : PySem.W.SharedT) : ob s = hk.obs s.abs := He.obsDG_eq (HandSHeadRun.getT_eq s)
theorem run (w : World) : HandSHeadRun.RunEq R (PySem.W.view R.prog [109]) hk ob 6000 nms w := by
  intro os
  kernel_rfl
end K12
end

section
set_option linter.all false
set_option maxRecDepth 100000
set_option Elab.async false
set_option maxHeartbeats 0
open PySem PySem.W PySem.Calls PyProof.Rows
namespace K12
abbrev dLaw : DefRec := HandSHeadRun.topDef K12.R.prog 109
abbrev qv : Program := view K12.R.prog [109]
theorem h_open : opening R.prog = plainProg R.prog.main.scope.names := by kernel_rfl
theorem h_fence (s : Shared) : fenceModules? R.prog s = some s := by kernel_rfl
theorem h_def : defOf qv R.name = some (dLaw, []) := by kernel_rfl
theorem h_the : R.prog.theDef R.name = some (dLaw.params, dLaw.body, dLaw.scope) := by kernel_rfl
theorem h_kw : kwWritten? dLaw.params.kwonlyargs dLaw.params.kw_defaults = some [] := by kernel_rfl
theorem h_wr : (!R.writes || R.records.isEmpty) = true := by rfl
theorem h_ok : (chainsOk qv && opensWell R.prog && (frees R.toRowW && R.within.isEmpty)) = true := by decide +kernel
theorem h_b1 : R.prog.modules = [] := by kernel_rfl
theorem h_b2 : R.prog.parses = [] := by kernel_rfl
theorem h_b3 : R.prog.absent = [] := by kernel_rfl
theorem h_b4 : R.prog.harvested = [] := by kernel_rfl
theorem h_b5 : R.prog.given = { argv := [], stdin := [], environ := some Program.claimEnviron, cwd := none, tree := none, leftOut := [], nothingAt := [] } := by kernel_rfl
theorem h_b6 : R.prog.tablesWhole = true := by decide +kernel
theorem h_bare : R.prog.bare := ⟨h_b1, h_b2, h_b3, h_b4, h_b5, h_b6⟩
theorem h_wit : R.toRowW.promised := by w_witness2
theorem h_df : dLaw.params.defaults = [] := by kernel_rfl
theorem h_nm : dLaw.name = ("law" : PySem.Str) := by kernel_rfl
theorem h_l1 : tb.fns.lookup (PySem.Str.ofString "law") = some (86, 1) := by decide +kernel
theorem h_l2 : (ds[86]?).map (fun p => p.1.take 1) = some [(PySem.Str.ofString "_law_script")] := by decide +kernel
end K12
end

section
set_option linter.all false
set_option maxRecDepth 100000
set_option Elab.async false
set_option maxHeartbeats 2000000
namespace PP
/-! evaluation, step by step -/
theorem r_gt (i j : Int) (st : Sto) : cmpR .gt (.int i) (.int j) st = .ok (decide (j < i)) st := rfl
theorem r_ge (i j : Int) (st : Sto) : cmpR .ge (.int i) (.int j) st = .ok (decide (j ≤ i)) st := rfl
theorem r_le (i j : Int) (st : Sto) : cmpR .le (.int i) (.int j) st = .ok (decide (i ≤ j)) st := rfl
theorem r_lt (i j : Int) (st : Sto) : cmpR .lt (.int i) (.int j) st = .ok (decide (i < j)) st := rfl
theorem r_eq (i j : Int) (st : Sto) : cmpR .eq (.int i) (.int j) st = .ok (i == j) st := rfl
theorem r_add (i j : Int) (st : Sto) : binR .add (.int i) (.int j) st = .ok (.int (i + j)) st := rfl
theorem r_sub (i j : Int) (st : Sto) : binR .sub (.int i) (.int j) st = .ok (.int (i - j)) st := rfl
theorem r_mulR (i j : Int) (st : Sto) (h : -(2 ^ 64) < j ∧ j < 2 ^ 64) : binR .mul (.int i) (.int j) st = .ok (.int (i * j)) st := by
  show (if (decide (-(2 ^ 64) < i) && decide (i < 2 ^ 64) || decide (-(2 ^ 64) < j) && decide (j < 2 ^ 64)) = true then _ else _) = _
  rw [if_pos (by rw [decide_eq_true h.1, decide_eq_true h.2]; simp)]
theorem r_mulL (i j : Int) (st : Sto) (h : -(2 ^ 64) < i ∧ i < 2 ^ 64) : binR .mul (.int i) (.int j) st = .ok (.int (i * j)) st := by
  show (if (decide (-(2 ^ 64) < i) && decide (i < 2 ^ 64) || decide (-(2 ^ 64) < j) && decide (j < 2 ^ 64)) = true then _ else _) = _
  rw [if_pos (by rw [decide_eq_true h.1, decide_eq_true h.2]; simp)]
theorem r_mod (i j : Int) (st : Sto) (h : 0 < j) : binR .mod (.int i) (.int j) st = .ok (.int (i % j)) st := by
  show (if 0 < j then _ else _) = _
  rw [if_pos h]
theorem r_fdiv (i j : Int) (st : Sto) (h : 0 < j) (h2 : j < 2 ^ 64) : binR .fdiv (.int i) (.int j) st = .ok (.int (i / j)) st := by
  show (if 0 < j ∧ j < 2 ^ 64 then _ else _) = _
  rw [if_pos ⟨h, h2⟩]
theorem r_int (i : Int) (st : Sto) : biR .int [.int i] st = .ok (.int i) st := rfl
theorem r_abs (i : Int) (st : Sto) : biR .abs [.int i] st = .ok (.int (if i < 0 then -i else i)) st := rfl
theorem r_min2 (i j : Int) (st : Sto) : biR .min2 [.int i, .int j] st = .ok (.int (if j < i then j else i)) st := rfl
theorem r_lenF (xs : List D) (st : Sto) : biR .len [.frz xs] st = .ok (.int xs.length) st := rfl
theorem r_idxC {i : Nat} {xs : List D} {st : Sto} (h : st[i]? = some (.lst xs)) (k : Int) : idxR (.cel i) (.int k) st = ofO ((ixAt xs.length k).bind fun j => xs[j]?) st := by
  have e : deref (.cel i) st = .lst xs := by rw [deref_cel, h]
  unfold idxR
  rw [e]
theorem r_idxF (xs : List D) (k : Int) (st : Sto) : idxR (.frz xs) (.int k) st = ofO ((ixAt xs.length k).bind fun j => xs[j]?) st := rfl
theorem r_idxL (xs : List D) (k : Int) (st : Sto) : idxR (.lst xs) (.int k) st = ofO ((ixAt xs.length k).bind fun j => xs[j]?) st := rfl
theorem r_put {i : Nat} {xs : List D} {st : Sto} (h : st[i]? = some (.lst xs)) {k : Int} {j : Nat} (hj : ixAt xs.length k = some j) (v : D) : putR (.cel i) (.int k) v st = .ok () (st.set i (.lst (xs.set j v))) := by
  unfold putR
  simp only [h, hj]
theorem r_asB (b : Bool) (st : Sto) : asB (.bl b) st = .ok b st := rfl
theorem r_asI (b : Int) (st : Sto) : asI (.int b) st = .ok b st := rfl
theorem ix_nat {n k : Nat} (h : k < n) : ixAt n (k : Int) = some k := by
  unfold ixAt
  rw [if_pos (by omega), if_pos (by omega)]
  simp
end PP
namespace K12
open PySem PP
theorem pick_ok (n : Nat) {st : Sto} {i : Nat} {a b m : Int} (h : st[i]? = some (.lst [.int a, .int b])) (hm : 0 < m) (hm2 : m < 2 ^ 64) :
    ∃ r a' b', callN 64 (prgOf ds) (n + 1) 78 [.cel i, .int m] st = .ok (.int r) (st.set i (.lst [.int a', .int b'])) ∧ 0 ≤ r ∧ r < m := by
  have e : callN 64 (prgOf ds) (n + 1) 78 [.cel i, .int m] st = outR (exSs (callN 64 (prgOf ds) n) 64 b78 (startE 3 [.cel i, .int m]) st) := rfl
  have hil : i < st.length := (List.getElem?_eq_some_iff.mp h).1
  have hs : startE 3 [D.cel i, .int m] = [some (.cel i), some (.int m), none] := rfl
  have g0 : ∀ x y z : Option D, getS [x, y, z] 0 = x := fun _ _ _ => rfl
  have g1 : ∀ x y z : Option D, getS [x, y, z] 1 = y := fun _ _ _ => rfl
  have g2 : ∀ x y z : Option D, getS [x, y, z] 2 = z := fun _ _ _ => rfl
  have l0 : ∀ x y : D, ((ixAt [x, y].length 0).bind fun j => [x, y][j]?) = some x := fun _ _ => rfl
  have l1 : ∀ x y : D, ((ixAt [x, y].length 1).bind fun j => [x, y][j]?) = some y := fun _ _ => rfl
  have p0 : ∀ x y : D, ixAt [x, y].length 0 = some 0 := fun _ _ => rfl
  have p1 : ∀ x y : D, ixAt [x, y].length 1 = some 1 := fun _ _ => rfl
  rw [e, hs]
  by_cases ha : 0 < a
  · refine ⟨a % m, a / m, b, ?_, Int.emod_nonneg _ (by omega), Int.emod_lt_of_pos _ hm⟩
    simp only [b78, exSs, exS, ev, evs, g0, g1, g2, ofO_some, Res.bind_ok, r_idxC h, l0, l1, r_gt, ha, decide_true, r_asB, if_true, r_int, r_mod _ _ _ hm, r_fdiv _ _ _ hm hm2, r_put h (p0 _ _), List.set, asg, outR]
  · refine ⟨((b * 393555900739 + 8191) % 999999999989 / 4093) % m, a, (b * 393555900739 + 8191) % 999999999989, ?_, Int.emod_nonneg _ (by omega), Int.emod_lt_of_pos _ hm⟩
    have h2 : ∀ c : Cell, (st.set i c)[i]? = some c := fun c => List.getElem?_set_self hil
    simp only [b78, exSs, exS, ev, evs, g0, g1, g2, ofO_some, Res.bind_ok, r_idxC h, l0, l1, r_gt, ha, decide_false, r_asB, if_false, Bool.false_eq_true, r_int, r_mod _ _ _ hm, r_mulR _ 393555900739 _ (by decide), r_add, r_mod _ 999999999989 _ (by decide), r_put h (p1 _ _), List.set, asg, outR, r_idxC (h2 _), r_fdiv _ 4093 _ (by decide) (by decide)]
theorem spring_ok (n : Nat) {st : Sto} {ns : List Int} {k : Nat} : ∃ a b, callN 64 (prgOf ds) (n + 1) 77 [.frz (ns.map D.int), .int k] st = .ok (.cel st.length) (st ++ [.lst [.int a, .int b]]) := by
  have e : callN 64 (prgOf ds) (n + 1) 77 [.frz (ns.map D.int), .int k] st = outR (exSs (callN 64 (prgOf ds) n) 64 b77 (startE 4 [.frz (ns.map D.int), .int k]) st) := rfl
  have hs : startE 4 [D.frz (ns.map D.int), .int k] = [some (.frz (ns.map D.int)), some (.int k), none, none] := rfl
  have g0 : ∀ x y z w : Option D, getS [x, y, z, w] 0 = x := fun _ _ _ _ => rfl
  have g1 : ∀ x y z w : Option D, getS [x, y, z, w] 1 = y := fun _ _ _ _ => rfl
  have g2 : ∀ x y z w : Option D, getS [x, y, z, w] 2 = z := fun _ _ _ _ => rfl
  have g3 : ∀ x y z w : Option D, getS [x, y, z, w] 3 = w := fun _ _ _ _ => rfl
  have hp : binR .pow (.int 10) (.int 18) = fun st => .ok (.int (10 ^ 18)) st := by funext st; rfl
  -- behind the cell
  have rest : ∀ c : Int, ∃ a b, outR (exSs (callN 64 (prgOf ds) n) 64 (match b77 with | .cons _ (.cons _ r) => r | r => r) [some (.frz (ns.map D.int)), some (.int k), some (.int c), none] st) = .ok (.cel st.length) (st ++ [.lst [.int a, .int b]]) := fun c => by
    by_cases hc : (10 ^ 18 : Int) ≤ c
    · exact ⟨c, (c * 863 + 524287 * k + 1) % 999999999989, by simp only [b77, exSs, exS, ev, evs, g0, g1, g2, g3, ofO_some, Res.bind_ok, r_mulR _ 863 _ (by decide), r_mulL 524287 _ _ (by decide), r_add, r_int, r_mod _ 999999999989 _ (by decide), asg, List.set, hp, r_ge, hc, decide_true, r_asB, if_true, outR]⟩
    · exact ⟨0, (c * 863 + 524287 * k + 1) % 999999999989, by simp only [b77, exSs, exS, ev, evs, g0, g1, g2, g3, ofO_some, Res.bind_ok, r_mulR _ 863 _ (by decide), r_mulL 524287 _ _ (by decide), r_add, r_int, r_mod _ 999999999989 _ (by decide), asg, List.set, hp, r_ge, hc, decide_false, r_asB, Bool.false_eq_true, if_false, outR]⟩
  rw [e, hs]
  by_cases hk : k < ns.length
  · have hg : (ns.map D.int)[k]? = some (.int ns[k]) := by rw [List.getElem?_map, List.getElem?_eq_getElem hk]; rfl
    have hlt : ((k : Int) < ((ns.map D.int).length : Nat)) := by rw [List.length_map]; omega
    have hix : ((ixAt (ns.map D.int).length (k : Int)).bind fun j => (ns.map D.int)[j]?) = some (.int ns[k]) := by
      rw [ix_nat (by rw [List.length_map]; exact hk)]; exact hg
    obtain ⟨a, b, h⟩ := rest (if ns[k] < 0 then -ns[k] else ns[k])
    refine ⟨a, b, h ▸ ?_⟩
    simp only [b77, exSs, exS, ev, evs, g0, g1, g2, g3, ofO_some, Res.bind_ok, r_lenF, r_lt, hlt, decide_true, r_asB, if_true, r_idxF, hix, r_abs, asg, List.set]
  · have hlt : ¬ ((k : Int) < ((ns.map D.int).length : Nat)) := by rw [List.length_map]; omega
    obtain ⟨a, b, h⟩ := rest 7
    refine ⟨a, b, h ▸ ?_⟩
    simp only [b77, exSs, exS, ev, evs, g0, g1, g2, g3, ofO_some, Res.bind_ok, r_lenF, r_lt, hlt, decide_false, r_asB, Bool.false_eq_true, if_false, asg, List.set]
end K12
end

section
set_option linter.all false
set_option maxRecDepth 1000000
set_option Elab.async false
set_option maxHeartbeats 0
namespace K12
open PySem PP
theorem ch1f (st : Sto) : callN 64 (prgOf ds) 24 84 [.int 1, .bl false] st = .ok (.bl true) st := by kernel_rfl
theorem ch2f (st : Sto) : callN 64 (prgOf ds) 24 84 [.int 2, .bl false] st = .ok (.bl true) st := by kernel_rfl
theorem ch3f (st : Sto) : callN 64 (prgOf ds) 24 84 [.int 3, .bl false] st = .ok (.bl true) st := by kernel_rfl
theorem ch4f (st : Sto) : callN 64 (prgOf ds) 24 84 [.int 4, .bl false] st = .ok (.bl true) st := by kernel_rfl
theorem gi0 (st : Sto) : callN 64 (prgOf ds) 24 85 [.str "to"] st = .ok (.bl true) st := by kernel_rfl
theorem gi1 (st : Sto) : callN 64 (prgOf ds) 24 85 [.str "from"] st = .ok (.bl true) st := by kernel_rfl
end K12
end

section
set_option linter.all false
set_option maxRecDepth 1000000
set_option Elab.async false
set_option maxHeartbeats 0
namespace K12
open PySem PP
theorem ch1t (st : Sto) : callN 64 (prgOf ds) 24 84 [.int 1, .bl true] st = .ok (.bl true) st := by kernel_rfl
end K12
end

section
set_option linter.all false
set_option maxRecDepth 1000000
set_option Elab.async false
set_option maxHeartbeats 0
namespace K12
open PySem PP
theorem ch2t (st : Sto) : callN 64 (prgOf ds) 24 84 [.int 2, .bl true] st = .ok (.bl true) st := by kernel_rfl
end K12
end

section
set_option linter.all false
set_option maxRecDepth 1000000
set_option Elab.async false
set_option maxHeartbeats 0
namespace K12
open PySem PP
theorem ch3t (st : Sto) : callN 64 (prgOf ds) 24 84 [.int 3, .bl true] st = .ok (.bl true) st := by kernel_rfl
end K12
end

section
set_option linter.all false
set_option maxRecDepth 1000000
set_option Elab.async false
set_option maxHeartbeats 0
namespace K12
open PySem PP
theorem ch4t (st : Sto) : callN 64 (prgOf ds) 24 84 [.int 4, .bl true] st = .ok (.bl true) st := by kernel_rfl
end K12
end

section
set_option linter.all false
set_option maxRecDepth 1000000
set_option Elab.async false
set_option maxHeartbeats 0
namespace K12
open PySem PP
def okT1 (r : Res D) : Bool := match r with | .ok (.bl true) _ => true | _ => false
theorem en1 (env : PP.Env) (c1 : Cell) : okT1 (ev (callN 64 (prgOf ds) 24) (.and (.call 82 .nil) (.call 83 .nil)) env [c1]) = true := by kernel_rfl
end K12
end

section
set_option linter.all false
set_option maxRecDepth 1000000
set_option Elab.async false
set_option maxHeartbeats 0
namespace K12
open PySem PP
def okT2 (r : Res D) : Bool := match r with | .ok (.bl true) _ => true | _ => false
theorem en2 (env : PP.Env) (c1 c2 : Cell) : okT2 (ev (callN 64 (prgOf ds) 24) (.and (.call 82 .nil) (.call 83 .nil)) env [c1, c2]) = true := by kernel_rfl
end K12
end

section
set_option linter.all false
set_option maxRecDepth 1000000
set_option Elab.async false
set_option maxHeartbeats 0
namespace K12
open PySem PP
def okT3 (r : Res D) : Bool := match r with | .ok (.bl true) _ => true | _ => false
theorem en3 (env : PP.Env) (c1 c2 c3 : Cell) : okT3 (ev (callN 64 (prgOf ds) 24) (.and (.call 82 .nil) (.call 83 .nil)) env [c1, c2, c3]) = true := by kernel_rfl
end K12
end

section
set_option linter.all false
set_option maxRecDepth 1000000
set_option Elab.async false
set_option maxHeartbeats 0
namespace K12
open PySem PP
def okT4 (r : Res D) : Bool := match r with | .ok (.bl true) _ => true | _ => false
theorem en4 (env : PP.Env) (c1 c2 c3 c4 : Cell) : okT4 (ev (callN 64 (prgOf ds) 24) (.and (.call 82 .nil) (.call 83 .nil)) env [c1, c2, c3, c4]) = true := by kernel_rfl
end K12
end

section
set_option linter.all false
set_option maxRecDepth 1000000
set_option Elab.async false
set_option maxHeartbeats 0
namespace K12
open PySem PP
def okT5 (r : Res D) : Bool := match r with | .ok (.bl true) _ => true | _ => false
theorem en5 (env : PP.Env) (c1 c2 c3 c4 c5 : Cell) : okT5 (ev (callN 64 (prgOf ds) 24) (.and (.call 82 .nil) (.call 83 .nil)) env [c1, c2, c3, c4, c5]) = true := by kernel_rfl
end K12
end

section
set_option linter.all false
set_option maxRecDepth 100000
set_option Elab.async false
set_option maxHeartbeats 2000000
namespace K12
open PySem PP
abbrev C24 := callN 64 (prgOf ds) 24
theorem chain_all {r : Int} (h0 : 0 ≤ r) (h1 : r < 4) (b : Bool) (st : Sto) : C24 84 [.int (1 + r), .bl b] st = .ok (.bl true) st := by
  have : r = 0 ∨ r = 1 ∨ r = 2 ∨ r = 3 := by omega
  rcases this with rfl | rfl | rfl | rfl <;> cases b
  · exact ch1f st
  · exact ch1t st
  · exact ch2f st
  · exact ch2t st
  · exact ch3f st
  · exact ch3t st
  · exact ch4f st
  · exact ch4t st
theorem gift_all {r : Int} (h0 : 0 ≤ r) (h1 : r < 2) : ∃ d, ((ixAt [D.str "to", D.str "from"].length r).bind fun j => [D.str "to", D.str "from"][j]?) = some d ∧ ∀ st, C24 85 [d] st = .ok (.bl true) st := by
  have : r = 0 ∨ r = 1 := by omega
  rcases this with rfl | rfl
  · exact ⟨_, rfl, gi0⟩
  · exact ⟨_, rfl, gi1⟩
def body : Ss := match b86 with
  | .cons (.for_ _ _ b) _ => b
  | s => s
theorem turn_ok {ns : List Int} {k : Nat} {y : Option D} {st : Sto} : ∃ z st', exSs C24 64 body [some (.frz (ns.map D.int)), some (.int k), y] st = .ok (.nx [some (.frz (ns.map D.int)), some (.int k), z]) st' ∧ st'.length = st.length + 1 := by
  obtain ⟨a, b, h1⟩ := spring_ok 23 (st := st) (ns := ns) (k := k)
  have s1 : (st ++ [Cell.lst [.int a, .int b]])[st.length]? = some (.lst [.int a, .int b]) := by
    rw [List.getElem?_append_right (Nat.le_refl _), Nat.sub_self]; rfl
  obtain ⟨r, a2, b2, h2, p1, p2⟩ := pick_ok 23 s1 (m := 4) (by decide) (by decide)
  generalize hst2 : (st ++ [Cell.lst [.int a, .int b]]).set st.length (.lst [.int a2, .int b2]) = st2 at h2
  have l2 : st2.length = st.length + 1 := by rw [← hst2]; simp
  have s2 : st2[st.length]? = some (.lst [.int a2, .int b2]) := by rw [← hst2]; exact List.getElem?_set_self (by simp)
  obtain ⟨r2, a3, b3, h3, p3, p4⟩ := pick_ok 23 s2 (m := 2) (by decide) (by decide)
  generalize hst3 : st2.set st.length (.lst [.int a3, .int b3]) = st3 at h3
  have l3 : st3.length = st.length + 1 := by rw [← hst3, List.length_set, l2]
  have s3 : st3[st.length]? = some (.lst [.int a3, .int b3]) := by rw [← hst3]; exact List.getElem?_set_self (by omega)
  obtain ⟨r3, a4, b4, h4, p5, p6⟩ := pick_ok 23 s3 (m := 2) (by decide) (by decide)
  generalize hst4 : st3.set st.length (.lst [.int a4, .int b4]) = st4 at h4
  have l4 : st4.length = st.length + 1 := by rw [← hst4, List.length_set, l3]
  have h5 := chain_all p1 p2 (r2 == 0) st3
  obtain ⟨d, hd, h6⟩ := gift_all p5 p6
  have g0 : ∀ x y z : Option D, getS [x, y, z] 0 = x := fun _ _ _ => rfl
  have g1 : ∀ x y z : Option D, getS [x, y, z] 1 = y := fun _ _ _ => rfl
  have g2 : ∀ x y z : Option D, getS [x, y, z] 2 = z := fun _ _ _ => rfl
  have h1 : C24 77 [.frz (ns.map D.int), .int k] st = _ := h1
  have h2 : C24 78 [.cel st.length, .int 4] _ = _ := h2
  have h3 : C24 78 [.cel st.length, .int 2] _ = _ := h3
  have h4 : C24 78 [.cel st.length, .int 2] _ = _ := h4
  refine ⟨some (.cel st.length), st4, ?_, l4⟩
  generalize C24 = C at h1 h2 h3 h4 h5 h6 ⊢
  simp only [body, b86, exSs, exS, ev, evs, g0, g1, g2, ofO_some, Res.bind_ok, asg, List.set, h1, h2, h3, h4, h5, h6, r_add, r_eq, r_asB, r_idxL, hd, Bool.not_true, Bool.false_eq_true, if_false]
theorem loop_ok {ns : List Int} : ∀ (ks : List Nat) (x y : Option D) (st : Sto), ∃ env st', forGo (gdOk []) (fun x env st => (ofO (asg (.name 1) x env) st).bind fun env st => exSs C24 64 body env st) (ks.map fun (k : Nat) => D.int (0 + (k : Int))) [some (.frz (ns.map D.int)), x, y] st = .ok (.nx env) st' ∧ st'.length = st.length + ks.length
  | [], x, y, st => ⟨_, st, rfl, rfl⟩
  | k :: ks, x, y, st => by
    obtain ⟨z, st1, h1, l1⟩ := turn_ok (ns := ns) (k := k) (y := y) (st := st)
    obtain ⟨env, st2, h2, l2⟩ := loop_ok (ns := ns) ks (some (.int k)) z st1
    refine ⟨env, st2, ?_, by rw [l2, l1, List.length_cons]; omega⟩
    rw [List.map_cons, Int.zero_add]
    show (if gdOk [] st = true then (exSs C24 64 body [some (.frz (ns.map D.int)), some (.int k), y] st).bind _ else _) = _
    rw [show gdOk [] st = true from rfl, if_pos rfl, h1, Res.bind_ok]
    exact h2
theorem end_ok (env : PP.Env) (st : Sto) (h1 : 1 ≤ st.length) (h5 : st.length ≤ 5) : ∃ st', ev C24 (.and (.call 82 .nil) (.call 83 .nil)) env st = .ok (.bl true) st' := by
  have fin : ∀ (r : Res D) (o : Res D → Bool), (∀ r, o r = true → ∃ st', r = .ok (.bl true) st') → o r = true → ∃ st', r = .ok (.bl true) st' := fun r o h1 h2 => h1 r h2
  match st, h1, h5 with
  | [c1], _, _ => exact fin _ okT1 (fun r h => by unfold okT1 at h; split at h <;> first | exact ⟨_, rfl⟩ | cases h) (en1 env c1)
  | [c1, c2], _, _ => exact fin _ okT2 (fun r h => by unfold okT2 at h; split at h <;> first | exact ⟨_, rfl⟩ | cases h) (en2 env c1 c2)
  | [c1, c2, c3], _, _ => exact fin _ okT3 (fun r h => by unfold okT3 at h; split at h <;> first | exact ⟨_, rfl⟩ | cases h) (en3 env c1 c2 c3)
  | [c1, c2, c3, c4], _, _ => exact fin _ okT4 (fun r h => by unfold okT4 at h; split at h <;> first | exact ⟨_, rfl⟩ | cases h) (en4 env c1 c2 c3 c4)
  | [c1, c2, c3, c4, c5], _, _ => exact fin _ okT5 (fun r h => by unfold okT5 at h; split at h <;> first | exact ⟨_, rfl⟩ | cases h) (en5 env c1 c2 c3 c4 c5)
theorem law_e (n : Nat) (x : D) (st : Sto) : callN 64 (prgOf ds) (n + 1) 86 [x] st = outR (exSs (callN 64 (prgOf ds) n) 64 b86 (startE 3 [x]) st) := rfl
theorem r_range (C : Nat → List D → Sto → Res D) {a : E} {env : PP.Env} {st : Sto} {n : Int} (h : ev C a env st = .ok (.int n) st) (h1 : -(2 ^ 62) ≤ n) (h2 : n < 2 ^ 62) : evI C (.range a) env st = .ok ⟨rangeL 0 n, []⟩ st := by
  rw [evI, h, Res.bind_ok, r_asI, Res.bind_ok, if_pos (by rw [decide_eq_true h1, decide_eq_true h2]; rfl)]
def itr : It := .range (.bin .add (.bi .min2 (.cons (.bi .len (.cons (.slot 0) .nil)) (.cons (.lit (.int 4)) .nil))) (.lit (.int 1)))
def endE : E := .and (.call 82 .nil) (.call 83 .nil)
theorem it_ok (C : Nat → List D → Sto → Res D) {ns : List Int} {n : Nat} (hn : ((if (4 : Int) < (ns.length : Int) then (4 : Int) else ns.length) + 1) = (n : Int)) (n5 : n ≤ 5) : evI C itr [some (.frz (ns.map D.int)), none, none] [] = .ok ⟨rangeL 0 n, []⟩ [] := by
  have g0 : ∀ x y z : Option D, getS [x, y, z] 0 = x := fun _ _ _ => rfl
  have hl : (ns.map D.int).length = ns.length := List.length_map _
  have h : ev C (.bin .add (.bi .min2 (.cons (.bi .len (.cons (.slot 0) .nil)) (.cons (.lit (.int 4)) .nil))) (.lit (.int 1))) [some (.frz (ns.map D.int)), none, none] [] = .ok (.int n) [] := by
    rw [← hn, ← hl]
    simp only [ev, evs, g0, ofO_some, Res.bind_ok, r_lenF, r_min2, r_add]
  exact r_range C h (Int.le_trans (by decide) (Int.natCast_nonneg n)) (Int.lt_of_le_of_lt (Int.ofNat_le.mpr n5) (by decide))
theorem b86_is : b86 = .cons (.for_ (.name 1) itr body) (.cons (.ret endE) .nil) := rfl
theorem fin_ok (C : Nat → List D → Sto → Res D) {F : D} {n : Nat} {env : PP.Env} {st st' : Sto} (hi : evI C itr [some F, none, none] [] = .ok ⟨rangeL 0 n, []⟩ [])
    (h1 : forGo (gdOk []) (fun x env st => (ofO (asg (.name 1) x env) st).bind fun env st => exSs C 64 body env st) (rangeL 0 n) [some F, none, none] [] = .ok (.nx env) st)
    (h3 : ev C endE env st = .ok (.bl true) st') : outR (exSs C 64 (.cons (.for_ (.name 1) itr body) (.cons (.ret endE) .nil)) [some F, none, none] []) = .ok (.bl true) st' := by
  simp only [exSs, exS, hi, Res.bind_ok, h1, h3, outR]
theorem range_is (n : Nat) : rangeL 0 (n : Int) = (List.range n).map fun (k : Nat) => D.int (0 + (k : Int)) := by
  unfold rangeL
  rw [Int.sub_zero, Int.toNat_natCast]
theorem law_ok (ns : List Int) : ∃ st, callN 64 (prgOf ds) (24 + 1) 86 [.frz (ns.map D.int)] [] = .ok (.bl true) st := by
  obtain ⟨n, hn, n1, n5⟩ : ∃ n : Nat, ((if (4 : Int) < (ns.length : Int) then (4 : Int) else ns.length) + 1) = (n : Int) ∧ 1 ≤ n ∧ n ≤ 5 := by
    by_cases h : 4 < ns.length
    · exact ⟨5, by rw [if_pos (by omega)]; rfl, by omega, by omega⟩
    · exact ⟨ns.length + 1, by rw [if_neg (by omega)]; omega, by omega, by omega⟩
  obtain ⟨env, st, h1, h2⟩ := loop_ok (ns := ns) (List.range n) none none []
  rw [List.length_range, List.length_nil, Nat.zero_add] at h2
  obtain ⟨st', h3⟩ := end_ok env st (by omega) (by omega)
  rw [← range_is] at h1
  have h4 := fin_ok _ (it_ok _ hn n5) h1 h3
  rw [← b86_is] at h4
  exact ⟨st', (law_e 24 _ _).trans h4⟩
end K12
end

set_option linter.all false
set_option maxRecDepth 100000
set_option Elab.async false
set_option maxHeartbeats 0
open PySem PySem.W PySem.Calls PyProof.Rows
namespace K12
theorem row_walk : WalkO qv nms (XL qv []) hk.says R.toRowW dLaw [] (fun f vs => PySem.call f vs) := by
    refine L2.walk_ofE (l := PySem.Challenge.rw_thingmakers_k12_whole_facts_of_makers) (n := 63) (k := 24 + 2) (x := "_law_script") (CX := PP.CXw PySem.Challenge.rw_thingmakers_k12_whole_facts_of_makers.prog) rfl (by decide) h_df ⟨rfl, by decide, by decide⟩ ?F (fun H s e s' => PP.cx_w H s e s')
    intro w mg fa h Y G hmg0
    obtain ⟨K, KX, c⟩ := Y
    have hmg : mg ("law" : PySem.Str) = some (.ref fa) := by
      rw [← h_nm]
      exact hmg0
    obtain ⟨fd, h1, h2, h3⟩ := PP.law_fn (wf := 64) c KX G ck cx 24 h_l1 h_l2
    have ef : He.ga K "law" = fa := by
      rw [hmg] at h1
      injection h1 with h1
      injection h1 with h1
      exact h1.symm
    refine ⟨K, fd, PP.spD K (PP.caOf K exs) 1 (PP.callN 64 (PP.prgOf ds) (24 + 1) 86), KX, h2, fun H a ns hl _ hS => ?_, fun base hb hg => ?_⟩
    · obtain ⟨st, hst⟩ := law_ok ns
      exact PP.law_sp hS hst
    · have h4 := PP.fn_w (h3 PySem.Challenge.rw_thingmakers_k12_whole_facts_of_makers.prog w base hb hg)
      rw [ef] at h4
      exact h4
theorem row_holds (said : (OpenLaw.row PySem.Challenge.rw_thingmakers_k12_whole_facts_of_makers).wellSaid = true) : R.Holds :=
  HandSHeadRun.head_any (r := R) (q := qv) (H := hk) (ob := ob) (M := 6000) (loose := nms) (d := dLaw) (kwd := []) ob_eq h_open h_fence run h_def h_the h_kw h_wr said h_ok h_bare h_wit row_walk
end K12
theorem PySem.Challenge.cw_thingmakers_k12_whole_facts_of_makers_holds : PySem.Challenge.rw_thingmakers_k12_whole_facts_of_makers.Holds := by
  w_on; o_law
  exact K12.row_holds (by assumption)
