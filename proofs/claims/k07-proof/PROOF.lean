import PyProof.Rows.All
import Wide.All
import OpenK.AllK
import Wide.FinOn
import HandS.ForMost
import HandS.Zip
import HandS.TupAny
import HandS.IsInst
import HandS.Sort
import HandS.SortInts
import HandS.Flow
import HandS.Deep
import HandS.Words
import HandS.EndBits
import KE.KDictPairs
import HandS.More
import HandS.SetFor
import HandS.Strs
import KE.KDictZip
import KE.GoesMore
import KE.GoesEnum
import HandS.SetKeys
import PySem.Challenge.RW_downtoground_k07_whole_matching
import PyProof.StrLawsRepr
import PyProof.Rows.StrJoinMade
set_option Elab.async false
set_option linter.all false
set_option maxRecDepth 100000
/-! Iv: a small value language over the hand layer. Part A: data, the language, what it computes. -/
namespace Iv
open PySem PySem.Spec PyProof.Rows L2

/-- data: what a program's values stand for -/
inductive D where
  | non | bl (b : Bool) | int (i : Int) | str (x : Str)
  | tup (xs : List D) | lst (xs : List D) | rol (xs : List D) | dct (kvs : List (Key × D)) | ins (c : Nat) (fs : List (Str × D))
  /-- a pair that an iteration hands out -/
  | prt (xs : List D)

mutual
def toP : D → PyData
  | .non => .none
  | .bl b => .bool b
  | .int i => .int i
  | .str x => .str x
  | .tup xs => .tuple (toPs xs)
  | .lst xs => .list (toPs xs)
  | .rol _ => .dict []
  | .dct _ => .dict []
  | .ins _ _ => .dict []
  | .prt _ => .dict []
def toPs : List D → List PyData
  | [] => []
  | x :: r => toP x :: toPs r
end

inductive Slot where
  | none
  /-- a value that nobody changes -/
  | val (d : D)
  /-- a list, a dict or an instance that this frame alone may change -/
  | own (d : D)
abbrev Sl := List Slot
/-- an operand: a value (fresh: made just now, held by nobody), or what stands in a slot -/
inductive Opd where
  | imm (fr : Bool) (d : D)
  | slot (i : Nat)

inductive Tg where
  | v (i : Nat)
  /-- a name whose list, dict is never changed -/
  | w (i : Nat)
  | t (is : List Nat)
  | t2 (i : Nat) (js : List Nat)
inductive BOp where
  | add | sub | mul | mod | fdiv | pow
inductive COp where
  | eq | ne | lt | le | gt | ge | isN | notN | isin | notin
inductive Ty where
  | int | str | tuple | list | bool | dict | own (c : Nat)
  deriving DecidableEq
inductive BF where
  | len | tuple | list | sum | sorted | int | all | any | max | min | max2 | min2 | dict | repr | sset | str | zipl
inductive MF where
  | get1 | get2 | index | count
inductive MM where
  | append | pop | popAt | insert | extend | setdefault | remove | reverse | dpop

mutual
inductive E where
  | var (i : Nat) | frz (i : Nat)
  | int (i : Int) | str (x : Str) | bl (b : Bool) | non
  | tup (es : Es) | lst (es : Es) | dct (ks : List Key) (es : Es)
  | bin (op : BOp) (a b : E) | neg (a : E)
  | cmp (op : COp) (a b : E) | cmp2 (op op2 : COp) (a b c : E) | rev (a : E)
  | and (a b : E) | or (a b : E) | not (a : E) | ite (c a b : E)
  | idx (a b : E) | slc (a lo hi : E) | slf (a lo : E) | slt (a hi : E)
  | call (f : Nat) (es : Es)
  | blt (f : BF) (es : Es)
  | mth (m : MF) (o : E) (es : Es)
  | mut (m : MM) (i : Nat) (es : Es)
  | fld (o : E) (f : Str)
  | isi (e : E) (t : Ty)
  | mk (c f : Nat) (es : Es)
  | comp (elt : E) (tg : Tg) (it : It) (ifs : Es) (vs : List Nat)
inductive Es where
  | nil | cons (e : E) (r : Es)
inductive It where
  | seq (e : E) | rng1 (e : E) | rng2 (a b : E) | enm (e : E) | zip (a b : E)
end

mutual
inductive S where
  | expr (e : E)
  | asg (tg : Tg) (e : E)
  | par (i j : Nat) (a b : E)
  | set (i : Nat) (k v : E)
  | setf (i : Nat) (f : Str) (v : E)
  | aug (i : Nat) (op : BOp) (e : E)
  | ite (c : E) (a b : Ss)
  | for (tg : Tg) (it : It) (b : Ss)
  | whl (c : E) (b : Ss)
  | ret (e : E) | retN | pass | brk | cont | fail
inductive Ss where
  | nil | cons (s : S) (r : Ss)
end

inductive Fl where
  | next | brk | cont | ret (fr : Bool) (d : D)

def Slot.d? : Slot → Option D
  | .none => .none
  | .val d => some d
  | .own d => some d
def deref (ρ : Sl) : Opd → Option D
  | .imm _ d => some d
  | .slot i => (ρ[i]?).bind Slot.d?
def derefs (ρ : Sl) : List Opd → Option (List D)
  | [] => some []
  | o :: r => (deref ρ o).bind fun d => (derefs ρ r).bind fun ds => some (d :: ds)
/-- values that go into something: no slot's -/
def imms : List Opd → Option (List D)
  | [] => some []
  | .imm _ d :: r => (imms r).bind fun ds => some (d :: ds)
  | .slot _ :: _ => none

/-! ### operators on data -/
def eqOk (d e : D) : Bool := SeqAt.shaped (toP d) && SeqAt.shaped (toP e)
def deq (d e : D) : Bool := PyData.eqv (toP d) (toP e)
def mulOk (i j : Int) : Bool := decide ((-(2 ^ 64) < i ∧ i < 2 ^ 64) ∨ (-(2 ^ 64) < j ∧ j < 2 ^ 64))
def binop : BOp → D → D → Option (Bool × D)
  | .add, .int i, .int j => some (false, .int (i + j))
  | .add, .tup xs, .tup ys => if xs.length + ys.length ≤ sizeLine then some (false, .tup (xs ++ ys)) else none
  | .add, .lst xs, .lst ys => if xs.length + ys.length ≤ sizeLine then some (true, .lst (xs ++ ys)) else none
  | .add, .str x, .str y => if x.length + y.length ≤ sizeLine then some (false, .str (x ++ y)) else none
  | .sub, .int i, .int j => some (false, .int (i - j))
  | .mul, .int i, .int j => if mulOk i j then some (false, .int (i * j)) else none
  | .mul, .lst xs, .int j => if xs.length * j.toNat ≤ sizeLine ∧ -(2 ^ 63) ≤ j ∧ j < 2 ^ 63 then some (true, .lst (List.replicate j.toNat xs).flatten) else none
  | .mod, .int i, .int j => if 0 < j then some (false, .int (i % j)) else none
  | .fdiv, .int i, .int j => if 0 < j ∧ j < 1073741824 then some (false, .int (i / j)) else none
  | .pow, .int i, .int j => if 0 ≤ j ∧ j ≤ 1000000 ∧ i.natAbs < 2 ^ 64 then some (false, .int (i ^ j.toNat)) else none
  | _, _, _ => none
def keyOf : D → Option Key
  | .int i => some (.inl i)
  | .str x => some (.inr x)
  | _ => none
def getK : List (Key × D) → Key → Option D
  | [], _ => none
  | (k', d) :: r, k => if k' = k then some d else getK r k
def eqop : D → D → Option Bool
  | .int i, .int j => some (decide (i = j))
  | .str x, .str y => some (decide (x = y))
  | .bl x, .bl y => some (decide (x = y))
  | d, e => if eqOk d e = true then some (deq d e) else none
def inop (d : D) (c : D) (xs : List D) : Option Bool := if SeqAt.shaped (toP d) = true ∧ SeqAt.shaped (toP c) = true then some (xs.any fun z => deq z d) else none
def cmpop : COp → D → D → Option Bool
  | .eq, d, e => eqop d e
  | .ne, d, e => (eqop d e).map not
  | .lt, .int i, .int j => some (decide (i < j))
  | .le, .int i, .int j => some (decide (i ≤ j))
  | .gt, .int i, .int j => some (decide (j < i))
  | .ge, .int i, .int j => some (decide (j ≤ i))
  | .isN, d, .non => match d with | .non => some true | _ => some false
  | .notN, d, .non => match d with | .non => some false | _ => some true
  | .isin, d, .lst xs => inop d (.lst xs) xs
  | .isin, d, .tup xs => inop d (.tup xs) xs
  | .isin, d, .dct kvs => (keyOf d).map fun k => (getK kvs k).isSome
  | .notin, d, .lst xs => (inop d (.lst xs) xs).map not
  | .notin, d, .tup xs => (inop d (.tup xs) xs).map not
  | .notin, d, .dct kvs => (keyOf d).map fun k => !(getK kvs k).isSome
  | _, _, _ => none
def idxop : D → D → Option D
  | .tup xs, .int i => atI xs i
  | .lst xs, .int i => atI xs i
  | .rol xs, .int i => atI xs i
  | .dct kvs, d => (keyOf d).bind fun k => getK kvs k
  | _, _ => none
def cutD (xs : List D) (lo hi : Option Int) : List D := (xs.drop (HT.sIx xs.length 0 lo)).take (HT.sIx xs.length xs.length hi - HT.sIx xs.length 0 lo)
def slcop : D → Option Int → Option Int → Option (Bool × D)
  | .tup xs, lo, hi => some (false, .tup (cutD xs lo hi))
  | .lst xs, lo, hi => some (true, .lst (cutD xs lo hi))
  | _, _, _ => none
end Iv
/-! Iv, part B: what a text of the language computes. -/
namespace Iv
open PySem PySem.Spec PyProof.Rows L2

abbrev CallF := Nat → Sl → Option (Bool × D × Sl)

def putK (kvs : List (Key × D)) (k : Key) (d : D) : List (Key × D) :=
  match kvs.any fun p => decide (p.1 = k) with
  | true => kvs.map fun p => if p.1 = k then (p.1, d) else p
  | false => kvs ++ [(k, d)]
def delK (kvs : List (Key × D)) (k : Key) : List (Key × D) := kvs.filter fun p => decide (p.1 ≠ k)
def putFD (f : Str) (d : D) : List (Str × D) → List (Str × D)
  | [] => [(f, d)]
  | (g, e) :: r => if g = f then (g, d) :: r else (g, e) :: putFD f d r
def getF : List (Str × D) → Str → Option D
  | [], _ => none
  | (g, d) :: r, f => if g = f then some d else getF r f

def intsD : List D → Option (List Int)
  | [] => some []
  | .int i :: r => (intsD r).map (i :: ·)
  | _ :: _ => none
def boolsD : List D → Option (List Bool)
  | [] => some []
  | .bl b :: r => (boolsD r).map (b :: ·)
  | _ :: _ => none
def pairsK : List D → Option (List (Key × D))
  | [] => some []
  | .tup [k, d] :: r => (keyOf k).bind fun k => (pairsK r).map ((k, d) :: ·)
  | _ :: _ => none
def mergeD : List (Key × D) → List (Key × D) → List (Key × D)
  | acc, [] => acc
  | acc, (k, d) :: r => mergeD (putK acc k d) r
def insI (i : Int) : List Int → List Int
  | [] => [i]
  | j :: r => if i ≤ j then i :: j :: r else j :: insI i r
def sortI : List Int → List Int
  | [] => []
  | i :: r => insI i (sortI r)
def keyD : Key → D
  | .inl i => .int i
  | .inr x => .str x
def keysI : List (Key × D) → Option (List Int)
  | [] => some []
  | (.inl i, _) :: r => (keysI r).map (i :: ·)
  | _ :: _ => none
def dispP : PyData → Bool
  | .list _ => true
  | .tuple _ => true
  | _ => false
def showOk (d : D) : Bool := dispP (toP d) && SeqAt.shaped (toP d) && (toP d).showable && decide ((toP d).shown.length ≤ sizeLine)
def maxI : List Int → Option Int
  | [] => none
  | [i] => some i
  | i :: r => (maxI r).map fun j => if i < j then j else i
def minI : List Int → Option Int
  | [] => none
  | [i] => some i
  | i :: r => (minI r).map fun j => if j < i then j else i
def tyOf : D → Option Ty
  | .int _ => some .int
  | .str _ => some .str
  | .tup _ => some .tuple
  | .lst _ => some .list
  | .rol _ => some .list
  | .bl _ => some .bool
  | .dct _ => some .dict
  | _ => none
def isTy1 (t : Ty) (d : D) : Option Bool := match d with
  | .non => (match t with | .own _ => none | _ => some false)
  | .ins c _ => (match t with | .own c' => some (decide (c = c')) | _ => none)
  | d => match tyOf d with
    | some .bool => (match t with | .own _ => none | .int => some true | .bool => some true | _ => some false)
    | some u => (match t with | .own _ => none | _ => some (decide (u = t)))
    | none => none
/-- what is read as a row -/
def seqD : D → Option (List D)
  | .lst xs => some xs
  | .tup xs => some xs
  | .rol xs => some xs
  | _ => none
def zipP : List D → List D → List D
  | a :: as, b :: bs => .tup [a, b] :: zipP as bs
  | _, _ => []
def nubI : List Int → List Int
  | [] => []
  | i :: r => if i ∈ r then nubI r else i :: nubI r
/-- the numbers of a row, each once, in order -/
def setI (ns : List Int) : List Int := sortI (nubI ns)
def bltop : BF → List D → Option (Bool × D)
  | .len, [.lst xs] => some (false, .int xs.length)
  | .len, [.rol xs] => some (false, .int xs.length)
  | .len, [.tup xs] => some (false, .int xs.length)
  | .len, [.dct kvs] => some (false, .int kvs.length)
  | .tuple, [.lst xs] => some (false, .tup xs)
  | .tuple, [.tup xs] => some (false, .tup xs)
  | .list, [.lst xs] => some (true, .lst xs)
  | .list, [.tup xs] => some (true, .lst xs)
  | .list, [.rol xs] => some (true, .lst xs)
  | .sum, [.lst xs] => (intsD xs).map fun ns => (false, .int ns.sum)
  | .sorted, [.lst xs] => (intsD xs).map fun ns => (true, .lst ((sortI ns).map .int))
  | .int, [.int i] => some (false, .int i)
  | .int, [.bl b] => some (false, .int (if b = true then 1 else 0))
  | .all, [.lst xs] => (boolsD xs).map fun bs => (false, .bl (bs.all id))
  | .any, [.lst xs] => (boolsD xs).map fun bs => (false, .bl (bs.any id))
  | .dict, [.dct kvs] => some (true, .dct kvs)
  | .dict, [.tup xs] => (pairsK xs).map fun kvs => (true, .dct (mergeD [] kvs))
  | .dict, [.lst xs] => (pairsK xs).map fun kvs => (true, .dct (mergeD [] kvs))
  | .sorted, [.dct kvs] => (keysI kvs).bind fun ns => if ns.length < 64 then some (true, .lst ((sortI ns).map .int)) else none
  | .list, [.dct kvs] => some (true, .lst (kvs.map fun p => keyD p.1))
  | .repr, [d] => if showOk d = true then some (false, .str (toP d).shown) else (match d with
    | .non => some (false, .str "None")
    | _ => none)
  | .max, [.lst xs] => ((intsD xs).bind maxI).map fun i => (false, .int i)
  | .min, [.lst xs] => ((intsD xs).bind minI).map fun i => (false, .int i)
  | .sset, [.lst xs] => (intsD xs).bind fun ns => if ns.length ≤ 1000 ∧ (setI ns).length < 64 then some (true, .lst ((setI ns).map .int)) else none
  | .zipl, [a, b] => (seqD a).bind fun xs => (seqD b).map fun ys => (true, .lst (zipP xs ys))
  | _, _ => none
def mthop : MF → D → List D → Option D
  | .get1, .dct kvs, [k] => (keyOf k).map fun k => (getK kvs k).getD .non
  | .get2, .dct kvs, [k, d] => (keyOf k).map fun k => (getK kvs k).getD d
  | _, _, _ => none
/-- a method that changes what stands in a slot: what it hands back, what stands there then -/
def mutop : MM → D → List D → Option (D × D)
  | .append, .lst xs, [d] => if xs.length < sizeLine then some (.non, .lst (xs ++ [d])) else none
  | .pop, .lst xs, [] => (xs[xs.length - 1]?).map fun d => (d, .lst xs.dropLast)
  | .popAt, .lst xs, [.int i] => if -(2 ^ 63) ≤ i ∧ i < 2 ^ 63 then (ixN xs.length i).bind fun k => (xs[k]?).map fun d => (d, .lst (xs.eraseIdx k)) else none
  | .setdefault, .dct kvs, [k, d] => (keyOf k).bind fun k => match getK kvs k with
    | some e => if kvs.length < sizeLine then some (e, .dct kvs) else none
    | none => if kvs.length < sizeLine then some (d, .dct (putK kvs k d)) else none
  | _, _, _ => none
/-- o[k] = v -/
def setop : D → D → D → Option D
  | .dct kvs, k, v => (keyOf k).bind fun k => if kvs.length < sizeLine then some (.dct (putK kvs k v)) else none
  | .lst xs, .int i, v => (ixN xs.length i).map fun j => .lst (xs.set j v)
  | _, _, _ => none
def augop : BOp → D → D → Option D
  | .add, .int i, .int j => some (.int (i + j))
  | .sub, .int i, .int j => some (.int (i - j))
  | _, _, _ => none

/-! ### slots -/
def wipeS (ρ : Sl) : List Nat → Sl
  | [] => ρ
  | v :: vs => (wipeS ρ vs).set v .none
/-- the slots vs as they stand in ρ0 -/
def backS (ρ0 ρ : Sl) : List Nat → Sl
  | [] => ρ
  | v :: vs => (backS ρ0 ρ vs).set v (ρ0[v]?.getD .none)
def quietS (ρ : Sl) (vs : List Nat) : Bool := vs.all fun v => match ρ[v]? with | some (.own _) => false | some _ => true | _ => false
/-- a slot that may be stored to: not one that is lent to this frame -/
def canSet (np : Nat) (ρ : Sl) (i : Nat) : Bool := decide (i < ρ.length) && (decide (np ≤ i) || match ρ[i]? with | some (.own _) => false | _ => true)
def setV (np : Nat) (ρ : Sl) (i : Nat) (s : Slot) : Option Sl := if canSet np ρ i = true then some (ρ.set i s) else none
def revop : D → Option (Bool × D)
  | .lst ds => some (true, .lst ds.reverse)
  | .tup ds => some (false, .tup ds.reverse)
  | _ => none
def setVs (np : Nat) : Sl → List Nat → List D → Option Sl
  | ρ, [], [] => some ρ
  | ρ, i :: is, d :: ds => (setV np ρ i (.val d)).bind fun ρ1 => setVs np ρ1 is ds
  | _, _, _ => none
def asgTg (np : Nat) (tg : Tg) (d : D) (ρ : Sl) : Option Sl := match tg, d with
  | .v i, d => setV np ρ i (.val d)
  | .w i, d => setV np ρ i (.val d)
  | .t is, .tup ds => setVs np ρ is ds
  | .t2 i js, .tup [d, .tup ds] => (setV np ρ i (.val d)).bind fun ρ1 => setVs np ρ1 js ds
  | .t is, .prt ds => setVs np ρ is ds
  | .t2 i js, .prt [d, .tup ds] => (setV np ρ i (.val d)).bind fun ρ1 => setVs np ρ1 js ds
  | _, _ => none
def toArgs (ρ : Sl) : List Opd → Option Sl
  | [] => some []
  | .imm _ d :: r => (toArgs ρ r).map (.val d :: ·)
  | .slot i :: r => match ρ[i]? with
    | some (.own d) => (toArgs ρ r).map (.own d :: ·)
    | _ => none
def slotsOf : List Opd → List Nat
  | [] => []
  | .imm _ _ :: r => slotsOf r
  | .slot i :: r => i :: slotsOf r
def nodupN : List Nat → Bool
  | [] => true
  | i :: r => !r.contains i && nodupN r
def setOuts (ρ : Sl) (outs : Sl) : List Opd → Nat → Sl
  | [], _ => ρ
  | .slot j :: r, i => setOuts (ρ.set j (outs[i]?.getD .none)) outs r (i + 1)
  | .imm _ _ :: r, i => setOuts ρ outs r (i + 1)
def enumD : Nat → List D → List D
  | _, [] => []
  | n, d :: r => .prt [.int n, d] :: enumD (n + 1) r
def zipD : List D → List D → List D
  | d :: r, e :: t => .prt [d, e] :: zipD r t
  | _, _ => []
def rngD (i j : Int) : List D := (List.range (j - i).toNat).map fun k => .int (i + (k : Nat))
def itemsOf : D → Option (List D)
  | .lst xs => some xs
  | .tup xs => some xs
  | .rol xs => some xs
  | _ => none

/-- a comprehension's turns -/
def compL (np : Nat) (vs : List Nat) (tg : Tg) (test : Sl → Option (Bool × Sl)) (elt : Sl → Option (D × Sl)) : List D → Sl → Option (List D × Sl)
  | [], ρ => some ([], ρ)
  | d :: r, ρ => (asgTg np tg d (wipeS ρ vs)).bind fun ρ1 => (test ρ1).bind fun (b, ρ2) =>
      if b = true then (elt ρ2).bind fun (x, ρ3) => (compL np vs tg test elt r ρ3).bind fun (xs, ρ4) => some (x :: xs, ρ4)
      else compL np vs tg test elt r ρ2
def forL (np : Nat) (tg : Tg) (body : Sl → Option (Fl × Sl)) : List D → Sl → Option (Fl × Sl)
  | [], ρ => some (.next, ρ)
  | d :: r, ρ => (asgTg np tg d ρ).bind fun ρ1 => (body ρ1).bind fun (fl, ρ2) => match fl with
    | .next => forL np tg body r ρ2
    | .cont => forL np tg body r ρ2
    | .brk => some (.next, ρ2)
    | .ret fr d => some (.ret fr d, ρ2)
def whlL (test : Sl → Option (Bool × Sl)) (body : Sl → Option (Fl × Sl)) : Nat → Sl → Option (Fl × Sl)
  | 0, _ => none
  | n + 1, ρ => (test ρ).bind fun (b, ρ1) => if b = true then (body ρ1).bind fun (fl, ρ2) => match fl with
      | .next => whlL test body n ρ2
      | .cont => whlL test body n ρ2
      | .brk => some (.next, ρ2)
      | .ret fr d => some (.ret fr d, ρ2)
    else some (.next, ρ1)
def immOf : Opd × Sl → Option (D × Sl)
  | (.imm _ d, ρ) => some (d, ρ)
  | _ => none
def blOf : Opd × Sl → Option (Bool × Sl)
  | (.imm _ (.bl b), ρ) => some (b, ρ)
  | _ => none
def intOf : Opd × Sl → Option (Int × Sl)
  | (.imm _ (.int b), ρ) => some (b, ρ)
  | _ => none

mutual
def ev (np : Nat) (call : CallF) : E → Sl → Option (Opd × Sl)
  | .var i, ρ => match ρ[i]? with
    | some (.val d) => some (.imm false d, ρ)
    | some (.own _) => some (.slot i, ρ)
    | _ => none
  | .frz i, ρ => match ρ[i]? with
    | some (.val d) => some (.imm false d, ρ)
    | some (.own d) => if np ≤ i then some (.imm false d, ρ.set i (.val d)) else none
    | _ => none
  | .int i, ρ => some (.imm false (.int i), ρ)
  | .str x, ρ => some (.imm false (.str x), ρ)
  | .bl b, ρ => some (.imm false (.bl b), ρ)
  | .non, ρ => some (.imm false .non, ρ)
  | .tup es, ρ => (evs np call es ρ).bind fun (os, ρ1) => (imms os).bind fun ds => some (.imm false (.tup ds), ρ1)
  | .lst es, ρ => (evs np call es ρ).bind fun (os, ρ1) => (imms os).bind fun ds => some (.imm true (.lst ds), ρ1)
  | .dct ks es, ρ => (evs np call es ρ).bind fun (os, ρ1) => (imms os).bind fun ds => some (.imm true (.dct (mergeD [] (ks.zip ds))), ρ1)
  | .bin op a b, ρ => (ev np call a ρ).bind fun (o1, ρ1) => (ev np call b ρ1).bind fun (o2, ρ2) =>
      (deref ρ2 o1).bind fun d1 => (deref ρ2 o2).bind fun d2 => (binop op d1 d2).bind fun r => some (.imm r.1 r.2, ρ2)
  | .neg a, ρ => ((ev np call a ρ).bind intOf).bind fun (i, ρ1) => some (.imm false (.int (-i)), ρ1)
  | .cmp op a b, ρ => (ev np call a ρ).bind fun (o1, ρ1) => (ev np call b ρ1).bind fun (o2, ρ2) =>
      (deref ρ2 o1).bind fun d1 => (deref ρ2 o2).bind fun d2 => (cmpop op d1 d2).bind fun r => some (.imm false (.bl r), ρ2)
  | .cmp2 op op2 a b c, ρ => ((ev np call a ρ).bind immOf).bind fun (d1, ρ1) => ((ev np call b ρ1).bind immOf).bind fun (d2, ρ2) => (cmpop op d1 d2).bind fun r =>
      if r = true then ((ev np call c ρ2).bind immOf).bind fun (d3, ρ3) => (cmpop op2 d2 d3).bind fun r2 => some (.imm false (.bl r2), ρ3) else some (.imm false (.bl false), ρ2)
  | .rev a, ρ => (ev np call a ρ).bind fun (o1, ρ1) => (deref ρ1 o1).bind fun d1 => (revop d1).bind fun r => some (.imm r.1 r.2, ρ1)
  | .and a b, ρ => ((ev np call a ρ).bind blOf).bind fun (c, ρ1) => if c = true then ((ev np call b ρ1).bind blOf).bind fun (d, ρ2) => some (.imm false (.bl d), ρ2) else some (.imm false (.bl false), ρ1)
  | .or a b, ρ => ((ev np call a ρ).bind blOf).bind fun (c, ρ1) => if c = true then some (.imm false (.bl true), ρ1) else ((ev np call b ρ1).bind blOf).bind fun (d, ρ2) => some (.imm false (.bl d), ρ2)
  | .not a, ρ => ((ev np call a ρ).bind blOf).bind fun (c, ρ1) => some (.imm false (.bl (!c)), ρ1)
  | .ite c a b, ρ => ((ev np call c ρ).bind blOf).bind fun (x, ρ1) => if x = true then ((ev np call a ρ1).bind immOf).bind fun (d, ρ2) => some (.imm false d, ρ2) else ((ev np call b ρ1).bind immOf).bind fun (d, ρ2) => some (.imm false d, ρ2)
  | .idx a b, ρ => (ev np call a ρ).bind fun (o1, ρ1) => (ev np call b ρ1).bind fun (o2, ρ2) =>
      (deref ρ2 o1).bind fun d1 => (deref ρ2 o2).bind fun d2 => (idxop d1 d2).bind fun r => some (.imm false r, ρ2)
  | .slc a lo hi, ρ => (ev np call a ρ).bind fun (o1, ρ1) => ((ev np call lo ρ1).bind intOf).bind fun (i, ρ2) => ((ev np call hi ρ2).bind intOf).bind fun (j, ρ3) =>
      (deref ρ3 o1).bind fun d1 => (slcop d1 (some i) (some j)).bind fun r => some (.imm r.1 r.2, ρ3)
  | .slf a lo, ρ => (ev np call a ρ).bind fun (o1, ρ1) => ((ev np call lo ρ1).bind intOf).bind fun (i, ρ2) =>
      (deref ρ2 o1).bind fun d1 => (slcop d1 (some i) none).bind fun r => some (.imm r.1 r.2, ρ2)
  | .slt a hi, ρ => (ev np call a ρ).bind fun (o1, ρ1) => ((ev np call hi ρ1).bind intOf).bind fun (j, ρ2) =>
      (deref ρ2 o1).bind fun d1 => (slcop d1 none (some j)).bind fun r => some (.imm r.1 r.2, ρ2)
  | .call f es, ρ => (evs np call es ρ).bind fun (os, ρ1) => (toArgs ρ1 os).bind fun args => if nodupN (slotsOf os) = true then
      (call f args).bind fun (fr, d, outs) => some (.imm fr d, setOuts ρ1 outs os 0) else none
  | .blt f es, ρ => (evs np call es ρ).bind fun (os, ρ1) => (derefs ρ1 os).bind fun ds => (bltop f ds).bind fun r => some (.imm r.1 r.2, ρ1)
  | .mth m o es, ρ => (ev np call o ρ).bind fun (o1, ρ1) => (deref ρ1 o1).bind fun d0 => (evs np call es ρ1).bind fun (os, ρ2) => (deref ρ2 o1).bind fun d1 => (imms os).bind fun ds =>
      if tyOf d0 = tyOf d1 then (mthop m d1 ds).bind fun r => some (.imm false r, ρ2) else none
  | .mut m i es, ρ => match ρ[i]? with
    | some (.own d0) => (evs np call es ρ).bind fun (os, ρ1) => (imms os).bind fun ds => match ρ1[i]? with
      | some (.own d) => if tyOf d0 = tyOf d then (mutop m d ds).bind fun (r, d') => some (.imm false r, ρ1.set i (.own d')) else none
      | _ => none
    | _ => none
  | .fld o f, ρ => (ev np call o ρ).bind fun (o1, ρ1) => (deref ρ1 o1).bind fun d1 => match d1 with
    | .ins _ fs => (getF fs f).bind fun d => some (.imm false d, ρ1)
    | _ => none
  | .isi e t, ρ => (ev np call e ρ).bind fun (o1, ρ1) => (deref ρ1 o1).bind fun d => (isTy1 t d).bind fun b => some (.imm false (.bl b), ρ1)
  | .mk c f es, ρ => (evs np call es ρ).bind fun (os, ρ1) => (toArgs ρ1 os).bind fun args => if (slotsOf os).isEmpty = true then
      (call f (.own (.ins c []) :: args)).bind fun (_, d, outs) => match d, (outs[0]? : Option Slot) with
        | .non, some (.own d') => some (.imm true d', ρ1)
        | _, _ => none
      else none
  | .comp elt tg it ifs vs, ρ => (evIt np call it ρ).bind fun (ds, ρ1) => if quietS ρ1 vs = true ∧ ds.length ≤ sizeLine then
      (compL np vs tg (fun ρ => evTest np call ifs ρ) (fun ρ => (ev np call elt ρ).bind immOf) ds ρ1).bind fun (xs, ρ2) => some (.imm true (.lst xs), backS ρ1 ρ2 vs) else none
def evs (np : Nat) (call : CallF) : Es → Sl → Option (List Opd × Sl)
  | .nil, ρ => some ([], ρ)
  | .cons e r, ρ => (ev np call e ρ).bind fun (o, ρ1) => (evs np call r ρ1).bind fun (os, ρ2) => some (o :: os, ρ2)
/-- a comprehension's tests: none or one -/
def evTest (np : Nat) (call : CallF) : Es → Sl → Option (Bool × Sl)
  | .nil, ρ => some (true, ρ)
  | .cons e _, ρ => (ev np call e ρ).bind blOf
def evIt (np : Nat) (call : CallF) : It → Sl → Option (List D × Sl)
  | .seq e, ρ => ((ev np call e ρ).bind immOf).bind fun (d, ρ1) => (itemsOf d).bind fun ds => some (ds, ρ1)
  | .rng1 e, ρ => ((ev np call e ρ).bind intOf).bind fun (j, ρ1) => if -(2 ^ 62) ≤ j ∧ j < 2 ^ 62 then some (rngD 0 j, ρ1) else none
  | .rng2 a b, ρ => ((ev np call a ρ).bind intOf).bind fun (i, ρ1) => ((ev np call b ρ1).bind intOf).bind fun (j, ρ2) =>
      if -(2 ^ 62) ≤ i ∧ i < 2 ^ 62 ∧ -(2 ^ 62) ≤ j ∧ j < 2 ^ 62 then some (rngD i j, ρ2) else none
  | .enm e, ρ => ((ev np call e ρ).bind immOf).bind fun (d, ρ1) => match d with
    | .lst ds => some (enumD 0 ds, ρ1)
    | .tup ds => some (enumD 0 ds, ρ1)
    | _ => none
  | .zip a b, ρ => ((ev np call a ρ).bind immOf).bind fun (d, ρ1) => ((ev np call b ρ1).bind immOf).bind fun (e, ρ2) => match d, e with
    | .lst ds, .lst es => some (zipD ds es, ρ2)
    | .tup ds, .tup es => some (zipD ds es, ρ2)
    | _, _ => none
end

mutual
def ex (np wf : Nat) (call : CallF) : S → Sl → Option (Fl × Sl)
  | .expr e, ρ => (ev np call e ρ).bind fun (_, ρ1) => some (.next, ρ1)
  | .asg tg e, ρ => (ev np call e ρ).bind fun (o, ρ1) => match tg, o with
    | .v i, .imm true d => (setV np ρ1 i (.own d)).bind fun ρ2 => some (.next, ρ2)
    | tg, .imm _ d => (asgTg np tg d ρ1).bind fun ρ2 => some (.next, ρ2)
    | _, _ => none
  | .par i j a b, ρ => if i = j then none else (ev np call a ρ).bind fun (o1, ρ1) => (ev np call b ρ1).bind fun (o2, ρ2) => match o1, o2 with
    | .imm f1 d1, .imm f2 d2 => (setV np ρ2 i (if f1 = true then .own d1 else .val d1)).bind fun ρ3 => (setV np ρ3 j (if f2 = true then .own d2 else .val d2)).bind fun ρ4 => some (.next, ρ4)
    | _, _ => none
  | .set i k v, ρ => ((ev np call v ρ).bind immOf).bind fun (d, ρ1) => match ρ1[i]? with
    | some (.own _) => ((ev np call k ρ1).bind immOf).bind fun (kd, ρ2) => match ρ2[i]? with
      | some (.own o) => (setop o kd d).bind fun o' => some (.next, ρ2.set i (.own o'))
      | _ => none
    | _ => none
  | .setf i f v, ρ => ((ev np call v ρ).bind immOf).bind fun (d, ρ1) => match ρ1[i]? with
    | some (.own (.ins c fs)) => if fs.length < 1000 then some (.next, ρ1.set i (.own (.ins c (putFD f d fs)))) else none
    | _ => none
  | .aug i op e, ρ => match ρ[i]? with
    | some (.val d) => ((ev np call e ρ).bind immOf).bind fun (d2, ρ1) => (augop op d d2).bind fun r => (setV np ρ1 i (.val r)).bind fun ρ2 => some (.next, ρ2)
    | _ => none
  | .ite c a b, ρ => ((ev np call c ρ).bind blOf).bind fun (x, ρ1) => if x = true then exs np wf call a ρ1 else exs np wf call b ρ1
  | .for tg it b, ρ => (evIt np call it ρ).bind fun (ds, ρ1) => forL np tg (fun ρ => exs np wf call b ρ) ds ρ1
  | .whl c b, ρ => whlL (fun ρ => (ev np call c ρ).bind blOf) (fun ρ => exs np wf call b ρ) wf ρ
  | .ret e, ρ => (ev np call e ρ).bind fun (o, ρ1) => match o with
    | .imm fr d => some (.ret fr d, ρ1)
    | .slot i => match ρ1[i]? with
      | some (.own d) => if np ≤ i then some (.ret true d, ρ1.set i .none) else none
      | _ => none
  | .retN, ρ => some (.ret false .non, ρ)
  | .pass, ρ => some (.next, ρ)
  | .brk, ρ => some (.brk, ρ)
  | .cont, ρ => some (.cont, ρ)
  | .fail, _ => none
def exs (np wf : Nat) (call : CallF) : Ss → Sl → Option (Fl × Sl)
  | .nil, ρ => some (.next, ρ)
  | .cons s r, ρ => (ex np wf call s ρ).bind fun (fl, ρ1) => match fl with
    | .next => exs np wf call r ρ1
    | .brk => some (.brk, ρ1)
    | .cont => some (.cont, ρ1)
    | .ret fr d => some (.ret fr d, ρ1)
end

/-- a def: its name, its names (the parameters first), how many parameters, its body -/
structure Fn where
  name : Str
  N : List Str
  np : Nat
  body : Ss
def whileFuel : Nat := 1000000000000
def run (tab : List Fn) : Nat → CallF
  | 0, _, _ => none
  | n + 1, f, args => match tab[f]? with
    | none => none
    | some F => if args.length = F.np then match exs F.np whileFuel (run tab n) F.body (args ++ List.replicate (F.N.length - F.np) .none) with
      | some (.ret fr d, ρ) => some (fr, d, ρ.take F.np)
      | some (.next, ρ) => some (false, .non, ρ.take F.np)
      | _ => none
    else none
end Iv
/-! Iv, part D2: what a def promises where no repr is under way (guards = some []). -/
namespace Iv
open PySem PySem.Spec PyProof.Rows L2
abbrev Free (A : Around) : Prop := A.guards = some []
/-- a def's promise, where no repr is under way -/
structure FnG (P : Program) (w : World) (K : PySem.W.Frag) (mg : Str → Option Value) (base : Heap) (CX : CXT) (k : Nat) (f : Addr) (fd : FuncData) (ps : List Str) (sp : Sp) : Prop where
  ar : ∀ xs H Q E, sp xs H Q E → xs.length = ps.length
  go : ∀ (A : Around) (frs : List Env) (st : Shared) (H : Hp) (ag : Args) (ws : List Value) (xs : List V) (Q : VK) (E : XK), Free A → Room k A → Env0 P w K mg base A frs st H → BindsTo st fd ag (ps.zip ws) → Vals xs ws → sp xs H Q E →
    codeAny (model P w) A (.call (.ref f) ag) (CR CX frs P w H st Q E) st
section
variable {P : Program} {w : World} {K : PySem.W.Frag} {mg : Str → Option Value} {base : Heap} {CX : CXT} {k : Nat} {f : Addr} {fd : FuncData} {ps : List Str} {sp sp' : Sp}
theorem FnG.imp (F : FnG P w K mg base CX k f fd ps sp) (h : ∀ xs H Q E, sp' xs H Q E → sp xs H Q E) : FnG P w K mg base CX k f fd ps sp' where
  ar xs H Q E q := F.ar xs H Q E (h xs H Q E q)
  go A frs st H ag ws xs Q E g r e b v q := F.go A frs st H ag ws xs Q E g r e b v (h xs H Q E q)
end
section
variable {X : Cx} {CX : CXT} {k : Nat} {f : Addr} {fd : FuncData} {ps : List Str} {sp : Sp} {E : XK}
/-- a call from a body -/
theorem FnG.call {pins : List (Addr × PySem.Obj)} {σ : L2.St} {H : Hp} {st : Shared} {Q : VK} {ws : List Value} {xs : List V} (F : FnG X.prog X.w X.K X.mg X.base CX k f fd ps sp) (g : Free X.A) (r : Room k X.A) (b : Binds X.K fd ps []) (hx : Passes CX X E)
    (I : Inv X pins σ H st) (rv : Vals xs ws) (q : sp xs H Q E) : wpAny (model X.prog X.w) X.A (PySem.call (.ref f) ws) (EP X pins σ Q) X.xe st := by
  have n1 : (ws ++ []).length = ps.length := by rw [List.append_nil, ← rv.length]; exact F.ar xs H Q E q
  have b1 := b st ws I.kIn n1
  rw [List.append_nil] at b1
  have run := F.go X.A X.stack st H ⟨ws, []⟩ ws xs Q E g r I.env0 b1 rv q
  refine wpAny_call (codeAny_mono run ?_)
  intro res st' w
  match res, w with
  | .error e, w => exact hx pins σ H st e st' I w
  | .ok (.ret u), w => exact I.after w
variable {x : Str} {p pos : Pos} {e : Expr} {es : List Expr} {t : TA}
theorem pe_callG (F : FnG X.prog X.w X.K X.mg X.base CX k f fd ps sp) (g : Free X.A) (r : Room k X.A) (gl : Gl X x) (m : X.mg x = some (.ref f)) (kp : PySem.W.keepIn X.K (.ref f) = true) (b : Binds X.K fd ps []) (hx : Passes CX X E)
    (ha : PA X (e :: es) t) (nd : (x == ("__debug__" : Str)) = false) (s1 : starEach (e :: es) X.env = (false, eval e X.env) :: starEach es X.env) (s2 : (backTo pos (starEach es X.env)).any (·.1) = false) :
    PE X (.Call (.Name x p) (e :: es) [] pos) (tCall sp [] E t) where
  run pins st0 σ H Q I q := wpAny_Call_Name_kw (ld_glob I gl m (PySem.W.callWith_K (h₀ := X.base) I.mod.kin kp (thn (ha.run pos pins st0 σ H _ I q) fun ws st1 ⟨xs, H1, I1, rv, q1⟩ => ⟨I1.kIn, F.call g r b hx I1 rv (by
    have q2 : sp (xs ++ []) H1 Q E := q1
    rw [List.append_nil] at q2
    exact q2)⟩) s1 s2) nd)
theorem pe_callG0 (F : FnG X.prog X.w X.K X.mg X.base CX k f fd ps sp) (g : Free X.A) (r : Room k X.A) (gl : Gl X x) (m : X.mg x = some (.ref f)) (kp : PySem.W.keepIn X.K (.ref f) = true) (b : Binds X.K fd ps []) (hx : Passes CX X E)
    (nd : (x == ("__debug__" : Str)) = false) : PE X (.Call (.Name x p) [] [] pos) (tCall sp [] E tNil) where
  run pins st0 σ H Q I q := wpAny_Call_Name_kw (ld_glob I gl m (PySem.W.callWith_K0 I.kIn kp (F.call (ws := []) (xs := []) g r b hx I .nil q)) nd)
end
section
variable {P : Program} {w : World} {K : PySem.W.Frag} {mg : Str → Option Value} {base : Heap} {CX : CXT} {k : Nat} {f : Addr} {sp : Sp}
/-- a def by its body -/
theorem FnG.of {x qual : Str} {st : Stmt} {fd : FuncData} {N ps : List Str} (F : Fun K x qual st f fd) (S : FnScope N ps (defScope st)) (ar : ∀ xs H Q E, sp xs H Q E → xs.length = ps.length)
    (body : ∀ (cdv : Value) (A : Around) (frs : List Env) (s : Shared) (H : Hp) (xs : List V) (Q : VK) (E : XK), Free A → Room k (A.deeper (envOfC qual (defScope st) s.heap.objs.size f cdv)) → sp xs H Q E →
      ∃ t, PSs (cxOf CX P w K mg base N qual (defScope st) f cdv A frs s H E) (defBody st) t ∧ t { nx := fun _ H' => Q .non H', rt := Q } (start N xs) H) : FnG P w K mg base CX (k + 1) f fd ps sp where
  ar := ar
  go A frs s H ag ws xs Q E g r e b v q := by
    obtain ⟨_, _, kV, doc, pm, an, cdv, ct, _, rfl, lk, hcd⟩ := F.ex
    have kin : K.In s.heap := e.mod.kin.keeps fun a o z => (e.bs a o z).1
    have loc : ∀ y ∈ ps.zip ws, (defScope st).names.lookup y.1 = some .local ∨ ((defScope st).names.lookup y.1 = some .cell ∧ ((cellsFrom (s.heap.objs.size + 1) (defScope st).names []).lookup y.1).isSome = true) := by
      intro y hy
      have hy1 := S.par y.1 (List.of_mem_zip (a := y.1) (b := y.2) hy).1
      exact hy1.imp id fun z => ⟨z, PySem.W.cellsFrom_some _ _ _ (.inl z)⟩
    refine codeAny_call_function r.depth (kin f _ lk) rfl S.co S.gen rfl (PySem.W.codeRec_of kin hcd) (b _ _ _ _ (wpAny_newFunctionEnv_cells S.kind loc ?_))
    rintro _ rfl s1 made
    constructor
    · exact (e.mod.nolimit.keeps fun a o z => (e.bs a o z).1).keeps made.toInCall.keep
    · obtain ⟨t, ht, hq⟩ := body cdv A frs s H xs Q E g (r.deeper _) q
      have I := inv_start (CX := CX) (cd := cdv) (f := f) (qual := qual) (E := E) S r.hd e (ar xs H Q E q) v made
      refine codeAny_func (wpAny_mono (ht.run [] s1 _ H _ I hq) ?_ fun _ _ z => z)
      intro fl s2 z
      match fl, z with
      | .ret u, ⟨v1, _, H1, J, rv, q1⟩ => exact ⟨v1, H1, J.os, J.bare, J.base, J.hok, rv, q1⟩
      | .next, ⟨_, H1, J, q1⟩ => exact ⟨.non, H1, J.os, J.bare, J.base, J.hok, rfl, q1⟩
      | .brk, ⟨_, _, _, z⟩ => exact z.elim
      | .cont, ⟨_, _, _, z⟩ => exact z.elim
end
end Iv
/-! Iv, part D3: rules whose new tuples are known to bear no dict of their own. -/
namespace Iv
open PySem PySem.Spec PyProof.Rows L2
/-- a tuple just made, of values that stand for xs -/
abbrev NewT (H : Hp) (p : Addr) (xs : List V) (H' : Hp) : Prop := ∃ o : PySem.Obj, o.dict = none ∧ H' = upd H p (.frz o (.tup xs))
section
variable {X : Cx} {pins : List (Addr × PySem.Obj)} {σ : L2.St} {H : Hp} {s : Shared}
theorem newTup (I : Inv X pins σ H s) {h' : Heap} {t : Nat} {us : List Value} {xs : List V} (k : ∀ b o, s.heap.get? b = some o → h'.get? b = some o) (r : Vals xs us) (hz : xs.length ≤ sizeLine)
    (e : h'.get? s.heap.objs.size = some { cls := .type "tuple", data := .seq us.toArray }) :
    Inv X pins σ (upd H s.heap.objs.size (.frz { cls := .type "tuple", data := .seq us.toArray } (.tup xs))) { s with heap := h', toks := t } :=
  I.laid k (Nat.le_refl _) ⟨e, hz, us, r, ⟨_, e, rfl, _, rfl⟩⟩
def tTupF (t : TA) : TE := fun σ H Q => t σ H fun xs H1 => xs.length ≤ sizeLine ∧ ∀ p H2, H1 p = none → NewT H1 p xs H2 → Q (.ref p) H2
theorem pe_tupF {es : List Expr} {t : TA} {pos : Pos} {x1} (h : PA X es t) : PE X (.Tuple es x1 pos) (tTupF t) where
  run pins s σ H Q I hq := wpAny_Tuple_spliced (thn (h.run pos pins s σ H _ I hq) fun us s1 ⟨xs, H1, I1, r, z, q⟩ => ⟨by rw [← r.length]; exact z,
    .ref s1.heap.objs.size, _, newTup I1 (t := s1.toks) (fun b u e => Heap.get?_push_of_some _ e) r z (Heap.get?_push_size _ rfl), rfl, q _ _ (I1.hok.fresh (Nat.le_refl _)) ⟨_, rfl, rfl⟩⟩)
def rCatF (K : PySem.W.Frag) : R2 := fun x y H Q => ∃ (a b : Addr) (xs ys : List V), x = .ref a ∧ y = .ref b ∧ SqT K H a xs ∧ SqT K H b ys ∧ xs.length + ys.length ≤ sizeLine ∧
  (xs = [] → Q (.ref b) H) ∧ (xs ≠ [] → ys = [] → Q (.ref a) H) ∧ (xs ≠ [] → ys ≠ [] → ∀ p H2, H p = none → NewT H p (xs ++ ys) H2 → Q (.ref p) H2)
theorem op_catF : OpR X (binaryOp .Add) (rCatF X.K) := by
  rintro pins s σ H _ _ v u Q I rx ry ⟨a, b, xs, ys, rfl, rfl, ha, hb, hz, q0, q1, q2⟩
  obtain rfl : v = Value.ref a := rx
  obtain rfl : u = Value.ref b := ry
  obtain ⟨us, r, p, _⟩ := I.tuple ha
  obtain ⟨ws, r', p', _⟩ := I.tuple hb
  cases xs with
  | nil =>
    cases r
    exact cat_tup0 p p' ⟨.ref b, H, I, rfl, q0 rfl⟩
  | cons x xs =>
    refine HT.cat_tup p p' (fun z => by subst z; cases r) (fun z => ?_) (fun z => ?_) (by rw [← r.length, ← r'.length]; exact hz)
    · exact ⟨.ref a, H, I, rfl, q1 (by simp) (r'.nil_iff.mp z)⟩
    · exact ⟨.ref s.heap.objs.size, _, newTup I (t := s.toks) (fun c o e => Heap.get?_push_of_some _ e) (r.append r') (by rw [List.length_append]; exact hz) (Heap.get?_push_size _ rfl), rfl,
        q2 (by simp) (fun w => z (r'.nil_iff.mpr w)) _ _ (I.hok.fresh (Nat.le_refl _)) ⟨_, rfl, rfl⟩⟩
def wholeSl (n : Nat) (lo hi : Option Int) : Prop := HT.sIx n 0 lo = 0 ∧ HT.sIx n n hi = n
def rSlF (K : PySem.W.Frag) : V → Option Int → Option Int → Hp → VK → Prop := fun x lo hi H Q => ∃ (a : Addr) (xs : List V), x = .ref a ∧ SqT K H a xs ∧
  (wholeSl xs.length lo hi → Q (.ref a) H) ∧ (¬ wholeSl xs.length lo hi → ∀ p H2, H p = none → NewT H p (cutV xs lo hi) H2 → Q (.ref p) H2)
theorem sl_tupF : SlR X (rSlF X.K) := by
  rintro pins s σ H _ v vl vu lo hi sl Q I rx hs pl pu ⟨a, xs, rfl, hx, q1, q2⟩
  obtain rfl : v = Value.ref a := rx
  obtain ⟨us, r, ht, hz⟩ := I.tuple hx
  have n1 : us.toArray.size = xs.length := by rw [List.size_toArray, r.length]
  refine ⟨"tuple", _, PyProof.Rows.slot_tuple_getitem.lookup, ht.typeIs, ?_⟩
  by_cases w : wholeSl xs.length lo hi
  · exact getItem_tuple_whole ht hs pl pu (by rw [n1]; exact w) ⟨.ref a, H, I, rfl, q1 w⟩
  · refine HT.getItem_tuple_cut ht hs pl pu (by rw [n1]; exact w) ?_ (by rw [n1]; exact hz)
    rw [n1]
    exact ⟨.ref s.heap.objs.size, _, newTup I (t := s.toks) (fun c o e => Heap.get?_push_of_some _ e) ((r.drop _).take _) (Nat.le_trans (cutV_length xs lo hi) hz) (Heap.get?_push_size _ rfl), rfl, q2 w _ _ (I.hok.fresh (Nat.le_refl _)) ⟨_, rfl, rfl⟩⟩
theorem call_tupleF : CallR X (.type "tuple") (fun vs H Q => ∃ (a : Addr) (xs : List V), vs = [.ref a] ∧ ((SqL X.K H a xs ∧ ∀ p H2, H p = none → NewT H p xs H2 → Q (.ref p) H2) ∨ (SqT X.K H a xs ∧ Q (.ref a) H))) := by
  rintro pins s σ H _ us Q I r ⟨a, xs, rfl, h⟩
  obtain ⟨u, rfl, ru⟩ := vals1 r
  obtain rfl : u = Value.ref a := ru
  rcases h with ⟨ha, q⟩ | ⟨ha, q⟩
  · obtain ⟨ws, rw', pl, hz⟩ := I.list ha
    refine call_tuple_list pl.isList (fun h' kp => ?_) (by rw [List.size_toArray, ← rw'.length]; exact hz)
    have I1 : Inv X pins σ H { s with heap := h' } := I.kept (t' := s.toks) kp
    exact ⟨.ref h'.objs.size, _, newTup I1 (t := s.toks) (fun c o e => Heap.get?_push_of_some _ e) rw' hz (Heap.get?_push_size _ rfl), rfl, q _ _ (I1.hok.fresh (Nat.le_refl _)) ⟨_, rfl, rfl⟩⟩
  · obtain ⟨ws, _, pl, _⟩ := I.tuple ha
    exact call_tuple_same pl ⟨.ref a, H, I, rfl, q⟩
end
end Iv
/-! Iv, part B4: repr of nested data; dict(tuple of pairs). -/
namespace Iv
open PySem PySem.Spec PyProof.Rows L2
mutual
theorem flat_noDict : ∀ d : PyData, d.canLay0 = true → d.hasDict = false
  | .none, _ => rfl
  | .bool _, _ => rfl
  | .int _, _ => rfl
  | .str _, _ => rfl
  | .list xs, h => by
    simp only [PyData.hasDict]
    exact flat_noDicts xs (by simpa only [PyData.canLay0] using h)
  | .tuple xs, h => by
    simp only [PyData.hasDict]
    exact flat_noDicts xs (by simpa only [PyData.canLay0] using h)
  | .dict _, h => by simp [PyData.canLay0] at h
theorem flat_noDicts : ∀ ds : List PyData, PyData.canLayAll0 ds = true → PyData.hasDictAll ds = false
  | [], _ => by simp only [PyData.hasDictAll]
  | d :: ds, h => by
    simp only [PyData.canLayAll0, Bool.and_eq_true] at h
    simp only [PyData.hasDictAll, flat_noDict d h.1, flat_noDicts ds h.2, Bool.or_self]
end
section
variable {X : Cx}
/-- repr of a list or a tuple, nested -/
theorem call_reprD (g : Free X.A) (hu : X.A.units + 66 < cLine) : CallR X (.builtin "repr") (fun vs H Q => ∃ (v : V) (d : PyData), vs = [v] ∧ Dp X.K H v d ∧ isDisplay d = true ∧ SeqAt.shaped d = true ∧ d.showable = true ∧ d.shown.length ≤ sizeLine ∧ Q (.str d.shown) H) := by
  rintro pins s σ H _ us Q I r ⟨v, d, rfl, hd, di, sd, sh, hz, q⟩
  obtain ⟨u, rfl, rv⟩ := vals1 r
  obtain ⟨as, rd⟩ := Dp.reads I d v u hd rv
  obtain ⟨a, rfl⟩ := isRef_of_reads rd di
  have c0 := SeqAt.canLay_of_shaped sd
  have dep : d.depth ≤ 64 := by
    have := sd
    unfold SeqAt.shaped at this
    rw [Bool.and_eq_true] at this
    exact of_decide_eq_true this.2
  exact repr_of_reads' rd sh (PyData.noDict_hsm (flat_noDict d c0)) g (by omega) (fun _ _ e => e) (fun h' u tk hk => ⟨.str d.shown, H, I.kept (t' := tk) hk, ⟨_, rfl⟩, q⟩) hz
/-- repr(None) -/
theorem call_reprN : CallR X (.builtin "repr") (fun vs H Q => vs = [.non] ∧ Q (.str "None") H) := by
  rintro pins s σ H _ us Q I r ⟨rfl, q⟩
  obtain ⟨u, rfl, rv⟩ := vals1 r
  obtain rfl : u = Value.none := rv
  exact PySem.P.repr_of_none ⟨.str "None", H, I.tok _, ⟨_, rfl⟩, q⟩
/-- the pairs that stand at ps -/
theorem pairs_at {pins : List (Addr × PySem.Obj)} {σ : L2.St} {H : Hp} {s : Shared} (I : Inv X pins σ H s) : ∀ {ps : List Addr} {kvs : List (Key × V)}, Paired (fun p kv => SqT X.K H p [kV kv.1, kv.2]) ps kvs →
    ∃ (prs : List (Key × Value)) (us : List (Value × Value)), KV kvs prs ∧ prs.length = ps.length ∧ us.length = ps.length ∧
      ∀ (j : Nat) (u : Value × Value), us[j]? = some u → ∃ b k, ps[j]? = some b ∧ prs[j]? = some (k, u.2) ∧ s.heap.IsTuple b #[u.1, u.2] ∧ keyIs k u.1 = true
  | _, _, .nil => ⟨[], [], .nil, rfl, rfl, fun j u e => by simp at e⟩
  | _, _, .cons (a := p) (b := kv) h t => by
    obtain ⟨prs, us, r, h1, h2, h3⟩ := pairs_at I t
    obtain ⟨its, rv, ht, _⟩ := I.tuple h
    obtain ⟨u, y, ei, ru, ry⟩ := vals2 rv
    subst ei
    refine ⟨(kv.1, y) :: prs, (u, y) :: us, .cons ⟨rfl, ry⟩ r, by simp [h1], by simp [h2], fun j w e => ?_⟩
    cases j with
    | zero =>
      obtain rfl : (u, y) = w := Option.some.inj e
      exact ⟨p, kv.1, rfl, rfl, ht, kV_is (P := X.prog) (w := X.w) ru⟩
    | succ j => exact (h3 j w e).elim fun b h => ⟨b, h⟩
/-- dict(t) of a tuple of pairs -/
theorem call_dictT (hc : X.calm = true) : CallR X (.type "dict") (fun vs H Q => ∃ (a : Addr) (o : PySem.Obj) (ps : List Addr) (kvs : List (Key × V)), vs = [.ref a] ∧ o.dict = none ∧ H a = some (.frz o (.tup (ps.map V.ref))) ∧ Paired (fun p kv => SqT X.K H p [kV kv.1, kv.2]) ps kvs ∧
    ∀ p, H p = none → Q (.ref p) (upd H p (.dK (mergeK [] kvs)))) := by
  rintro pins s σ H _ ws Q I r ⟨a, o, ps, kvs, rfl, od, ha, hp, q⟩
  obtain ⟨w, rfl, rw'⟩ := vals1 r
  obtain rfl : w = Value.ref a := rw'
  obtain ⟨ea, hz, its, rv, o', e', oc, n, dat⟩ := I.hok a _ ha
  rw [ea] at e'
  cases e'
  have ei := refs_at rv
  subst ei
  rw [List.length_map] at hz
  obtain ⟨prs, us, rel, h1, h2, h3⟩ := pairs_at I hp
  have hk : ∀ (i : Nat) (key v : Value), PairRel us i key v → ∃ k, prs[i]? = some (k, v) ∧ (mixKind X.prog X.w).is k key = true := fun i key v e => by
    obtain ⟨b, k, _, e2, _, e4⟩ := h3 i (key, v) e
    exact ⟨k, e2, e4⟩
  have items : PairItems s.heap (ps.map Value.ref).toArray (fun j => ps.getD j 0) us := ⟨by simp [h2], fun j k v e => by
    obtain ⟨b, kk, e1, _, e3, _⟩ := h3 j (k, v) e
    refine ⟨?_, .inl ?_⟩
    · show (ps.map Value.ref).toArray[j]? = some (.ref (ps.getD j 0))
      rw [List.getElem?_toArray, List.getElem?_map, e1, List.getD_eq_getElem?_getD, e1]
      rfl
    · show s.heap.IsTuple (ps.getD j 0) #[k, v]
      rw [List.getD_eq_getElem?_getD, e1]
      exact e3⟩
  refine PySem.call_dict_pairs (knd := mixKind X.prog X.w) (kvs := prs) (PairArg.tuple a (ps.map Value.ref).toArray (fun j => ps.getD j 0) us) (I.ok.hd hc) ⟨⟨o, n, ea, oc, od, dat⟩, items⟩ ⟨by rw [h1, h2], hk⟩ (by rw [h2]; exact hz) fun h' tk hd k => ?_
  have ns : (s.heap.objs.size == sysModules) = false := beq_eq_false_iff_ne.mpr (Nat.ne_of_gt I.big)
  have ln : (mergeK [] kvs).length ≤ sizeLine := by
    have := length_mergeK kvs []
    rw [rel.length, h1, List.length_nil] at this
    omega
  exact ⟨.ref s.heap.objs.size, _, I.laid (t' := tk) (o := .dK (mergeK [] kvs)) (fun b o e => k b o (List.not_mem_nil) e) (Nat.le_refl _) ⟨ln, ns, merged [] prs, KV.merge rel .nil, hd⟩, rfl, q _ (I.hok.fresh (Nat.le_refl _))⟩
end
end Iv
set_option maxHeartbeats 4000000
/-! Iv, part B5: sorted(set(list of ints)); list(zip(..)). -/
namespace Iv
open PySem PySem.Spec PyProof.Rows L2
section
variable {P : Program} {w : World} {A : Around} {E : Value → Shared → Prop} {s : Shared}
theorem call_set_lstI {l : Addr} {items : Array Value} (ns : List Int) {Q : Value → Shared → Prop} (hh : A.handled = none) (hl : s.heap.IsList l items) (hit : IntsAre items.toList ns) (hb : ns.length + 1 < scanBound)
    (h : ∀ (h' : Heap) (tk c : Nat), SetR w h' s.heap.objs.size (fun j => decide (j ∈ ns)) c → c ≤ ns.length → (∀ b o, s.heap.get? b = some o → h'.get? b = some o) → Q (.ref s.heap.objs.size) { s with heap := h', toks := tk }) :
    wpAny (model P w) A (call (.type "set") [.ref l]) Q E s := by
  have hisz : items.size = ns.length := by
    have q := IntsAre.length hit
    rw [Array.length_toList] at q
    exact q
  obtain ⟨c, tl, hmro⟩ := F.called_set.mro
  have hmade := F.called_set.made
  have hsub := F.called_set.sub
  refine wpAny_call (codeAny_of_tree ?_)
  show wpAny _ _ (callAny (.type "set") _) _ _ _
  refine wpAny_pure ⟨Code.quiet_builtin _ (by decide +kernel), codeAny_builtin F.entry_type_call ?_⟩
  rw [Around.under_plain (weight_type_call_type "set" [.ref l] []) rfl]
  have h1 := F.called_set.notType
  have h2 := F.called_set.canCreate
  have hct := F.typeCall_set_1 (.ref l)
  repeat (any_goals (first | assumption | wp_step))

  refine codeAny_mono (code_set_led1 (.ref l) (E := E) (Q₁ := fun obj s₁ => obj = .ref s.heap.objs.size ∧ s₁ = { s with heap := s.heap.push { cls := .type "set", dict := none, data := .set #[] 0 (.fresh 0 0 (!w.params.followText "set-order")) } }) ⟨rfl, rfl⟩) fun r s₁ hr => ?_
  cases r with
  | error e => exact hr
  | ok fl =>
    cases fl with
    | ret obj =>
      obtain ⟨rfl, rfl⟩ := hr
      have hS : (s.heap.push { cls := .type "set", dict := none, data := .set #[] 0 (.fresh 0 0 (!w.params.followText "set-order")) }).get? s.heap.objs.size = some { cls := .type "set", dict := none, data := .set #[] 0 (.fresh 0 0 (!w.params.followText "set-order")) } := Heap.get?_push_size _ rfl
      have hT : Shared.TypeIs { s with heap := s.heap.push { cls := .type "set", dict := none, data := .set #[] 0 (.fresh 0 0 (!w.params.followText "set-order")) } } (.ref s.heap.objs.size) "set" := ⟨_, hS, rfl⟩
      have hli := F.called_set.init.lookup
      have hbi := F.called_set.init.bind (.ref s.heap.objs.size)
      repeat (any_goals (first | assumption | wp_step))

      refine codeAny_mono (codeAny_call_builtin (R := wants (fun r s₂ => r = .none ∧ ∃ h' tk c, s₂ = { s with heap := h', toks := tk } ∧ SetR w h' s.heap.objs.size (fun j => decide (j ∈ ns)) c ∧ c ≤ ns.length ∧
          (∀ b o, s.heap.get? b = some o → h'.get? b = some o)) E) F.called_set.init.plain F.entry_set_init (check_set_init_1 hT ?_)) fun r₂ s₂ hr₂ => ?_
      · obtain ⟨ol, hol, hcl, nl, hdl⟩ := hl
        obtain ⟨ocls, odict, odata, oslots⟩ := ol
        simp only at hcl hdl
        subst hcl; subst hdl
        have hol' : (s.heap.push { cls := .type "set", dict := none, data := .set #[] 0 (.fresh 0 0 (!w.params.followText "set-order")) }).get? l = some { cls := .type "list", dict := odict, data := .seq items nl, slots := oslots } := Heap.get?_push_of_some _ hol
        have hsls := F.sub_list_set
        have hslf := F.sub_list_frozenset
        have hne : (Value.type "list" == Value.type "dict") = false := by decide
        have hl1 : (s.heap.push { cls := .type "set", dict := none, data := .set #[] 0 (.fresh 0 0 (!w.params.followText "set-order")) }).IsList l items := ⟨_, hol', rfl, nl, rfl⟩
        unfold Builtin.«set.__init__» noKeywords Builtin.Frozenset.updateFrom
        generalize hPI : pyIter = PI
        wp_walk
        subst hPI

        refine wpAny_pyIter_list hl1 ?_
        refine wpAny_bind (wpAny_runValue ?_)
        have hlS : l < s.heap.objs.size := Heap.lt_size hol
        have hh3 : A.in1.in1.in1.handled = none := by simp [hh]
        have hz1 : (s.heap.push { cls := .type "set", dict := none, data := .set #[] 0 (.fresh 0 0 (!w.params.followText "set-order")) }).objs.size = s.heap.objs.size + 1 := Heap.size_push ..
        have hneI : l ≠ (s.heap.push { cls := .type "set", dict := none, data := .set #[] 0 (.fresh 0 0 (!w.params.followText "set-order")) }).objs.size := by
          rw [Heap.size_push]; exact Nat.ne_of_lt (Nat.lt_succ_of_lt hlS)
        have hSf : s.heap.objs.size ∉ [(s.heap.push { cls := .type "set", dict := none, data := .set #[] 0 (.fresh 0 0 (!w.params.followText "set-order")) }).objs.size, l] := by
          rw [Heap.size_push]; simp only [List.mem_cons, List.mem_singleton, List.not_mem_nil, or_false, not_or]
          exact ⟨Nat.ne_of_lt (Nat.lt_succ_self _), Nat.ne_of_gt hlS⟩
        have hval : ∀ (i : Nat) (v : Value), items[i]? = some v → ∃ k t, ns[i]? = some k ∧ v = .int k t := fun i v hv => by
          have hi : i < ns.length := by rw [← hisz]; exact (Array.getElem?_eq_some_iff.mp hv).1
          obtain ⟨t, e⟩ := PyProof.Rows.IntsAre.int_at hit i v (by rw [Array.getElem?_toList]; exact hv)
          refine ⟨ns[i], t, List.getElem?_eq_getElem hi, ?_⟩
          rw [e, List.getD_eq_getElem?_getD, List.getElem?_eq_getElem hi] <;> rfl
        refine set_update_ints ((Walks.list hh3 _ l hneI items).toS) s.heap.objs.size
          hSf ns hisz hb hval (items.size - 0) 0 _ (by omega) (Nat.zero_le _)
          ⟨⟨_, Heap.get?_push_size _ rfl, rfl, rfl⟩, (hl1.push _)⟩ ?hS0 ?hR
        case hS0 =>
          have hget : ((s.heap.push { cls := .type "set", dict := none, data := .set #[] 0 (.fresh 0 0 (!w.params.followText "set-order")) }).push { cls := .type "list_iterator", data := .fields #[.ref l, .int 0 0] }).get? s.heap.objs.size
              = some { cls := .type "set", dict := none, data := .set #[] 0 (.fresh 0 0 (!w.params.followText "set-order")) } := Heap.get?_push_of_some _ hS
          exact ⟨0, Nat.le_refl 0, setR_new_at hget⟩
        case hR =>
          intro s' c' hm hc' hS'
          obtain ⟨h', g2, d', tk', os'⟩ := s'
          have eg : g2 = s.gens := hm.gens
          have ed : d' = s.drawn := hm.drawn
          have eo : os' = s.os := hm.os
          subst eg; subst ed; subst eo
          show wpAny _ _ _ _ _ _
          refine wpAny_pure ?_
          show wpAny _ _ (ret Value.none) _ _ _
          rw [hisz] at hc'
          refine wpAny_pure ⟨rfl, h', tk', c', rfl, hS', hc', fun b o e => ?_⟩
          have hb0 : b < s.heap.objs.size := Heap.lt_size e
          have hb1 : b ≠ s.heap.objs.size := Nat.ne_of_lt hb0
          have hb2 : b ≠ (s.heap.push { cls := .type "set", dict := none, data := .set #[] 0 (.fresh 0 0 (!w.params.followText "set-order")) }).objs.size := by
            rw [Heap.size_push]; exact Nat.ne_of_lt (Nat.lt_succ_of_lt hb0)
          exact hm.heap b o (by simp only [List.mem_cons, List.mem_singleton, List.not_mem_nil, or_false, not_or]; exact ⟨hb1, hb2⟩) (Heap.get?_push_of_some _ (Heap.get?_push_of_some _ e))

      · cases r₂ with
        | error e => exact hr₂
        | ok fl₂ =>
          cases fl₂ with
          | ret r =>
            obtain ⟨rfl, h', tk, c', rfl, hS', hc', hk'⟩ := hr₂
            repeat (any_goals (first | assumption | wp_step))
            exact h _ _ _ hS' hc' hk'
          | _ => exact hr₂.elim
    | _ => exact hr.elim

end
section
variable {X : Cx}
def rSetL (w : World) (K : PySem.W.Frag) : List V → Hp → VK → Prop := fun vs H Q => ∃ (p : Addr) (ns : List Int), vs = [.ref p] ∧ SqL K H p (ns.map V.int) ∧ ns.length ≤ 1000 ∧
  ∀ (a : Addr) (S : Int → Bool) (n : Nat), (∀ k, S k = true ↔ k ∈ ns) → (∀ l : List Int, l.Nodup → (∀ k, k ∈ l ↔ k ∈ ns) → l.length = n) → H a = none → Q (.ref a) (upd H a (SetO w a S n))
theorem cr_setL (hc : X.calm = true) : CallR X (.type "set") (rSetL X.w X.K) := by
  intro pins s σ H vs us Q I r h
  obtain ⟨p, ns, rfl, hq, hl, q⟩ := h
  rw [Vals.ref1 r]
  obtain ⟨its, rv, pl, hz⟩ := I.list hq
  have hi : IntsAre its.toArray.toList ns := ints_of_vals rv
  refine call_set_lstI ns (I.ok.hd hc) pl.isList hi (by unfold scanBound; omega) fun h' tk c R1 hcn k => ?_
  refine ⟨.ref _, upd H s.heap.objs.size (SetO X.w s.heap.objs.size (fun j => decide (j ∈ ns)) c), I.laid (t' := tk) k (Nat.le_refl _) (setO_new R1), rfl, q _ _ _ (fun j => by simp) (fun l nl hl => ?_) (I.hok.fresh (Nat.le_refl _))⟩
  obtain ⟨o, es, ep, t, ho, hex, hdt, g, nd, hm2, hb, hf, hn, hr, hl2⟩ := R1
  have pm : l.Perm (es.toList.map L2.keyOf) := (List.perm_ext_iff_of_nodup nl nd).mpr fun k => by rw [hl k, ← hm2 k, decide_eq_true_eq]
  rw [pm.length_eq, List.length_map, Array.length_toList]
  exact hn
end
end Iv
set_option maxHeartbeats 4000000
/-! Iv, part B6: list(zip(a, b)), a and b lists or tuples. -/
namespace Iv
open PySem PySem.Spec PyProof.Rows L2
open Sem (wp)
section
variable {prog : Program} {w : World} {A : Around} {E : Value → Shared → Prop} {s : Shared} {z TI TO T i1 i2 : Addr} {fp1 fp2 : List Addr} {n1 n2 i : Nat} {P1 P2 : Nat → Value → Prop} {St1 St2 : Nat → Heap → Prop} {f : Bool} {oT : Obj}
/-- next of a zip whose last pair is still held -/
theorem zipH_item {Q : Value → Shared → Prop} (S : ZipSep2 z TI TO i1 i2 fp1 fp2) (D1 : Draws prog w A i1 fp1 n1 P1 St1) (D2 : Draws prog w A i2 fp2 n2 P2 St2)
    (hz : IsZipHeld s.heap z TI TO T f) (hT : s.heap.get? T = some oT) (hTI : IsTupOf2 s.heap TI (.ref i1) (.ref i2)) (st1 : St1 i s.heap) (st2 : St2 i s.heap) (hlt1 : i < n1) (hlt2 : i < n2)
    (hQ : ∀ x1 x2 h' tk, P1 i x1 → P2 i x2 → IsZipHeld h' z TI TO T true → St1 (i + 1) h' → St2 (i + 1) h' → IsTupOf2 h' s.heap.objs.size x1 x2 → h'.objs.size = s.heap.objs.size + 1 →
      (∀ c o, c ≠ z → c ≠ i1 → c ≠ i2 → s.heap.get? c = some o → h'.get? c = some o) → Q (.ref s.heap.objs.size) { s with heap := h', toks := tk }) :
    wpAny (model prog w) A (Builtin.«zip.__next__» ⟨[.ref z], []⟩) (fun fin s' => ∃ v, fin = .done (.ret v) ∧ Q v s') E s := by
  obtain ⟨hp, g, d, tk0, os⟩ := s
  show wpAny _ _ (field (.ref z) 2 >>= _) _ _ _
  refine wpAny_bind (wpAny_field hz rfl (x := .bool false) rfl ?_)
  show wpAny _ _ (field (.ref z) 3 >>= _) _ _ _
  refine wpAny_bind (wpAny_field hz rfl (x := .ref TI) rfl ?_)
  refine wpAny_bind (wpAny_seqItems hTI rfl ?_)
  show wpAny _ _ (Builtin.SmallTypes.ownedTupleIsFree (.ref z) >>= _) _ _ _
  refine wpAny_bind (wpAny_tupleHeld_zip hz hT fun g0 hz0 hs0 => ?_)
  replace hs0 : Heap.SameBut z hp g0 := hs0
  simp only [Bool.false_eq_true, if_false]
  refine wpAny_bind ?_
  rw [← Array.forIn_toList]
  simp only [List.forIn_cons, List.forIn_nil]
  refine wpAny_bind (wpAny_bind (wpAny_holding ?_))
  show wpAny _ _ (Builtin.SmallTypes.nextOf (.ref i1) >>= _) _ _ ⟨g0, g, d, tk0, os⟩
  refine wpAny_bind (D1.item i _ _ _ hlt1 (D1.over st1 hs0 S.zf1) fun x1 p1 tk1 hx1 sn1 hp1 => wpAny_pure ?_)
  replace hp1 : Heap.SameBut i1 g0 p1 := hp1
  refine wpAny_pure ?_
  refine wpAny_bind (wpAny_bind (wpAny_holding ?_))
  show wpAny _ _ (Builtin.SmallTypes.nextOf (.ref i2) >>= _) _ _ ⟨p1, g, d, tk1, os⟩
  refine wpAny_bind (D2.item i _ _ _ hlt2 (D2.over (D2.over st2 hs0 S.zf2) hp1 S.sep1_2) fun x2 p2 tk2 hx2 sn2 hp2 => wpAny_pure ?_)
  replace hp2 : Heap.SameBut i2 p1 p2 := hp2
  refine wpAny_pure (wpAny_pure ?_)
  show wpAny _ _ (newTuple [x1, x2] >>= _) _ _ _
  refine wpAny_bind (wpAny_newTuple ?_)
  have hsz : p2.objs.size = hp.objs.size := by rw [hp2.1, hp1.1, hs0.1]
  have hzz : IsZipHeld p2 z TI TO T true := hp2.extBut _ _ S.zi2 (hp1.extBut _ _ S.zi1 hz0)
  have hkk : ∀ c o, c ≠ z → c ≠ i1 → c ≠ i2 → hp.get? c = some o → p2.get? c = some o := fun c o cz c1 c2 e => hp2.extBut _ _ c2 (hp1.extBut _ _ c1 (hs0.extBut _ _ cz e))
  have hj1 : St1 (i + 1) p2 := D1.over sn1 hp2 S.sep2_1
  refine wpAny_pure ⟨_, rfl, ?_⟩
  show Q (.ref p2.objs.size) ⟨p2.push { cls := .type "tuple", data := .seq #[x1, x2] }, g, d, tk2, os⟩
  have hp4 : IsTupOf2 (p2.push { cls := .type "tuple", data := .seq #[x1, x2] }) p2.objs.size x1 x2 := Heap.get?_push_size _ rfl
  have hz4 : (p2.push { cls := .type "tuple", data := .seq #[x1, x2] }).objs.size = p2.objs.size + 1 := Heap.size_push ..
  rw [hsz] at hp4 hz4 ⊢
  exact hQ x1 x2 _ tk2 hx1 hx2 (Heap.get?_push_of_some _ hzz) (D1.frame _ _ _ hj1 fun b _ o e => Heap.get?_push_of_some _ e) (D2.frame _ _ _ sn2 fun b _ o e => Heap.get?_push_of_some _ e) hp4 hz4
    fun c o cz c1 c2 e => Heap.get?_push_of_some _ (hkk c o cz c1 c2 e)
theorem zipH_end {Q : Fin → Shared → Prop} (S : ZipSep2 z TI TO i1 i2 fp1 fp2) (D1 : Draws prog w A i1 fp1 n1 P1 St1) (D2 : Draws prog w A i2 fp2 n2 P2 St2)
    (hz : IsZipHeld s.heap z TI TO T f) (hT : s.heap.get? T = some oT) (hTI : IsTupOf2 s.heap TI (.ref i1) (.ref i2)) (st1 : St1 i s.heap) (st2 : St2 i s.heap) (hle1 : i ≤ n1) (hle2 : i ≤ n2) (hend : i = n1 ∨ i = n2)
    (hE : ∀ h' tk e, (∀ c o, c ≠ z → c ≠ i1 → c ≠ i2 → s.heap.get? c = some o → h'.get? c = some o) → (∃ o, h'.get? e = some o ∧ o.cls = .type "StopIteration") → E (.ref e) { s with heap := h', toks := tk }) :
    wpAny (model prog w) A (Builtin.«zip.__next__» ⟨[.ref z], []⟩) Q E s := by
  obtain ⟨hp, g, d, tk0, os⟩ := s
  show wpAny _ _ (field (.ref z) 2 >>= _) _ _ _
  refine wpAny_bind (wpAny_field hz rfl (x := .bool false) rfl ?_)
  show wpAny _ _ (field (.ref z) 3 >>= _) _ _ _
  refine wpAny_bind (wpAny_field hz rfl (x := .ref TI) rfl ?_)
  refine wpAny_bind (wpAny_seqItems hTI rfl ?_)
  show wpAny _ _ (Builtin.SmallTypes.ownedTupleIsFree (.ref z) >>= _) _ _ _
  refine wpAny_bind (wpAny_tupleHeld_zip hz hT fun g0 hz0 hs0 => ?_)
  replace hs0 : Heap.SameBut z hp g0 := hs0
  simp only [Bool.false_eq_true, if_false]
  refine wpAny_bind ?_
  rw [← Array.forIn_toList]
  simp only [List.forIn_cons, List.forIn_nil]
  refine wpAny_bind (wpAny_bind (wpAny_holding ?_))
  show wpAny _ _ (Builtin.SmallTypes.nextOf (.ref i1) >>= _) _ _ ⟨g0, g, d, tk0, os⟩
  by_cases hlt1 : i < n1
  · refine wpAny_bind (D1.item i _ _ _ hlt1 (D1.over st1 hs0 S.zf1) fun x1 p1 tk1 hx1 sn1 hp1 => wpAny_pure ?_)
    replace hp1 : Heap.SameBut i1 g0 p1 := hp1
    refine wpAny_pure ?_
    have hi2 : i = n2 := by omega
    refine wpAny_bind (wpAny_bind (wpAny_holding ?_))
    show wpAny _ _ (Builtin.SmallTypes.nextOf (.ref i2) >>= _) _ _ ⟨p1, g, d, tk1, os⟩
    refine wpAny_bind (D2.done ⟨p1, g, d, tk1, os⟩ _ _ (by rw [← hi2]; exact D2.over (D2.over st2 hs0 S.zf2) hp1 S.sep1_2) fun q e hq he => ?_)
    exact hE q tk1 e (fun c o cz c1 c2 x => hq _ _ c2 (hp1.extBut _ _ c1 (hs0.extBut _ _ cz x))) he
  · have hi1 : i = n1 := by omega
    refine wpAny_bind (D1.done ⟨g0, g, d, tk0, os⟩ _ _ (by rw [← hi1]; exact D1.over st1 hs0 S.zf1) fun q e hq he => ?_)
    exact hE q tk0 e (fun c o cz c1 c2 x => hq _ _ c1 (hs0.extBut _ _ cz x)) he
theorem zipH_next {Q : Option Value → Shared → Prop} (S : ZipSep2 z TI TO i1 i2 fp1 fp2) (D1 : Draws prog w A.in1 i1 fp1 n1 P1 St1) (D2 : Draws prog w A.in1 i2 fp2 n2 P2 St2)
    (hz : IsZipHeld s.heap z TI TO T f) (hT : s.heap.get? T = some oT) (hTI : IsTupOf2 s.heap TI (.ref i1) (.ref i2)) (st1 : St1 i s.heap) (st2 : St2 i s.heap) (hlt1 : i < n1) (hlt2 : i < n2)
    (hQ : ∀ x1 x2 h' tk, P1 i x1 → P2 i x2 → IsZipHeld h' z TI TO T true → St1 (i + 1) h' → St2 (i + 1) h' → IsTupOf2 h' s.heap.objs.size x1 x2 → h'.objs.size = s.heap.objs.size + 1 →
      (∀ c o, c ≠ z → c ≠ i1 → c ≠ i2 → s.heap.get? c = some o → h'.get? c = some o) → Q (some (.ref s.heap.objs.size)) { s with heap := h', toks := tk }) :
    wpAny (model prog w) A (pyNext (.ref z)) Q E s := by
  have hTy : s.TypeIs (.ref z) "zip" := ⟨_, hz, rfl⟩
  unfold pyNext
  exact wpAny_bind (wpAny_attempt (wpAny_callSpecial?_slot (name := Str.ofString "__next__") hTy F.slot_zip_next
    (wpAny_call_entry F.slot_zip_next hTy F.entry_zip_next
      (zipH_item S D1 D2 hz hT hTI st1 st2 hlt1 hlt2 fun x1 x2 h' tk y1 y2 b1 d1 d2 b5 b6 b7 => wpAny_pure (hQ x1 x2 h' tk y1 y2 b1 d1 d2 b5 b6 b7)) (F.args_zip_next_1 _))))
theorem zipH_done {Q : Option Value → Shared → Prop} (S : ZipSep2 z TI TO i1 i2 fp1 fp2) (D1 : Draws prog w A.in1 i1 fp1 n1 P1 St1) (D2 : Draws prog w A.in1 i2 fp2 n2 P2 St2)
    (hz : IsZipHeld s.heap z TI TO T f) (hT : s.heap.get? T = some oT) (hTI : IsTupOf2 s.heap TI (.ref i1) (.ref i2)) (st1 : St1 i s.heap) (st2 : St2 i s.heap) (hle1 : i ≤ n1) (hle2 : i ≤ n2) (hend : i = n1 ∨ i = n2)
    (hQ : ∀ h' tk, (∀ c o, c ≠ z → c ≠ i1 → c ≠ i2 → s.heap.get? c = some o → h'.get? c = some o) → Q none { s with heap := h', toks := tk }) : wpAny (model prog w) A (pyNext (.ref z)) Q E s := by
  have hTy : s.TypeIs (.ref z) "zip" := ⟨_, hz, rfl⟩
  unfold pyNext
  refine wpAny_bind (wpAny_attempt (wpAny_callSpecial?_slot (name := Str.ofString "__next__") hTy F.slot_zip_next
    (wpAny_call_entry F.slot_zip_next hTy F.entry_zip_next (zipH_end S D1 D2 hz hT hTI st1 st2 hle1 hle2 hend fun h' tk e hk he => ?_) (F.args_zip_next_1 _))))
  obtain ⟨o, ho, hc⟩ := he
  refine wpAny_bind (wpAny_isInstance (T := "StopIteration") (b := true) ⟨o, ho, hc⟩ isSubtype_stop ?_)
  exact wpAny_pure (hQ _ _ hk)
end
/-! ### the list takes the pairs up -/
/-- the zip at z, i pairs drawn; what it handed out lies at B or above -/
def ZSt (St1 St2 : Nat → Heap → Prop) (z TI TO i1 i2 B : Addr) (i : Nat) (h : Heap) : Prop :=
  IsTupOf2 h TI (.ref i1) (.ref i2) ∧ St1 i h ∧ St2 i h ∧ ((IsZip h z TI TO .none ∧ ∃ a b, IsTupOf2 h TO a b) ∨ ∃ T f a b, IsZipHeld h z TI TO T f ∧ IsTupOf2 h T a b ∧ B ≤ T)
/-- the pairs so far -/
def ZAcc (P1 P2 : Nat → Value → Prop) (B : Addr) (h : Heap) (Ts : List (Addr × Value × Value)) : Prop :=
  (∀ t ∈ Ts, B ≤ t.1 ∧ t.1 < h.objs.size ∧ IsTupOf2 h t.1 t.2.1 t.2.2) ∧ (Ts.map (·.1)).Nodup ∧ ∀ j t, Ts[j]? = some t → P1 j t.2.1 ∧ P2 j t.2.2
section
variable {prog : Program} {w : World} {A : Around} {z TI TO i1 i2 B L : Addr} {fp1 fp2 : List Addr} {n1 n2 : Nat} {P1 P2 : Nat → Value → Prop} {St1 St2 : Nat → Heap → Prop} {R : Result → Shared → Prop}
theorem ZSt.kept (D1 : Draws prog w A i1 fp1 n1 P1 St1) (D2 : Draws prog w A i2 fp2 n2 P2 St2) {i : Nat} {h h' : Heap} (st : ZSt St1 St2 z TI TO i1 i2 B i h) (k : ∀ b o, b ≠ L → h.get? b = some o → h'.get? b = some o) (hLB : L < B) (hz : L ≠ z) (hTI : L ≠ TI) (hTO : L ≠ TO)
    (h1 : L ∉ fp1) (h2 : L ∉ fp2) : ZSt St1 St2 z TI TO i1 i2 B i h' := by
  obtain ⟨a, b, c, d⟩ := st
  refine ⟨k _ _ (Ne.symm hTI) a, D1.frame _ _ _ b fun x hx o e => k x o (fun q => h1 (q ▸ hx)) e, D2.frame _ _ _ c fun x hx o e => k x o (fun q => h2 (q ▸ hx)) e, ?_⟩
  rcases d with ⟨d, x, y, e⟩ | ⟨T, f, x, y, d, e, l⟩
  · exact .inl ⟨k _ _ (Ne.symm hz) d, x, y, k _ _ (Ne.symm hTO) e⟩
  · exact .inr ⟨T, f, x, y, k _ _ (Ne.symm hz) d, k _ _ (fun q => by rw [q] at l; exact absurd hLB (Nat.not_lt_of_le l)) e, l⟩
theorem zip_extend (S : ZipSep2 z TI TO i1 i2 fp1 fp2) (hh : A.handled = none) (D1 : ∀ A' : Around, A'.handled = none → Draws prog w A' i1 fp1 n1 P1 St1) (D2 : ∀ A' : Around, A'.handled = none → Draws prog w A' i2 fp2 n2 P2 St2)
    (hLB : L < B) (hzB : z < B) (hTIB : TI < B) (hTOB : TO < B) (h1B : ∀ b ∈ fp1, b < B) (h2B : ∀ b ∈ fp2, b < B) (hz : L ≠ z) (hTI : L ≠ TI) (hTO : L ≠ TO) (h1 : L ∉ fp1) (h2 : L ∉ fp2) (hn : min n1 n2 ≤ sizeLine) (res : Value) :
    ∀ (k i : Nat) (s : Shared) (Ts : List (Addr × Value × Value)) (c : Nat), min n1 n2 - i = k → i ≤ min n1 n2 → ZSt St1 St2 z TI TO i1 i2 B i s.heap → B ≤ s.heap.objs.size →
    s.heap.get? L = some { cls := .type "list", dict := none, data := .seq (Ts.map fun t => Value.ref t.1).toArray c, slots := #[] } → Ts.length = i → ZAcc P1 P2 B s.heap Ts →
    (∀ s' Ts' c', (∀ b o, b < B → b ≠ L → b ≠ z → b ≠ TO → b ≠ i1 → b ≠ i2 → s.heap.get? b = some o → s'.heap.get? b = some o) → s'.gens = s.gens → s'.drawn = s.drawn → s'.os = s.os →
      s'.heap.get? L = some { cls := .type "list", dict := none, data := .seq (Ts'.map fun t => Value.ref t.1).toArray c', slots := #[] } → Ts'.length = min n1 n2 → ZAcc P1 P2 B s'.heap Ts' → R (.ok (.ret res)) s') →
    codeAny (model prog w) A (.builtin "list.extend.loop" ⟨[.ref L, .ref z, res], []⟩) R s := by
  have i1B : i1 < B := h1B _ S.mem1
  have i2B : i2 < B := h2B _ S.mem2
  have L1 : L ≠ i1 := fun q => h1 (q ▸ S.mem1)
  have L2 : L ≠ i2 := fun q => h2 (q ▸ S.mem2)
  intro k
  induction k with
  | zero =>
    intro i s Ts c hk hi hst hsz hL hlen hacc hR
    have hin : i = min n1 n2 := by omega
    refine codeAny_builtin F.entry_extend_loop ?_
    rw [Around.under_plainId F.plain_extend_loop _]
    show wpAny _ A.in1 (pyNext (.ref z) >>= _) _ _ s
    obtain ⟨hTu, st1, st2, hzz⟩ := hst
    have fin : ∀ h' tk, (∀ c o, c ≠ z → c ≠ TO → c ≠ i1 → c ≠ i2 → s.heap.get? c = some o → h'.get? c = some o) → R (.ok (.ret res)) { s with heap := h', toks := tk } := fun h' tk hk => by
      refine hR _ Ts c (fun b o _ bL bz bT b1 b2 e => hk b o bz bT b1 b2 e) rfl rfl rfl (hk _ _ hz hTO L1 L2 hL) (by omega) ⟨fun t ht => ?_, hacc.2.1, hacc.2.2⟩
      obtain ⟨q1, q2, q3⟩ := hacc.1 t ht
      have nB : ∀ b, b < B → t.1 ≠ b := fun b hb e => by rw [e] at q1; exact absurd hb (Nat.not_lt_of_le q1)
      have q4 := hk _ _ (nB _ hzB) (nB _ hTOB) (nB _ i1B) (nB _ i2B) q3
      exact ⟨q1, Heap.lt_size q4, q4⟩
    rcases hzz with ⟨hzz, a, b, hTu2⟩ | ⟨T, f, a, b, hzz, hT, lT⟩
    · exact wpAny_bind (wpAny_pyNext_zipD2_end S (D1 _ hh) (D2 _ hh) hzz hTu hTu2 st1 st2 (by omega) (by omega) (by omega) fun h' tk hk => wpAny_pure (fin h' tk hk))
    · exact wpAny_bind (zipH_done S (D1 _ hh) (D2 _ hh) hzz hT hTu st1 st2 (by omega) (by omega) (by omega) fun h' tk hk => wpAny_pure (fin h' tk fun c o cz _ c1 c2 e => hk c o cz c1 c2 e))
  | succ k ih =>
    intro i s Ts c hk hi hst hsz hL hlen hacc hR
    have hlt : i < min n1 n2 := by omega
    refine codeAny_builtin F.entry_extend_loop ?_
    rw [Around.under_plainId F.plain_extend_loop _]
    show wpAny _ A.in1 (pyNext (.ref z) >>= _) _ _ s
    obtain ⟨hTu, st1, st2, hzz⟩ := hst
    have step : ∀ (x1 x2 : Value) (h' : Heap) (tk : Nat), P1 i x1 → P2 i x2 → ZSt St1 St2 z TI TO i1 i2 B (i + 1) h' → IsTupOf2 h' s.heap.objs.size x1 x2 → h'.objs.size = s.heap.objs.size + 1 →
        (∀ c o, c ≠ z → c ≠ TO → c ≠ i1 → c ≠ i2 → s.heap.get? c = some o → h'.get? c = some o) →
        wpAny (model prog w) A.in1 (updateSeq L (·.push (.ref s.heap.objs.size)) >>= fun _ => again (.builtin "list.extend.loop" ⟨[.ref L, .ref z, res], []⟩))
          (fun fin s' => match fin with | .done f => R (.ok f) s' | .again c' => c'.quiet = true ∧ codeAny (model prog w) A c' R s') (fun e s' => R (.error e) s') { s with heap := h', toks := tk } := fun x1 x2 h' tk y1 y2 st' hTn hsz' hk' => by
      have hL' := hk' _ _ hz hTO L1 L2 hL
      have oth : ∀ b u, b ≠ L → h'.get? b = some u → (h'.update L (Obj.mapSeq (·.push (Value.ref s.heap.objs.size)))).get? b = some u := fun b u hb e => (Heap.get?_update_other _ _ (Ne.symm hb)).trans e
      have hsu : (h'.update L (Obj.mapSeq (·.push (Value.ref s.heap.objs.size)))).objs.size = h'.objs.size := (Heap.SameBut.update (h := h') (a := L) (f := Obj.mapSeq (·.push (Value.ref s.heap.objs.size)))).1
      have lsz : (Ts.map fun t => Value.ref t.1).toArray.size = i := by rw [List.size_toArray, List.length_map, hlen]
      have LB : ∀ b : Addr, B ≤ b → b ≠ L := fun b hb q => by rw [q] at hb; exact absurd hLB (Nat.not_lt_of_le hb)
      refine wpAny_bind (wpAny_updateSeq (s := { s with heap := h', toks := tk }) hL' rfl (wpAny_pure ⟨plainId_quiet F.plain_extend_loop _, ?_⟩) (Nat.le_trans (Nat.le_of_eq lsz) (Nat.le_trans (Nat.le_of_lt hlt) hn)) (Nat.le_trans (Nat.le_of_eq (by rw [Array.size_push, lsz])) (Nat.succ_le_succ (Nat.le_trans (Nat.le_of_lt hlt) hn))))
      have hL2 : (h'.update L (Obj.mapSeq (·.push (Value.ref s.heap.objs.size)))).get? L = some { cls := .type "list", dict := none, data := .seq (((Ts ++ [(s.heap.objs.size, x1, x2)]).map fun t => Value.ref t.1)).toArray (c + 1), slots := #[] } := by
        have q := Heap.get?_update_self (Obj.mapSeq (·.push (Value.ref s.heap.objs.size))) hL' rfl
        rw [q]
        simp [Obj.mapSeq]
      refine ih (i + 1) _ (Ts ++ [(s.heap.objs.size, x1, x2)]) (c + 1) (by omega) hlt (ZSt.kept (D1 _ hh) (D2 _ hh) st' oth hLB hz hTI hTO h1 h2) (by show B ≤ (h'.update L _).objs.size; rw [hsu, hsz']; exact Nat.le_succ_of_le hsz) hL2 (by rw [List.length_append, hlen]; rfl) ⟨fun t ht => ?_, ?_, ?_⟩ fun s'' Ts' c' hk'' hg hd ho hL'' hl'' hacc'' => ?_
      · rw [List.mem_append, List.mem_singleton] at ht
        rcases ht with ht | rfl
        · obtain ⟨q1, q2, q3⟩ := hacc.1 t ht
          have nB : ∀ b, b < B → t.1 ≠ b := fun b hb e => by rw [e] at q1; exact absurd hb (Nat.not_lt_of_le q1)
          have q4 := oth _ _ (LB _ q1) (hk' _ _ (nB _ hzB) (nB _ hTOB) (nB _ i1B) (nB _ i2B) q3)
          exact ⟨q1, Heap.lt_size q4, q4⟩
        · have q4 := oth _ _ (LB _ hsz) hTn
          exact ⟨hsz, Heap.lt_size q4, q4⟩
      · rw [List.map_append, List.nodup_append]
        refine ⟨hacc.2.1, by simp, fun a ha b hb => ?_⟩
        rw [List.map_singleton, List.mem_singleton] at hb
        obtain ⟨t, ht, rfl⟩ := List.mem_map.mp ha
        rw [hb]
        exact Nat.ne_of_lt (hacc.1 t ht).2.1
      · intro j t hj
        rw [List.getElem?_append] at hj
        split at hj
        · exact hacc.2.2 j t hj
        · rename_i hjl
          have : j = i := by
            cases hjj : j - Ts.length with
            | zero => omega
            | succ m => rw [hjj] at hj; cases hj
          subst this
          rw [hlen, Nat.sub_self] at hj
          cases hj
          exact ⟨y1, y2⟩
      · exact hR s'' Ts' c' (fun b o bB bL bz bT b1 b2 e => hk'' b o bB bL bz bT b1 b2 (oth b o bL (hk' b o bz bT b1 b2 e))) hg hd ho hL'' hl'' hacc''
    have kc : ∀ (h' : Heap) (f : Bool) (T : Addr) (a b : Value), True := fun _ _ _ _ _ => trivial
    rcases hzz with ⟨hzz, a, b, hTu2⟩ | ⟨T, f, a, b, hzz, hT, lT⟩
    · refine wpAny_bind (wpAny_pyNext_zipD2_item S (D1 _ hh) (D2 _ hh) hzz hTu hTu2 st1 st2 (by omega) (by omega) fun x1 x2 h' tk y1 y2 b1 b2 d1 d2 b5 b6 hk' => ?_)
      exact step x1 x2 h' tk y1 y2 ⟨hk' _ _ S.TIz S.TITO S.TIi1 S.TIi2 hTu, d1, d2, .inr ⟨_, false, x1, x2, b1, b5, hsz⟩⟩ b5 b6 hk'
    · refine wpAny_bind (zipH_next S (D1 _ hh) (D2 _ hh) hzz hT hTu st1 st2 (by omega) (by omega) fun x1 x2 h' tk y1 y2 b1 d1 d2 b5 b6 hk' => ?_)
      have nB : ∀ b, b < B → T ≠ b := fun b hb e => by rw [e] at lT; exact absurd hb (Nat.not_lt_of_le lT)
      exact step x1 x2 h' tk y1 y2 ⟨hk' _ _ S.TIz S.TIi1 S.TIi2 hTu, d1, d2, .inr ⟨_, true, a, b, b1, hk' _ _ (nB _ hzB) (nB _ i1B) (nB _ i2B) hT, lT⟩⟩ b5 b6 fun c o cz _ c1 c2 e => hk' c o cz c1 c2 e
end
end Iv
set_option maxHeartbeats 400000
/-! Iv, part B7: the expression list(zip(a, b)). -/
namespace Iv
open PySem PySem.Spec PyProof.Rows L2
open Sem (wp)
theorem zip_no_len : typeLookup (.type "zip") "__len__" = pure none := am_miss_of_fast (by decide +kernel)
theorem zip_no_hint : typeLookup (.type "zip") "__length_hint__" = pure none := am_miss_of_fast (by decide +kernel)
theorem ZAcc.nil {P1 P2 : Nat → Value → Prop} {B : Addr} {h : Heap} : ZAcc P1 P2 B h [] := ⟨fun t ht => absurd ht (by simp), List.nodup_nil, fun j t hj => by simp at hj⟩
section
variable {prog : Program} {w : World} {A : Around} {E : Value → Shared → Prop} {s : Shared} {z TI TO i1 i2 : Addr} {fp1 fp2 : List Addr} {n1 n2 : Nat} {P1 P2 : Nat → Value → Prop} {St1 St2 : Nat → Heap → Prop} {a b : Value}
theorem call_list_zip {Q : Value → Shared → Prop} (S : ZipSep2 z TI TO i1 i2 fp1 fp2) (hh : A.handled = none) (D1 : ∀ A' : Around, A'.handled = none → Draws prog w A' i1 fp1 n1 P1 St1) (D2 : ∀ A' : Around, A'.handled = none → Draws prog w A' i2 fp2 n2 P2 St2)
    (hz : IsZip s.heap z TI TO .none) (hTI : IsTupOf2 s.heap TI (.ref i1) (.ref i2)) (hTO : IsTupOf2 s.heap TO a b) (st1 : St1 0 s.heap) (st2 : St2 0 s.heap)
    (h1B : ∀ b ∈ fp1, b < s.heap.objs.size) (h2B : ∀ b ∈ fp2, b < s.heap.objs.size) (hn : min n1 n2 ≤ sizeLine)
    (hQ : ∀ s' Ts c', (∀ b o, b ≠ z → b ≠ TO → b ≠ i1 → b ≠ i2 → s.heap.get? b = some o → s'.heap.get? b = some o) → s'.gens = s.gens → s'.drawn = s.drawn → s'.os = s.os →
      s'.heap.get? s.heap.objs.size = some { cls := .type "list", dict := none, data := .seq (Ts.map fun t => Value.ref t.1).toArray c', slots := #[] } → Ts.length = min n1 n2 → ZAcc P1 P2 (s.heap.objs.size + 1) s'.heap Ts → Q (.ref s.heap.objs.size) s') :
    wpAny (model prog w) A (call (.type "list") [.ref z]) Q E s := by
  have Lz : s.heap.objs.size ≠ z := Nat.ne_of_gt (Heap.lt_size hz)
  have LI : s.heap.objs.size ≠ TI := Nat.ne_of_gt (Heap.lt_size hTI)
  have LO : s.heap.objs.size ≠ TO := Nat.ne_of_gt (Heap.lt_size hTO)
  have L1 : s.heap.objs.size ∉ fp1 := fun h => Nat.lt_irrefl _ (h1B _ h)
  have L2 : s.heap.objs.size ∉ fp2 := fun h => Nat.lt_irrefl _ (h2B _ h)
  have hh1 : A.in1.handled = none := hh
  refine callType_codes (Q₁ := fun obj s₁ => obj = .ref s.heap.objs.size ∧ s₁ = { s with heap := s.heap.push { cls := .type "list", data := .seq #[] } }) F.called_list (F.typeCall_list_1 _) F.entry_list_init
    (code_list_new _ ⟨rfl, rfl⟩) fun obj s₁ h₁ => ?_
  obtain ⟨rfl, rfl⟩ := h₁
  have hS : (s.heap.push { cls := .type "list", data := .seq #[] }).get? s.heap.objs.size = some { cls := .type "list", data := .seq #[] } := Heap.get?_push_size _ rfl
  refine ⟨⟨_, hS, rfl⟩, F.args_list_init_2 _ _, ?_⟩
  have hz0 : (s.heap.push { cls := .type "list", data := .seq #[] }).objs.size = s.heap.objs.size + 1 := Heap.size_push ..
  have st0 : ZSt St1 St2 z TI TO i1 i2 (s.heap.objs.size + 1) 0 (s.heap.push { cls := .type "list", data := .seq #[] }) :=
    ⟨Heap.get?_push_of_some _ hTI, (D1 _ hh).frame _ _ _ st1 fun b _ o e => Heap.get?_push_of_some _ e, (D2 _ hh).frame _ _ _ st2 fun b _ o e => Heap.get?_push_of_some _ e, .inl ⟨Heap.get?_push_of_some _ hz, a, b, Heap.get?_push_of_some _ hTO⟩⟩
  show wpAny _ A.in1.in1 (do let old ← Builtin.List.listItems (.ref s.heap.objs.size); Builtin.List.listUpdate (.ref s.heap.objs.size) (fun _ => #[]); letGo old.toList.reverse; Builtin.List.listExtendWith (.ref s.heap.objs.size) (.ref z) .none) _ _ _
  refine wpAny_bind ?_
  unfold Builtin.List.listItems
  refine wpAny_bind (wpAny_seqItems hS rfl (wpAny_pure ?_))
  show wpAny _ A.in1.in1 (updateSeq s.heap.objs.size (fun _ => #[]) >>= fun _ => letGo (#[] : Array Value).toList.reverse >>= fun _ => Builtin.List.listExtendWith (.ref s.heap.objs.size) (.ref z) .none) _ _ _
  refine wpAny_bind (wpAny_updateSeq hS rfl ?_)
  have hS2 := Heap.get?_update_self (Obj.mapSeq (fun _ => (#[] : Array Value))) hS rfl
  have oth : ∀ b o, b ≠ s.heap.objs.size → (s.heap.push { cls := .type "list", data := .seq #[] }).get? b = some o → ((s.heap.push { cls := .type "list", data := .seq #[] }).update s.heap.objs.size (Obj.mapSeq (fun _ => (#[] : Array Value)))).get? b = some o :=
    fun b o hb e => (Heap.get?_update_other _ _ (Ne.symm hb)).trans e
  refine wpAny_bind (wpAny_letGo ?_)
  have kp : ∀ {h h' : Heap} {i : Nat}, ZSt St1 St2 z TI TO i1 i2 (s.heap.objs.size + 1) i h → (∀ b o, b ≠ s.heap.objs.size → h.get? b = some o → h'.get? b = some o) → ZSt St1 St2 z TI TO i1 i2 (s.heap.objs.size + 1) i h' :=
    fun st k => ZSt.kept (D1 _ hh) (D2 _ hh) st k (Nat.lt_succ_self _) Lz LI LO L1 L2
  have st1' := kp st0 oth
  have tz : ∀ {i : Nat} {h : Heap}, ZSt St1 St2 z TI TO i1 i2 (s.heap.objs.size + 1) i h → ∃ o, h.get? z = some o ∧ o.cls = .type "zip" := fun st => by
    obtain ⟨_, _, _, ⟨q, _⟩ | ⟨_, _, _, _, q, _⟩⟩ := st
    · exact ⟨_, q, rfl⟩
    · exact ⟨_, q, rfl⟩
  have itz : ∀ {A' : Around} {E' : Value → Shared → Prop} {Q' : Value → Shared → Prop} {s' : Shared}, ZSt St1 St2 z TI TO i1 i2 (s.heap.objs.size + 1) 0 s'.heap → Q' (.ref z) s' → wpAny (model prog w) A' (pyIter (.ref z)) Q' E' s' := fun {A' E' Q' s'} st q => by
    have hT : s'.TypeIs (.ref z) "zip" := tz st
    refine wpAny_pyIter_slot hT F.slot_zip_iter (wpAny_call_entry F.slot_zip_iter hT F.entry_zip_iter ?_ (F.args_zip_iter_1 _))
    show wpAny _ _ (ret (.ref z)) _ _ s'
    exact wpAny_pure ⟨_, rfl, "zip", _, hT, F.slot_zip_next.lookup, q⟩
  unfold Builtin.List.listExtendWith
  refine wpAny_bind (wpAny_typeOf (T := "zip") (tz st1') ?_)
  have h1 : Builtin.List.listSameRef (.ref s.heap.objs.size) (.ref z) = false := by simp [Builtin.List.listSameRef, Lz]
  have h2 : (Value.type "zip" == Value.type "list") = false := by decide
  have h3 : (Value.type "zip" == Value.type "tuple") = false := by decide
  simp only [h1, h2, h3, Bool.or_false, Bool.false_eq_true, if_false]
  refine wpAny_bind (itz (s' := { s with heap := _ }) st1' ?_)
  refine wpAny_bind (wpAny_holding ?_)
  unfold Builtin.List.listLengthHint
  refine wpAny_bind (wpAny_specialOf (T := "zip") (tz st1') zip_no_len ?_)
  show wpAny _ A.in1.in1 (specialOf (Value.ref z) (Str.ofString "__length_hint__") >>= _) _ _ _
  refine wpAny_bind (wpAny_specialOf (T := "zip") (tz st1') zip_no_hint ?_)
  refine wpAny_pure ?_
  show wpAny _ A.in1.in1 (rule "list.extend.makes-room" >>= fun _ => Builtin.List.listTouch (.ref s.heap.objs.size) >>= fun _ =>
    again (.builtin "list.extend.loop" ⟨[.ref s.heap.objs.size, .ref z, .none], []⟩)) _ _ _
  refine wpAny_bind (wpAny_rule ?_)
  refine wpAny_bind ?_
  show wpAny _ A.in1.in1 (updateSeq s.heap.objs.size (·.push .none) >>= fun _ => updateSeq s.heap.objs.size (·.pop)) _ _ _
  refine wpAny_bind (wpAny_updateSeq hS2 rfl ?_)
  have hS3 := Heap.get?_update_self (Obj.mapSeq (·.push Value.none)) hS2 rfl
  refine wpAny_updateSeq (hz := by seq_fits) hS3 rfl ?_
  have hS4 := Heap.get?_update_self (Obj.mapSeq (·.pop)) hS3 rfl
  have oth2 : ∀ {h : Heap} {f : Array Value → Array Value} (b : Addr) (o : PySem.Obj), b ≠ s.heap.objs.size → h.get? b = some o → (h.update s.heap.objs.size (Obj.mapSeq f)).get? b = some o := fun b o hb e => (Heap.get?_update_other _ _ (Ne.symm hb)).trans e
  have all : ∀ b o, b ≠ s.heap.objs.size → s.heap.get? b = some o → ((((s.heap.push { cls := .type "list", data := .seq #[] }).update s.heap.objs.size (Obj.mapSeq (fun _ => (#[] : Array Value)))).update s.heap.objs.size (Obj.mapSeq (·.push Value.none))).update s.heap.objs.size (Obj.mapSeq (·.pop))).get? b = some o :=
    fun b o hb e => oth2 b o hb (oth2 b o hb (oth2 b o hb (Heap.get?_push_of_some _ e)))
  refine wpAny_pure ⟨plainId_quiet F.plain_extend_loop _, zip_extend (A := A.in1) (B := s.heap.objs.size + 1) (L := s.heap.objs.size) S hh D1 D2 (Nat.lt_succ_self _) (Nat.lt_succ_of_lt (Heap.lt_size hz)) (Nat.lt_succ_of_lt (Heap.lt_size hTI)) (Nat.lt_succ_of_lt (Heap.lt_size hTO))
    (fun b hb => Nat.lt_succ_of_lt (h1B b hb)) (fun b hb => Nat.lt_succ_of_lt (h2B b hb)) Lz LI LO L1 L2 hn .none (min n1 n2) 0 _ [] _ rfl (Nat.zero_le _) (kp (kp st1' (fun b o hb e => oth2 b o hb e)) (fun b o hb e => oth2 b o hb e)) ?_ hS4 rfl ZAcc.nil fun s' Ts c' hk hg hd ho hL hl hacc => ?_⟩
  · have e1 : ∀ {h : Heap} {f : Array Value → Array Value}, (h.update s.heap.objs.size (Obj.mapSeq f)).objs.size = h.objs.size := fun {h f} => (Heap.SameBut.update (h := h) (a := s.heap.objs.size) (f := Obj.mapSeq f)).1
    show s.heap.objs.size + 1 ≤ ((((s.heap.push { cls := .type "list", data := .seq #[] }).update s.heap.objs.size (Obj.mapSeq (fun _ => (#[] : Array Value)))).update s.heap.objs.size (Obj.mapSeq (·.push Value.none))).update s.heap.objs.size (Obj.mapSeq (·.pop))).objs.size
    rw [e1, e1, e1, hz0]
    exact Nat.le_refl _
  · refine ⟨rfl, hQ s' Ts c' (fun b o bz bT b1 b2 e => ?_) hg hd ho hL hl hacc⟩
    have bl := Heap.lt_size e
    exact hk b o (Nat.lt_succ_of_lt bl) (Nat.ne_of_lt bl) bz bT b1 b2 (all b o (Nat.ne_of_lt bl) e)
end
/-! ### what is read as a source -/
/-- iter(x) and what it draws -/
theorem srcOf {X : Cx} {pins : List (Addr × PySem.Obj)} {σ : L2.St} {H : Hp} {s : Shared} {a : Addr} {xs : List V} (I : Inv X pins σ H s) (h : SqL X.K H a xs ∨ SqT X.K H a xs) :
    ∃ (o : PySem.Obj) (Hx : Heap → Prop) (its : List Value), Vals xs its ∧ xs.length ≤ sizeLine ∧ Begins (.ref a) o Hx ∧ Hx s.heap ∧ a < s.heap.objs.size ∧
      ∀ it, a ≠ it → ∃ St : Nat → Heap → Prop, (∀ A' : Around, A'.handled = none → Draws X.prog X.w A' it [it, a] its.toArray.size (fun i v => its.toArray[i]? = some v) St) ∧ ∀ h' : Heap, h'.get? it = some o → Hx h' → St 0 h' := by
  rcases h with h | h
  · obtain ⟨its, rv, pl, hz⟩ := I.list h
    exact ⟨_, _, its, rv, hz, begins_list a its.toArray, pl.isList, pl.lt, fun it hne => ⟨_, fun A' hh => Draws.list hh it a hne its.toArray, fun h' e hx => ⟨⟨_, e, rfl, rfl⟩, hx⟩⟩⟩
  · obtain ⟨its, rv, pl, hz⟩ := I.tuple h
    have pt : s.heap.IsTuple a its.toArray := pl
    have al : a < s.heap.objs.size := by obtain ⟨_, e, _⟩ := id pt; exact Heap.lt_size e
    exact ⟨_, _, its, rv, hz, begins_tuple a its.toArray, pt, al, fun it hne => ⟨_, fun A' hh => Draws.tuple hh it a hne its.toArray, fun h' e hx => ⟨⟨_, e, rfl, rfl⟩, hx⟩⟩⟩
/-! ### the heap with the new pairs -/
def layT (H : Hp) : List (Addr × PySem.Obj × V × V) → Hp
  | [] => H
  | t :: r => layT (upd H t.1 (.frz t.2.1 (.tup [t.2.2.1, t.2.2.2]))) r
theorem layT_old : ∀ {Ts : List (Addr × PySem.Obj × V × V)} {H : Hp} {b : Addr}, (∀ t ∈ Ts, b ≠ t.1) → layT H Ts b = H b
  | [], _, _, _ => rfl
  | t :: r, H, b, h => by
    rw [layT, layT_old fun u hu => h u (List.mem_cons_of_mem _ hu), upd_ne (h t List.mem_cons_self)]
theorem layT_new {t : Addr × PySem.Obj × V × V} : ∀ (Ts : List (Addr × PySem.Obj × V × V)) (H : Hp), (Ts.map (·.1)).Nodup → t ∈ Ts → layT H Ts t.1 = some (.frz t.2.1 (.tup [t.2.2.1, t.2.2.2]))
  | [], _, _, h => absurd h (by simp)
  | u :: r, H, nd, h => by
    have nd' := List.nodup_cons.mp (show (u.1 :: r.map (·.1)).Nodup from nd)
    show layT (upd H u.1 (.frz u.2.1 (.tup [u.2.2.1, u.2.2.2]))) r t.1 = _
    rcases List.mem_cons.mp h with h | h
    · rw [layT_old fun v hv e => nd'.1 (by rw [← h, e]; exact List.mem_map_of_mem hv), h, upd_same]
    · exact layT_new r _ nd'.2 h
theorem layT_look {Ts : List (Addr × PySem.Obj × V × V)} {H : Hp} {b : Addr} {u : HO} (nd : (Ts.map (·.1)).Nodup) (e : layT H Ts b = some u) : H b = some u ∨ ∃ t ∈ Ts, b = t.1 ∧ u = .frz t.2.1 (.tup [t.2.2.1, t.2.2.2]) := by
  by_cases h : ∃ t ∈ Ts, b = t.1
  · obtain ⟨t, ht, rfl⟩ := h
    rw [layT_new _ _ nd ht] at e
    cases e
    exact .inr ⟨t, ht, rfl, rfl⟩
  · rw [layT_old fun t ht e => h ⟨t, ht, e⟩] at e
    exact .inl e
theorem Un.grow {fs ex : List Addr} {H H' : Hp} {h h' : Heap} (k : ∀ b u, h.get? b = some u → h'.get? b = some u) (x : ∀ b u, H b = some u → H' b = some u) (y : ∀ b, b < h.objs.size → H b = none → H' b = none) : Un fs ex H H' h h' where
  keep := fun b u q _ _ _ => k b u q
  slot := fun b u q _ _ _ => ⟨u.slots, k b u q⟩
  free := fun b u q n _ => y b (Heap.lt_size q) n
  there := fun b u q _ => ⟨u, k b u q⟩
  tups := fun b xs q => x b _ q
  frzs := fun b u xs q => x b _ q
  tbls := fun b ps q => ⟨#[], by rw [x b _ q]; simp⟩
theorem HOk.grow {P : Program} {w : World} {H H' : Hp} {h h' : Heap} (ok : HOk P w H h) (k : ∀ b u, h.get? b = some u → h'.get? b = some u) (x : ∀ b u, H b = some u → H' b = some u) (new : ∀ b u, H' b = some u → H b = some u ∨ ObjOk P w H' h' b u) : HOk P w H' h' := fun b u e => by
  rcases new b u e with q | q
  · exact (ok b u q).stay (fun c v _ q => k c v q) (fun c q => x c _ q) fun c xs q => x c _ q
  · exact q
def tZipl (K : PySem.W.Frag) (ta : TA) : TE := fun σ H Q => ta σ H fun vs H1 => ∃ a b xs ys, vs = [.ref a, .ref b] ∧ (SqL K H1 a xs ∨ SqT K H1 a xs) ∧ (SqL K H1 b ys ∨ SqT K H1 b ys) ∧
  ∀ (p : Addr) (Ts : List (Addr × PySem.Obj × V × V)), Ts.map (fun t => t.2.2) = xs.zip ys → (∀ t ∈ Ts, t.2.1.dict = none) → (Ts.map (·.1)).Nodup → (∀ t ∈ Ts, H1 t.1 = none ∧ t.1 ≠ p) → H1 p = none →
    Q (.ref p) (upd (layT H1 Ts) p (.lst (Ts.map fun t => V.ref t.1)))
theorem vals_refs : ∀ (as : List Addr), Vals (as.map V.ref) (as.map Value.ref)
  | [] => .nil
  | a :: as => .cons rfl (vals_refs as)
theorem pairsZ : ∀ {xs ys : List V} {us ws : List Value} (_ : Vals xs us) (_ : Vals ys ws) (Ts : List (Addr × Value × Value)) (i : Nat), Ts.length + i = min us.length ws.length → (∀ j t, Ts[j]? = some t → us[j + i]? = some t.2.1 ∧ ws[j + i]? = some t.2.2) →
    ∃ Vs : List (Addr × PySem.Obj × V × V), Vs.map (fun t => t.2.2) = (xs.drop i).zip (ys.drop i) ∧ Vs.map (·.1) = Ts.map (·.1) ∧ ∀ v ∈ Vs, ∃ t ∈ Ts, v.1 = t.1 ∧ v.2.1 = { cls := .type "tuple", data := .seq #[t.2.1, t.2.2] } ∧ RelV v.2.2.1 t.2.1 ∧ RelV v.2.2.2 t.2.2
  | xs, ys, us, ws, r1, r2, [], i, hl, _ => by
    refine ⟨[], ?_, rfl, fun v hv => by cases hv⟩
    have l1 := r1.length
    have l2 := r2.length
    simp only [List.length_nil, Nat.zero_add] at hl
    rcases Nat.le_total us.length ws.length with q | q
    · rw [Nat.min_eq_left q] at hl
      rw [List.drop_eq_nil_of_le (as := xs) (by omega)]; rfl
    · rw [Nat.min_eq_right q] at hl
      rw [List.drop_eq_nil_of_le (as := ys) (by omega), List.zip_nil_right]; rfl
  | xs, ys, us, ws, r1, r2, t :: Ts, i, hl, ht => by
    obtain ⟨e1, e2⟩ := ht 0 t rfl
    rw [Nat.zero_add] at e1 e2
    have l1 := r1.length
    have l2 := r2.length
    have i1 : i < us.length := (List.getElem?_eq_some_iff.mp e1).1
    have i2 : i < ws.length := (List.getElem?_eq_some_iff.mp e2).1
    have x1 : xs[i]? = some xs[i] := List.getElem?_eq_getElem (by omega)
    have y1 : ys[i]? = some ys[i] := List.getElem?_eq_getElem (by omega)
    obtain ⟨u, hu, ru⟩ := r1.get x1
    obtain ⟨w, hw, rw'⟩ := r2.get y1
    rw [e1] at hu; cases hu
    rw [e2] at hw; cases hw
    obtain ⟨Vs, q1, q2, q3⟩ := pairsZ r1 r2 Ts (i + 1) (by rw [List.length_cons] at hl; omega) fun j v hj => by
      have := ht (j + 1) v hj
      rw [show j + 1 + i = j + (i + 1) by omega] at this
      exact this
    refine ⟨(t.1, { cls := .type "tuple", data := .seq #[t.2.1, t.2.2] }, xs[i], ys[i]) :: Vs, ?_, ?_, fun v hv => ?_⟩
    · rw [List.map_cons, q1, List.drop_eq_getElem_cons (i := i) (l := xs) (by omega), List.drop_eq_getElem_cons (i := i) (l := ys) (by omega)]; rfl
    · rw [List.map_cons, List.map_cons, q2]
    · rcases List.mem_cons.mp hv with rfl | hv
      · exact ⟨t, List.mem_cons_self, rfl, rfl, ru, rw'⟩
      · obtain ⟨t', m, r⟩ := q3 v hv
        exact ⟨t', List.mem_cons_of_mem _ m, r⟩
theorem pe_zipl {X : Cx} {e e2 : Expr} {ta : TA} {p pos p2 pos2 : Pos} (hc : X.calm = true) (hg : Gl X "list") (hm : X.mg "list" = none) (hg2 : Gl X "zip") (hm2 : X.mg "zip" = none) (ha : PA X [e, e2] ta)
    (hs : starEach [e, e2] X.env = (false, eval e X.env) :: starEach [e2] X.env) (hpl : (backTo pos2 (starEach [e2] X.env)).any (·.1) = false) :
    PE X (.Call (.Name "list" p) [.Call (.Name "zip" p2) [e, e2] [] pos2] [] pos) (tZipl X.K ta) := by
  refine ⟨fun pins s σ H Q I h => ?_⟩
  refine Call_ (ld_blt I hg hm boot_list (PyProof.Rows.callWith_type1 ?_ rfl rfl))
  show wpAny _ _ (spliced [(false, eval (.Call (.Name "zip" p2) [e, e2] [] pos2) X.env)]) _ _ s
  refine Calls.spliced_cons (Call_ (ld_blt I hg2 hm2 PyProof.Rows.boot_zip (PyProof.Rows.callWith_type1 (thn (ha.run pos2 pins s σ H _ I h) fun us s1 ⟨vs, H1, I1, r1, q1⟩ => ?_) hs hpl)))
  obtain ⟨a, b, xs, ys, ex, hx, hy, q⟩ := q1
  subst ex
  cases r1 with
  | cons r rr =>
  cases rr with
  | cons r' rr =>
  cases rr
  cases r
  cases r'
  obtain ⟨o1, Hx1, its, rv, hz1, B1, k1, al, dr1⟩ := srcOf I1 hx
  obtain ⟨o2, Hx2, its2, rv2, hz2, B2, k2, bl, dr2⟩ := srcOf I1 hy
  refine zip_begins2 B1 B2 k1 k2 fun h' hz hTI hTO g1 g2 hsz hk => ?_
  have hd := I1.ok.hd hc
  obtain ⟨St1, D1, s1'⟩ := dr1 s1.heap.objs.size (Nat.ne_of_lt al)
  obtain ⟨St2, D2, s2'⟩ := dr2 (s1.heap.objs.size + 1) (Nat.ne_of_lt (Nat.lt_succ_of_lt bl))
  have S := zip_sep2 (N := s1.heap.objs.size) (fp1 := [a]) (fp2 := [b]) (fun c hc => by rw [List.mem_singleton.mp hc]; exact al) (fun c hc => by rw [List.mem_singleton.mp hc]; exact bl)
  refine Calls.spliced_nil ?_
  refine call_list_zip (s := { s1 with heap := h' }) S hd D1 D2 hz hTI hTO (s1' h' g1 (B1.keeps _ _ k1 hk)) (s2' h' g2 (B2.keeps _ _ k2 hk)) (fun c hc => ?_) (fun c hc => ?_) ?_ fun s' Ts c' kk hgn hdr hos hL hl hacc => ?_
  · show c < h'.objs.size
    rw [hsz]
    rcases List.mem_cons.mp hc with rfl | hc
    · exact Nat.lt_add_of_pos_right (by decide)
    · rw [List.mem_singleton.mp hc]; exact Nat.lt_of_lt_of_le al (Nat.le_add_right _ _)
  · show c < h'.objs.size
    rw [hsz]
    rcases List.mem_cons.mp hc with rfl | hc
    · exact Nat.add_lt_add_left (by decide) _
    · rw [List.mem_singleton.mp hc]; exact Nat.lt_of_lt_of_le bl (Nat.le_add_right _ _)
  · exact Nat.le_trans (Nat.min_le_left _ _) (by rw [List.size_toArray, ← rv.length]; exact hz1)
  · obtain ⟨ac1, ac2, ac3⟩ := hacc
    obtain ⟨Vs, v1, v2, v3⟩ := pairsZ rv rv2 Ts 0 (by rw [Nat.add_zero, hl, List.size_toArray, List.size_toArray]) fun j t hj => by
      have q := ac3 j t hj
      rw [Nat.add_zero]
      exact ⟨by rw [← q.1]; simp, by rw [← q.2]; simp⟩
    have hall : ∀ c u, s1.heap.get? c = some u → s'.heap.get? c = some u := fun c u e => by
      have cl := Heap.lt_size e
      have ne : ∀ j : Nat, c ≠ s1.heap.objs.size + j := fun j => Nat.ne_of_lt (Nat.lt_of_lt_of_le cl (Nat.le_add_right _ _))
      exact kk c u (ne 4) (ne 3) (ne 0) (ne 1) (hk c u e)
    have hp5 : ({ s1 with heap := h' } : Shared).heap.objs.size = s1.heap.objs.size + 5 := hsz
    have fr : ∀ c, s1.heap.objs.size ≤ c → H1 c = none := fun c hc => I1.hok.fresh hc
    have ge : ∀ t ∈ Ts, s1.heap.objs.size + 6 ≤ t.1 := fun t ht => by
      have := (ac1 t ht).1
      rw [hp5] at this
      exact this
    have vge : ∀ v ∈ Vs, s1.heap.objs.size + 6 ≤ v.1 := fun v hv => by
      obtain ⟨t, ht, e, _⟩ := v3 v hv
      rw [e]; exact ge t ht
    have vn : ∀ v ∈ Vs, H1 v.1 = none ∧ v.1 ≠ h'.objs.size := fun v hv => ⟨fr _ (Nat.le_trans (Nat.le_add_right _ 6) (vge v hv)), fun e => by
      have := vge v hv
      rw [e, hsz] at this
      exact absurd this (Nat.not_le_of_lt (Nat.lt_succ_self _))⟩
    have vnd : (Vs.map (·.1)).Nodup := by rw [v2]; exact ac2
    have pn : H1 h'.objs.size = none := fr _ (by rw [hsz]; exact Nat.le_add_right _ _)
    have grow : ∀ c u, H1 c = some u → upd (layT H1 Vs) h'.objs.size (.lst (Vs.map fun t => V.ref t.1)) c = some u := fun c u e => by
      rw [upd_ne (fun z => by rw [z, pn] at e; cases e), layT_old fun t ht z => by rw [z, (vn t ht).1] at e; cases e]
      exact e
    have qe := q h'.objs.size Vs (by rw [v1, List.drop_zero, List.drop_zero]) (fun v hv => by obtain ⟨t, _, _, e, _⟩ := v3 v hv; rw [e]) vnd vn pn
    have llen : (Vs.map fun t => V.ref t.1).length ≤ sizeLine := by
      have l2 := congrArg List.length v2
      rw [List.length_map, List.length_map] at l2
      rw [List.length_map, l2, hl]
      exact Nat.le_trans (Nat.min_le_left _ _) (by rw [List.size_toArray, ← rv.length]; exact hz1)
    refine ⟨.ref h'.objs.size, _, I1.call' (ch := []) hos (Un.grow hall grow fun c cl n => ?_) (HOk.grow I1.hok hall grow fun c u e => ?_) (by rw [hgn]; exact I1.bare) (fun _ z => nomatch z), rfl, qe⟩
    · rw [upd_ne (fun z => by rw [z, hsz] at cl; exact absurd cl (Nat.not_lt_of_le (Nat.le_add_right _ _))), layT_old fun t ht z => ?_]
      · exact n
      · have := vge t ht
        rw [← z] at this
        exact absurd cl (Nat.not_lt_of_le (Nat.le_trans (Nat.le_add_right _ _) this))
    · by_cases hcp : c = h'.objs.size
      · subst hcp
        rw [upd_same] at e
        cases e
        refine .inr ⟨llen, Ts.map fun t => Value.ref t.1, c', ?_, hL⟩
        have z1 : (Vs.map fun t => V.ref t.1) = (Vs.map (·.1)).map V.ref := by rw [List.map_map]; rfl
        have z2 : (Ts.map fun t => Value.ref t.1) = (Ts.map (·.1)).map Value.ref := by rw [List.map_map]; rfl
        rw [z1, z2, v2]
        exact vals_refs _
      · rw [upd_ne hcp] at e
        rcases layT_look vnd e with e | ⟨v, hv, rfl, rfl⟩
        · exact .inl e
        · obtain ⟨t, ht, e1, e2, r1, r2⟩ := v3 v hv
          obtain ⟨_, _, g⟩ := ac1 t ht
          rw [e1, e2]
          exact .inr ⟨g, by show 2 ≤ sizeLine; decide, [t.2.1, t.2.2], .cons r1 (.cons r2 .nil), ⟨_, g, rfl, _, rfl⟩⟩
end Iv
/-! Iv, part C: how data stand in the abstract heap; the relation of slots; steps. -/
namespace Iv
open PySem PySem.Spec PyProof.Rows L2
abbrev Fb := Addr → Prop
abbrev CV := PySem.W.Frag × (Nat → Addr)

/-- a list at a: one that stands outside F, or one of the module's own -/
def TopL (C : CV) (F : Fb) (H : Hp) (a : Addr) (xs : List V) : Prop := (¬ F a ∧ Rd H a (.lst xs)) ∨ SqL C.1 (fun _ => none) a xs
def TopH (F : Fb) (H : Hp) (a : Addr) (xs : List V) : Prop := ¬ F a ∧ H a = some (.lst xs)
/-- a tuple that bears no dict of its own -/
def TopT (C : CV) (F : Fb) (H : Hp) (a : Addr) (xs : List V) : Prop := ¬ F a ∧ ∃ o : PySem.Obj, o.dict = none ∧ H a = some (.frz o (.tup xs))
def TopP (F : Fb) (H : Hp) (a : Addr) (xs : List V) : Prop := ¬ F a ∧ Rd H a (.tup xs)

mutual
def Rep (C : CV) (F : Fb) (H : Hp) : V → D → Prop
  | v, .non => v = .non
  | v, .bl b => v = .bl b
  | v, .int i => v = .int i
  | v, .str x => v = .str x
  | v, .tup ds => ∃ a xs, v = .ref a ∧ TopT C F H a xs ∧ Reps C F H xs ds
  | v, .lst ds => ∃ a xs, v = .ref a ∧ TopH F H a xs ∧ Reps C F H xs ds
  | v, .rol ds => ∃ a xs, v = .ref a ∧ TopL C F H a xs ∧ Reps C F H xs ds
  | v, .dct kvs => ∃ a xs, v = .ref a ∧ ¬ F a ∧ H a = some (.dK xs) ∧ RepKs C F H xs kvs
  | v, .prt ds => ∃ a xs, v = .ref a ∧ TopP F H a xs ∧ Reps C F H xs ds
  | v, .ins c gs => ∃ a dx fs, v = .ref a ∧ ¬ F a ∧ H a = some (.ins (C.2 c) dx fs) ∧ RepFs C F H fs gs
def Reps (C : CV) (F : Fb) (H : Hp) : List V → List D → Prop
  | [], [] => True
  | v :: vs, d :: ds => Rep C F H v d ∧ Reps C F H vs ds
  | _, _ => False
def RepKs (C : CV) (F : Fb) (H : Hp) : List (Key × V) → List (Key × D) → Prop
  | [], [] => True
  | (k, v) :: vs, (k', d) :: ds => k = k' ∧ Rep C F H v d ∧ RepKs C F H vs ds
  | _, _ => False
def RepFs (C : CV) (F : Fb) (H : Hp) : List (Str × V) → List (Str × D) → Prop
  | [], [] => True
  | (k, v) :: vs, (k', d) :: ds => k = k' ∧ Rep C F H v d ∧ RepFs C F H vs ds
  | _, _ => False
end

/-- what stands at a, seen by who holds it -/
def Obj (C : CV) (F : Fb) (H : Hp) (a : Addr) : D → Prop
  | .lst ds => ∃ xs, H a = some (.lst xs) ∧ Reps C F H xs ds
  | .dct kvs => ∃ xs, H a = some (.dK xs) ∧ RepKs C F H xs kvs
  | .ins c gs => ∃ dx fs, H a = some (.ins (C.2 c) dx fs) ∧ RepFs C F H fs gs
  | _ => False

section
variable {C : CV} {F F' : Fb} {H H' : Hp}
abbrev Mv (F F' : Fb) (H H' : Hp) : Prop := ∀ a o, ¬ F a → H a = some o → H' a = some o ∧ ¬ F' a
theorem rd_mv {a : Addr} {u : HO} (m : Mv F F' H H') (n : ¬ F a) (r : Rd H a u) : ¬ F' a ∧ Rd H' a u := by
  rcases r with r | ⟨o, r⟩
  · exact ⟨(m _ _ n r).2, .inl (m _ _ n r).1⟩
  · exact ⟨(m _ _ n r).2, .inr ⟨o, (m _ _ n r).1⟩⟩
theorem TopL.mv {a xs} (m : Mv F F' H H') (h : TopL C F H a xs) : TopL C F' H' a xs := by
  rcases h with ⟨n, r⟩ | h
  · exact .inl (rd_mv m n r)
  · exact .inr h
theorem TopH.mv {a xs} (m : Mv F F' H H') (h : TopH F H a xs) : TopH F' H' a xs := ⟨(m _ _ h.1 h.2).2, (m _ _ h.1 h.2).1⟩
theorem TopT.mv {a xs} (m : Mv F F' H H') (h : TopT C F H a xs) : TopT C F' H' a xs :=
  let ⟨n, o, d, e⟩ := h; ⟨(m _ _ n e).2, o, d, (m _ _ n e).1⟩
theorem TopP.mv {a xs} (m : Mv F F' H H') (h : TopP F H a xs) : TopP F' H' a xs := rd_mv m h.1 h.2
mutual
theorem Rep.mv (m : Mv F F' H H') : ∀ (d : D) (v : V), Rep C F H v d → Rep C F' H' v d
  | .non, v, h => by simpa only [Rep] using h
  | .bl b, v, h => by simpa only [Rep] using h
  | .int i, v, h => by simpa only [Rep] using h
  | .str x, v, h => by simpa only [Rep] using h
  | .tup ds, v, h => by
    simp only [Rep] at h ⊢
    obtain ⟨a, xs, e, t, r⟩ := h
    exact ⟨a, xs, e, t.mv m, Reps.mv m ds xs r⟩
  | .lst ds, v, h => by
    simp only [Rep] at h ⊢
    obtain ⟨a, xs, e, t, r⟩ := h
    exact ⟨a, xs, e, t.mv m, Reps.mv m ds xs r⟩
  | .rol ds, v, h => by
    simp only [Rep] at h ⊢
    obtain ⟨a, xs, e, t, r⟩ := h
    exact ⟨a, xs, e, t.mv m, Reps.mv m ds xs r⟩
  | .dct kvs, v, h => by
    simp only [Rep] at h ⊢
    obtain ⟨a, xs, e, n, t, r⟩ := h
    exact ⟨a, xs, e, (m _ _ n t).2, (m _ _ n t).1, RepKs.mv m kvs xs r⟩
  | .prt ds, v, h => by
    simp only [Rep] at h ⊢
    obtain ⟨a, xs, e, t, r⟩ := h
    exact ⟨a, xs, e, t.mv m, Reps.mv m ds xs r⟩
  | .ins c gs, v, h => by
    simp only [Rep] at h ⊢
    obtain ⟨a, dx, fs, e, n, t, r⟩ := h
    exact ⟨a, dx, fs, e, (m _ _ n t).2, (m _ _ n t).1, RepFs.mv m gs fs r⟩
theorem Reps.mv (m : Mv F F' H H') : ∀ (ds : List D) (vs : List V), Reps C F H vs ds → Reps C F' H' vs ds
  | [], [], _ => by simp only [Reps]
  | [], _ :: _, h => by simp only [Reps] at h
  | _ :: _, [], h => by simp only [Reps] at h
  | d :: ds, v :: vs, h => by
    simp only [Reps] at h ⊢
    exact ⟨Rep.mv m d v h.1, Reps.mv m ds vs h.2⟩
theorem RepKs.mv (m : Mv F F' H H') : ∀ (ds : List (Key × D)) (vs : List (Key × V)), RepKs C F H vs ds → RepKs C F' H' vs ds
  | [], [], _ => by simp only [RepKs]
  | [], _ :: _, h => by simp only [RepKs] at h
  | _ :: _, [], h => by simp only [RepKs] at h
  | (k', d) :: ds, (k, v) :: vs, h => by
    simp only [RepKs] at h ⊢
    exact ⟨h.1, Rep.mv m d v h.2.1, RepKs.mv m ds vs h.2.2⟩
theorem RepFs.mv (m : Mv F F' H H') : ∀ (ds : List (Str × D)) (vs : List (Str × V)), RepFs C F H vs ds → RepFs C F' H' vs ds
  | [], [], _ => by simp only [RepFs]
  | [], _ :: _, h => by simp only [RepFs] at h
  | _ :: _, [], h => by simp only [RepFs] at h
  | (k', d) :: ds, (k, v) :: vs, h => by
    simp only [RepFs] at h ⊢
    exact ⟨h.1, Rep.mv m d v h.2.1, RepFs.mv m ds vs h.2.2⟩
end
theorem Reps.len : ∀ {ds : List D} {vs : List V}, Reps C F H vs ds → vs.length = ds.length
  | [], [], _ => rfl
  | [], _ :: _, h => by simp only [Reps] at h
  | _ :: _, [], h => by simp only [Reps] at h
  | d :: ds, v :: vs, h => by
    simp only [Reps] at h
    simp [Reps.len h.2]
theorem Reps.get : ∀ {ds : List D} {vs : List V} {i : Nat} {d : D}, Reps C F H vs ds → ds[i]? = some d → ∃ v, vs[i]? = some v ∧ Rep C F H v d
  | [], _, _, _, _, e => by simp at e
  | _ :: _, [], _, _, h, _ => by simp only [Reps] at h
  | d :: ds, v :: vs, 0, d', h, e => by
    simp only [Reps] at h
    simp at e; subst e
    exact ⟨v, rfl, h.1⟩
  | d :: ds, v :: vs, i + 1, d', h, e => by
    simp only [Reps] at h
    obtain ⟨v', e1, r⟩ := Reps.get (i := i) h.2 (by simpa using e)
    exact ⟨v', by simpa using e1, r⟩
theorem Reps.app : ∀ {ds es : List D} {vs us : List V}, Reps C F H vs ds → Reps C F H us es → Reps C F H (vs ++ us) (ds ++ es)
  | [], es, [], us, _, h => h
  | [], _, _ :: _, _, h, _ => by simp only [Reps] at h
  | _ :: _, _, [], _, h, _ => by simp only [Reps] at h
  | d :: ds, es, v :: vs, us, h, h' => by
    simp only [Reps] at h
    show Reps C F H (v :: (vs ++ us)) (d :: (ds ++ es))
    simp only [Reps]
    exact ⟨h.1, Reps.app h.2 h'⟩
theorem Reps.take : ∀ {ds : List D} {vs : List V} (n : Nat), Reps C F H vs ds → Reps C F H (vs.take n) (ds.take n)
  | _, _, 0, _ => by simp [Reps]
  | [], [], _ + 1, h => by simp [Reps]
  | [], _ :: _, _ + 1, h => by simp only [Reps] at h
  | _ :: _, [], _ + 1, h => by simp only [Reps] at h
  | d :: ds, v :: vs, n + 1, h => by
    simp only [Reps] at h
    simp only [List.take_succ_cons, Reps]
    exact ⟨h.1, Reps.take n h.2⟩
theorem Reps.drop : ∀ {ds : List D} {vs : List V} (n : Nat), Reps C F H vs ds → Reps C F H (vs.drop n) (ds.drop n)
  | _, _, 0, h => by simpa using h
  | [], [], _ + 1, h => by simp [Reps]
  | [], _ :: _, _ + 1, h => by simp only [Reps] at h
  | _ :: _, [], _ + 1, h => by simp only [Reps] at h
  | d :: ds, v :: vs, n + 1, h => by
    simp only [Reps] at h
    simp only [List.drop_succ_cons]
    exact Reps.drop n h.2
theorem Reps.cut {ds : List D} {vs : List V} (lo hi : Option Int) (h : Reps C F H vs ds) : Reps C F H (cutV vs lo hi) (cutD ds lo hi) := by
  unfold cutV cutD
  rw [h.len]
  exact (h.drop _).take _
theorem Reps.set : ∀ {ds : List D} {vs : List V} (i : Nat) {v : V} {d : D}, Reps C F H vs ds → Rep C F H v d → Reps C F H (vs.set i v) (ds.set i d)
  | [], [], _, _, _, _, _ => by simp [Reps]
  | [], _ :: _, _, _, _, h, _ => by simp only [Reps] at h
  | _ :: _, [], _, _, _, h, _ => by simp only [Reps] at h
  | d :: ds, v :: vs, 0, v', d', h, r => by
    simp only [Reps] at h
    simp only [List.set_cons_zero, Reps]
    exact ⟨r, h.2⟩
  | d :: ds, v :: vs, i + 1, v', d', h, r => by
    simp only [Reps] at h
    simp only [List.set_cons_succ, Reps]
    exact ⟨h.1, Reps.set i h.2 r⟩
theorem Reps.erase : ∀ {ds : List D} {vs : List V} (i : Nat), Reps C F H vs ds → Reps C F H (vs.eraseIdx i) (ds.eraseIdx i)
  | [], [], _, _ => by simp [Reps]
  | [], _ :: _, _, h => by simp only [Reps] at h
  | _ :: _, [], _, h => by simp only [Reps] at h
  | d :: ds, v :: vs, 0, h => by
    simp only [Reps] at h
    simpa using h.2
  | d :: ds, v :: vs, i + 1, h => by
    simp only [Reps] at h
    simp only [List.eraseIdx_cons_succ, Reps]
    exact ⟨h.1, Reps.erase i h.2⟩
theorem Reps.dropLast {ds : List D} {vs : List V} (h : Reps C F H vs ds) : Reps C F H vs.dropLast ds.dropLast := by
  rw [List.dropLast_eq_take, List.dropLast_eq_take, h.len]
  exact h.take _
theorem Reps.rep {ds : List D} {vs : List V} (h : Reps C F H vs ds) : ∀ n : Nat, Reps C F H (List.replicate n vs).flatten (List.replicate n ds).flatten
  | 0 => by simp [Reps]
  | n + 1 => by
    simp only [List.replicate_succ, List.flatten_cons]
    exact h.app (h.rep n)
theorem Reps.ints : ∀ {ds : List D} {vs : List V} {ns : List Int}, Reps C F H vs ds → intsD ds = some ns → vs = ns.map V.int
  | [], [], ns, _, e => by simp [intsD] at e; subst e; rfl
  | [], _ :: _, _, h, _ => by simp only [Reps] at h
  | _ :: _, [], _, h, _ => by simp only [Reps] at h
  | d :: ds, v :: vs, ns, h, e => by
    simp only [Reps] at h
    cases d with
    | int i =>
      simp only [intsD, Option.map_eq_some_iff] at e
      obtain ⟨ms, e1, rfl⟩ := e
      have r := h.1
      simp only [Rep] at r
      subst r
      rw [Reps.ints h.2 e1]; rfl
    | _ => simp [intsD] at e
theorem Reps.bools : ∀ {ds : List D} {vs : List V} {bs : List Bool}, Reps C F H vs ds → boolsD ds = some bs → vs = bs.map V.bl
  | [], [], ns, _, e => by simp [boolsD] at e; subst e; rfl
  | [], _ :: _, _, h, _ => by simp only [Reps] at h
  | _ :: _, [], _, h, _ => by simp only [Reps] at h
  | d :: ds, v :: vs, ns, h, e => by
    simp only [Reps] at h
    cases d with
    | bl i =>
      simp only [boolsD, Option.map_eq_some_iff] at e
      obtain ⟨ms, e1, rfl⟩ := e
      have r := h.1
      simp only [Rep] at r
      subst r
      rw [Reps.bools h.2 e1]; rfl
    | _ => simp [boolsD] at e
theorem Reps.ofInts : ∀ (ns : List Int), Reps C F H (ns.map V.int) (ns.map D.int)
  | [] => by simp [Reps]
  | n :: ns => by
    simp only [List.map_cons, Reps, Rep]
    exact ⟨trivial, Reps.ofInts ns⟩
theorem RepKs.len : ∀ {ds : List (Key × D)} {vs : List (Key × V)}, RepKs C F H vs ds → vs.length = ds.length
  | [], [], _ => rfl
  | [], _ :: _, h => by simp only [RepKs] at h
  | _ :: _, [], h => by simp only [RepKs] at h
  | (_, d) :: ds, (_, v) :: vs, h => by
    simp only [RepKs] at h
    simp [RepKs.len h.2.2]
theorem RepKs.get : ∀ {ds : List (Key × D)} {vs : List (Key × V)} (k : Key), RepKs C F H vs ds →
    (∃ v d, valV vs k = some v ∧ getK ds k = some d ∧ Rep C F H v d) ∨ (valV vs k = none ∧ getK ds k = none)
  | [], [], _, _ => .inr ⟨rfl, rfl⟩
  | [], _ :: _, _, h => by simp only [RepKs] at h
  | _ :: _, [], _, h => by simp only [RepKs] at h
  | (k', d) :: ds, (k'', v) :: vs, k, h => by
    simp only [RepKs] at h
    obtain ⟨e, r, t⟩ := h
    subst e
    by_cases hk : k'' = k
    · subst hk
      refine .inl ⟨v, d, ?_, ?_, r⟩
      · simp [valV]
      · simp [getK]
    · have ih := RepKs.get k t
      have e1 : valV ((k'', v) :: vs) k = valV vs k := by
        simp [valV, hk]
      have e2 : getK ((k'', d) :: ds) k = getK ds k := by
        simp [getK, hk]
      rw [e1, e2]
      exact ih
theorem RepKs.app : ∀ {ds es : List (Key × D)} {vs us : List (Key × V)}, RepKs C F H vs ds → RepKs C F H us es → RepKs C F H (vs ++ us) (ds ++ es)
  | [], es, [], us, _, h => h
  | [], _, _ :: _, _, h, _ => by simp only [RepKs] at h
  | _ :: _, _, [], _, h, _ => by simp only [RepKs] at h
  | (k, d) :: ds, es, (k', v) :: vs, us, h, h' => by
    simp only [RepKs] at h
    show RepKs C F H ((k', v) :: (vs ++ us)) ((k, d) :: (ds ++ es))
    simp only [RepKs]
    exact ⟨h.1, h.2.1, RepKs.app h.2.2 h'⟩
theorem RepKs.any : ∀ {ds : List (Key × D)} {vs : List (Key × V)} (k : Key), RepKs C F H vs ds → (vs.any fun p => decide (p.1 = k)) = ds.any fun p => decide (p.1 = k)
  | [], [], _, _ => rfl
  | [], _ :: _, _, h => by simp only [RepKs] at h
  | _ :: _, [], _, h => by simp only [RepKs] at h
  | (k', d) :: ds, (k'', v) :: vs, k, h => by
    simp only [RepKs] at h
    rw [List.any_cons, List.any_cons, RepKs.any k h.2.2, h.1]
theorem RepKs.upd : ∀ {ds : List (Key × D)} {vs : List (Key × V)} (k : Key) {v : V} {d : D}, RepKs C F H vs ds → Rep C F H v d →
    RepKs C F H (vs.map fun p => if p.1 = k then (p.1, v) else p) (ds.map fun p => if p.1 = k then (p.1, d) else p)
  | [], [], _, _, _, _, _ => by simp [RepKs]
  | [], _ :: _, _, _, _, h, _ => by simp only [RepKs] at h
  | _ :: _, [], _, _, _, h, _ => by simp only [RepKs] at h
  | (k', d') :: ds, (k'', v') :: vs, k, v, d, h, r => by
    simp only [RepKs] at h
    obtain ⟨e, r', t⟩ := h
    subst e
    have ih := RepKs.upd k t r
    rw [List.map_cons, List.map_cons]
    by_cases hk : k'' = k
    · simp only [hk, if_true, RepKs]
      exact ⟨trivial, r, ih⟩
    · simp only [hk, if_false, RepKs]
      exact ⟨trivial, r', ih⟩
theorem RepKs.put {ds : List (Key × D)} {vs : List (Key × V)} (k : Key) {v : V} {d : D} (h : RepKs C F H vs ds) (r : Rep C F H v d) : RepKs C F H (L2.putK vs k v) (putK ds k d) := by
  unfold L2.putK putK
  rw [h.any k]
  cases e : ds.any fun p => decide (p.1 = k) with
  | true => exact h.upd k r
  | false => exact h.app (by simp only [RepKs]; exact ⟨trivial, r, trivial⟩)
theorem RepKs.merge : ∀ {es : List (Key × D)} {us : List (Key × V)} {ds : List (Key × D)} {vs : List (Key × V)}, RepKs C F H vs ds → RepKs C F H us es → RepKs C F H (mergeK vs us) (mergeD ds es)
  | [], [], _, _, h, _ => by simpa [mergeK, mergeD] using h
  | [], _ :: _, _, _, _, h => by simp only [RepKs] at h
  | _ :: _, [], _, _, _, h => by simp only [RepKs] at h
  | (k', d) :: es, (k'', v) :: us, ds, vs, h, g => by
    simp only [RepKs] at g
    obtain ⟨e, r, t⟩ := g
    subst e
    have q := RepKs.merge (h.put k'' r) t
    simpa [mergeK, mergeD] using q
theorem RepFs.get : ∀ {ds : List (Str × D)} {vs : List (Str × V)} {f : Str} {d : D}, RepFs C F H vs ds → getF ds f = some d → ∃ v, vs.lookup f = some v ∧ Rep C F H v d
  | [], _, _, _, _, e => by simp [getF] at e
  | _ :: _, [], _, _, h, _ => by simp only [RepFs] at h
  | (g, d) :: ds, (g', v) :: vs, f, d', h, e => by
    simp only [RepFs] at h
    obtain ⟨rfl, r, t⟩ := h
    by_cases hk : g' = f
    · subst hk
      simp [getF] at e
      subst e
      exact ⟨v, by simp [List.lookup_cons], r⟩
    · simp only [getF, hk, if_false] at e
      obtain ⟨v', e1, r1⟩ := RepFs.get t e
      refine ⟨v', ?_, r1⟩
      rw [List.lookup_cons]
      have : (f == g') = false := by simpa using fun z : f = g' => hk z.symm
      rw [this]; exact e1
theorem RepFs.len : ∀ {ds : List (Str × D)} {vs : List (Str × V)}, RepFs C F H vs ds → vs.length = ds.length
  | [], [], _ => rfl
  | [], _ :: _, h => by simp only [RepFs] at h
  | _ :: _, [], h => by simp only [RepFs] at h
  | (_, d) :: ds, (_, v) :: vs, h => by
    simp only [RepFs] at h
    simp [RepFs.len h.2.2]

/-! ### slots -/
def Own (ρ : Sl) (σ : L2.St) (a : Addr) : Prop := ∃ (i : Nat) (d : D), ρ[i]? = some (Slot.own d) ∧ σ[i]? = some (some (V.ref a))
def FF (B : Fb) (ρ : Sl) (σ : L2.St) : Fb := fun a => B a ∨ Own ρ σ a

structure Sim (C : CV) (B : Fb) (ρ : Sl) (σ : L2.St) (H : Hp) : Prop where
  len : ρ.length = σ.length
  dom : ∀ a, B a → ∃ o, H a = some o
  val : ∀ (i : Nat) (d : D), ρ[i]? = some (Slot.val d) → ∃ v, σ[i]? = some (some v) ∧ Rep C (FF B ρ σ) H v d
  own : ∀ (i : Nat) (d : D), ρ[i]? = some (Slot.own d) → ∃ a, σ[i]? = some (some (V.ref a)) ∧ ¬ B a ∧ Obj C (FF B ρ σ) H a d
  inj : ∀ (i j : Nat) (d e : D) (a : Addr), ρ[i]? = some (Slot.own d) → ρ[j]? = some (Slot.own e) → σ[i]? = some (some (V.ref a)) → σ[j]? = some (some (V.ref a)) → i = j

/-- from one state of a frame to a later one, the names' values as they stand -/
structure Stp (C : CV) (np : Nat) (B : Fb) (ρ ρ' : Sl) (σ : L2.St) (H H' : Hp) : Prop where
  chg : ∀ a o, ¬ Own ρ σ a → H a = some o → H' a = some o
  dom : ∀ a o, H a = some o → ∃ o', H' a = some o'
  nown : ∀ (i : Nat) (d : D), ρ'[i]? = some (Slot.own d) → ∃ d', ρ[i]? = some (Slot.own d')
  keep : ∀ (i : Nat), i < np → ∀ d : D, ρ[i]? = some (Slot.own d) → ∃ d', ρ'[i]? = some (Slot.own d')
  len : ρ'.length = ρ.length
  sim : Sim C B ρ' σ H'

section
variable {np : Nat} {B B' : Fb} {ρ ρ1 ρ2 ρ' : Sl} {σ : L2.St} {H1 H2 : Hp}
theorem Stp.own (s : Stp C np B ρ ρ1 σ H H1) (a : Addr) (h : Own ρ1 σ a) : Own ρ σ a := by
  obtain ⟨i, d, e1, e2⟩ := h
  obtain ⟨d', e3⟩ := s.nown i d e1
  exact ⟨i, d', e3, e2⟩
theorem Stp.refl (S : Sim C B ρ σ H) : Stp C np B ρ ρ σ H H := ⟨fun _ _ _ e => e, fun _ o e => ⟨o, e⟩, fun _ d h => ⟨d, h⟩, fun _ _ d e => ⟨d, e⟩, rfl, S⟩
theorem Stp.trans (s : Stp C np B ρ ρ1 σ H H1) (t : Stp C np B ρ1 ρ2 σ H1 H2) : Stp C np B ρ ρ2 σ H H2 where
  chg := fun a o n e => t.chg a o (fun z => n (s.own a z)) (s.chg a o n e)
  dom := fun a o e => let ⟨o1, e1⟩ := s.dom a o e; t.dom a o1 e1
  nown := fun i d h => let ⟨d1, e1⟩ := t.nown i d h; s.nown i d1 e1
  keep := fun i hi d e => let ⟨d1, e1⟩ := s.keep i hi d e; t.keep i hi d1 e1
  len := t.len.trans s.len
  sim := t.sim
/-- what stood outside stays -/
theorem Stp.mv (t : Stp C np B ρ ρ1 σ H H1) : Mv (FF B ρ σ) (FF B ρ1 σ) H H1 := fun a o n e =>
  ⟨t.chg a o (fun z => n (.inr z)) e, fun z => n (z.elim .inl fun w => .inr (t.own a w))⟩

/-- an operand's value -/
def OpOk (C : CV) (B : Fb) (ρ : Sl) (σ : L2.St) (H : Hp) : Opd → V → Prop
  | .imm _ d, v => Rep C (FF B ρ σ) H v d
  | .slot i, v => σ[i]? = some (some v)
theorem OpOk.next {o : Opd} {v : V} (t : Stp C np B ρ ρ1 σ H H1) (h : OpOk C B ρ σ H o v) : OpOk C B ρ1 σ H1 o v := by
  cases o with
  | imm f d => exact Rep.mv t.mv d v h
  | slot i => exact h
/-- a value as it is read: what stands at its top may be somebody's own -/
def RepT (C : CV) (F : Fb) (H : Hp) (v : V) (d : D) : Prop := Rep C F H v d ∨ ∃ a, v = .ref a ∧ Obj C F H a d
theorem OpOk.read {o : Opd} {v : V} {d : D} (S : Sim C B ρ σ H) (h : OpOk C B ρ σ H o v) (e : deref ρ o = some d) : RepT C (FF B ρ σ) H v d := by
  cases o with
  | imm f d' =>
    simp only [deref, Option.some.injEq] at e
    subst e; exact .inl h
  | slot i =>
    simp only [deref] at e
    have h : σ[i]? = some (some v) := h
    cases e1 : ρ[i]? with
    | none => rw [e1] at e; simp at e
    | some s =>
      rw [e1] at e
      simp only [Option.bind_some] at e
      cases s with
      | none => simp [Slot.d?] at e
      | val d' =>
        simp only [Slot.d?, Option.some.injEq] at e
        subst e
        obtain ⟨v', e2, r⟩ := S.val i d' e1
        rw [h] at e2; cases e2
        exact .inl r
      | own d' =>
        simp only [Slot.d?, Option.some.injEq] at e
        subst e
        obtain ⟨a, e2, _, r⟩ := S.own i d' e1
        rw [h] at e2; cases e2
        exact .inr ⟨a, rfl, r⟩
/-- a value made just now -/
def Fresh (C : CV) (B : Fb) (ρ : Sl) (σ : L2.St) (H H' : Hp) (v : V) (d : D) : Prop :=
  ∃ p, v = .ref p ∧ H p = none ∧ Sim C (fun a => B a ∨ a = p) ρ σ H' ∧ Obj C (FF (fun a => B a ∨ a = p) ρ σ) H' p d
structure Post (C : CV) (np : Nat) (B : Fb) (ρ ρ' : Sl) (σ : L2.St) (H H' : Hp) (o : Opd) (v : V) : Prop where
  stp : Stp C np B ρ ρ' σ H H'
  op : OpOk C B ρ' σ H' o v
  fr : ∀ d, o = .imm true d → Fresh C B ρ' σ H H' v d
theorem Post.imm {d : D} {v : V} (s : Stp C np B ρ ρ' σ H H') (r : Rep C (FF B ρ' σ) H' v d) : Post C np B ρ ρ' σ H H' (.imm false d) v := ⟨s, r, fun _ e => by cases e⟩
theorem Post.slot {i : Nat} {v : V} (s : Stp C np B ρ ρ' σ H H') (r : σ[i]? = some (some v)) : Post C np B ρ ρ' σ H H' (.slot i) v := ⟨s, r, fun _ e => by cases e⟩
theorem FF.dom (S : Sim C B ρ σ H) {a : Addr} (h : FF B ρ σ a) : ∃ o, H a = some o := by
  rcases h with h | ⟨i, d, e1, e2⟩
  · exact S.dom a h
  · obtain ⟨b, e3, _, r⟩ := S.own i d e1
    rw [e2] at e3; cases e3
    cases d with
    | lst ds => obtain ⟨xs, e, _⟩ := r; exact ⟨_, e⟩
    | dct ds => obtain ⟨xs, e, _⟩ := r; exact ⟨_, e⟩
    | ins c ds => obtain ⟨dx, xs, e, _⟩ := r; exact ⟨_, e⟩
    | _ => exact r.elim
theorem Obj.mv {F F' : Fb} {a : Addr} {d : D} (m : Mv F F' H H') (he : ∀ o, H a = some o → H' a = some o) (h : Obj C F H a d) : Obj C F' H' a d := by
  cases d with
  | lst ds => obtain ⟨xs, e, r⟩ := h; exact ⟨xs, he _ e, Reps.mv m ds xs r⟩
  | dct ds => obtain ⟨xs, e, r⟩ := h; exact ⟨xs, he _ e, RepKs.mv m ds xs r⟩
  | ins c ds => obtain ⟨dx, xs, e, r⟩ := h; exact ⟨dx, xs, he _ e, RepFs.mv m ds xs r⟩
  | _ => exact h.elim
/-- the heap has grown, nothing else -/
theorem Sim.grow (S : Sim C B ρ σ H) (g : ∀ a o, H a = some o → H' a = some o) {B' : Fb} (hb : ∀ a, B' a → B a ∨ H a = none) (hd : ∀ a, B' a → ∃ o, H' a = some o) : Sim C B' ρ σ H' := by
  have m : Mv (FF B ρ σ) (FF B' ρ σ) H H' := fun a o n e => ⟨g a o e, fun z => by
    rcases z with z | z
    · rcases hb a z with w | w
      · exact n (.inl w)
      · rw [e] at w; cases w
    · exact n (.inr z)⟩
  refine ⟨S.len, hd, fun i d e => ?_, fun i d e => ?_, S.inj⟩
  · obtain ⟨v, e1, r⟩ := S.val i d e
    exact ⟨v, e1, Rep.mv m d v r⟩
  · obtain ⟨a, e1, n, r⟩ := S.own i d e
    obtain ⟨o, ho⟩ := FF.dom S (.inr ⟨i, d, e, e1⟩ : FF B ρ σ a)
    refine ⟨a, e1, fun z => ?_, r.mv m fun o e => g a o e⟩
    rcases hb a z with w | w
    · exact n w
    · rw [ho] at w; cases w
theorem Stp.grow (S : Sim C B ρ σ H) (g : ∀ a o, H a = some o → H' a = some o) : Stp C np B ρ ρ σ H H' :=
  ⟨fun a o _ e => g a o e, fun a o e => ⟨o, g a o e⟩, fun _ d h => ⟨d, h⟩, fun _ _ d e => ⟨d, e⟩, rfl, S.grow g (fun a h => .inl h) fun a h => let ⟨o, e⟩ := S.dom a h; ⟨o, g a o e⟩⟩
theorem upd_grow {H : Hp} {p : Addr} {u : HO} (hp : H p = none) : ∀ a o, H a = some o → upd H p u a = some o := fun a o e => by
  rw [upd_ne (fun z => by rw [z, hp] at e; cases e)]; exact e
theorem upd_mv {H : Hp} {p : Addr} {u : HO} {F : Fb} (hp : H p = none) : Mv F (fun a => F a ∨ a = p) H (upd H p u) := fun a o n e =>
  ⟨upd_grow hp a o e, fun z => z.elim n fun w => by rw [w, hp] at e; cases e⟩
theorem upd_mv0 {H : Hp} {p : Addr} {u : HO} {F : Fb} (hp : H p = none) : Mv F F H (upd H p u) := fun a o n e => ⟨upd_grow hp a o e, n⟩
/-- a new list, dict at p -/
theorem Post.fresh {d : D} {p : Addr} {u : HO} (s : Stp C np B ρ ρ' σ H H1) (hp : H1 p = none)
    (hd : ∀ F : Fb, Mv (FF B ρ' σ) F H1 (upd H1 p u) → Obj C F (upd H1 p u) p d) (hw : Obj C (FF B ρ' σ) (upd H1 p u) p d → Rep C (FF B ρ' σ) (upd H1 p u) (.ref p) d) :
    Post C np B ρ ρ' σ H (upd H1 p u) (.imm true d) (.ref p) := by
  have hp0 : H p = none := by
    cases e : H p with
    | none => rfl
    | some o => obtain ⟨o', e'⟩ := s.dom p o e; rw [hp] at e'; cases e'
  refine ⟨s.trans (Stp.grow s.sim (upd_grow hp)), hw (hd _ (upd_mv0 hp)), fun d' e => ?_⟩
  cases e
  refine ⟨p, rfl, hp0, s.sim.grow (upd_grow hp) (fun a h => h.elim .inl fun w => .inr (by rw [w]; exact hp)) fun a h => ?_, hd _ fun a o n e => ?_⟩
  · rcases h with h | h
    · obtain ⟨o, e⟩ := s.sim.dom a h
      exact ⟨o, upd_grow hp a o e⟩
    · subst h; exact ⟨u, upd_same⟩
  · refine ⟨upd_grow hp a o e, fun z => ?_⟩
    rcases z with (z | z) | z
    · exact n (.inl z)
    · rw [z, hp] at e; cases e
    · exact n (.inr z)
theorem nFF (S : Sim C B ρ σ H) {p : Addr} (hp : H p = none) : ¬ FF B ρ σ p := fun z => by
  obtain ⟨o, e⟩ := FF.dom S z
  rw [hp] at e; cases e
theorem Post.lst {ds : List D} {xs : List V} {p : Addr} (s : Stp C np B ρ ρ' σ H H1) (hp : H1 p = none) (r : Reps C (FF B ρ' σ) H1 xs ds) :
    Post C np B ρ ρ' σ H (upd H1 p (.lst xs)) (.imm true (.lst ds)) (.ref p) :=
  Post.fresh s hp (fun F m => ⟨xs, upd_same, Reps.mv m ds xs r⟩) fun ⟨ys, e, q⟩ => by
    simp only [Rep]
    exact ⟨p, ys, rfl, ⟨nFF s.sim hp, e⟩, q⟩
theorem Post.dct {ds : List (Key × D)} {xs : List (Key × V)} {p : Addr} (s : Stp C np B ρ ρ' σ H H1) (hp : H1 p = none) (r : RepKs C (FF B ρ' σ) H1 xs ds) :
    Post C np B ρ ρ' σ H (upd H1 p (.dK xs)) (.imm true (.dct ds)) (.ref p) :=
  Post.fresh s hp (fun F m => ⟨xs, upd_same, RepKs.mv m ds xs r⟩) fun ⟨ys, e, q⟩ => by
    simp only [Rep]
    exact ⟨p, ys, rfl, nFF s.sim hp, e, q⟩
theorem Post.tup {ds : List D} {xs : List V} {p : Addr} (s : Stp C np B ρ ρ' σ H H1) (hp : H1 p = none) (r : Reps C (FF B ρ' σ) H1 xs ds)
    {H2 : Hp} (n : NewT H1 p xs H2) : Post C np B ρ ρ' σ H H2 (.imm false (.tup ds)) (.ref p) := by
  obtain ⟨o, od, rfl⟩ := n
  refine Post.imm (s.trans (Stp.grow s.sim (upd_grow hp))) ?_
  simp only [Rep]
  exact ⟨p, xs, rfl, ⟨nFF s.sim hp, o, od, upd_same⟩, Reps.mv (upd_mv0 hp) ds xs r⟩
end
end
end Iv
/-! Iv, part D: when a text of the language is a program's text. -/
namespace Iv
open PySem PySem.Spec PyProof.Rows L2

def nStar : Expr → Bool
  | .Starred .. => false
  | _ => true
def nComp : Expr → Bool
  | .ListComp .. | .SetComp .. | .DictComp .. => false
  | _ => true
def nSlice : Expr → Bool
  | .Slice .. => false
  | _ => true
def nSet : Expr → Bool
  | .Set .. => false
  | _ => true
def nTup : Expr → Bool
  | .Tuple .. => false
  | _ => true
def nBase : Expr → Bool
  | .Call (.Name _ _) [] [] _ => false
  | _ => true
def vis (sc : Scope) (x : Str) : Bool := match sc.names.lookup x with
  | some .local => true | some .cell => true | some .free => true | _ => false
def loc (sc : Scope) (fb : Str → Bool) (x : Str) : Bool := match sc.names.lookup x with
  | some .local => true | some .cell => fb x | _ => false
def glb (sc : Scope) (x : Str) : Bool := match sc.names.lookup x with
  | some .globalImplicit => true | _ => false
def nm (x : Str) : Bool := !(x == ("__debug__" : Str)) && !(x == ("__classdict__" : Str)) && !(x == ("__name__" : Str))
def bopIs : BOp → Operator → Bool
  | .add, .Add => true | .sub, .Sub => true | .mul, .Mult => true | .mod, .Mod => true | .fdiv, .FloorDiv => true | .pow, .Pow => true | _, _ => false
def copIs : COp → CmpOp → Bool
  | .eq, .Eq => true | .ne, .NotEq => true | .lt, .Lt => true | .le, .LtE => true | .gt, .Gt => true | .ge, .GtE => true
  | .isN, .Is => true | .notN, .IsNot => true | .isin, .In => true | .notin, .NotIn => true | _, _ => false
def ordC : COp → Bool
  | .isin => false | .notin => false | _ => true
def keyIsE : Key → Expr → Bool
  | .inl i, .Constant (.int j) _ _ => decide (i = j)
  | .inr x, .Constant (.str y) _ _ => decide (x = y)
  | _, _ => false
def keysIs : List Key → List (Option Expr) → Bool
  | [], [] => true
  | k :: ks, some e :: es => keyIsE k e && keysIs ks es
  | _, _ => false
def bfName : BF → Str
  | .len => "len" | .tuple => "tuple" | .list => "list" | .sum => "sum" | .sorted => "sorted" | .int => "int" | .all => "all" | .any => "any"
  | .max => "max" | .min => "min" | .max2 => "max" | .min2 => "min" | .dict => "dict" | .repr => "repr" | .sset => "sorted" | .str => "str" | .zipl => "list"
/-- two built-ins, one in the other -/
def bfIn : BF → Option Str
  | .sset => some "set" | .zipl => some "zip" | _ => none
def mfName : MF → Str
  | .get1 => "get" | .get2 => "get" | .index => "index" | .count => "count"
def mmName : MM → Str
  | .append => "append" | .pop => "pop" | .popAt => "pop" | .insert => "insert" | .extend => "extend" | .setdefault => "setdefault" | .remove => "remove" | .reverse => "reverse" | .dpop => "pop"
def tyName : Ty → Str
  | .int => "int" | .str => "str" | .tuple => "tuple" | .list => "list" | .bool => "bool" | .dict => "dict" | .own _ => ""
def ownOf (N : List Str) (vs : List Nat) : List (Str × Nat) := vs.map fun v => (N[v]?.getD "", v)
def slotIs (N : List Str) (i : Nat) (x : Str) : Bool := decide (N[i]? = some x)
def tgIs (N : List Str) (sc : Scope) (fb : Str → Bool) (i : Nat) : Expr → Bool
  | .Name x _ => slotIs N i x && loc sc fb x
  | _ => false
def tgsIs (N : List Str) (sc : Scope) (fb : Str → Bool) : List Nat → List Expr → Bool
  | [], [] => true
  | i :: is, e :: es => tgIs N sc fb i e && tgsIs N sc fb is es
  | _, _ => false
def chkTg (N : List Str) (sc : Scope) (fb : Str → Bool) : Tg → Expr → Bool
  | .v i, e => tgIs N sc fb i e
  | .w i, e => tgIs N sc fb i e
  | .t is, .Tuple es _ _ => tgsIs N sc fb is es
  | .t2 i js, .Tuple [e, .Tuple es _ _] _ _ => tgIs N sc fb i e && tgsIs N sc fb js es
  | _, _ => false
def tgSlots : Tg → List Nat
  | .v i => [i]
  | .w i => [i]
  | .t is => is
  | .t2 i js => i :: js
def blkFb (scope : Scope) : Str → Bool := fun x => scope.names.lookup x == some .cell

section
variable (N : List Str) (fns : List Fn)
mutual
def chk (sc : Scope) : E → Expr → Bool
  | .var i, ast => match ast with
    | .Name x _ => slotIs N i x && vis sc x && nm x
    | _ => false
  | .frz i, ast => match ast with
    | .Name x _ => slotIs N i x && vis sc x && nm x
    | _ => false
  | .int i, ast => match ast with
    | .Constant (.int j) _ _ => decide (i = j)
    | _ => false
  | .str i, ast => match ast with
    | .Constant (.str j) _ _ => decide (i = j)
    | _ => false
  | .bl i, ast => match ast with
    | .Constant (.bool j) _ _ => decide (i = j)
    | _ => false
  | .non, ast => match ast with
    | .Constant .none _ _ => true
    | _ => false
  | .tup es, ast => match ast with
    | .Tuple xs _ _ => chks sc es xs && decide (xs.length ≤ 1000)
    | _ => false
  | .lst es, ast => match ast with
    | .List xs _ => chks sc es xs && decide (xs.length ≤ 1000)
    | _ => false
  | .dct ks es, ast => match ast with
    | .Dict kx xs _ => keysIs ks kx && chks sc es xs && decide (kx.length = xs.length) && decide (kx.length ≤ 15)
    | _ => false
  | .bin op a b, ast => match ast with
    | .BinOp x o y _ => bopIs op o && chk sc a x && chk sc b y
    | _ => false
  | .neg a, ast => match ast with
    | .UnaryOp .USub x _ => chk sc a x
    | _ => false
  | .cmp op a b, ast => match ast with
    | .Compare x [o] [y] _ => copIs op o && chk sc a x && chk sc b y && !behindInMarks o y
    | _ => false
  | .cmp2 op op2 a b c, ast => match ast with
    | .Compare x [o, o2] [y, z] _ => copIs op o && copIs op2 o2 && ordC op && ordC op2 && chk sc a x && chk sc b y && chk sc c z && !lastMarks [o, o2] [y, z]
    | _ => false
  | .rev a, ast => match ast with
    | .Subscript x (.Slice none none (some (.UnaryOp .USub (.Constant (.int j) _ _) _)) _) _ => decide (j = 1) && chk sc a x
    | _ => false
  | .and a b, ast => match ast with
    | .BoolOp .And (x :: y :: r) pos => chk sc a x && (match r with
      | [] => chk sc b y
      | z :: t => chk sc b (.BoolOp .And (y :: z :: t) pos))
    | _ => false
  | .or a b, ast => match ast with
    | .BoolOp .Or (x :: y :: r) pos => chk sc a x && (match r with
      | [] => chk sc b y
      | z :: t => chk sc b (.BoolOp .Or (y :: z :: t) pos))
    | _ => false
  | .not a, ast => match ast with
    | .UnaryOp .Not x _ => chk sc a x
    | _ => false
  | .ite c a b, ast => match ast with
    | .IfExp t x y _ => chk sc c t && chk sc a x && chk sc b y
    | _ => false
  | .idx a b, ast => match ast with
    | .Subscript x y _ => chk sc a x && chk sc b y && nSlice y
    | _ => false
  | .slc a lo hi, ast => match ast with
    | .Subscript x (.Slice (some l) (some h) none _) _ => chk sc a x && chk sc lo l && chk sc hi h
    | _ => false
  | .slf a lo, ast => match ast with
    | .Subscript x (.Slice (some l) none none _) _ => chk sc a x && chk sc lo l
    | _ => false
  | .slt a hi, ast => match ast with
    | .Subscript x (.Slice none (some h) none _) _ => chk sc a x && chk sc hi h
    | _ => false
  | .call f es, ast => match ast with
    | .Call (.Name g _) xs [] _ => (match fns[f]? with
      | some F => decide (F.name = g)
      | none => false) && glb sc g && nm g && chks sc es xs
    | _ => false
  | .blt f es, ast => match bfIn f with
    | none => (match ast with
      | .Call (.Name g _) (x :: xs) [] _ => decide (bfName f = g) && glb sc g && chks sc es (x :: xs)
      | _ => false)
    | some g2 => (match ast with
      | .Call (.Name g _) [.Call (.Name h _) (x :: xs) [] _] [] _ => decide (bfName f = g) && glb sc g && decide (g2 = h) && glb sc h && chks sc es (x :: xs) && (match f with
        | .zipl => decide (xs.length = 1)
        | _ => true)
      | _ => false)
  | .mth m o es, ast => match ast with
    | .Call (.Attribute x g p) xs [] q => decide (mfName m = g) && (p.endLine == q.line) && chk sc o x && nBase x && chks sc es xs && decide (xs.length ≤ 5)
    | _ => false
  | .mut m i es, ast => match ast with
    | .Call (.Attribute (.Name x _) g p) xs [] q => decide (mmName m = g) && (p.endLine == q.line) && slotIs N i x && vis sc x && nm x && chks sc es xs && decide (xs.length ≤ 5)
    | _ => false
  | .fld _ _, _ => false
  | .isi e t, ast => match ast with
    | .Call (.Name g _) [x, .Name y _] [] _ => decide (g = "isinstance") && glb sc g && decide (tyName t = y) && glb sc y && chk sc e x && nStar x && (match t with
      | .own _ => false
      | _ => true)
    | _ => false
  | .mk _ _ _, _ => false
  | .comp elt tg it ifs vs, ast => match ast with
    | .ListComp x [⟨t, i, fs, 0⟩] scope _ => chkIt sc it t i && blkC N sc scope (ownOf N vs) && (tgSlots tg).all vs.contains && chkTg N (relS scope sc) (blkFb scope) tg t
        && chk (relS scope sc) elt x && chkIf (relS scope sc) ifs fs
    | _ => false
def chks (sc : Scope) : Es → List Expr → Bool
  | .nil, xs => xs.isEmpty
  | .cons e r, xs => match xs with
    | x :: xs => chk sc e x && nStar x && chks sc r xs
    | _ => false
def chkIf (sc : Scope) : Es → List Expr → Bool
  | .nil, xs => xs.isEmpty
  | .cons e _, xs => match xs with
    | [x] => chk sc e x
    | _ => false
def chkIt (sc : Scope) : It → Expr → Expr → Bool
  | .seq e, _, ast => chk sc e ast && nSet ast
  | .rng1 e, _, ast => match ast with
    | .Call (.Name g _) [x] [] _ => decide (g = "range") && glb sc g && chk sc e x && nStar x
    | _ => false
  | .rng2 a b, _, ast => match ast with
    | .Call (.Name g _) [x, y] [] _ => decide (g = "range") && glb sc g && chk sc a x && chk sc b y && nStar x && nStar y
    | _ => false
  | .enm e, tg, ast => match tg, ast with
    | .Tuple _ _ _, .Call (.Name g _) [x] [] _ => decide (g = "enumerate") && glb sc g && chk sc e x && nStar x
    | _, _ => false
  | .zip a b, tg, ast => match tg, ast with
    | .Tuple _ _ _, .Call (.Name g _) [x, y] [] _ => decide (g = "zip") && glb sc g && chk sc a x && chk sc b y && nStar x && nStar y
    | _, _ => false
end

/-- name = [..]: stored as it is made -/
def setcOk (sc : Scope) (y : Str) (py : Pos) : Expr → Bool
  | .ListComp _ _ scope pos => (match sc.names.lookup y with | some .local => true | _ => false) && (py.line == pos.line) && !(scope.names.any fun (n, k) => n == y && (k == .local || k == .cell))
  | _ => false
def setcNo (sc : Scope) (y : Str) : Expr → Bool
  | .ListComp .. => (match sc.names.lookup y with | some .cell => true | _ => false)
  | .SetComp .. | .DictComp .. => false
  | _ => true
def localB (sc : Scope) (x : Str) : Bool := match sc.names.lookup x with | some .local => true | _ => false
mutual
def chkS (sc : Scope) : S → Stmt → Bool
  | .expr e, ast => match ast with
    | .Expr x _ => chk N fns sc e x && nComp x
    | _ => false
  | .asg tg e, ast => match ast with
    | .Assign [t] x _ => chk N fns sc e x && chkTg N sc (fun _ => true) tg t && (match t with
      | .Name y py => setcOk sc y py x || setcNo sc y x
      | .Tuple _ _ _ => nTup x && nComp x
      | _ => false)
    | _ => false
  | .par i j a b, ast => match ast with
    | .Assign [.Tuple [.Name x px, .Name y py] _ _] (.Tuple [p, q] _ _) _ => slotIs N i x && slotIs N j y && chk N fns sc a p && chk N fns sc b q && nStar p && nStar q && !(x == y)
        && localB sc x && localB sc y && (px.line == py.line) && !([p, q].all (foldedForSure 8)) && !([p, q].all (constantsAlone 8))
    | _ => false
  | .set i k v, ast => match ast with
    | .Assign [.Subscript (.Name x _) y _] z _ => slotIs N i x && vis sc x && nm x && chk N fns sc k y && chk N fns sc v z && nSlice y && nComp z
    | _ => false
  | .setf .., _ => false
  | .aug i op e, ast => match ast with
    | .AugAssign (.Name x _) o y _ => bopIs op o && slotIs N i x && loc sc (fun _ => true) x && chk N fns sc e y
    | _ => false
  | .ite c a b, ast => match ast with
    | .If t x y _ => chk N fns sc c t && chkSs sc a x && chkSs sc b y
    | _ => false
  | .for tg it b, ast => match ast with
    | .For t i x [] _ => chkIt N fns sc it t i && nSet i && chkTg N sc (fun _ => true) tg t && chkSs sc b x
    | _ => false
  | .whl c b, ast => match ast with
    | .While t x [] _ => chk N fns sc c t && chkSs sc b x
    | _ => false
  | .ret e, ast => match ast with
    | .Return (some x) _ => chk N fns sc e x
    | _ => false
  | .retN, ast => match ast with
    | .Return none _ => true
    | _ => false
  | .pass, ast => match ast with
    | .Pass _ => true
    | _ => false
  | .brk, ast => match ast with
    | .Break _ => true
    | _ => false
  | .cont, ast => match ast with
    | .Continue _ => true
    | _ => false
  | .fail, _ => true
def chkSs (sc : Scope) : Ss → List Stmt → Bool
  | .nil, xs => xs.isEmpty
  | .cons s r, xs => match xs with
    | x :: xs => chkS sc s x && chkSs sc r xs
    | _ => false
end
end

/-! ### what the text's forms say of the model's trees -/
theorem star_cons {e : Expr} {es : List Expr} {env : Env} (h : nStar e = true) : starEach (e :: es) env = (false, eval e env) :: starEach es env := by
  cases e <;> first | rfl | simp [nStar] at h
theorem star_plain : ∀ {es : List Expr} {env : Env}, es.all nStar = true → ∀ {pos}, (backTo pos (starEach es env)).any (·.1) = false
  | [], _, _, _ => rfl
  | e :: es, env, h, pos => by
    rw [List.all_cons, Bool.and_eq_true] at h
    rw [star_cons h.1]
    show (false || (backTo pos (starEach es env)).any (·.1)) = false
    rw [star_plain h.2]; rfl
theorem star_few : ∀ {es : List Expr} {env : Env}, es.all nStar = true → ∀ {pos}, (backTo pos (starEach es env)).all (fun x => !x.1) = true
  | [], _, _, _ => rfl
  | e :: es, env, h, pos => by
    rw [List.all_cons, Bool.and_eq_true] at h
    rw [star_cons h.1]
    show (true && (backTo pos (starEach es env)).all (fun x => !x.1)) = true
    rw [star_few h.2]; rfl
theorem chks_star {N fns sc} : ∀ {es : Es} {xs : List Expr}, chks N fns sc es xs = true → xs.all nStar = true
  | .nil, [], _ => rfl
  | .nil, _ :: _, h => by simp [chks] at h
  | .cons _ _, [], h => by simp [chks] at h
  | .cons e r, x :: xs, h => by
    simp only [chks, Bool.and_eq_true] at h
    rw [List.all_cons, h.1.2, chks_star h.2]; rfl
theorem base_of {o : Expr} {f : Str} {env : Env} {w : Sem Value} (h : nBase o = true) : attributeBase o f env w = w := by
  unfold attributeBase
  cases o with
  | Call fn as ks p =>
    cases fn with
    | Name id p' =>
      cases as with
      | nil =>
        cases ks with
        | nil => simp [nBase] at h
        | cons _ _ => rfl
      | cons _ _ => rfl
    | _ => rfl
  | _ => rfl
theorem plainIx {b : Expr} (h : nSlice b = true) : PlainIx b := by
  intro o i
  cases b <;> first | rfl | simp [nSlice] at h
theorem noSl {b : Expr} (h : nSlice b = true) : NoSl b := by
  intro o i
  cases b <;> first | rfl | simp [nSlice] at h
theorem swaps_no {e : Expr} {t : Option Expr} {l : Nat} {env : Env} (h : nComp e = true) : swapsWith e t l env = pure false := by
  cases e <;> first | rfl | simp [nComp] at h
theorem set_no {e : Expr} {env : Env} {x : Value} (h : nSet e = true) : foldedSetIterable e env x = pure x := by
  cases e <;> first | rfl | simp [nSet] at h
theorem vis_of {sc : Scope} {x : Str} (h : vis sc x = true) : Vis sc x := by
  unfold vis at h
  split at h <;> first | exact .inl (by assumption) | exact .inr (.inl (by assumption)) | exact .inr (.inr (by assumption)) | cases h
theorem loc_of {sc : Scope} {fb : Str → Bool} {x : Str} (h : loc sc fb x = true) : Loc sc x ∧ (fb x = true ∨ sc.names.lookup x = some .local) := by
  unfold loc at h
  split at h
  · exact ⟨.inl (by assumption), .inr (by assumption)⟩
  · exact ⟨.inr (by assumption), .inl h⟩
  · cases h
theorem glb_of {sc : Scope} {x : Str} (h : glb sc x = true) : sc.names.lookup x = some .globalImplicit := by
  unfold glb at h
  split at h
  · assumption
  · cases h
theorem nm_of {x : Str} (h : nm x = true) : (x == ("__debug__" : Str)) = false ∧ (x == ("__classdict__" : Str)) = false ∧ x ≠ "__name__" := by
  unfold nm at h
  simp only [Bool.and_eq_true, Bool.not_eq_true'] at h
  refine ⟨h.1.1, h.1.2, fun e => ?_⟩
  rw [e] at h
  exact absurd h.2 (by simp)
end Iv
/-! Iv, part E: the readings; operators, names, displays. -/
namespace Iv
open PySem PySem.Spec PyProof.Rows L2

/-- the defs of a text, where they stand -/
structure Tab where
  fns : List Fn
  C : CV
  fa : Nat → Addr
  fd : Nat → FuncData

structure CallPost (C : CV) (B : Fb) (args : Sl) (σ : L2.St) (H : Hp) (outs : Sl) (H' : Hp) (fr : Bool) (d : D) (v : V) : Prop where
  chg : ∀ a o, ¬ Own args σ a → H a = some o → H' a = some o
  dom : ∀ a o, H a = some o → ∃ o', H' a = some o'
  lent : ∀ (i : Nat) (e : D), args[i]? = some (Slot.own e) → ∃ e', outs[i]? = some (Slot.own e') ∧ ∀ a, σ[i]? = some (some (V.ref a)) → Obj C (FF B args σ) H' a e'
  res : Rep C (FF B args σ) H' v d
  fr : fr = true → ∃ p, v = .ref p ∧ H p = none ∧ Obj C (fun a => FF B args σ a ∨ a = p) H' p d ∧
    ∀ (i : Nat) (e e' : D), args[i]? = some (Slot.own e) → outs[i]? = some (Slot.own e') → ∀ a, σ[i]? = some (some (V.ref a)) → Obj C (fun a => FF B args σ a ∨ a = p) H' a e'
def spF (C : CV) (call : Sl → Option (Bool × D × Sl)) (np : Nat) : Sp := fun vs H Q _ => vs.length = np ∧ ∃ (B : Fb) (args : Sl) (fr : Bool) (d : D) (outs : Sl),
  Sim C B args (vs.map some) H ∧ call args = some (fr, d, outs) ∧ ∀ v H', CallPost C B args (vs.map some) H outs H' fr d v → Q v H'

structure Good (T : Tab) (n : Nat) (N : List Str) (sc : Scope) (fb : Str → Bool) (X : Cx) : Prop where
  xN : X.N = N
  xsc : X.env.scope = sc
  xK : X.K = T.C.1
  calm : X.calm = true
  nd : N.Nodup
  room : Room (2 * n + 1) X.A
  xe : X.xe = fun _ _ => False
  fb : ∀ x, fb x = true → X.fn x = true
  gd : Free X.A
  fns : ∀ f F, T.fns[f]? = some F → FnG X.prog X.w X.K X.mg X.base CX0 (2 * n) (T.fa f) (T.fd f) (F.N.take F.np) (spF T.C (run T.fns n f) F.np) ∧ X.mg F.name = some (.ref (T.fa f)) ∧ PySem.W.keepIn X.K (.ref (T.fa f)) = true ∧ Binds X.K (T.fd f) (F.N.take F.np) []
  bl : ∀ x, x ∈ (["len", "tuple", "list", "sum", "sorted", "int", "all", "any", "max", "min", "dict", "isinstance", "repr", "str", "bool", "range", "enumerate", "zip", "set"] : List Str) → X.mg x = none
variable {T : Tab} {n : Nat} {N : List Str} {sc : Scope} {fb : Str → Bool} {X : Cx} {np : Nat} {call : CallF}

theorem Good.kind (G : Good T n N sc fb X) {x : Str} {k : NameKind} (h : sc.names.lookup x = some k) : X.env.kindOf x = some k := by
  unfold Env.kindOf; rw [G.xsc]; exact h
theorem Good.gl (G : Good T n N sc fb X) {x : Str} (h : glb sc x = true) : Gl X x := G.kind (glb_of h)
theorem Good.blk (G : Good T n N sc fb X) (s : Shared) (H : Hp) (scope : Scope) (cl : List (Str × Addr)) (c : Addr) (fp : List Addr) : Good T n N (relS scope sc) (blkFb scope) (X.blk s H scope (compEnvC scope cl c X.env) fp) where
  xN := G.xN
  xsc := by rw [← G.xsc]; rfl
  xK := G.xK
  calm := G.calm
  nd := G.nd
  room := G.room
  gd := G.gd
  xe := rfl
  fb := fun x h => h
  fns := G.fns
  bl := G.bl

/-! ### readings -/
def tE (C : CV) (np : Nat) (call : CallF) (e : E) : TE := fun σ H Q => ∃ (B : Fb) (ρ : Sl) (o : Opd) (ρ' : Sl), Sim C B ρ σ H ∧ ev np call e ρ = some (o, ρ') ∧ ∀ v H', Post C np B ρ ρ' σ H H' o v → Q v H'
def tT (C : CV) (np : Nat) (call : CallF) (e : E) : TT := fun σ H Q => ∃ (B : Fb) (ρ : Sl) (b : Bool) (ρ' : Sl), Sim C B ρ σ H ∧ (ev np call e ρ).bind blOf = some (b, ρ') ∧ ∀ H', Stp C np B ρ ρ' σ H H' → Q b H'
structure PostA (C : CV) (np : Nat) (B : Fb) (ρ ρ' : Sl) (σ : L2.St) (H H' : Hp) (os : List Opd) (vs : List V) : Prop where
  stp : Stp C np B ρ ρ' σ H H'
  len : vs.length = os.length
  op : ∀ (i : Nat) (o : Opd) (v : V), os[i]? = some o → vs[i]? = some v → OpOk C B ρ' σ H' o v
def tA (C : CV) (np : Nat) (call : CallF) (es : Es) : TA := fun σ H Q => ∃ (B : Fb) (ρ : Sl) (os : List Opd) (ρ' : Sl), Sim C B ρ σ H ∧ evs np call es ρ = some (os, ρ') ∧ ∀ vs H', PostA C np B ρ ρ' σ H H' os vs → Q vs H'

theorem bind_some' {α β : Type} {x : Option α} {f : α → Option β} {b : β} (h : x.bind f = some b) : ∃ a, x = some a ∧ f a = some b := Option.bind_eq_some_iff.mp h

section
variable {C : CV} {B : Fb} {ρ ρ' : Sl} {σ : L2.St} {H : Hp}
/-- the reading of a part, whatever is wanted -/
theorem tE_of {e : E} {o : Opd} {Q : VK} (S : Sim C B ρ σ H) (h : ev np call e ρ = some (o, ρ')) (q : ∀ v H', Post C np B ρ ρ' σ H H' o v → Q v H') : tE C np call e σ H Q := ⟨B, ρ, o, ρ', S, h, q⟩
/-- two parts, then what is done with them -/
theorem two {a b : E} {o1 o2 : Opd} {ρ1 ρ2 : Sl} {d1 d2 : D} {R : V → V → Hp → Prop} (S : Sim C B ρ σ H) (h1 : ev np call a ρ = some (o1, ρ1)) (h2 : ev np call b ρ1 = some (o2, ρ2)) (e1 : deref ρ2 o1 = some d1) (e2 : deref ρ2 o2 = some d2)
    (q : ∀ x y H2, Stp C np B ρ ρ2 σ H H2 → RepT C (FF B ρ2 σ) H2 x d1 → RepT C (FF B ρ2 σ) H2 y d2 → R x y H2) : tE C np call a σ H fun x H1 => tE C np call b σ H1 fun y H2 => R x y H2 :=
  tE_of S h1 fun x H1 p1 => tE_of p1.stp.sim h2 fun y H2 p2 => q x y H2 (p1.stp.trans p2.stp) ((p1.op.next p2.stp).read p2.stp.sim e1) (p2.op.read p2.stp.sim e2)
theorem RepT.flat {F : Fb} {v : V} {d : D} (h : RepT C F H v d) (n : ∀ a, ¬ Obj C F H a d) : Rep C F H v d := by
  rcases h with h | ⟨a, _, h⟩
  · exact h
  · exact (n a h).elim
theorem RepT.int {F : Fb} {v : V} {i : Int} (h : RepT C F H v (.int i)) : v = .int i := by
  have := h.flat fun a z => z.elim
  simpa only [Rep] using this
theorem RepT.str {F : Fb} {v : V} {i : Str} (h : RepT C F H v (.str i)) : v = .str i := by
  have := h.flat fun a z => z.elim
  simpa only [Rep] using this
theorem RepT.bl {F : Fb} {v : V} {i : Bool} (h : RepT C F H v (.bl i)) : v = .bl i := by
  have := h.flat fun a z => z.elim
  simpa only [Rep] using this
theorem RepT.non {F : Fb} {v : V} (h : RepT C F H v .non) : v = .non := by
  have := h.flat fun a z => z.elim
  simpa only [Rep] using this
theorem TopL.sq {F : Fb} {a xs} (h : TopL C F H a xs) : SqL C.1 H a xs := by
  rcases h with ⟨_, h⟩ | h
  · exact .inl h
  · rcases h with h | h
    · rcases h with h | ⟨_, h⟩ <;> cases h
    · exact .inr h
theorem TopT.sq {F : Fb} {a xs} (h : TopT C F H a xs) : SqT C.1 H a xs := let ⟨_, o, _, e⟩ := h; .inl (.inr ⟨o, e⟩)
theorem TopP.sq {F : Fb} {a xs} (h : TopP F H a xs) : SqT C.1 H a xs := .inl h.2
theorem RepT.lst {F : Fb} {v : V} {ds : List D} (h : RepT C F H v (.lst ds)) : ∃ a xs, v = .ref a ∧ H a = some (.lst xs) ∧ Reps C F H xs ds := by
  rcases h with h | ⟨a, e, xs, e1, r⟩
  · simp only [Rep] at h
    obtain ⟨a, xs, e, t, r⟩ := h
    exact ⟨a, xs, e, t.2, r⟩
  · exact ⟨a, xs, e, e1, r⟩
theorem RepT.rol {F : Fb} {v : V} {ds : List D} (h : RepT C F H v (.rol ds)) : ∃ a xs, v = .ref a ∧ SqL C.1 H a xs ∧ Reps C F H xs ds := by
  have h := h.flat fun a z => z.elim
  simp only [Rep] at h
  obtain ⟨a, xs, e, t, r⟩ := h
  exact ⟨a, xs, e, t.sq, r⟩
theorem RepT.tup {F : Fb} {v : V} {ds : List D} (h : RepT C F H v (.tup ds)) : ∃ a xs, v = .ref a ∧ SqT C.1 H a xs ∧ Reps C F H xs ds := by
  have h := h.flat fun a z => z.elim
  simp only [Rep] at h
  obtain ⟨a, xs, e, t, r⟩ := h
  exact ⟨a, xs, e, t.sq, r⟩
/-- a tuple, and its own record -/
theorem RepT.tupO {F : Fb} {v : V} {ds : List D} (h : RepT C F H v (.tup ds)) : ∃ a xs, v = .ref a ∧ (∃ o : PySem.Obj, o.dict = none ∧ H a = some (.frz o (.tup xs))) ∧ Reps C F H xs ds := by
  have h := h.flat fun a z => z.elim
  simp only [Rep] at h
  obtain ⟨a, xs, e, t, r⟩ := h
  exact ⟨a, xs, e, t.2, r⟩
theorem RepT.prt {F : Fb} {v : V} {ds : List D} (h : RepT C F H v (.prt ds)) : ∃ a xs, v = .ref a ∧ SqT C.1 H a xs ∧ Reps C F H xs ds := by
  have h := h.flat fun a z => z.elim
  simp only [Rep] at h
  obtain ⟨a, xs, e, t, r⟩ := h
  exact ⟨a, xs, e, t.sq, r⟩
theorem RepT.dct {F : Fb} {v : V} {ds : List (Key × D)} (h : RepT C F H v (.dct ds)) : ∃ a xs, v = .ref a ∧ H a = some (.dK xs) ∧ RepKs C F H xs ds := by
  rcases h with h | ⟨a, e, xs, e1, r⟩
  · simp only [Rep] at h
    obtain ⟨a, xs, e, n, t, r⟩ := h
    exact ⟨a, xs, e, t, r⟩
  · exact ⟨a, xs, e, e1, r⟩
end

/-! ### names and constants -/
theorem s_var {i : Nat} {x : Str} {p : Pos} (G : Good T n N sc fb X) (h : slotIs N i x = true) (v : vis sc x = true) (m : nm x = true) : PE X (.Name x p) (tVar i) :=
  pe_var (by rw [G.xN]; exact of_decide_eq_true h) (by rw [G.xsc]; exact vis_of v) (nm_of m).1 (nm_of m).2.1
theorem e_var {i : Nat} {ast : Expr} (G : Good T n N sc fb X) (h : chk N T.fns sc (.var i) ast = true) : PE X ast (tE T.C np call (.var i)) := by
  simp only [chk] at h
  split at h
  · simp only [Bool.and_eq_true] at h
    refine ⟨fun pins s σ H Q I q => ?_⟩
    obtain ⟨B, ρ, o, ρ', S, e, q⟩ := q
    refine (s_var G h.1.1 h.1.2 h.2).run pins s σ H Q I ?_
    simp only [ev] at e
    split at e
    · rename_i d e1
      cases e
      obtain ⟨v, e2, r⟩ := S.val i d e1
      exact ⟨v, e2, q v H (.imm (.refl S) r)⟩
    · rename_i d e1
      cases e
      obtain ⟨a, e2, r⟩ := S.own i d e1
      exact ⟨.ref a, e2, q _ H (.slot (.refl S) e2)⟩
    · cases e
  · cases h
/-- a slot of one's own is let go: it may be held by others from now on -/
theorem Sim.freeze {C : CV} {B : Fb} {ρ : Sl} {σ : L2.St} {H : Hp} {i : Nat} {d : D} (S : Sim C B ρ σ H) (e : ρ[i]? = some (Slot.own d)) :
    (∀ a, Own (ρ.set i (.val d)) σ a → Own ρ σ a) ∧ Sim C B (ρ.set i (.val d)) σ H := by
  have hi : i < ρ.length := by
    rcases Nat.lt_or_ge i ρ.length with h | h
    · exact h
    · rw [List.getElem?_eq_none h] at e; cases e
  have sub : ∀ a, Own (ρ.set i (.val d)) σ a → Own ρ σ a := fun a ⟨j, d', e1, e2⟩ => by
    by_cases hj : i = j
    · subst hj
      rw [List.getElem?_set_self hi] at e1; cases e1
    · rw [List.getElem?_set_ne hj] at e1
      exact ⟨j, d', e1, e2⟩
  obtain ⟨a, e2, nb, ob⟩ := S.own i d e
  have na : ¬ FF B (ρ.set i (.val d)) σ a := fun z => by
    rcases z with z | ⟨j, d', e1, e3⟩
    · exact nb z
    · by_cases hj : i = j
      · subst hj
        rw [List.getElem?_set_self hi] at e1; cases e1
      · rw [List.getElem?_set_ne hj] at e1
        exact hj (S.inj i j d d' a e e1 e2 e3)
  have m : Mv (FF B ρ σ) (FF B (ρ.set i (.val d)) σ) H H := fun b o nn eo => ⟨eo, fun z => nn (z.elim .inl fun w => .inr (sub b w))⟩
  refine ⟨sub, ⟨by rw [List.length_set]; exact S.len, S.dom, fun j d' e1 => ?_, fun j d' e1 => ?_, fun j k d' d'' b e1 e3 => ?_⟩⟩
  · by_cases hj : i = j
    · subst hj
      rw [List.getElem?_set_self hi] at e1
      cases e1
      refine ⟨.ref a, e2, ?_⟩
      have ob := ob.mv m fun o eo => eo
      cases d with
      | lst ds => obtain ⟨xs, e5, r⟩ := ob; simp only [Rep]; exact ⟨a, xs, rfl, ⟨na, e5⟩, r⟩
      | dct ds => obtain ⟨xs, e5, r⟩ := ob; simp only [Rep]; exact ⟨a, xs, rfl, na, e5, r⟩
      | ins c ds => obtain ⟨dx, xs, e5, r⟩ := ob; simp only [Rep]; exact ⟨a, dx, xs, rfl, na, e5, r⟩
      | _ => exact ob.elim
    · rw [List.getElem?_set_ne hj] at e1
      obtain ⟨v, e5, r⟩ := S.val j d' e1
      exact ⟨v, e5, Rep.mv m d' v r⟩
  · by_cases hj : i = j
    · subst hj
      rw [List.getElem?_set_self hi] at e1; cases e1
    · rw [List.getElem?_set_ne hj] at e1
      obtain ⟨b, e5, nb', r⟩ := S.own j d' e1
      exact ⟨b, e5, nb', r.mv m fun o eo => eo⟩
  · by_cases hj : i = j
    · subst hj
      rw [List.getElem?_set_self hi] at e1; cases e1
    · by_cases hk : i = k
      · subst hk
        rw [List.getElem?_set_self hi] at e3; cases e3
      · rw [List.getElem?_set_ne hj] at e1
        rw [List.getElem?_set_ne hk] at e3
        exact S.inj j k d' d'' b e1 e3
theorem e_frz {i : Nat} {ast : Expr} (G : Good T n N sc fb X) (h : chk N T.fns sc (.frz i) ast = true) : PE X ast (tE T.C np call (.frz i)) := by
  simp only [chk] at h
  split at h
  · simp only [Bool.and_eq_true] at h
    refine ⟨fun pins s σ H Q I q => ?_⟩
    obtain ⟨B, ρ, o, ρ', S, e, q⟩ := q
    refine (s_var G h.1.1 h.1.2 h.2).run pins s σ H Q I ?_
    simp only [ev] at e
    split at e
    · rename_i d e1
      cases e
      obtain ⟨v, e2, r⟩ := S.val i d e1
      exact ⟨v, e2, q v H (.imm (.refl S) r)⟩
    · rename_i d e1
      split at e
      · rename_i hn
        cases e
        obtain ⟨sub, S'⟩ := S.freeze e1
        have hi : i < ρ.length := by
          rcases Nat.lt_or_ge i ρ.length with h | h
          · exact h
          · rw [List.getElem?_eq_none h] at e1; cases e1
        obtain ⟨v, e2, r⟩ := S'.val i d (List.getElem?_set_self hi)
        refine ⟨v, e2, q v H (.imm ⟨fun _ _ _ e => e, fun _ o e => ⟨o, e⟩, fun j d' e3 => (by
          by_cases hj : i = j
          · subst hj
            rw [List.getElem?_set_self hi] at e3; cases e3
          · rw [List.getElem?_set_ne hj] at e3; exact ⟨d', e3⟩), fun j hj d' e3 => ?_, by rw [List.length_set], S'⟩ r)⟩
        have hj : i ≠ j := by omega
        rw [List.getElem?_set_ne hj]
        exact ⟨d', e3⟩
      · cases e
    · cases e
  · cases h
theorem e_int {i : Int} {ast : Expr} (h : chk N T.fns sc (.int i) ast = true) : PE X ast (tE T.C np call (.int i)) := by
  simp only [chk] at h
  split at h
  · obtain rfl := of_decide_eq_true h
    refine ⟨fun pins s σ H Q I ⟨B, ρ, o, ρ', S, e, q⟩ => pe_int.run pins s σ H Q I ?_⟩
    simp only [ev] at e
    cases e
    exact q _ H (.imm (.refl S) (by simp only [Rep]))
  · cases h
theorem e_str {i : Str} {ast : Expr} (h : chk N T.fns sc (.str i) ast = true) : PE X ast (tE T.C np call (.str i)) := by
  simp only [chk] at h
  split at h
  · obtain rfl := of_decide_eq_true h
    refine ⟨fun pins s σ H Q I ⟨B, ρ, o, ρ', S, e, q⟩ => pe_str.run pins s σ H Q I ?_⟩
    simp only [ev] at e
    cases e
    exact q _ H (.imm (.refl S) (by simp only [Rep]))
  · cases h
theorem e_bl {i : Bool} {ast : Expr} (h : chk N T.fns sc (.bl i) ast = true) : PE X ast (tE T.C np call (.bl i)) := by
  simp only [chk] at h
  split at h
  · obtain rfl := of_decide_eq_true h
    refine ⟨fun pins s σ H Q I ⟨B, ρ, o, ρ', S, e, q⟩ => pe_bl.run pins s σ H Q I ?_⟩
    simp only [ev] at e
    cases e
    exact q _ H (.imm (.refl S) (by simp only [Rep]))
  · cases h
theorem e_non {ast : Expr} (h : chk N T.fns sc .non ast = true) : PE X ast (tE T.C np call .non) := by
  simp only [chk] at h
  split at h
  · refine ⟨fun pins s σ H Q I ⟨B, ρ, o, ρ', S, e, q⟩ => pe_non.run pins s σ H Q I ?_⟩
    simp only [ev] at e
    cases e
    exact q _ H (.imm (.refl S) (by simp only [Rep]))
  · cases h

/-! ### argument lists, displays -/
abbrev HE (T : Tab) (np : Nat) (call : CallF) (N : List Str) (sc : Scope) (X : Cx) (e : E) : Prop := ∀ ast, chk N T.fns sc e ast = true → PE X ast (tE T.C np call e)
abbrev HA (T : Tab) (np : Nat) (call : CallF) (N : List Str) (sc : Scope) (X : Cx) (es : Es) : Prop := ∀ xs, chks N T.fns sc es xs = true → PA X xs (tA T.C np call es)
theorem a_nil : HA T np call N sc X .nil := by
  intro xs h
  cases xs with
  | cons _ _ => simp [chks] at h
  | nil =>
    refine ⟨fun pos pins s σ H Q I ⟨B, ρ, os, ρ', S, e, q⟩ => pa_nil.run pos pins s σ H Q I ?_⟩
    simp only [evs] at e
    cases e
    exact q [] H ⟨.refl S, rfl, fun i o v e1 => by simp at e1⟩
theorem a_cons {e : E} {r : Es} (he : HE T np call N sc X e) (hr : HA T np call N sc X r) : HA T np call N sc X (.cons e r) := by
  intro xs h
  cases xs with
  | nil => simp [chks] at h
  | cons x xs =>
    simp only [chks, Bool.and_eq_true] at h
    refine ⟨fun pos pins s σ H Q I ⟨B, ρ, os, ρ', S, e, q⟩ => (pa_cons (he x h.1.1) (hr xs h.2) (star_cons h.1.2)).run pos pins s σ H Q I ?_⟩
    simp only [evs] at e
    obtain ⟨⟨o1, ρ1⟩, e1, e⟩ := bind_some' e
    obtain ⟨⟨os1, ρ2⟩, e2, e⟩ := bind_some' e
    cases e
    refine tE_of S e1 fun v H1 p1 => ⟨B, ρ1, os1, ρ2, p1.stp.sim, e2, fun vs H2 p2 => q _ H2 ⟨p1.stp.trans p2.stp, by simp [p2.len], fun i o w e3 e4 => ?_⟩⟩
    cases i with
    | zero =>
      simp at e3 e4
      subst e3; subst e4
      exact p1.op.next p2.stp
    | succ i => exact p2.op i o w (by simpa using e3) (by simpa using e4)
theorem PostA.imms {C : CV} {B : Fb} {ρ' : Sl} {σ : L2.St} {H' : Hp} : ∀ {os : List Opd} {vs : List V} {ds : List D}, imms os = some ds → vs.length = os.length →
    (∀ (i : Nat) (o : Opd) (v : V), os[i]? = some o → vs[i]? = some v → OpOk C B ρ' σ H' o v) → Reps C (FF B ρ' σ) H' vs ds
  | [], [], ds, e, _, _ => by
    simp [Iv.imms] at e; subst e; simp [Reps]
  | [], _ :: _, _, _, h, _ => by simp at h
  | _ :: _, [], _, _, h, _ => by simp at h
  | .slot _ :: _, _ :: _, _, e, _, _ => by simp [Iv.imms] at e
  | .imm f d :: os, v :: vs, ds, e, hl, h => by
    simp only [Iv.imms] at e
    obtain ⟨ds', e1, e⟩ := bind_some' e
    cases e
    simp only [Reps]
    exact ⟨h 0 (.imm f d) v rfl rfl, PostA.imms e1 (by simpa using hl) fun i o w a b => h (i + 1) o w (by simpa using a) (by simpa using b)⟩
def Es.len : Es → Nat
  | .nil => 0
  | .cons _ r => r.len + 1
theorem evs_len : ∀ {es : Es} {ρ ρ' : Sl} {os : List Opd}, evs np call es ρ = some (os, ρ') → os.length = es.len
  | .nil, _, _, _, e => by
    simp only [evs] at e
    cases e; rfl
  | .cons x r, _, _, _, e => by
    simp only [evs] at e
    obtain ⟨⟨o1, ρ1⟩, e1, e⟩ := bind_some' e
    obtain ⟨⟨os1, ρ2⟩, e2, e⟩ := bind_some' e
    cases e
    simp [Es.len, evs_len e2]
theorem chks_len {fns : List Fn} : ∀ {es : Es} {xs : List Expr}, chks N fns sc es xs = true → xs.length = es.len
  | .nil, [], _ => rfl
  | .nil, _ :: _, h => by simp [chks] at h
  | .cons _ _, [], h => by simp [chks] at h
  | .cons e r, x :: xs, h => by
    simp only [chks, Bool.and_eq_true] at h
    simp [Es.len, chks_len h.2]
theorem e_tup {es : Es} (he : HA T np call N sc X es) : HE T np call N sc X (.tup es) := by
  intro ast h
  simp only [chk] at h
  split at h
  · simp only [Bool.and_eq_true, decide_eq_true_eq] at h
    refine ⟨fun pins s σ H Q I ⟨B, ρ, o, ρ', S, e, q⟩ => (pe_tupF (he _ h.1)).run pins s σ H Q I ?_⟩
    simp only [ev] at e
    obtain ⟨⟨os, ρ1⟩, e1, e⟩ := bind_some' e
    obtain ⟨ds, e2, e⟩ := bind_some' e
    cases e
    refine ⟨B, ρ, os, ρ1, S, e1, fun vs H1 p => ⟨?_, fun a H2 ha hn => q _ _ (.tup p.stp ha (PostA.imms e2 p.len p.op) hn)⟩⟩
    have := chks_len h.1
    rw [p.len, evs_len e1, ← this, sizeLine_eq]
    omega
  · cases h
theorem e_lst {es : Es} (he : HA T np call N sc X es) : HE T np call N sc X (.lst es) := by
  intro ast h
  simp only [chk] at h
  split at h
  · simp only [Bool.and_eq_true, decide_eq_true_eq] at h
    refine ⟨fun pins s σ H Q I ⟨B, ρ, o, ρ', S, e, q⟩ => (pe_lst (he _ h.1)).run pins s σ H Q I ?_⟩
    simp only [ev] at e
    obtain ⟨⟨os, ρ1⟩, e1, e⟩ := bind_some' e
    obtain ⟨ds, e2, e⟩ := bind_some' e
    cases e
    refine ⟨B, ρ, os, ρ1, S, e1, fun vs H1 p => ⟨?_, fun a ha => q _ _ (.lst p.stp ha (PostA.imms e2 p.len p.op))⟩⟩
    have := chks_len h.1
    rw [p.len, evs_len e1, ← this, sizeLine_eq]
    omega
  · cases h

/-! ### operators -/
section
variable {C : CV} {B : Fb} {ρ ρ2 : Sl} {σ : L2.St} {H H2 : Hp} {x y : V} {Q : VK}
abbrev BinQ (C : CV) (np : Nat) (B : Fb) (ρ ρ2 : Sl) (σ : L2.St) (H : Hp) (Q : VK) (r : Bool × D) : Prop := ∀ v H', Post C np B ρ ρ2 σ H H' (.imm r.1 r.2) v → Q v H'
theorem atI_rep {F : Fb} {xs : List V} {ds : List D} {i : Int} {d : D} (r : Reps C F H xs ds) (e : atI ds i = some d) : ∃ v, atI xs i = some v ∧ Rep C F H v d := by
  unfold atI at e ⊢
  rw [r.len]
  obtain ⟨j, e1, e2⟩ := bind_some' e
  rw [e1]
  exact r.get e2
end
theorem inv2 {α : Type} {a b : E} {ρ : Sl} {f : D → D → Sl → Option α} {r : α}
    (e : ((ev np call a ρ).bind fun (o1, ρ1) => (ev np call b ρ1).bind fun (o2, ρ2) => (deref ρ2 o1).bind fun d1 => (deref ρ2 o2).bind fun d2 => f d1 d2 ρ2) = some r) :
    ∃ o1 ρ1 o2 ρ2 d1 d2, ev np call a ρ = some (o1, ρ1) ∧ ev np call b ρ1 = some (o2, ρ2) ∧ deref ρ2 o1 = some d1 ∧ deref ρ2 o2 = some d2 ∧ f d1 d2 ρ2 = some r := by
  obtain ⟨⟨o1, ρ1⟩, e1, e⟩ := bind_some' e
  obtain ⟨⟨o2, ρ2⟩, e2, e⟩ := bind_some' e
  obtain ⟨d1, e3, e⟩ := bind_some' e
  obtain ⟨d2, e4, e⟩ := bind_some' e
  exact ⟨o1, ρ1, o2, ρ2, d1, d2, e1, e2, e3, e4, e⟩
theorem inv_bin {op : BOp} {a b : E} {ρ ρ' : Sl} {o : Opd} (e : ev np call (.bin op a b) ρ = some (o, ρ')) :
    ∃ o1 ρ1 o2 d1 d2 r, ev np call a ρ = some (o1, ρ1) ∧ ev np call b ρ1 = some (o2, ρ') ∧ deref ρ' o1 = some d1 ∧ deref ρ' o2 = some d2 ∧ binop op d1 d2 = some r ∧ o = .imm r.1 r.2 := by
  simp only [ev] at e
  obtain ⟨o1, ρ1, o2, ρ2, d1, d2, e1, e2, e3, e4, e⟩ := inv2 (f := fun d1 d2 ρ2 => (binop op d1 d2).bind fun r => some (Opd.imm r.1 r.2, ρ2)) e
  obtain ⟨r, e5, e⟩ := bind_some' e
  cases e
  exact ⟨o1, ρ1, o2, d1, d2, r, e1, e2, e3, e4, e5, rfl⟩
/-- a binary operator: its rule by what it is used on -/
theorem e_bin {op : BOp} {a b : E} (G : Good T n N sc fb X) (ha : HE T np call N sc X a) (hb : HE T np call N sc X b) : HE T np call N sc X (.bin op a b) := by
  intro ast h
  simp only [chk] at h
  split at h
  · rename_i x o y p
    simp only [Bool.and_eq_true] at h
    obtain ⟨⟨ho, hx⟩, hy⟩ := h
    refine ⟨fun pins s σ H Q I hq => ?_⟩
    obtain ⟨B, ρ, oo, ρ', S, e, q⟩ := hq
    obtain ⟨o1, ρ1, o2, d1, d2, r, e1, e2, e3, e4, e5, rfl⟩ := inv_bin e
    clear e
    have go : ∀ {f : Operator} {r2 : R2}, OpR X (binaryOp f) r2 → (∀ v u H2, Stp T.C np B ρ ρ' σ H H2 → RepT T.C (FF B ρ' σ) H2 v d1 → RepT T.C (FF B ρ' σ) H2 u d2 → r2 v u H2 Q) →
        wpAny (model X.prog X.w) X.A (eval (.BinOp x f y p) X.env) (EP X pins σ Q) X.xe s := fun {f r2} hop hq =>
      (pe_op hop (ha x hx) (hb y hy)).run pins s σ H Q I (two S e1 e2 e3 e4 hq)
    have Kx : X.K = T.C.1 := G.xK
    clear e1 e2 e3 e4 hx hy ha hb S
    unfold binop at e5
    split at e5
    · rename_i i j
      cases e5
      cases o <;> simp only [bopIs] at ho <;> try (exact absurd ho (by decide))
      exact go op_add fun v u H2 st rv ru => ⟨i, j, rv.int, ru.int, q _ _ (.imm st (by simp only [Rep]))⟩
    · rename_i xs ys
      split at e5
      · rename_i hz
        cases e5
        cases o <;> simp only [bopIs] at ho <;> try (exact absurd ho (by decide))
        refine go op_catF fun v u H2 st rv ru => ?_
        obtain ⟨a1, us, rfl, q1, r1⟩ := rv.tup
        obtain ⟨a2, ws, rfl, q2, r2⟩ := ru.tup
        refine ⟨a1, a2, us, ws, rfl, rfl, by rw [Kx]; exact q1, by rw [Kx]; exact q2, by rw [r1.len, r2.len]; exact hz, fun e0 => ?_, fun e0 e9 => ?_, fun _ _ p H2 hp hn => q _ _ (.tup st hp (r1.app r2) hn)⟩
        · subst e0
          have : xs = [] := List.eq_nil_of_length_eq_zero (by rw [← r1.len]; rfl)
          subst this
          exact q _ _ (.imm st (ru.flat fun a z => z.elim))
        · subst e9
          have : ys = [] := List.eq_nil_of_length_eq_zero (by rw [← r2.len]; rfl)
          subst this
          rw [List.append_nil] at q
          exact q _ _ (.imm st (rv.flat fun a z => z.elim))
      · cases e5
    · rename_i xs ys
      split at e5
      · rename_i hz
        cases e5
        cases o <;> simp only [bopIs] at ho <;> try (exact absurd ho (by decide))
        refine go op_cat fun v u H2 st rv ru => ?_
        obtain ⟨a1, us, rfl, q1, r1⟩ := rv.lst
        obtain ⟨a2, ws, rfl, q2, r2⟩ := ru.lst
        exact ⟨a1, a2, us, ws, rfl, rfl, q1, q2, by rw [r1.len, r2.len]; exact hz, fun p hp => q _ _ (.lst st hp (r1.app r2))⟩
      · cases e5
    · rename_i xs ys
      split at e5
      · rename_i hz
        cases e5
        cases o <;> simp only [bopIs] at ho <;> try (exact absurd ho (by decide))
        exact go op_add_str fun v u H2 st rv ru => ⟨xs, ys, rv.str, ru.str, hz, q _ _ (.imm st (by simp only [Rep]))⟩
      · cases e5
    · rename_i i j
      cases e5
      cases o <;> simp only [bopIs] at ho <;> try (exact absurd ho (by decide))
      exact go op_sub fun v u H2 st rv ru => ⟨i, j, rv.int, ru.int, q _ _ (.imm st (by simp only [Rep]))⟩
    · rename_i i j
      split at e5
      · rename_i hz
        cases e5
        cases o <;> simp only [bopIs] at ho <;> try (exact absurd ho (by decide))
        exact go op_mul fun v u H2 st rv ru => ⟨i, j, rv.int, ru.int, (show (-(2 ^ 64) < i ∧ i < 2 ^ 64) ∨ (-(2 ^ 64) < j ∧ j < 2 ^ 64) from of_decide_eq_true hz), q _ _ (.imm st (by simp only [Rep]))⟩
      · cases e5
    · rename_i xs j
      split at e5
      · rename_i hz
        cases e5
        cases o <;> simp only [bopIs] at ho <;> try (exact absurd ho (by decide))
        refine go op_rep fun v u H2 st rv ru => ?_
        obtain ⟨a1, us, rfl, q1, r1⟩ := rv.lst
        exact ⟨a1, j, us, rfl, ru.int, q1, hz.2.1, hz.2.2, by rw [r1.len]; exact hz.1, fun p hp => q _ _ (.lst st hp (r1.rep j.toNat))⟩
      · cases e5
    · rename_i i j
      split at e5
      · rename_i hz
        cases e5
        cases o <;> simp only [bopIs] at ho <;> try (exact absurd ho (by decide))
        exact go op_mod fun v u H2 st rv ru => ⟨i, j, rv.int, ru.int, hz, q _ _ (.imm st (by simp only [Rep]))⟩
      · cases e5
    · rename_i i j
      split at e5
      · rename_i hz
        cases e5
        cases o <;> simp only [bopIs] at ho <;> try (exact absurd ho (by decide))
        exact go op_fdiv fun v u H2 st rv ru => ⟨i, j, rv.int, ru.int, hz, q _ _ (.imm st (by simp only [Rep]))⟩
      · cases e5
    · rename_i i j
      split at e5
      · rename_i hz
        cases e5
        cases o <;> simp only [bopIs] at ho <;> try (exact absurd ho (by decide))
        exact go op_pow fun v u H2 st rv ru => ⟨i, j, rv.int, ru.int, hz, q _ _ (.imm st (by simp only [Rep]))⟩
      · cases e5
    · cases e5
  · cases h

/-! ### comparisons -/
section
variable {C : CV} {F : Fb} {H : Hp}
theorem rKn {xs : List V} {a : Addr} (h : SqL C.1 (fun _ => none) a xs) : SqL C.1 H a xs := by
  rcases h with h | h
  · rcases h with h | ⟨_, h⟩ <;> cases h
  · exact .inr h
mutual
theorem Rep.dp : ∀ (d : D) (v : V), Rep C F H v d → (toP d).canLay0 = true → Dp C.1 H v (toP d)
  | .non, v, h, _ => by simp only [Rep] at h; subst h; exact .non
  | .bl b, v, h, _ => by simp only [Rep] at h; subst h; exact .bl b
  | .int b, v, h, _ => by simp only [Rep] at h; subst h; exact .int b
  | .str b, v, h, _ => by simp only [Rep] at h; subst h; exact .str b
  | .tup ds, v, h, z => by
    simp only [Rep] at h
    obtain ⟨a, xs, rfl, t, r⟩ := h
    exact .tup t.sq (Reps.dp ds xs r (by simpa only [toP, PyData.canLay0] using z))
  | .lst ds, v, h, z => by
    simp only [Rep] at h
    obtain ⟨a, xs, rfl, t, r⟩ := h
    exact .lst (.of t.2) (Reps.dp ds xs r (by simpa only [toP, PyData.canLay0] using z))
  | .rol ds, v, h, z => by simp [toP, PyData.canLay0] at z
  | .dct ds, v, h, z => by simp [toP, PyData.canLay0] at z
  | .ins _ _, v, h, z => by simp [toP, PyData.canLay0] at z
  | .prt _, v, h, z => by simp [toP, PyData.canLay0] at z
theorem Reps.dp : ∀ (ds : List D) (vs : List V), Reps C F H vs ds → PyData.canLayAll0 (toPs ds) = true → DpAll C.1 H vs (toPs ds)
  | [], [], _, _ => .nil
  | [], _ :: _, h, _ => by simp only [Reps] at h
  | _ :: _, [], h, _ => by simp only [Reps] at h
  | d :: ds, v :: vs, h, z => by
    simp only [Reps] at h
    simp only [toPs, PyData.canLayAll0, Bool.and_eq_true] at z
    exact .cons (Rep.dp d v h.1 z.1) (Reps.dp ds vs h.2 z.2)
end
theorem RepT.dp {d : D} {v : V} (h : RepT C F H v d) (z : SeqAt.shaped (toP d) = true) : Dp C.1 H v (toP d) := by
  have z := SeqAt.canLay_of_shaped z
  rcases h with h | ⟨a, rfl, h⟩
  · exact Rep.dp d v h z
  · cases d with
    | lst ds =>
      obtain ⟨xs, e, r⟩ := h
      exact .lst (.of e) (Reps.dp ds xs r (by simpa only [toP, PyData.canLay0] using z))
    | dct _ => simp [toP, PyData.canLay0] at z
    | ins _ _ => simp [toP, PyData.canLay0] at z
    | _ => exact h.elim
theorem Rep.notNon {d : D} {v : V} (h : RepT C F H v d) : (match d with | .non => true | _ => false) = decide (v = .non) := by
  rcases h with h | ⟨a, rfl, h⟩
  · cases d <;> simp only [Rep] at h
    case non => subst h; rfl
    case bl => subst h; rfl
    case int => subst h; rfl
    case str => subst h; rfl
    all_goals (obtain ⟨a, _, h⟩ := h)
    case tup => obtain ⟨rfl, _⟩ := h; rfl
    case prt => obtain ⟨rfl, _⟩ := h; rfl
    case lst => obtain ⟨rfl, _⟩ := h; rfl
    case rol => obtain ⟨rfl, _⟩ := h; rfl
    case dct => obtain ⟨rfl, _⟩ := h; rfl
    case ins => obtain ⟨_, rfl, _⟩ := h; rfl
  · cases d <;> first | rfl | exact h.elim
theorem keyOf_v {d : D} {k : Key} {v : V} (h : RepT C F H v d) (e : keyOf d = some k) : v = kV k := by
  cases d <;> simp only [keyOf] at e
  case int i => cases e; exact h.int
  case str i => cases e; exact h.str
  all_goals cases e
end
theorem toPs_any (d : D) : ∀ xs : List D, ((toPs xs).any fun z => PyData.eqv z (toP d)) = xs.any fun z => deq z d
  | [] => rfl
  | x :: xs => by simp only [toPs, List.any_cons, toPs_any d xs]; rfl
theorem op_inT (X : Cx) (hu : X.A.units + 65 < cLine) : OpR X (compareOp .In) (fun x y H Q => ∃ d ds, Dp X.K H x d ∧ Dp X.K H y (.tuple ds) ∧ SeqAt.shaped d = true ∧ SeqAt.shaped (.tuple ds) = true ∧ Q (.bl (ds.any fun z => PyData.eqv z d)) H) := by
  intro pins s σ H x y v u Q I rx ry h
  obtain ⟨d, ds, hd, he, sd, se, q⟩ := h
  obtain ⟨as, r1⟩ := Dp.reads I d x v hd rx
  obtain ⟨bs, r2⟩ := Dp.reads I (.tuple ds) y u he ry
  exact SeqAt.in_tuple_reads r2 r1 (SeqAt.canLay_of_shaped se) (SeqAt.canLay_of_shaped sd) (room_in_shaped sd hu) ⟨.bl _, H, I, rfl, q⟩
theorem op_notInT (X : Cx) (hu : X.A.units + 65 < cLine) : OpR X (compareOp .NotIn) (fun x y H Q => ∃ d ds, Dp X.K H x d ∧ Dp X.K H y (.tuple ds) ∧ SeqAt.shaped d = true ∧ SeqAt.shaped (.tuple ds) = true ∧ Q (.bl (!ds.any fun z => PyData.eqv z d)) H) := by
  intro pins s σ H x y v u Q I rx ry h
  obtain ⟨d, ds, hd, he, sd, se, q⟩ := h
  obtain ⟨as, r1⟩ := Dp.reads I d x v hd rx
  obtain ⟨bs, r2⟩ := Dp.reads I (.tuple ds) y u he ry
  exact SeqAt.notIn_tuple_reads r2 r1 (SeqAt.canLay_of_shaped se) (SeqAt.canLay_of_shaped sd) (room_in_shaped sd hu) ⟨.bl _, H, I, rfl, q⟩
theorem inv_cmp {op : COp} {a b : E} {ρ ρ' : Sl} {o : Opd} (e : ev np call (.cmp op a b) ρ = some (o, ρ')) :
    ∃ o1 ρ1 o2 d1 d2 r, ev np call a ρ = some (o1, ρ1) ∧ ev np call b ρ1 = some (o2, ρ') ∧ deref ρ' o1 = some d1 ∧ deref ρ' o2 = some d2 ∧ cmpop op d1 d2 = some r ∧ o = .imm false (.bl r) := by
  simp only [ev] at e
  obtain ⟨o1, ρ1, o2, ρ2, d1, d2, e1, e2, e3, e4, e⟩ := inv2 (f := fun d1 d2 ρ2 => (cmpop op d1 d2).bind fun r => some (Opd.imm false (.bl r), ρ2)) e
  obtain ⟨r, e5, e⟩ := bind_some' e
  cases e
  exact ⟨o1, ρ1, o2, d1, d2, r, e1, e2, e3, e4, e5, rfl⟩
/-- a comparison's rule, by what is compared -/
theorem cmp_rule {op : COp} {f : CmpOp} {C : CV} (G : Good T n N sc fb X) (hC : C = T.C) (ho : copIs op f = true) {d1 d2 : D} {r : Bool} (e : cmpop op d1 d2 = some r) :
    (∃ r2 : R2, OpR X (compareOp f) r2 ∧ ∀ (F : Fb) (H : Hp) (v u : V) (Q : VK), RepT C F H v d1 → RepT C F H u d2 → Q (.bl r) H → r2 v u H Q) ∨
    (∃ kvs k, d2 = .dct kvs ∧ keyOf d1 = some k ∧ ((f = .In ∧ r = (getK kvs k).isSome) ∨ (f = .NotIn ∧ r = !(getK kvs k).isSome))) := by
  subst hC
  have Kx : X.K = T.C.1 := G.xK
  have u65 : X.A.units + 65 < cLine := by have := G.room.un; omega
  have eqq : ∀ {r : Bool}, eqop d1 d2 = some r → ∃ r2 : R2, OpR X (compareOp .Eq) r2 ∧ ∀ (F : Fb) (H : Hp) (v u : V) (Q : VK), RepT T.C F H v d1 → RepT T.C F H u d2 → Q (.bl r) H → r2 v u H Q := fun {r} e => by
    unfold eqop at e
    split at e
    · cases e
      exact ⟨_, op_eq, fun F H v u Q rv ru q => by rw [rv.int, ru.int]; exact ⟨rfl, by simpa using q⟩⟩
    · cases e
      exact ⟨_, op_eq, fun F H v u Q rv ru q => by rw [rv.str, ru.str]; exact ⟨rfl, by simpa using q⟩⟩
    · cases e
      exact ⟨_, op_eq, fun F H v u Q rv ru q => by rw [rv.bl, ru.bl]; exact ⟨rfl, by simpa using q⟩⟩
    · split at e
      · rename_i hs
        cases e
        unfold eqOk at hs
        rw [Bool.and_eq_true] at hs
        exact ⟨_, op_eqD (by omega), fun F H v u Q rv ru q => ⟨_, _, by rw [Kx]; exact rv.dp hs.1, by rw [Kx]; exact ru.dp hs.2, hs.1, hs.2, q⟩⟩
      · cases e
  have neq : ∀ {r : Bool}, eqop d1 d2 = some r → ∃ r2 : R2, OpR X (compareOp .NotEq) r2 ∧ ∀ (F : Fb) (H : Hp) (v u : V) (Q : VK), RepT T.C F H v d1 → RepT T.C F H u d2 → Q (.bl (!r)) H → r2 v u H Q := fun {r} e => by
    unfold eqop at e
    split at e
    · cases e
      exact ⟨_, op_ne, fun F H v u Q rv ru q => by rw [rv.int, ru.int]; exact ⟨rfl, by simpa using q⟩⟩
    · cases e
      exact ⟨_, op_ne, fun F H v u Q rv ru q => by rw [rv.str, ru.str]; exact ⟨rfl, by simpa using q⟩⟩
    · cases e
      exact ⟨_, op_ne, fun F H v u Q rv ru q => by rw [rv.bl, ru.bl]; exact ⟨rfl, by simpa using q⟩⟩
    · split at e
      · rename_i hs
        cases e
        unfold eqOk at hs
        rw [Bool.and_eq_true] at hs
        exact ⟨_, op_neD (by omega), fun F H v u Q rv ru q => ⟨_, _, by rw [Kx]; exact rv.dp hs.1, by rw [Kx]; exact ru.dp hs.2, hs.1, hs.2, q⟩⟩
      · cases e
  cases op <;> cases f <;> simp only [copIs] at ho <;> try (exact absurd ho (by decide))
  case eq.Eq => exact .inl (eqq e)
  case ne.NotEq =>
    simp only [cmpop, Option.map_eq_some_iff] at e
    obtain ⟨r', e, rfl⟩ := e
    exact .inl (neq e)
  case lt.Lt =>
    cases d1 <;> cases d2 <;> simp only [cmpop] at e <;> try (cases e; done)
    cases e
    exact .inl ⟨_, op_lt, fun F H v u Q rv ru q => ⟨_, _, rv.int, ru.int, q⟩⟩
  case le.LtE =>
    cases d1 <;> cases d2 <;> simp only [cmpop] at e <;> try (cases e; done)
    cases e
    exact .inl ⟨_, op_le, fun F H v u Q rv ru q => ⟨_, _, rv.int, ru.int, q⟩⟩
  case gt.Gt =>
    cases d1 <;> cases d2 <;> simp only [cmpop] at e <;> try (cases e; done)
    cases e
    exact .inl ⟨_, op_gt, fun F H v u Q rv ru q => ⟨_, _, rv.int, ru.int, q⟩⟩
  case ge.GtE =>
    cases d1 <;> cases d2 <;> simp only [cmpop] at e <;> try (cases e; done)
    cases e
    exact .inl ⟨_, op_ge, fun F H v u Q rv ru q => ⟨_, _, rv.int, ru.int, q⟩⟩
  case isN.Is =>
    cases d2 <;> simp only [cmpop] at e <;> try (cases e; done)
    refine .inl ⟨_, op_isN, fun F H v u Q rv ru q => ⟨ru.non, ?_⟩⟩
    rw [← Rep.notNon rv]
    cases d1 <;> (cases e; exact q)
  case notN.IsNot =>
    cases d2 <;> simp only [cmpop] at e <;> try (cases e; done)
    refine .inl ⟨_, op_notN, fun F H v u Q rv ru q => ⟨ru.non, ?_⟩⟩
    rw [← Rep.notNon rv]
    cases d1 <;> (cases e; exact q)
  case isin.In =>
    cases d2 <;> simp only [cmpop] at e <;> try (cases e; done)
    case tup xs =>
      unfold inop at e
      split at e
      · rename_i hs
        cases e
        refine .inl ⟨_, op_inT X u65, fun F H v u Q rv ru q => ⟨_, toPs xs, by rw [Kx]; exact rv.dp hs.1, by rw [Kx]; exact ru.dp hs.2, hs.1, hs.2, ?_⟩⟩
        rw [toPs_any]; exact q
      · cases e
    case lst xs =>
      unfold inop at e
      split at e
      · rename_i hs
        cases e
        refine .inl ⟨_, op_inD u65, fun F H v u Q rv ru q => ⟨_, toPs xs, by rw [Kx]; exact rv.dp hs.1, by rw [Kx]; exact ru.dp hs.2, hs.1, hs.2, ?_⟩⟩
        rw [toPs_any]; exact q
      · cases e
    case dct kvs =>
      simp only [Option.map_eq_some_iff] at e
      obtain ⟨k, e, rfl⟩ := e
      exact .inr ⟨kvs, k, rfl, e, .inl ⟨rfl, rfl⟩⟩
  case notin.NotIn =>
    cases d2 <;> simp only [cmpop] at e <;> try (cases e; done)
    case tup xs =>
      simp only [Option.map_eq_some_iff] at e
      obtain ⟨r', e, rfl⟩ := e
      unfold inop at e
      split at e
      · rename_i hs
        cases e
        refine .inl ⟨_, op_notInT X u65, fun F H v u Q rv ru q => ⟨_, toPs xs, by rw [Kx]; exact rv.dp hs.1, by rw [Kx]; exact ru.dp hs.2, hs.1, hs.2, ?_⟩⟩
        rw [toPs_any]; exact q
      · cases e
    case lst xs =>
      simp only [Option.map_eq_some_iff] at e
      obtain ⟨r', e, rfl⟩ := e
      unfold inop at e
      split at e
      · rename_i hs
        cases e
        refine .inl ⟨_, op_notInD u65, fun F H v u Q rv ru q => ⟨_, toPs xs, by rw [Kx]; exact rv.dp hs.1, by rw [Kx]; exact ru.dp hs.2, hs.1, hs.2, ?_⟩⟩
        rw [toPs_any]; exact q
      · cases e
    case dct kvs =>
      simp only [Option.map_eq_some_iff] at e
      obtain ⟨k, e, rfl⟩ := e
      exact .inr ⟨kvs, k, rfl, e, .inr ⟨rfl, rfl⟩⟩
end Iv
/-! Iv, part F: comparisons, logic, items, slices, calls, built-ins, methods. -/
namespace Iv
open PySem PySem.Spec PyProof.Rows L2
variable {T : Tab} {n : Nat} {N : List Str} {sc : Scope} {fb : Str → Bool} {X : Cx} {np : Nat} {call : CallF}

theorem keyOf_vv {C : CV} {F : Fb} {H : Hp} {a : Addr} {xs : List (Key × V)} {kvs : List (Key × D)} (k : Key) (h : Rd H a (.dK xs)) (r : RepKs C F H xs kvs) : ∃ o, DGet H a (kV k) o ∧ o.isSome = (getK kvs k).isSome ∧ (∀ d, getK kvs k = some d → ∃ v, o = some v ∧ Rep C F H v d) ∧ (getK kvs k = none → o = none) := by
  refine ⟨valV xs k, .inl ⟨xs, k, h, rfl, rfl⟩, ?_⟩
  rcases r.get k with ⟨v, d, e1, e2, r⟩ | ⟨e1, e2⟩
  · rw [e1, e2]
    exact ⟨rfl, fun d' e => by cases e; exact ⟨v, rfl, r⟩, fun e => by cases e⟩
  · rw [e1, e2]
    exact ⟨rfl, fun d' e => (by cases e), fun _ => rfl⟩
theorem e_cmp {op : COp} {a b : E} (G : Good T n N sc fb X) (ha : HE T np call N sc X a) (hb : HE T np call N sc X b) : HE T np call N sc X (.cmp op a b) := by
  intro ast h
  simp only [chk] at h
  split at h
  · rename_i x f y p
    simp only [Bool.and_eq_true, Bool.not_eq_true'] at h
    obtain ⟨⟨⟨ho, hx⟩, hy⟩, hm⟩ := h
    refine ⟨fun pins s σ H Q I hq => ?_⟩
    obtain ⟨B, ρ, oo, ρ', S, e, q⟩ := hq
    obtain ⟨o1, ρ1, o2, d1, d2, r, e1, e2, e3, e4, e5, rfl⟩ := inv_cmp e
    rcases cmp_rule G rfl ho e5 with ⟨r2, hop, hr⟩ | ⟨kvs, k, rfl, hk, hf⟩
    · exact (pe_cmpR hop (ha x hx) (hb y hy) hm).run pins s σ H Q I (two S e1 e2 e3 e4 fun v u H2 st rv ru => hr _ H2 v u Q rv ru (q _ _ (.imm st (by simp only [Rep]))))
    · have hu : X.A.units + 1 < cLine := by have := G.room.un; omega
      rcases hf with ⟨rfl, rfl⟩ | ⟨rfl, rfl⟩
      · refine (pe_cmp (pc_din hu (ha x hx) (hb y hy)) hm).run pins s σ H Q I (two S e1 e2 e3 e4 fun v u H2 st rv ru => ?_)
        obtain ⟨c, xs, rfl, hd, rk⟩ := ru.dct
        obtain ⟨o, g, hs, _⟩ := keyOf_vv k (.inl hd) rk
        exact ⟨c, o, rfl, by rw [keyOf_v rv hk]; exact g, q _ _ (.imm st (by simp only [Rep]; rw [hs]))⟩
      · refine (pe_cmp (pc_dnotin hu (ha x hx) (hb y hy)) hm).run pins s σ H Q I (two S e1 e2 e3 e4 fun v u H2 st rv ru => ?_)
        obtain ⟨c, xs, rfl, hd, rk⟩ := ru.dct
        obtain ⟨o, g, hs, _⟩ := keyOf_vv k (.inl hd) rk
        exact ⟨c, o, rfl, by rw [keyOf_v rv hk]; exact g, q _ _ (.imm st (by simp only [Rep]; rw [hs]))⟩
  · cases h

/-! ### tests -/
abbrev HT (T : Tab) (np : Nat) (call : CallF) (N : List Str) (sc : Scope) (X : Cx) (e : E) : Prop := ∀ ast, chk N T.fns sc e ast = true → PT X ast (tT T.C np call e) ∧ ∀ op es pos, ast = .BoolOp op es pos → PW X ast (tT T.C np call e)
theorem blOf_inv {o : Opd} {ρ ρ' : Sl} {b : Bool} (h : blOf (o, ρ) = some (b, ρ')) : ρ' = ρ ∧ ∃ f, o = .imm f (.bl b) := by
  unfold blOf at h
  split at h
  · rename_i e
    cases e; cases h; exact ⟨rfl, _, rfl⟩
  · cases h
theorem intOf_inv {o : Opd} {ρ ρ' : Sl} {b : Int} (h : intOf (o, ρ) = some (b, ρ')) : ρ' = ρ ∧ ∃ f, o = .imm f (.int b) := by
  unfold intOf at h
  split at h
  · rename_i e
    cases e; cases h; exact ⟨rfl, _, rfl⟩
  · cases h
theorem immOf_inv {o : Opd} {ρ ρ' : Sl} {d : D} (h : immOf (o, ρ) = some (d, ρ')) : ρ' = ρ ∧ ∃ f, o = .imm f d := by
  unfold immOf at h
  split at h
  · rename_i e
    cases e; cases h; exact ⟨rfl, _, rfl⟩
  · cases h
theorem bl_inv {e : E} {ρ ρ' : Sl} {b : Bool} (h : (ev np call e ρ).bind blOf = some (b, ρ')) : ∃ f, ev np call e ρ = some (.imm f (.bl b), ρ') := by
  obtain ⟨⟨o, ρ1⟩, e1, e2⟩ := bind_some' h
  obtain ⟨rfl, f, rfl⟩ := blOf_inv e2
  exact ⟨f, e1⟩
theorem int_inv {e : E} {ρ ρ' : Sl} {b : Int} (h : (ev np call e ρ).bind intOf = some (b, ρ')) : ∃ f, ev np call e ρ = some (.imm f (.int b), ρ') := by
  obtain ⟨⟨o, ρ1⟩, e1, e2⟩ := bind_some' h
  obtain ⟨rfl, f, rfl⟩ := intOf_inv e2
  exact ⟨f, e1⟩
theorem imm_inv {e : E} {ρ ρ' : Sl} {b : D} (h : (ev np call e ρ).bind immOf = some (b, ρ')) : ∃ f, ev np call e ρ = some (.imm f b, ρ') := by
  obtain ⟨⟨o, ρ1⟩, e1, e2⟩ := bind_some' h
  obtain ⟨rfl, f, rfl⟩ := immOf_inv e2
  exact ⟨f, e1⟩
section
variable {C : CV} {B : Fb} {ρ ρ' : Sl} {σ : L2.St} {H H' : Hp} {v : V} {f : Bool}
theorem Post.bl {b : Bool} (p : Post C np B ρ ρ' σ H H' (.imm f (.bl b)) v) : v = .bl b := by
  have := p.op
  simpa only [OpOk, Rep] using this
theorem Post.int {b : Int} (p : Post C np B ρ ρ' σ H H' (.imm f (.int b)) v) : v = .int b := by
  have := p.op
  simpa only [OpOk, Rep] using this
/-- a value that nobody else has need of -/
theorem Post.weak {d : D} (p : Post C np B ρ ρ' σ H H' (.imm f d) v) : Rep C (FF B ρ' σ) H' v d := p.op
end
theorem tT_of {e : E} {ast : Expr} {t : TT} (h : PT X ast t) (hq : ∀ σ H Q, tT T.C np call e σ H Q → t σ H Q) : PT X ast (tT T.C np call e) := ⟨fun pins s σ H Q I q => h.run pins s σ H Q I (hq σ H Q q)⟩
/-- a test that is an expression whose value is a bool -/
theorem t_val {e : E} {ast : Expr} (h : PE X ast (tE T.C np call e)) (he : ∀ whole, isTrue ast X.env whole = (do let v ← whole; standAt ast.pos; holding [v] (truthy v))) : PT X ast (tT T.C np call e) :=
  tT_of (pt_val h he) fun σ H Q ⟨B, ρ, b, ρ', S, e1, q⟩ => by
    obtain ⟨f, e2⟩ := bl_inv e1
    exact tE_of S e2 fun v H1 p => ⟨b, p.bl, q H1 p.stp⟩
theorem t_no {e : E} (h : ∀ ρ, (ev np call e ρ).bind blOf = none) : HT T np call N sc X e := fun ast _ =>
  ⟨⟨fun pins s σ H Q I ⟨B, ρ, b, ρ', S, e1, q⟩ => by rw [h] at e1; cases e1⟩, fun op es pos _ => ⟨fun wh pins s σ H Q I ⟨B, ρ, b, ρ', S, e1, q⟩ => by rw [h] at e1; cases e1⟩⟩
theorem t_cmp {op : COp} {a b : E} (G : Good T n N sc fb X) (ha : HE T np call N sc X a) (hb : HE T np call N sc X b) : HT T np call N sc X (.cmp op a b) := by
  intro ast h
  have hE := e_cmp (np := np) (call := call) G ha hb ast h
  simp only [chk] at h
  split at h
  · rename_i x f y p
    refine ⟨?_, fun op es pos e => by cases e⟩
    simp only [Bool.and_eq_true, Bool.not_eq_true'] at h
    obtain ⟨⟨⟨ho, hx⟩, hy⟩, hm⟩ := h
    refine ⟨fun pins s σ H Q I hq => ?_⟩
    obtain ⟨B, ρ, bb, ρ', S, e, q⟩ := hq
    obtain ⟨ff, e⟩ := bl_inv e
    obtain ⟨o1, ρ1, o2, d1, d2, r, e1, e2, e3, e4, e5, e6⟩ := inv_cmp e
    cases e6
    rcases cmp_rule G rfl ho e5 with ⟨r2, hop, hr⟩ | ⟨kvs, k, rfl, hk, hf⟩
    · exact (pt_cmpR hop (ha x hx) (hb y hy) hm).run pins s σ H Q I (two S e1 e2 e3 e4 fun v u H2 st rv ru => hr _ H2 v u _ rv ru ⟨_, rfl, q _ st⟩)
    · have hu : X.A.units + 1 < cLine := by have := G.room.un; omega
      rcases hf with ⟨rfl, rfl⟩ | ⟨rfl, rfl⟩
      · refine (pt_cmp (pc_din hu (ha x hx) (hb y hy)) hm).run pins s σ H Q I (two S e1 e2 e3 e4 fun v u H2 st rv ru => ?_)
        obtain ⟨c, xs, rfl, hd, rk⟩ := ru.dct
        obtain ⟨o, g, hs, _⟩ := keyOf_vv k (.inl hd) rk
        exact ⟨c, o, rfl, by rw [keyOf_v rv hk]; exact g, _, rfl, by rw [hs]; exact q _ st⟩
      · refine (pt_cmp (pc_dnotin hu (ha x hx) (hb y hy)) hm).run pins s σ H Q I (two S e1 e2 e3 e4 fun v u H2 st rv ru => ?_)
        obtain ⟨c, xs, rfl, hd, rk⟩ := ru.dct
        obtain ⟨o, g, hs, _⟩ := keyOf_vv k (.inl hd) rk
        exact ⟨c, o, rfl, by rw [keyOf_v rv hk]; exact g, _, rfl, by rw [hs]; exact q _ st⟩
  · cases h

/-! ### and, or, not, if -/
theorem inv_and {a b : E} {ρ ρ' : Sl} {o : Opd} (h : ev np call (.and a b) ρ = some (o, ρ')) : ∃ f c ρ1, ev np call a ρ = some (.imm f (.bl c), ρ1) ∧
    ((c = false ∧ o = .imm false (.bl false) ∧ ρ' = ρ1) ∨ (c = true ∧ ∃ g d, ev np call b ρ1 = some (.imm g (.bl d), ρ') ∧ o = .imm false (.bl d))) := by
  simp only [ev] at h
  obtain ⟨⟨c, ρ1⟩, e1, h⟩ := bind_some' h
  obtain ⟨f, e1⟩ := bl_inv e1
  refine ⟨f, c, ρ1, e1, ?_⟩
  cases c with
  | false => simp at h; exact .inl ⟨rfl, h.1.symm, h.2.symm⟩
  | true =>
    simp only [if_true] at h
    obtain ⟨⟨d, ρ2⟩, e2, h⟩ := bind_some' h
    obtain ⟨g, e2⟩ := bl_inv e2
    cases h
    exact .inr ⟨rfl, g, d, e2, rfl⟩
theorem inv_or {a b : E} {ρ ρ' : Sl} {o : Opd} (h : ev np call (.or a b) ρ = some (o, ρ')) : ∃ f c ρ1, ev np call a ρ = some (.imm f (.bl c), ρ1) ∧
    ((c = true ∧ o = .imm false (.bl true) ∧ ρ' = ρ1) ∨ (c = false ∧ ∃ g d, ev np call b ρ1 = some (.imm g (.bl d), ρ') ∧ o = .imm false (.bl d))) := by
  simp only [ev] at h
  obtain ⟨⟨c, ρ1⟩, e1, h⟩ := bind_some' h
  obtain ⟨f, e1⟩ := bl_inv e1
  refine ⟨f, c, ρ1, e1, ?_⟩
  cases c with
  | true => simp at h; exact .inl ⟨rfl, h.1.symm, h.2.symm⟩
  | false =>
    simp only [Bool.false_eq_true, if_false] at h
    obtain ⟨⟨d, ρ2⟩, e2, h⟩ := bind_some' h
    obtain ⟨g, e2⟩ := bl_inv e2
    cases h
    exact .inr ⟨rfl, g, d, e2, rfl⟩
section
variable {C : CV} {B : Fb} {ρ ρ1 ρ' : Sl} {σ : L2.St} {H H1 H' : Hp} {v : V} {o : Opd}
theorem Post.after (st : Stp C np B ρ ρ1 σ H H1) (p : Post C np B ρ1 ρ' σ H1 H' o v) : Post C np B ρ ρ' σ H H' o v := by
  refine ⟨st.trans p.stp, p.op, fun d e => ?_⟩
  obtain ⟨q, e1, e2, s2, ob⟩ := p.fr d e
  refine ⟨q, e1, ?_, s2, ob⟩
  cases e3 : H q with
  | none => rfl
  | some u => obtain ⟨u', e4⟩ := st.dom q u e3; rw [e2] at e4; cases e4
end
theorem e_and {a b : E} (ha : HE T np call N sc X a) (hb : HE T np call N sc X b) : HE T np call N sc X (.and a b) := by
  intro ast h
  simp only [chk] at h
  split at h
  · rename_i x y r p
    simp only [Bool.and_eq_true] at h
    refine ⟨fun pins s σ H Q I hq => ?_⟩
    obtain ⟨B, ρ, o, ρ', S, e, q⟩ := hq
    obtain ⟨f, c, ρ1, e1, hc⟩ := inv_and e
    have key : PE X (.BoolOp .And (y :: r) p) (tE T.C np call b) := by
      cases r with
      | nil => exact pe_one (hb y h.2)
      | cons z t => exact hb _ h.2
    refine (pe_and (ha x h.1) key).run pins s σ H Q I (tE_of S e1 fun v H1 p1 => ⟨c, p1.bl, ?_⟩)
    rcases hc with ⟨rfl, rfl, rfl⟩ | ⟨rfl, g, d, e2, rfl⟩
    · rw [if_neg (by decide)]
      exact q _ _ (.imm p1.stp (by simp only [Rep]))
    · rw [if_pos rfl]
      exact tE_of p1.stp.sim e2 fun u H2 p2 => q _ _ (.imm (p1.stp.trans p2.stp) p2.weak)
  · cases h
theorem e_or {a b : E} (ha : HE T np call N sc X a) (hb : HE T np call N sc X b) : HE T np call N sc X (.or a b) := by
  intro ast h
  simp only [chk] at h
  split at h
  · rename_i x y r p
    simp only [Bool.and_eq_true] at h
    refine ⟨fun pins s σ H Q I hq => ?_⟩
    obtain ⟨B, ρ, o, ρ', S, e, q⟩ := hq
    obtain ⟨f, c, ρ1, e1, hc⟩ := inv_or e
    have key : PE X (.BoolOp .Or (y :: r) p) (tE T.C np call b) := by
      cases r with
      | nil => exact pe_one (hb y h.2)
      | cons z t => exact hb _ h.2
    refine (pe_or (ha x h.1) key).run pins s σ H Q I (tE_of S e1 fun v H1 p1 => ⟨c, p1.bl, ?_⟩)
    rcases hc with ⟨rfl, rfl, rfl⟩ | ⟨rfl, g, d, e2, rfl⟩
    · rw [if_pos rfl]
      exact q _ _ (.imm p1.stp (by simp only [Rep]))
    · rw [if_neg (by decide)]
      exact tE_of p1.stp.sim e2 fun u H2 p2 => q _ _ (.imm (p1.stp.trans p2.stp) p2.weak)
  · cases h
theorem t_and {a b : E} (ha : HT T np call N sc X a) (hb : HT T np call N sc X b) : HT T np call N sc X (.and a b) := by
  intro ast h
  simp only [chk] at h
  split at h
  · rename_i x y r p
    simp only [Bool.and_eq_true] at h
    have key : PW X (.BoolOp .And (y :: r) p) (tT T.C np call b) := by
      cases r with
      | nil => exact pw_and1 (hb y h.2).1
      | cons z t => exact (hb _ h.2).2 _ _ _ rfl
    have w : PW X (.BoolOp .And (x :: y :: r) p) (tT T.C np call (.and a b)) := ⟨fun wh pins s σ H Q I hq => by
      obtain ⟨B, ρ, bb, ρ', S, e, q⟩ := hq
      obtain ⟨ff, e⟩ := bl_inv e
      obtain ⟨f, c, ρ1, e1, hc⟩ := inv_and e
      refine (pw_and (ha x h.1).1 key).run wh pins s σ H Q I ⟨B, ρ, c, ρ1, S, by rw [e1]; rfl, fun H1 st => ?_⟩
      rcases hc with ⟨rfl, e3, rfl⟩ | ⟨rfl, g, d, e2, e3⟩
      · cases e3
        rw [if_neg (by decide)]
        exact q _ st
      · cases e3
        rw [if_pos rfl]
        exact ⟨B, ρ1, _, ρ', st.sim, by rw [e2]; rfl, fun H2 st2 => q _ (st.trans st2)⟩⟩
    exact ⟨w.pt, fun op es pos e => w⟩
  · cases h
theorem t_or {a b : E} (ha : HT T np call N sc X a) (hb : HT T np call N sc X b) : HT T np call N sc X (.or a b) := by
  intro ast h
  simp only [chk] at h
  split at h
  · rename_i x y r p
    simp only [Bool.and_eq_true] at h
    have key : PW X (.BoolOp .Or (y :: r) p) (tT T.C np call b) := by
      cases r with
      | nil => exact pw_or1 (hb y h.2).1
      | cons z t => exact (hb _ h.2).2 _ _ _ rfl
    have w : PW X (.BoolOp .Or (x :: y :: r) p) (tT T.C np call (.or a b)) := ⟨fun wh pins s σ H Q I hq => by
      obtain ⟨B, ρ, bb, ρ', S, e, q⟩ := hq
      obtain ⟨ff, e⟩ := bl_inv e
      obtain ⟨f, c, ρ1, e1, hc⟩ := inv_or e
      refine (pw_or (ha x h.1).1 key).run wh pins s σ H Q I ⟨B, ρ, c, ρ1, S, by rw [e1]; rfl, fun H1 st => ?_⟩
      rcases hc with ⟨rfl, e3, rfl⟩ | ⟨rfl, g, d, e2, e3⟩
      · cases e3
        rw [if_pos rfl]
        exact q _ st
      · cases e3
        rw [if_neg (by decide)]
        exact ⟨B, ρ1, _, ρ', st.sim, by rw [e2]; rfl, fun H2 st2 => q _ (st.trans st2)⟩⟩
    exact ⟨w.pt, fun op es pos e => w⟩
  · cases h
theorem inv_not {a : E} {ρ ρ' : Sl} {o : Opd} (h : ev np call (.not a) ρ = some (o, ρ')) : ∃ f c, ev np call a ρ = some (.imm f (.bl c), ρ') ∧ o = .imm false (.bl (!c)) := by
  simp only [ev] at h
  obtain ⟨⟨c, ρ1⟩, e1, h⟩ := bind_some' h
  obtain ⟨f, e1⟩ := bl_inv e1
  cases h
  exact ⟨f, c, e1, rfl⟩
theorem e_not {a : E} (ha : HE T np call N sc X a) : HE T np call N sc X (.not a) := by
  intro ast h
  simp only [chk] at h
  split at h
  · rename_i x p
    refine ⟨fun pins s σ H Q I hq => ?_⟩
    obtain ⟨B, ρ, o, ρ', S, e, q⟩ := hq
    obtain ⟨f, c, e1, rfl⟩ := inv_not e
    exact (pe_not (ha x h)).run pins s σ H Q I (tE_of S e1 fun v H1 p1 => ⟨c, p1.bl, q _ _ (.imm p1.stp (by simp only [Rep]))⟩)
  · cases h
theorem t_not {a : E} (ha : HT T np call N sc X a) : HT T np call N sc X (.not a) := by
  intro ast h
  simp only [chk] at h
  split at h
  · rename_i x p
    refine ⟨⟨fun pins s σ H Q I hq => ?_⟩, fun op es pos e => by cases e⟩
    obtain ⟨B, ρ, bb, ρ', S, e, q⟩ := hq
    obtain ⟨ff, e⟩ := bl_inv e
    obtain ⟨f, c, e1, e2⟩ := inv_not e
    cases e2
    exact (pt_not (ha x h).1).run pins s σ H Q I ⟨B, ρ, c, ρ', S, by rw [e1]; rfl, fun H1 st => q _ st⟩
  · cases h
theorem e_ite {c a b : E} (hc : HT T np call N sc X c) (ha : HE T np call N sc X a) (hb : HE T np call N sc X b) : HE T np call N sc X (.ite c a b) := by
  intro ast h
  simp only [chk] at h
  split at h
  · rename_i t x y p
    simp only [Bool.and_eq_true] at h
    refine ⟨fun pins s σ H Q I hq => ?_⟩
    obtain ⟨B, ρ, o, ρ', S, e, q⟩ := hq
    simp only [ev] at e
    obtain ⟨⟨z, ρ1⟩, e1, e⟩ := bind_some' e
    refine (pe_ifExp (hc t h.1.1).1 (ha x h.1.2) (hb y h.2)).run pins s σ H Q I ⟨B, ρ, z, ρ1, S, e1, fun H1 st => ?_⟩
    cases z with
    | true =>
      simp only [if_true] at e ⊢
      obtain ⟨⟨d, ρ2⟩, e2, e⟩ := bind_some' e
      obtain ⟨g, e2⟩ := imm_inv e2
      cases e
      exact tE_of st.sim e2 fun u H2 p2 => q _ _ (.imm (st.trans p2.stp) p2.weak)
    | false =>
      simp only [Bool.false_eq_true, if_false] at e ⊢
      obtain ⟨⟨d, ρ2⟩, e2, e⟩ := bind_some' e
      obtain ⟨g, e2⟩ := imm_inv e2
      cases e
      exact tE_of st.sim e2 fun u H2 p2 => q _ _ (.imm (st.trans p2.stp) p2.weak)
  · cases h
theorem e_neg {a : E} (ha : HE T np call N sc X a) : HE T np call N sc X (.neg a) := by
  intro ast h
  simp only [chk] at h
  split at h
  · rename_i x p
    refine ⟨fun pins s σ H Q I hq => ?_⟩
    obtain ⟨B, ρ, o, ρ', S, e, q⟩ := hq
    simp only [ev] at e
    obtain ⟨⟨i, ρ1⟩, e1, e⟩ := bind_some' e
    obtain ⟨f, e1⟩ := int_inv e1
    cases e
    exact (pe_un un_neg (ha x h)).run pins s σ H Q I (tE_of S e1 fun v H1 p1 => ⟨i, p1.int, q _ _ (.imm p1.stp (by simp only [Rep]))⟩)
  · cases h

/-! ### items, slices -/
theorem inv_idx {a b : E} {ρ ρ' : Sl} {o : Opd} (e : ev np call (.idx a b) ρ = some (o, ρ')) :
    ∃ o1 ρ1 o2 d1 d2 r, ev np call a ρ = some (o1, ρ1) ∧ ev np call b ρ1 = some (o2, ρ') ∧ deref ρ' o1 = some d1 ∧ deref ρ' o2 = some d2 ∧ idxop d1 d2 = some r ∧ o = .imm false r := by
  simp only [ev] at e
  obtain ⟨o1, ρ1, o2, ρ2, d1, d2, e1, e2, e3, e4, e⟩ := inv2 (f := fun d1 d2 ρ2 => (idxop d1 d2).bind fun r => some (Opd.imm false r, ρ2)) e
  obtain ⟨r, e5, e⟩ := bind_some' e
  cases e
  exact ⟨o1, ρ1, o2, d1, d2, r, e1, e2, e3, e4, e5, rfl⟩
theorem e_idx {a b : E} (G : Good T n N sc fb X) (ha : HE T np call N sc X a) (hb : HE T np call N sc X b) : HE T np call N sc X (.idx a b) := by
  intro ast h
  simp only [chk] at h
  split at h
  · rename_i x y p
    simp only [Bool.and_eq_true] at h
    have Kx : X.K = T.C.1 := G.xK
    have hu : X.A.units + 1 < cLine := by have := G.room.un; omega
    refine ⟨fun pins s σ H Q I hq => ?_⟩
    obtain ⟨B, ρ, o, ρ', S, e, q⟩ := hq
    obtain ⟨o1, ρ1, o2, d1, d2, r, e1, e2, e3, e4, e5, rfl⟩ := inv_idx e
    cases d1 <;> simp only [idxop] at e5 <;> try (cases e5; done)
    case tup xs =>
      cases d2 <;> try (cases e5; done)
      rename_i i
      refine (pe_ix ix_tup (ha x h.1.1) (hb y h.1.2) (plainIx h.2)).run pins s σ H Q I (two S e1 e2 e3 e4 fun v u H2 st rv ru => ?_)
      obtain ⟨c, us, rfl, q1, r1⟩ := rv.tup
      obtain ⟨w, e6, r2⟩ := atI_rep r1 e5
      exact ⟨c, us, i, w, rfl, ru.int, by rw [Kx]; exact q1, e6, q _ _ (.imm st r2)⟩
    case lst xs =>
      cases d2 <;> try (cases e5; done)
      rename_i i
      refine (pe_ix ix_list (ha x h.1.1) (hb y h.1.2) (plainIx h.2)).run pins s σ H Q I (two S e1 e2 e3 e4 fun v u H2 st rv ru => ?_)
      obtain ⟨c, us, rfl, q1, r1⟩ := rv.lst
      obtain ⟨w, e6, r2⟩ := atI_rep r1 e5
      exact ⟨c, us, i, w, rfl, ru.int, .of q1, e6, q _ _ (.imm st r2)⟩
    case rol xs =>
      cases d2 <;> try (cases e5; done)
      rename_i i
      refine (pe_ix ix_list (ha x h.1.1) (hb y h.1.2) (plainIx h.2)).run pins s σ H Q I (two S e1 e2 e3 e4 fun v u H2 st rv ru => ?_)
      obtain ⟨c, us, rfl, q1, r1⟩ := rv.rol
      obtain ⟨w, e6, r2⟩ := atI_rep r1 e5
      exact ⟨c, us, i, w, rfl, ru.int, by rw [Kx]; exact q1, e6, q _ _ (.imm st r2)⟩
    case dct kvs =>
      obtain ⟨k, e6, e5⟩ := bind_some' e5
      refine (pe_dget hu (ha x h.1.1) (hb y h.1.2) (noSl h.2)).run pins s σ H Q I (two S e1 e2 e3 e4 fun v u H2 st rv ru => ?_)
      obtain ⟨c, us, rfl, q1, r1⟩ := rv.dct
      obtain ⟨o, g, _, hs, _⟩ := keyOf_vv k (.inl q1) r1
      obtain ⟨w, rfl, r2⟩ := hs r e5
      exact ⟨c, w, rfl, by rw [keyOf_v ru e6]; exact g, q _ _ (.imm st r2)⟩
  · cases h
theorem slc_rule {d : D} {lo hi : Option Int} {r : Bool × D} {C : CV} (G : Good T n N sc fb X) (hC : C = T.C) (e : slcop d lo hi = some r) : ∃ r3 : V → Option Int → Option Int → Hp → VK → Prop, SlR X r3 ∧
    ∀ (B : Fb) (ρ ρ' : Sl) (σ : L2.St) (H H2 : Hp) (v : V) (Q : VK), Stp C np B ρ ρ' σ H H2 → RepT C (FF B ρ' σ) H2 v d → (∀ w H', Post C np B ρ ρ' σ H H' (.imm r.1 r.2) w → Q w H') → r3 v lo hi H2 Q := by
  subst hC
  have Kx : X.K = T.C.1 := G.xK
  cases d <;> simp only [slcop] at e <;> try (cases e; done)
  case tup xs =>
    cases e
    refine ⟨_, sl_tupF, fun B ρ ρ' σ H H2 v Q st rv q => ?_⟩
    obtain ⟨c, us, rfl, q1, r1⟩ := rv.tup
    refine ⟨c, us, rfl, by rw [Kx]; exact q1, fun w => ?_, fun _ p H2 hp hn => q _ _ (.tup st hp (r1.cut lo hi) hn)⟩
    have e9 : cutD xs lo hi = xs := by
      unfold cutD
      rw [← r1.len, w.1, w.2]
      simp [r1.len]
    rw [e9] at q
    exact q _ _ (.imm st (rv.flat fun a z => z.elim))
  case lst xs =>
    cases e
    refine ⟨_, sl_list, fun B ρ ρ' σ H H2 v Q st rv q => ?_⟩
    obtain ⟨c, us, rfl, q1, r1⟩ := rv.lst
    exact ⟨c, us, rfl, .of q1, fun p hp => q _ _ (.lst st hp (r1.cut lo hi))⟩
theorem e_slf {a lo : E} (G : Good T n N sc fb X) (ha : HE T np call N sc X a) (hl : HE T np call N sc X lo) : HE T np call N sc X (.slf a lo) := by
  intro ast h
  simp only [chk] at h
  split at h
  · rename_i x l p2 p
    simp only [Bool.and_eq_true] at h
    refine ⟨fun pins s σ H Q I hq => ?_⟩
    obtain ⟨B, ρ, o, ρ', S, e, q⟩ := hq
    simp only [ev] at e
    obtain ⟨⟨o1, ρ1⟩, e1, e⟩ := bind_some' e
    obtain ⟨⟨i, ρ2⟩, e2, e⟩ := bind_some' e
    obtain ⟨d1, e3, e⟩ := bind_some' e
    obtain ⟨r, e4, e⟩ := bind_some' e
    cases e
    obtain ⟨f, e2⟩ := int_inv e2
    obtain ⟨r3, hs, hr⟩ := slc_rule (np := np) G rfl e4
    refine (pe_slice hs (ha x h.1) (po_some (hl l h.2)) po_none).run pins s σ H Q I (tE_of S e1 fun v H1 p1 => tE_of p1.stp.sim e2 fun u H2 p2 => ⟨i, p2.int, ?_⟩)
    exact hr B ρ _ σ H H2 v Q (p1.stp.trans p2.stp) ((p1.op.next p2.stp).read p2.stp.sim e3) q
  · cases h
theorem e_slt {a hi : E} (G : Good T n N sc fb X) (ha : HE T np call N sc X a) (hl : HE T np call N sc X hi) : HE T np call N sc X (.slt a hi) := by
  intro ast h
  simp only [chk] at h
  split at h
  · rename_i x l p2 p
    simp only [Bool.and_eq_true] at h
    refine ⟨fun pins s σ H Q I hq => ?_⟩
    obtain ⟨B, ρ, o, ρ', S, e, q⟩ := hq
    simp only [ev] at e
    obtain ⟨⟨o1, ρ1⟩, e1, e⟩ := bind_some' e
    obtain ⟨⟨i, ρ2⟩, e2, e⟩ := bind_some' e
    obtain ⟨d1, e3, e⟩ := bind_some' e
    obtain ⟨r, e4, e⟩ := bind_some' e
    cases e
    obtain ⟨f, e2⟩ := int_inv e2
    obtain ⟨r3, hs, hr⟩ := slc_rule (np := np) G rfl e4
    refine (pe_slice hs (ha x h.1) po_none (po_some (hl l h.2))).run pins s σ H Q I (tE_of S e1 fun v H1 p1 => tE_of p1.stp.sim e2 fun u H2 p2 => ⟨i, p2.int, ?_⟩)
    exact hr B ρ _ σ H H2 v Q (p1.stp.trans p2.stp) ((p1.op.next p2.stp).read p2.stp.sim e3) q
  · cases h
theorem e_slc {a lo hi : E} (G : Good T n N sc fb X) (ha : HE T np call N sc X a) (hl : HE T np call N sc X lo) (hh : HE T np call N sc X hi) : HE T np call N sc X (.slc a lo hi) := by
  intro ast h
  simp only [chk] at h
  split at h
  · rename_i x l hx p2 p
    simp only [Bool.and_eq_true] at h
    refine ⟨fun pins s σ H Q I hq => ?_⟩
    obtain ⟨B, ρ, o, ρ', S, e, q⟩ := hq
    simp only [ev] at e
    obtain ⟨⟨o1, ρ1⟩, e1, e⟩ := bind_some' e
    obtain ⟨⟨i, ρ2⟩, e2, e⟩ := bind_some' e
    obtain ⟨⟨j, ρ3⟩, e2', e⟩ := bind_some' e
    obtain ⟨d1, e3, e⟩ := bind_some' e
    obtain ⟨r, e4, e⟩ := bind_some' e
    cases e
    obtain ⟨f, e2⟩ := int_inv e2
    obtain ⟨f', e2'⟩ := int_inv e2'
    obtain ⟨r3, hs, hr⟩ := slc_rule (np := np) G rfl e4
    refine (pe_slice hs (ha x h.1.1) (po_some (hl l h.1.2)) (po_some (hh hx h.2))).run pins s σ H Q I (tE_of S e1 fun v H1 p1 => tE_of p1.stp.sim e2 fun u H2 p2 => ⟨i, p2.int, tE_of p2.stp.sim e2' fun w H3 p3 => ⟨j, p3.int, ?_⟩⟩)
    have st := p2.stp.trans p3.stp
    exact hr B ρ _ σ H H3 v Q (p1.stp.trans st) ((p1.op.next st).read st.sim e3) q
  · cases h
end Iv
/-! Iv, part G: calls of defs. -/
namespace Iv
open PySem PySem.Spec PyProof.Rows L2
variable {T : Tab} {n : Nat} {N : List Str} {sc : Scope} {fb : Str → Bool} {X : Cx} {np : Nat} {call : CallF}

theorem run_len {fns : List Fn} {n f : Nat} {args : Sl} {r : Bool × D × Sl} (h : run fns n f args = some r) : ∃ F, fns[f]? = some F ∧ args.length = F.np := by
  cases n with
  | zero => simp [run] at h
  | succ n =>
    simp only [run] at h
    split at h
    · cases h
    · rename_i F e
      split at h
      · exact ⟨F, e, by assumption⟩
      · cases h
theorem toArgs_inv {ρ : Sl} : ∀ {os : List Opd} {args : Sl}, toArgs ρ os = some args → args.length = os.length ∧
    (∀ (i : Nat) (f : Bool) (d : D), os[i]? = some (.imm f d) → args[i]? = some (Slot.val d)) ∧ (∀ (i j : Nat), os[i]? = some (.slot j) → ∃ d, ρ[j]? = some (Slot.own d) ∧ args[i]? = some (Slot.own d))
  | [], args, h => by
    simp [toArgs] at h; subst h
    exact ⟨rfl, fun i f d e => by simp at e, fun i j e => by simp at e⟩
  | .imm f d :: r, args, h => by
    simp only [toArgs, Option.map_eq_some_iff] at h
    obtain ⟨as, e, rfl⟩ := h
    obtain ⟨h1, h2, h3⟩ := toArgs_inv e
    refine ⟨by simp [h1], fun i f' d' e' => ?_, fun i j e' => ?_⟩
    · cases i with
      | zero => simp at e'; obtain ⟨_, rfl⟩ := e'; rfl
      | succ i => simpa using h2 i f' d' (by simpa using e')
    · cases i with
      | zero => simp at e'
      | succ i => simpa using h3 i j (by simpa using e')
  | .slot k :: r, args, h => by
    simp only [toArgs] at h
    split at h
    · rename_i d e0
      simp only [Option.map_eq_some_iff] at h
      obtain ⟨as, e, rfl⟩ := h
      obtain ⟨h1, h2, h3⟩ := toArgs_inv e
      refine ⟨by simp [h1], fun i f' d' e' => ?_, fun i j e' => ?_⟩
      · cases i with
        | zero => simp at e'
        | succ i => simpa using h2 i f' d' (by simpa using e')
      · cases i with
        | zero => simp at e'; subst e'; exact ⟨d, e0, rfl⟩
        | succ i => simpa using h3 i j (by simpa using e')
    · cases h
theorem slotsOf_mem : ∀ {os : List Opd} {j : Nat}, j ∈ slotsOf os ↔ ∃ i : Nat, os[i]? = some (Opd.slot j)
  | [], j => by simp [slotsOf]
  | .imm f d :: r, j => by
    simp only [slotsOf]
    rw [slotsOf_mem]
    exact ⟨fun ⟨i, e⟩ => ⟨i + 1, by simpa using e⟩, fun ⟨i, e⟩ => by
      cases i with
      | zero => simp at e
      | succ i => exact ⟨i, by simpa using e⟩⟩
  | .slot k :: r, j => by
    simp only [slotsOf, List.mem_cons]
    rw [slotsOf_mem]
    constructor
    · rintro (rfl | ⟨i, e⟩)
      · exact ⟨0, rfl⟩
      · exact ⟨i + 1, by simpa using e⟩
    · rintro ⟨i, e⟩
      cases i with
      | zero => simp at e; exact .inl e.symm
      | succ i => exact .inr ⟨i, by simpa using e⟩
theorem nodup_slot : ∀ {os : List Opd}, nodupN (slotsOf os) = true → ∀ {i j k : Nat}, os[i]? = some (Opd.slot k) → os[j]? = some (Opd.slot k) → i = j
  | [], _, _, _, _, e, _ => by simp at e
  | .imm f d :: r, h, i, j, k, e1, e2 => by
    simp only [slotsOf] at h
    cases i with
    | zero => simp at e1
    | succ i =>
      cases j with
      | zero => simp at e2
      | succ j => rw [nodup_slot h (i := i) (j := j) (by simpa using e1) (by simpa using e2)]
  | .slot m :: r, h, i, j, k, e1, e2 => by
    simp only [slotsOf, nodupN, Bool.and_eq_true, Bool.not_eq_true', List.contains_eq_mem, decide_eq_false_iff_not] at h
    cases i with
    | zero =>
      cases j with
      | zero => rfl
      | succ j =>
        simp at e1
        subst e1
        exact absurd (slotsOf_mem.mpr ⟨j, by simpa using e2⟩) h.1
    | succ i =>
      cases j with
      | zero =>
        simp at e2
        subst e2
        exact absurd (slotsOf_mem.mpr ⟨i, by simpa using e1⟩) h.1
      | succ j => rw [nodup_slot h.2 (i := i) (j := j) (by simpa using e1) (by simpa using e2)]
theorem setOuts_len {outs : Sl} : ∀ {os : List Opd} {ρ : Sl} {i : Nat}, (setOuts ρ outs os i).length = ρ.length
  | [], _, _ => rfl
  | .imm _ _ :: r, ρ, i => by simp only [setOuts]; exact setOuts_len
  | .slot j :: r, ρ, i => by simp only [setOuts]; rw [setOuts_len, List.length_set]
theorem setOuts_out {outs : Sl} : ∀ {os : List Opd} {ρ : Sl} {i j : Nat}, j ∉ slotsOf os → (setOuts ρ outs os i)[j]? = ρ[j]?
  | [], _, _, _, _ => rfl
  | .imm _ _ :: r, ρ, i, j, h => by simp only [setOuts]; exact setOuts_out h
  | .slot k :: r, ρ, i, j, h => by
    simp only [slotsOf, List.mem_cons, not_or] at h
    simp only [setOuts]
    rw [setOuts_out h.2, List.getElem?_set_ne (Ne.symm h.1)]
theorem setOuts_in {outs : Sl} : ∀ {os : List Opd} {ρ : Sl} {i m j : Nat}, nodupN (slotsOf os) = true → os[m]? = some (Opd.slot j) → j < ρ.length → (setOuts ρ outs os i)[j]? = some (outs[i + m]?.getD .none)
  | [], _, _, _, _, _, e, _ => by simp at e
  | .imm _ _ :: r, ρ, i, m, j, h, e, hj => by
    cases m with
    | zero => simp at e
    | succ m =>
      simp only [setOuts]
      rw [setOuts_in (os := r) h (m := m) (by simpa using e) hj]
      congr 3; omega
  | .slot k :: r, ρ, i, m, j, h, e, hj => by
    have h' := h
    simp only [slotsOf, nodupN, Bool.and_eq_true, Bool.not_eq_true', List.contains_eq_mem, decide_eq_false_iff_not] at h'
    simp only [setOuts]
    cases m with
    | zero =>
      simp at e
      subst e
      rw [setOuts_out h'.1, List.getElem?_set_self hj]
      rfl
    | succ m =>
      rw [setOuts_in h'.2 (m := m) (by simpa using e) (by rw [List.length_set]; exact hj)]
      congr 3; omega

section
variable {C : CV} {B : Fb} {ρ0 ρ ρ' : Sl} {σ : L2.St} {H0 H H' : Hp} {os : List Opd} {vs : List V} {args : Sl}
/-- the slots that are lent to a call stand apart -/
structure Lent (C : CV) (np : Nat) (B : Fb) (ρ : Sl) (σ : L2.St) (H : Hp) (os : List Opd) (vs : List V) (args : Sl) : Prop where
  nd : nodupN (slotsOf os) = true
  ta : toArgs ρ os = some args
  sim : Sim C B ρ σ H
  len : vs.length = os.length
  op : ∀ (i : Nat) (o : Opd) (v : V), os[i]? = some o → vs[i]? = some v → OpOk C B ρ σ H o v
def BL (B : Fb) (ρ : Sl) (σ : L2.St) (args : Sl) (vs : List V) : Fb := fun a => FF B ρ σ a ∧ ¬ Own args (vs.map some) a
theorem Lent.own (L : Lent C np B ρ σ H os vs args) {i : Nat} {d : D} (e : args[i]? = some (Slot.own d)) : ∃ j a, os[i]? = some (Opd.slot j) ∧ ρ[j]? = some (Slot.own d) ∧ vs[i]? = some (V.ref a) ∧ σ[j]? = some (some (V.ref a)) ∧ ¬ B a ∧ Obj C (FF B ρ σ) H a d := by
  obtain ⟨h1, h2, h3⟩ := toArgs_inv L.ta
  have hi : i < os.length := by
    rw [← h1]
    rcases Nat.lt_or_ge i args.length with h | h
    · exact h
    · rw [List.getElem?_eq_none h] at e; cases e
  have hv : i < vs.length := by rw [L.len]; exact hi
  cases eo : os[i]'hi with
  | imm f d' =>
    have q := h2 i f d' (by rw [List.getElem?_eq_getElem hi, eo])
    rw [e] at q; cases q
  | slot j =>
    have eo' : os[i]? = some (Opd.slot j) := by rw [List.getElem?_eq_getElem hi, eo]
    obtain ⟨d', e1, e2⟩ := h3 i j eo'
    rw [e] at e2; cases e2
    obtain ⟨a, e3, nb, ob⟩ := L.sim.own j d e1
    have e4 := L.op i _ _ eo' (List.getElem?_eq_getElem hv)
    have e4 : σ[j]? = some (some vs[i]) := e4
    rw [e3] at e4
    have e5 : vs[i]'hv = V.ref a := by injection e4 with e4; injection e4 with e4; exact e4.symm
    exact ⟨j, a, eo', e1, by rw [List.getElem?_eq_getElem hv, e5], e3, nb, ob⟩
theorem map_some_get {vs : List V} {i : Nat} {v : V} : (vs.map some)[i]? = some (some v) ↔ vs[i]? = some v := by
  rw [List.getElem?_map]
  cases vs[i]? <;> simp
theorem Lent.sub (L : Lent C np B ρ σ H os vs args) {a : Addr} (h : Own args (vs.map some) a) : Own ρ σ a := by
  obtain ⟨i, d, e1, e2⟩ := h
  obtain ⟨j, b, e3, e4, e5, e6, _, _⟩ := L.own e1
  rw [map_some_get, e5] at e2
  cases e2
  exact ⟨j, d, e4, e6⟩
theorem Lent.ff (L : Lent C np B ρ σ H os vs args) (a : Addr) : FF (BL B ρ σ args vs) args (vs.map some) a ↔ FF B ρ σ a := by
  constructor
  · rintro (⟨h, _⟩ | h)
    · exact h
    · exact .inr (L.sub h)
  · intro h
    by_cases ho : Own args (vs.map some) a
    · exact .inr ho
    · exact .inl ⟨h, ho⟩
theorem mv_same {F F' : Fb} (h : ∀ a, F' a → F a) : Mv F F' H H := fun a o n e => ⟨e, fun z => n (h a z)⟩
theorem Lent.asim (L : Lent C np B ρ σ H os vs args) : Sim C (BL B ρ σ args vs) args (vs.map some) H := by
  obtain ⟨h1, h2, h3⟩ := toArgs_inv L.ta
  refine ⟨by rw [List.length_map, L.len, h1], fun a h => FF.dom L.sim h.1, fun i d e => ?_, fun i d e => ?_, fun i j d e a e1 e2 e3 e4 => ?_⟩
  · have hi : i < os.length := by
      rw [← h1]
      rcases Nat.lt_or_ge i args.length with h | h
      · exact h
      · rw [List.getElem?_eq_none h] at e; cases e
    have hv : i < vs.length := by rw [L.len]; exact hi
    refine ⟨vs[i], map_some_get.mpr (List.getElem?_eq_getElem hv), ?_⟩
    cases eo : os[i]'hi with
    | slot j =>
      obtain ⟨d', _, e2⟩ := h3 i j (by rw [List.getElem?_eq_getElem hi, eo])
      rw [e] at e2; cases e2
    | imm f d' =>
      have eo' : os[i]? = some (Opd.imm f d') := by rw [List.getElem?_eq_getElem hi, eo]
      have q := h2 i f d' eo'
      rw [e] at q; cases q
      exact Rep.mv (mv_same fun a => (L.ff a).mp) d _ (L.op i _ _ eo' (List.getElem?_eq_getElem hv))
  · obtain ⟨j, a, e3, e4, e5, e6, nb, ob⟩ := L.own e
    refine ⟨a, map_some_get.mpr e5, fun z => z.2 ⟨i, d, e, map_some_get.mpr e5⟩, ob.mv (mv_same fun a => (L.ff a).mp) fun o eo => eo⟩
  · obtain ⟨i', a1, p1, p2, p3, p4, _, _⟩ := L.own e1
    obtain ⟨j', a2, q1, q2, q3, q4, _, _⟩ := L.own e2
    rw [map_some_get] at e3 e4
    rw [p3] at e3; cases e3
    rw [q3] at e4; cases e4
    have : i' = j' := L.sim.inj i' j' d e a p2 q2 p4 q4
    subst this
    exact nodup_slot L.nd p1 q1
/-- behind a call -/
theorem Lent.back (L : Lent C np B ρ σ H os vs args) {outs : Sl} {fr : Bool} {d : D} {v : V} (P : CallPost C (BL B ρ σ args vs) args (vs.map some) H outs H' fr d v) (Pn : Addr → Prop) (hp : ∀ a, Pn a → H a = none) (hp2 : ∀ a, Pn a → ∃ o, H' a = some o)
    (hl : ∀ (i : Nat) (e e' : D), args[i]? = some (Slot.own e) → outs[i]? = some (Slot.own e') → ∀ a, (vs.map some)[i]? = some (some (V.ref a)) → Obj C (fun a => FF (BL B ρ σ args vs) args (vs.map some) a ∨ Pn a) H' a e') :
    (∀ a, Own (setOuts ρ outs os 0) σ a ↔ Own ρ σ a) ∧ (∀ (j : Nat) (d : D), (setOuts ρ outs os 0)[j]? = some (Slot.own d) → ∃ d', ρ[j]? = some (Slot.own d')) ∧ (∀ (j : Nat) (d : D), ρ[j]? = some (Slot.own d) → ∃ d', (setOuts ρ outs os 0)[j]? = some (Slot.own d')) ∧
      Sim C (fun a => B a ∨ Pn a) (setOuts ρ outs os 0) σ H' := by
  obtain ⟨h1, h2, h3⟩ := toArgs_inv L.ta
  have jl : ∀ {j : Nat} {s : Slot}, ρ[j]? = some s → j < ρ.length := fun {j s} e => by
    rcases Nat.lt_or_ge j ρ.length with h | h
    · exact h
    · rw [List.getElem?_eq_none h] at e; cases e
  have at' : ∀ {i j : Nat}, os[i]? = some (Opd.slot j) → ∃ d d' a, ρ[j]? = some (Slot.own d) ∧ args[i]? = some (Slot.own d) ∧ outs[i]? = some (Slot.own d') ∧ (setOuts ρ outs os 0)[j]? = some (Slot.own d') ∧ vs[i]? = some (V.ref a) ∧ σ[j]? = some (some (V.ref a)) := fun {i j} e => by
    obtain ⟨d, e1, e2⟩ := h3 i j e
    obtain ⟨d', e3, _⟩ := P.lent i d e2
    obtain ⟨j', a, e4, e5, e6, e7, _, _⟩ := L.own e2
    rw [e] at e4; cases e4
    refine ⟨d, d', a, e1, e2, e3, ?_, e6, e7⟩
    rw [setOuts_in L.nd e (jl e1), Nat.zero_add, e3]; rfl
  have own1 : ∀ (j : Nat) (d : D), ρ[j]? = some (Slot.own d) → ∃ d', (setOuts ρ outs os 0)[j]? = some (Slot.own d') := fun j d e => by
    by_cases hj : j ∈ slotsOf os
    · obtain ⟨i, ei⟩ := slotsOf_mem.mp hj
      obtain ⟨_, d', _, _, _, _, e4, _⟩ := at' ei
      exact ⟨d', e4⟩
    · exact ⟨d, by rw [setOuts_out hj]; exact e⟩
  have own2 : ∀ (j : Nat) (d : D), (setOuts ρ outs os 0)[j]? = some (Slot.own d) → ∃ d', ρ[j]? = some (Slot.own d') := fun j d e => by
    by_cases hj : j ∈ slotsOf os
    · obtain ⟨i, ei⟩ := slotsOf_mem.mp hj
      obtain ⟨d', _, _, e4, _⟩ := at' ei
      exact ⟨d', e4⟩
    · rw [setOuts_out hj] at e; exact ⟨d, e⟩
  have ownI : ∀ a, Own (setOuts ρ outs os 0) σ a ↔ Own ρ σ a := fun a => ⟨fun ⟨j, d, e1, e2⟩ => let ⟨d', e⟩ := own2 j d e1; ⟨j, d', e, e2⟩, fun ⟨j, d, e1, e2⟩ => let ⟨d', e⟩ := own1 j d e1; ⟨j, d', e, e2⟩⟩
  have m : Mv (FF B ρ σ) (FF (fun a => B a ∨ Pn a) (setOuts ρ outs os 0) σ) H H' := fun a o n e => by
    refine ⟨P.chg a o (fun z => n (.inr (L.sub z))) e, fun z => ?_⟩
    rcases z with (z | z) | z
    · exact n (.inl z)
    · rw [hp a z] at e; cases e
    · exact n (.inr ((ownI a).mp z))
  have kept : ∀ (j : Nat) (d : D) (a : Addr), j ∉ slotsOf os → ρ[j]? = some (Slot.own d) → σ[j]? = some (some (V.ref a)) → ∀ o, H a = some o → H' a = some o := fun j d a hj e1 e2 o eo => by
    refine P.chg a o (fun z => ?_) eo
    obtain ⟨i, d', e3, e4⟩ := z
    obtain ⟨j', b, e5, e6, e7, e8, _, _⟩ := L.own e3
    rw [map_some_get, e7] at e4
    cases e4
    have : j = j' := L.sim.inj j j' d d' a e1 e6 e2 e8
    subst this
    exact hj (slotsOf_mem.mpr ⟨i, e5⟩)
  refine ⟨ownI, own2, own1, by rw [setOuts_len]; exact L.sim.len, fun a h => ?_, fun j d e => ?_, fun j d e => ?_, fun i j d e a e1 e2 e3 e4 => ?_⟩
  · rcases h with h | h
    · obtain ⟨o, e⟩ := L.sim.dom a h
      exact P.dom a o e
    · exact hp2 a h
  · have hj : j ∉ slotsOf os := fun hj => by
      obtain ⟨i, ei⟩ := slotsOf_mem.mp hj
      obtain ⟨_, _, _, _, _, _, e4, _⟩ := at' ei
      rw [e] at e4; cases e4
    rw [setOuts_out hj] at e
    obtain ⟨w, e1, r⟩ := L.sim.val j d e
    exact ⟨w, e1, Rep.mv m d w r⟩
  · by_cases hj : j ∈ slotsOf os
    · obtain ⟨i, ei⟩ := slotsOf_mem.mp hj
      obtain ⟨d0, d', a, e1, e2, e3, e4, e5, e6⟩ := at' ei
      rw [e] at e4; cases e4
      obtain ⟨a', e7, nb, ob⟩ := L.sim.own j d0 e1
      rw [e6] at e7; cases e7
      have hz := hl i d0 d e2 e3 a (map_some_get.mpr e5)
      refine ⟨a, e6, fun z => ?_, hz.mv (mv_same fun b hb => ?_) fun o eo => eo⟩
      · rcases z with z | z
        · exact nb z
        · obtain ⟨o, eo⟩ := FF.dom L.sim (.inr ⟨j, d0, e1, e6⟩ : FF B ρ σ a)
          rw [hp a z] at eo; cases eo
      · rcases hb with (hb | hb) | hb
        · exact .inl ((L.ff b).mpr (.inl hb))
        · exact .inr hb
        · exact .inl ((L.ff b).mpr (.inr ((ownI b).mp hb)))
    · rw [setOuts_out hj] at e
      obtain ⟨a, e1, nb, ob⟩ := L.sim.own j d e
      refine ⟨a, e1, fun z => ?_, ob.mv m (kept j d a hj e e1)⟩
      rcases z with z | z
      · exact nb z
      · obtain ⟨o, eo⟩ := FF.dom L.sim (.inr ⟨j, d, e, e1⟩ : FF B ρ σ a)
        rw [hp a z] at eo; cases eo
  · obtain ⟨d', e5⟩ := own2 i d e1
    obtain ⟨e', e6⟩ := own2 j e e2
    exact L.sim.inj i j d' e' a e5 e6 e3 e4
theorem Lent.post (L : Lent C np B ρ σ H os vs args) {outs : Sl} {fr : Bool} {d : D} {v : V} (P : CallPost C (BL B ρ σ args vs) args (vs.map some) H outs H' fr d v) : Post C np B ρ (setOuts ρ outs os 0) σ H H' (.imm fr d) v := by
  have none_p : ∀ a : Addr, (fun _ : Addr => False) a → H a = none := fun _ h => h.elim
  obtain ⟨oi, o2, o1, S⟩ := L.back P (fun _ => False) none_p (fun _ h => h.elim) fun i e e' e1 e2 a e3 => by
    obtain ⟨e'', e4, q⟩ := P.lent i e e1
    rw [e2] at e4; cases e4
    exact (q a e3).mv (mv_same fun b hb => hb.elim id False.elim) fun o eo => eo
  have S : Sim C B (setOuts ρ outs os 0) σ H' := by
    refine ⟨S.len, fun a h => S.dom a (.inl h), fun j d e => ?_, fun j d e => ?_, S.inj⟩
    · obtain ⟨w, e1, r⟩ := S.val j d e
      exact ⟨w, e1, Rep.mv (mv_same fun a h => h.elim (fun z => .inl (.inl z)) .inr) d w r⟩
    · obtain ⟨a, e1, nb, ob⟩ := S.own j d e
      exact ⟨a, e1, fun z => nb (.inl z), ob.mv (mv_same fun a h => h.elim (fun z => .inl (.inl z)) .inr) fun o eo => eo⟩
  have st : Stp C np B ρ (setOuts ρ outs os 0) σ H H' := ⟨fun a o h e => P.chg a o (fun z => h (L.sub z)) e, P.dom, o2, fun i _ d e => o1 i d e, setOuts_len, S⟩
  refine ⟨st, Rep.mv (mv_same fun a h => ?_) d v P.res, fun d' e => ?_⟩
  · exact (L.ff a).mpr (h.elim .inl fun z => .inr ((oi a).mp z))
  · cases e
    obtain ⟨p, rfl, hp, ob, hl⟩ := P.fr rfl
    have hp2 : ∃ o, H' p = some o := by
      cases d with
      | lst ds => obtain ⟨xs, e, _⟩ := ob; exact ⟨_, e⟩
      | dct ds => obtain ⟨xs, e, _⟩ := ob; exact ⟨_, e⟩
      | ins c ds => obtain ⟨dx, xs, e, _⟩ := ob; exact ⟨_, e⟩
      | _ => exact ob.elim
    obtain ⟨oi', _, _, S'⟩ := L.back P (fun a => a = p) (fun a h => by rw [h]; exact hp) (fun a h => by rw [h]; exact hp2) hl
    refine ⟨p, rfl, hp, S', ob.mv (mv_same fun a h => ?_) fun o eo => eo⟩
    rcases h with (h | h) | h
    · exact .inl ((L.ff a).mpr (.inl h))
    · exact .inr h
    · exact .inl ((L.ff a).mpr (.inr ((oi a).mp h)))
end
theorem inv_call {f : Nat} {es : Es} {ρ ρ' : Sl} {o : Opd} (e : ev np call (.call f es) ρ = some (o, ρ')) :
    ∃ os ρ1 args fr d outs, evs np call es ρ = some (os, ρ1) ∧ toArgs ρ1 os = some args ∧ nodupN (slotsOf os) = true ∧ call f args = some (fr, d, outs) ∧ o = .imm fr d ∧ ρ' = setOuts ρ1 outs os 0 := by
  simp only [ev] at e
  obtain ⟨⟨os, ρ1⟩, e1, e⟩ := bind_some' e
  obtain ⟨args, e2, e⟩ := bind_some' e
  split at e
  · rename_i hn
    obtain ⟨⟨fr, d, outs⟩, e3, e⟩ := bind_some' e
    cases e
    exact ⟨os, ρ1, args, fr, d, outs, e1, e2, hn, e3, rfl, rfl⟩
  · cases e
theorem e_call {f : Nat} {es : Es} (G : Good T n N sc fb X) (ha : HA T np (run T.fns n) N sc X es) : HE T np (run T.fns n) N sc X (.call f es) := by
  intro ast h
  simp only [chk] at h
  split at h
  · rename_i g p xs pos
    simp only [Bool.and_eq_true] at h
    obtain ⟨⟨⟨hf, hg⟩, hm⟩, hx⟩ := h
    split at hf
    · rename_i F eF
      have eg : F.name = g := of_decide_eq_true hf
      obtain ⟨FO, gF, kF, bF⟩ := G.fns f F eF
      rw [eg] at gF
      refine ⟨fun pins s σ H Q I hq => ?_⟩
      obtain ⟨B, ρ, oo, ρ', S, e, q⟩ := hq
      obtain ⟨os, ρ1, args, fr, d, outs, e1, e2, e3, e4, rfl, rfl⟩ := inv_call e
      have rd : tCall (spF T.C (run T.fns n f) F.np) [] (fun _ _ _ => False) (tA T.C np (run T.fns n) es) σ H Q := by
        refine ⟨B, ρ, os, ρ1, S, e1, fun vs H1 p => ?_⟩
        have L : Lent T.C np B ρ1 σ H1 os vs args := ⟨e3, e2, p.stp.sim, p.len, p.op⟩
        show spF T.C (run T.fns n f) F.np (vs ++ []) H1 Q _
        rw [List.append_nil]
        refine ⟨?_, BL B ρ1 σ args vs, args, fr, d, outs, L.asim, e4, fun v H' P => q v H' ((L.post P).after p.stp)⟩
        obtain ⟨F', eF', hl⟩ := run_len e4
        rw [eF] at eF'; cases eF'
        rw [p.len, ← (toArgs_inv e2).1, hl]
      have hr : Room (2 * n) X.A := G.room.mono (by omega)
      cases xs with
      | nil =>
        have hes : tA T.C np (run T.fns n) es σ H = tA T.C np (run T.fns n) es σ H := rfl
        cases es with
        | cons _ _ => simp [chks] at hx
        | nil =>
          refine (pe_callG0 FO G.gd hr (G.gl hg) gF kF bF pass0 (nm_of hm).1).run pins s σ H Q I ?_
          obtain ⟨B2, ρ2, os2, ρ3, S2, e5, q5⟩ := rd
          simp only [evs] at e5
          cases e5
          exact q5 [] H ⟨.refl S2, rfl, fun i o v e1 => by simp at e1⟩
      | cons x xs =>
        have hs := chks_star hx
        rw [List.all_cons, Bool.and_eq_true] at hs
        exact (pe_callG FO G.gd hr (G.gl hg) gF kF bF pass0 (ha _ hx) (nm_of hm).1 (star_cons hs.1) (star_plain hs.2)).run pins s σ H Q I rd
    · cases hf
  · cases h
end Iv
/-! Iv, part H: built-in functions and methods. -/
namespace Iv
open PySem PySem.Spec PyProof.Rows L2
variable {T : Tab} {n : Nat} {N : List Str} {sc : Scope} {fb : Str → Bool} {X : Cx} {np : Nat} {call : CallF}

theorem insI_perm (i : Int) : ∀ ns : List Int, (insI i ns).Perm (i :: ns)
  | [] => .refl _
  | j :: r => by
    unfold insI
    split
    · exact .refl _
    · exact ((insI_perm i r).cons j).trans (List.Perm.swap i j r)
theorem sortI_perm : ∀ ns : List Int, (sortI ns).Perm ns
  | [] => .refl _
  | i :: r => (insI_perm i _).trans ((sortI_perm r).cons i)
theorem insI_sorted (i : Int) : ∀ ns : List Int, ns.Pairwise (· ≤ ·) → (insI i ns).Pairwise (· ≤ ·)
  | [], _ => by simp [insI]
  | j :: r, h => by
    unfold insI
    rw [List.pairwise_cons] at h
    split
    · rename_i hij
      rw [List.pairwise_cons]
      refine ⟨fun a ha => ?_, List.pairwise_cons.mpr h⟩
      rcases List.mem_cons.mp ha with rfl | ha
      · exact hij
      · exact Int.le_trans hij (h.1 a ha)
    · rename_i hij
      rw [List.pairwise_cons]
      refine ⟨fun a ha => ?_, insI_sorted i r h.2⟩
      rcases List.mem_cons.mp ((insI_perm i r).mem_iff.mp ha) with rfl | ha
      · omega
      · exact h.1 a ha
theorem sortI_sorted : ∀ ns : List Int, (sortI ns).Pairwise (· ≤ ·)
  | [] => .nil
  | i :: r => insI_sorted i _ (sortI_sorted r)
theorem sorted_one : ∀ {a b : List Int}, a.Perm b → a.Pairwise (· ≤ ·) → b.Pairwise (· ≤ ·) → a = b
  | [], b, p, _, _ => by rw [List.nil_perm.mp p]
  | x :: a, [], p, _, _ => by cases List.perm_nil.mp p
  | x :: a, y :: b, p, h1, h2 => by
    rw [List.pairwise_cons] at h1 h2
    have hx : x ∈ y :: b := p.mem_iff.mp List.mem_cons_self
    have hy : y ∈ x :: a := p.mem_iff.mpr List.mem_cons_self
    have e : x = y := by
      rcases List.mem_cons.mp hx with e | hx
      · exact e
      · rcases List.mem_cons.mp hy with e | hy
        · exact e.symm
        · have := h1.1 y hy
          have := h2.1 x hx
          omega
    subst e
    rw [sorted_one (List.perm_cons x |>.mp p) h1.2 h2.2]
theorem maxI_spec : ∀ {ns : List Int} {m : Int}, maxI ns = some m → m ∈ ns ∧ ∀ y ∈ ns, y ≤ m
  | [], _, h => by simp [maxI] at h
  | [i], m, h => by simp [maxI] at h; subst h; simp
  | i :: j :: r, m, h => by
    simp only [maxI, Option.map_eq_some_iff] at h
    obtain ⟨k, e, rfl⟩ := h
    obtain ⟨h1, h2⟩ := maxI_spec e
    refine ⟨?_, fun y hy => ?_⟩
    · split
      · exact List.mem_cons_of_mem _ h1
      · exact List.mem_cons_self
    · rcases List.mem_cons.mp hy with rfl | hy
      · split <;> omega
      · have := h2 y hy
        split <;> omega
theorem minI_spec : ∀ {ns : List Int} {m : Int}, minI ns = some m → m ∈ ns ∧ ∀ y ∈ ns, m ≤ y
  | [], _, h => by simp [minI] at h
  | [i], m, h => by simp [minI] at h; subst h; simp
  | i :: j :: r, m, h => by
    simp only [minI, Option.map_eq_some_iff] at h
    obtain ⟨k, e, rfl⟩ := h
    obtain ⟨h1, h2⟩ := minI_spec e
    refine ⟨?_, fun y hy => ?_⟩
    · split
      · exact List.mem_cons_of_mem _ h1
      · exact List.mem_cons_self
    · rcases List.mem_cons.mp hy with rfl | hy
      · split <;> omega
      · have := h2 y hy
        split <;> omega

section
variable {C : CV} {F : Fb} {H : Hp}
theorem reps_pairs : ∀ {ds : List D} {xs : List V} {kvs : List (Key × D)}, Reps C F H xs ds → pairsK ds = some kvs →
    ∃ (ps : List Addr) (us : List (Key × V)), xs = ps.map V.ref ∧ Paired (fun p kv => SqT C.1 H p [kV kv.1, kv.2]) ps us ∧ RepKs C F H us kvs
  | [], [], kvs, _, e => by
    cases e
    exact ⟨[], [], rfl, .nil, by simp only [RepKs]⟩
  | [], _ :: _, _, h, _ => by simp only [Reps] at h
  | _ :: _, [], _, h, _ => by simp only [Reps] at h
  | d :: ds, x :: xs, kvs, h, e => by
    simp only [Reps] at h
    unfold pairsK at e
    split at e
    · rename_i heq
      cases heq
    · rename_i k d0 r heq
      cases heq
      obtain ⟨kk, e1, e⟩ := bind_some' e
      obtain ⟨rest, e2, rfl⟩ := Option.map_eq_some_iff.mp e
      obtain ⟨ps, us, rfl, hp, hr⟩ := reps_pairs h.2 e2
      obtain ⟨a, ys, rfl, t, rs⟩ := RepT.tup (.inl h.1)
      obtain ⟨u, y, rfl, ru, ry⟩ : ∃ u y, ys = [u, y] ∧ Rep C F H u k ∧ Rep C F H y d0 := by
        match ys, rs with
        | [u, y], rs =>
          simp only [Reps] at rs
          exact ⟨u, y, rfl, rs.1, rs.2.1⟩
        | [], rs => simp only [Reps] at rs
        | [_], rs => simp only [Reps, and_false] at rs
        | _ :: _ :: _ :: _, rs => simp only [Reps, and_false] at rs
      have : u = kV kk := keyOf_v (.inl ru) e1
      subst this
      exact ⟨a :: ps, (kk, y) :: us, rfl, .cons t hp, by simp only [RepKs]; exact ⟨trivial, ry, hr⟩⟩
    · cases e
theorem repks_keys : ∀ {ds : List (Key × D)} {xs : List (Key × V)}, RepKs C F H xs ds → xs.map (·.1) = ds.map (·.1)
  | [], [], _ => rfl
  | [], _ :: _, h => by simp only [RepKs] at h
  | _ :: _, [], h => by simp only [RepKs] at h
  | (k, d) :: ds, (k', v) :: xs, h => by
    simp only [RepKs] at h
    rw [List.map_cons, List.map_cons, repks_keys h.2.2, h.1]
theorem keysI_map : ∀ {kvs : List (Key × D)} {ns : List Int}, keysI kvs = some ns → kvs.map (·.1) = ns.map Sum.inl
  | [], ns, e => by cases e; rfl
  | (.inl i, _) :: r, ns, e => by
    obtain ⟨ms, e1, rfl⟩ := Option.map_eq_some_iff.mp e
    rw [List.map_cons, List.map_cons, keysI_map e1]
  | (.inr i, _) :: r, ns, e => by cases e
theorem reps_keys : ∀ (ks : List Key), Reps C F H (ks.map kV) (ks.map keyD)
  | [] => by simp only [List.map_nil, Reps]
  | .inl i :: ks => by
    simp only [List.map_cons, Reps]
    exact ⟨by simp only [keyD, Rep, kV], reps_keys ks⟩
  | .inr i :: ks => by
    simp only [List.map_cons, Reps]
    exact ⟨by simp only [keyD, Rep, kV], reps_keys ks⟩
end
section
variable {C : CV} {B : Fb} {ρ ρ' : Sl} {σ : L2.St} {H H' : Hp}
/-- the operands' values, as they are read -/
theorem reads_of (S : Sim C B ρ σ H) : ∀ {os : List Opd} {vs : List V} {ds : List D}, derefs ρ os = some ds → vs.length = os.length →
    (∀ (i : Nat) (o : Opd) (v : V), os[i]? = some o → vs[i]? = some v → OpOk C B ρ σ H o v) → vs.length = ds.length ∧ ∀ (i : Nat) (v : V) (d : D), vs[i]? = some v → ds[i]? = some d → RepT C (FF B ρ σ) H v d
  | [], [], ds, e, _, _ => by
    simp [derefs] at e; subst e; simp
  | [], _ :: _, _, _, h, _ => by simp at h
  | _ :: _, [], _, _, h, _ => by simp at h
  | o :: os, v :: vs, ds, e, hl, h => by
    simp only [derefs] at e
    obtain ⟨d, e1, e⟩ := bind_some' e
    obtain ⟨ds', e2, e⟩ := bind_some' e
    cases e
    obtain ⟨h1, h2⟩ := reads_of S e2 (by simpa using hl) fun i o w a b => h (i + 1) o w (by simpa using a) (by simpa using b)
    refine ⟨by simp [h1], fun i w d' a b => ?_⟩
    cases i with
    | zero =>
      simp at a b
      subst a; subst b
      exact (h 0 o v rfl rfl).read S e1
    | succ i => exact h2 i w d' (by simpa using a) (by simpa using b)
theorem reads1 {os : List Opd} {vs : List V} {d : D} (S : Sim C B ρ σ H) (e : derefs ρ os = some [d]) (hl : vs.length = os.length) (h : ∀ (i : Nat) (o : Opd) (v : V), os[i]? = some o → vs[i]? = some v → OpOk C B ρ σ H o v) :
    ∃ v, vs = [v] ∧ RepT C (FF B ρ σ) H v d := by
  obtain ⟨h1, h2⟩ := reads_of (os := os) (vs := vs) (ds := [d]) S e hl h
  match vs, h1 with
  | [v], _ => exact ⟨v, rfl, h2 0 v d rfl rfl⟩
end
/-- a built-in of one argument -/
theorem blt_rule {f : BF} {d : D} {r : Bool × D} {C : CV} (G : Good T n N sc fb X) (hC : C = T.C) (hf : bfIn f = none) (e : bltop f [d] = some r) : ∃ (fv : Value) (r3 : List V → Hp → VK → Prop), bootBuiltins (bfName f) = some fv ∧ (∃ id, fv = .builtin id ∨ fv = .type id) ∧ CallR X fv r3 ∧ bfName f ≠ "__name__" ∧
    (bfName f == ("__debug__" : Str)) = false ∧ X.mg (bfName f) = none ∧
    ∀ (B : Fb) (ρ ρ' : Sl) (σ : L2.St) (H H2 : Hp) (v : V) (Q : VK), Stp C np B ρ ρ' σ H H2 → RepT C (FF B ρ' σ) H2 v d → (∀ w H', Post C np B ρ ρ' σ H H' (.imm r.1 r.2) w → Q w H') → r3 [v] H2 Q := by
  subst hC
  have Kx : X.K = T.C.1 := G.xK
  unfold bltop at e
  split at e
  · rename_i xs hd
    cases hd
    cases e
    refine ⟨_, _, boot_len, ⟨_, .inl rfl⟩, call_len_seq, by decide, by decide, G.bl _ (by simp [bfName]), fun B ρ ρ' σ H H2 v Q st rv q => ?_⟩
    obtain ⟨c, us, rfl, q1, r1⟩ := rv.lst
    exact ⟨c, us, rfl, .inl (.of q1), q _ _ (.imm st (by simp only [Rep, r1.len]))⟩
  · rename_i xs hd
    cases hd
    cases e
    refine ⟨_, _, boot_len, ⟨_, .inl rfl⟩, call_len_seq, by decide, by decide, G.bl _ (by simp [bfName]), fun B ρ ρ' σ H H2 v Q st rv q => ?_⟩
    obtain ⟨c, us, rfl, q1, r1⟩ := rv.rol
    exact ⟨c, us, rfl, .inl (by rw [Kx]; exact q1), q _ _ (.imm st (by simp only [Rep, r1.len]))⟩
  · rename_i xs hd
    cases hd
    cases e
    refine ⟨_, _, boot_len, ⟨_, .inl rfl⟩, call_len_seq, by decide, by decide, G.bl _ (by simp [bfName]), fun B ρ ρ' σ H H2 v Q st rv q => ?_⟩
    obtain ⟨c, us, rfl, q1, r1⟩ := rv.tup
    exact ⟨c, us, rfl, .inr (by rw [Kx]; exact q1), q _ _ (.imm st (by simp only [Rep, r1.len]))⟩
  · rename_i kvs hd
    cases hd
    cases e
    refine ⟨_, _, boot_len, ⟨_, .inl rfl⟩, call_lenD, by decide, by decide, G.bl _ (by simp [bfName]), fun B ρ ρ' σ H H2 v Q st rv q => ?_⟩
    obtain ⟨c, us, rfl, q1, r1⟩ := rv.dct
    exact ⟨c, us, rfl, q1, q _ _ (.imm st (by simp only [Rep, r1.len]))⟩
  · rename_i xs hd
    cases hd
    cases e
    refine ⟨_, _, PyProof.Rows.boot_tuple, ⟨_, .inr rfl⟩, call_tupleF, by decide, by decide, G.bl _ (by simp [bfName]), fun B ρ ρ' σ H H2 v Q st rv q => ?_⟩
    obtain ⟨c, us, rfl, q1, r1⟩ := rv.lst
    exact ⟨c, us, rfl, .inl ⟨.of q1, fun p H2 hp hn => q _ _ (.tup st hp r1 hn)⟩⟩
  · rename_i xs hd
    cases hd
    cases e
    refine ⟨_, _, PyProof.Rows.boot_tuple, ⟨_, .inr rfl⟩, call_tupleF, by decide, by decide, G.bl _ (by simp [bfName]), fun B ρ ρ' σ H H2 v Q st rv q => ?_⟩
    have rv' := rv
    obtain ⟨c, us, rfl, q1, r1⟩ := rv'.tup
    exact ⟨c, us, rfl, .inr ⟨by rw [Kx]; exact q1, q _ _ (.imm st (rv.flat fun a z => z.elim))⟩⟩
  · rename_i xs hd
    cases hd
    cases e
    refine ⟨_, _, boot_list, ⟨_, .inr rfl⟩, call_list_of, by decide, by decide, G.bl _ (by simp [bfName]), fun B ρ ρ' σ H H2 v Q st rv q => ?_⟩
    obtain ⟨c, us, rfl, q1, r1⟩ := rv.lst
    exact ⟨c, us, rfl, .inl (.of q1), fun p hp => q _ _ (.lst st hp r1)⟩
  · rename_i xs hd
    cases hd
    cases e
    refine ⟨_, _, boot_list, ⟨_, .inr rfl⟩, call_list_of, by decide, by decide, G.bl _ (by simp [bfName]), fun B ρ ρ' σ H H2 v Q st rv q => ?_⟩
    obtain ⟨c, us, rfl, q1, r1⟩ := rv.tup
    exact ⟨c, us, rfl, .inr (by rw [Kx]; exact q1), fun p hp => q _ _ (.lst st hp r1)⟩
  · rename_i xs hd
    cases hd
    cases e
    refine ⟨_, _, boot_list, ⟨_, .inr rfl⟩, call_list_of, by decide, by decide, G.bl _ (by simp [bfName]), fun B ρ ρ' σ H H2 v Q st rv q => ?_⟩
    obtain ⟨c, us, rfl, q1, r1⟩ := rv.rol
    exact ⟨c, us, rfl, .inl (by rw [Kx]; exact q1), fun p hp => q _ _ (.lst st hp r1)⟩
  · rename_i xs hd
    cases hd
    simp only [Option.map_eq_some_iff] at e
    obtain ⟨ns, e, rfl⟩ := e
    refine ⟨_, _, boot_sum, ⟨_, .inl rfl⟩, cr_sum G.calm, by decide, by decide, G.bl _ (by simp [bfName]), fun B ρ ρ' σ H H2 v Q st rv q => ?_⟩
    obtain ⟨c, us, rfl, q1, r1⟩ := rv.lst
    have := r1.ints e
    subst this
    exact ⟨c, ns, rfl, .of q1, q _ _ (.imm st (by simp only [Rep]))⟩
  · rename_i xs hd
    cases hd
    simp only [Option.map_eq_some_iff] at e
    obtain ⟨ns, e, rfl⟩ := e
    refine ⟨_, _, PyProof.Rows.boot_sorted, ⟨_, .inl rfl⟩, cr_sortedI, by decide, by decide, G.bl _ (by simp [bfName]), fun B ρ ρ' σ H H2 v Q st rv q => ?_⟩
    obtain ⟨c, us, rfl, q1, r1⟩ := rv.lst
    have := r1.ints e
    subst this
    refine ⟨c, ns, rfl, .of q1, fun ns' p hp hs hn => ?_⟩
    have e9 : ns' = sortI ns := sorted_one (hp.trans (sortI_perm ns).symm) hs (sortI_sorted ns)
    subst e9
    exact q _ _ (.lst st hn (Reps.ofInts _))
  · rename_i i hd
    cases hd
    cases e
    refine ⟨_, _, boot_int, ⟨_, .inr rfl⟩, call_int1, by decide, by decide, G.bl _ (by simp [bfName]), fun B ρ ρ' σ H H2 v Q st rv q => ?_⟩
    exact .inl ⟨i, by rw [rv.int], q _ _ (.imm st (by simp only [Rep]))⟩
  · rename_i b hd
    cases hd
    cases e
    refine ⟨_, _, boot_int, ⟨_, .inr rfl⟩, call_int1, by decide, by decide, G.bl _ (by simp [bfName]), fun B ρ ρ' σ H H2 v Q st rv q => ?_⟩
    exact .inr ⟨b, by rw [rv.bl], q _ _ (.imm st (by simp only [Rep]))⟩
  · rename_i xs hd
    cases hd
    simp only [Option.map_eq_some_iff] at e
    obtain ⟨ns, e, rfl⟩ := e
    refine ⟨_, _, boot_all, ⟨_, .inl rfl⟩, cr_all G.calm, by decide, by decide, G.bl _ (by simp [bfName]), fun B ρ ρ' σ H H2 v Q st rv q => ?_⟩
    obtain ⟨c, us, rfl, q1, r1⟩ := rv.lst
    have := r1.bools e
    subst this
    exact ⟨c, ns, rfl, .of q1, q _ _ (.imm st (by simp only [Rep]))⟩
  · rename_i xs hd
    cases hd
    simp only [Option.map_eq_some_iff] at e
    obtain ⟨ns, e, rfl⟩ := e
    refine ⟨_, _, boot_any, ⟨_, .inl rfl⟩, cr_any G.calm, by decide, by decide, G.bl _ (by simp [bfName]), fun B ρ ρ' σ H H2 v Q st rv q => ?_⟩
    obtain ⟨c, us, rfl, q1, r1⟩ := rv.lst
    have := r1.bools e
    subst this
    exact ⟨c, ns, rfl, .of q1, q _ _ (.imm st (by simp only [Rep]))⟩
  · rename_i kvs hd
    cases hd
    cases e
    refine ⟨_, _, boot_dict, ⟨_, .inr rfl⟩, call_dictD, by decide, by decide, G.bl _ (by simp [bfName]), fun B ρ ρ' σ H H2 v Q st rv q => ?_⟩
    obtain ⟨c, us, rfl, q1, r1⟩ := rv.dct
    exact ⟨c, us, rfl, .inl q1, fun p hp => q _ _ (.dct st hp r1)⟩
  · rename_i xs hd
    cases hd
    obtain ⟨kvs, e7, rfl⟩ := Option.map_eq_some_iff.mp e
    refine ⟨_, _, boot_dict, ⟨_, .inr rfl⟩, call_dictT G.calm, by decide, by decide, G.bl _ (by simp [bfName]), fun B ρ ρ' σ H H2 v Q st rv q => ?_⟩
    obtain ⟨c, us, rfl, ⟨o, od, q1⟩, r1⟩ := rv.tupO
    obtain ⟨ps, ks, rfl, hp, hr⟩ := reps_pairs r1 e7
    exact ⟨c, o, ps, ks, rfl, od, q1, by rw [Kx]; exact hp, fun p hn => q _ _ (.dct st hn (RepKs.merge (by simp only [RepKs]) hr))⟩
  · rename_i xs hd
    cases hd
    obtain ⟨kvs, e7, rfl⟩ := Option.map_eq_some_iff.mp e
    refine ⟨_, _, boot_dict, ⟨_, .inr rfl⟩, call_dictP G.calm, by decide, by decide, G.bl _ (by simp [bfName]), fun B ρ ρ' σ H H2 v Q st rv q => ?_⟩
    obtain ⟨c, us, rfl, q1, r1⟩ := rv.lst
    obtain ⟨ps, ks, rfl, hp, hr⟩ := reps_pairs r1 e7
    exact ⟨c, ps, ks, rfl, .of q1, by rw [Kx]; exact hp, fun p hn => q _ _ (.dct st hn (RepKs.merge (by simp only [RepKs]) hr))⟩
  · rename_i kvs hd
    cases hd
    obtain ⟨ns, e1, e⟩ := bind_some' e
    split at e
    · rename_i h64
      cases e
      refine ⟨_, _, PyProof.Rows.boot_sorted, ⟨_, .inl rfl⟩, call_sortedDI G.calm, by decide, by decide, G.bl _ (by simp [bfName]), fun B ρ ρ' σ H H2 v Q st rv q => ?_⟩
      obtain ⟨c, us, rfl, q1, r1⟩ := rv.dct
      refine ⟨c, us, ns, rfl, .inl q1, (repks_keys r1).trans (keysI_map e1), h64, fun ns' p hp hs hn => ?_⟩
      have e9 : ns' = sortI ns := sorted_one (hp.trans (sortI_perm ns).symm) hs (sortI_sorted ns)
      subst e9
      exact q _ _ (.lst st hn (Reps.ofInts _))
    · cases e
  · rename_i kvs hd
    cases hd
    cases e
    refine ⟨_, _, boot_list, ⟨_, .inr rfl⟩, call_listD G.calm, by decide, by decide, G.bl _ (by simp [bfName]), fun B ρ ρ' σ H H2 v Q st rv q => ?_⟩
    obtain ⟨c, us, rfl, q1, r1⟩ := rv.dct
    refine ⟨c, us, rfl, .inl q1, fun p hp => q _ _ (.lst st hp ?_)⟩
    have e1 : (us.map fun kv => kV kv.1) = (us.map (·.1)).map kV := by rw [List.map_map]; rfl
    have e2 : (kvs.map fun p => keyD p.1) = (kvs.map (·.1)).map keyD := by rw [List.map_map]; rfl
    rw [e1, e2, repks_keys r1]
    exact reps_keys _
  · rename_i d0 hd
    cases hd
    split at e
    · rename_i hs
      cases e
      unfold showOk at hs
      simp only [Bool.and_eq_true, decide_eq_true_eq] at hs
      refine ⟨_, _, boot_repr, ⟨_, .inl rfl⟩, call_reprD G.gd (by have := G.room.un; omega), by decide, by decide, G.bl _ (by simp [bfName]), fun B ρ ρ' σ H H2 v Q st rv q => ?_⟩
      exact ⟨v, _, rfl, by rw [Kx]; exact rv.dp hs.1.1.2, hs.1.1.1, hs.1.1.2, hs.1.2, hs.2, q _ _ (.imm st (by simp only [Rep]))⟩
    · split at e
      · cases e
        refine ⟨_, _, boot_repr, ⟨_, .inl rfl⟩, call_reprN, by decide, by decide, G.bl _ (by simp [bfName]), fun B ρ ρ' σ H H2 v Q st rv q => ?_⟩
        exact ⟨by rw [rv.non], q _ _ (.imm st (by simp only [Rep]))⟩
      · cases e
  · rename_i xs hd
    cases hd
    simp only [Option.map_eq_some_iff] at e
    obtain ⟨m, e, rfl⟩ := e
    obtain ⟨ns, e, em⟩ := bind_some' e
    refine ⟨_, _, boot_max, ⟨_, .inl rfl⟩, cr_max G.calm, by decide, by decide, G.bl _ (by simp [bfName]), fun B ρ ρ' σ H H2 v Q st rv q => ?_⟩
    obtain ⟨c, us, rfl, q1, r1⟩ := rv.lst
    have := r1.ints e
    subst this
    obtain ⟨m1, m2⟩ := maxI_spec em
    refine ⟨c, ns, rfl, .of q1, List.length_pos_of_mem m1, fun y hy hle => ?_⟩
    have : y = m := Int.le_antisymm (m2 y hy) (hle m m1)
    subst this
    exact q _ _ (.imm st (by simp only [Rep]))
  · rename_i xs hd
    cases hd
    simp only [Option.map_eq_some_iff] at e
    obtain ⟨m, e, rfl⟩ := e
    obtain ⟨ns, e, em⟩ := bind_some' e
    refine ⟨_, _, boot_min, ⟨_, .inl rfl⟩, cr_min G.calm, by decide, by decide, G.bl _ (by simp [bfName]), fun B ρ ρ' σ H H2 v Q st rv q => ?_⟩
    obtain ⟨c, us, rfl, q1, r1⟩ := rv.lst
    have := r1.ints e
    subst this
    obtain ⟨m1, m2⟩ := minI_spec em
    refine ⟨c, ns, rfl, .of q1, List.length_pos_of_mem m1, fun y hy hle => ?_⟩
    have : y = m := Int.le_antisymm (hle m m1) (m2 y hy)
    subst this
    exact q _ _ (.imm st (by simp only [Rep]))
  · cases hf
  · cases hf
  · cases e
end Iv
/-! Iv, part I: built-ins and methods in a text. -/
namespace Iv
open PySem PySem.Spec PyProof.Rows L2
variable {T : Tab} {n : Nat} {N : List Str} {sc : Scope} {fb : Str → Bool} {X : Cx} {np : Nat} {call : CallF}

theorem bltop_one {f : BF} {ds : List D} {r : Bool × D} (hf : f ≠ .zipl) (e : bltop f ds = some r) : ∃ d, ds = [d] := by
  unfold bltop at e
  split at e <;> first | exact ⟨_, rfl⟩ | exact absurd rfl hf | cases e
theorem inv_blt {f : BF} {es : Es} {ρ ρ' : Sl} {o : Opd} (hf : f ≠ .zipl) (e : ev np call (.blt f es) ρ = some (o, ρ')) :
    ∃ os d r, evs np call es ρ = some (os, ρ') ∧ derefs ρ' os = some [d] ∧ bltop f [d] = some r ∧ o = .imm r.1 r.2 := by
  simp only [ev] at e
  obtain ⟨⟨os, ρ1⟩, e1, e⟩ := bind_some' e
  obtain ⟨ds, e2, e⟩ := bind_some' e
  obtain ⟨r, e3, e⟩ := bind_some' e
  cases e
  obtain ⟨d, rfl⟩ := bltop_one hf e3
  exact ⟨os, d, r, e1, e2, e3, rfl⟩
def tyS : Ty → String
  | .int => "int" | .str => "str" | .tuple => "tuple" | .list => "list" | .bool => "bool" | .dict => "dict" | .own _ => "object"
theorem tyX_of {C : CV} {F : Fb} {H : Hp} {v : V} {d : D} {t : Ty} (h : RepT C F H v d) (e : tyOf d = some t) : TyX C.1 H v (.type (tyS t)) := by
  cases d <;> simp only [tyOf] at e <;> try (cases e; done)
  case bl b => cases e; rw [h.bl]; exact .base (.bl b)
  case int b => cases e; rw [h.int]; exact .base (.int b)
  case str b => cases e; rw [h.str]; exact .base (.str b)
  case tup ds =>
    cases e
    obtain ⟨a, xs, rfl, q, _⟩ := h.tup
    rcases q with (q | ⟨o, q⟩) | ⟨o, _, _, q1, q2, _⟩
    · exact .base (.tup q)
    · exact .fTuple q
    · exact .kTuple q1 q2
  case lst ds =>
    cases e
    obtain ⟨a, xs, rfl, q, _⟩ := h.lst
    exact .base (.lst q)
  case rol ds =>
    cases e
    obtain ⟨a, xs, rfl, q, _⟩ := h.rol
    rcases q with (q | ⟨o, q⟩) | ⟨o, _, _, q1, q2, _⟩
    · exact .base (.lst q)
    · exact .base (.frz q)
    · exact .kList q1 q2
  case dct ds =>
    cases e
    obtain ⟨a, xs, rfl, q, _⟩ := h.dct
    exact .base (.dK q)
theorem isTy_rule {C : CV} {F : Fb} {H : Hp} {K : PySem.W.Frag} (hK : K = C.1) {v : V} {d : D} {t : Ty} {b : Bool} (h : RepT C F H v d) (e : isTy1 t d = some b) (ho : ∀ c, t ≠ .own c) :
    ∃ u : Value, TyX K H v u ∧ PySem.W.kitOne K u (.type (tyS t)) = some b := by
  subst hK
  have key : ∀ {u : Ty}, tyOf d = some u → (match u with | .own _ => false | _ => true) = true → b = (decide (u = t) || (decide (u = .bool) && decide (t = .int))) → ∃ u : Value, TyX C.1 H v u ∧ PySem.W.kitOne C.1 u (.type (tyS t)) = some b := fun {u} eu hu hb => by
    refine ⟨_, tyX_of h eu, ?_⟩
    subst hb
    cases u <;> cases t <;> first | exact absurd rfl (ho _) | exact kit_ty (by decide +kernel) | cases hu
  cases d with
  | non =>
    rw [h.non]
    unfold isTy1 at e
    cases t <;> first | exact absurd rfl (ho _) | (cases e; exact ⟨_, .base .non, kit_ty (by decide +kernel)⟩)
  | ins c gs =>
    cases t <;> first | exact absurd rfl (ho _) | cases e
  | prt gs =>
    cases t <;> first | exact absurd rfl (ho _) | cases e
  | bl x =>
    refine key (u := .bool) rfl rfl ?_
    cases t <;> first | exact absurd rfl (ho _) | (cases e; rfl)
  | int x =>
    refine key (u := .int) rfl rfl ?_
    cases t <;> first | exact absurd rfl (ho _) | (cases e; rfl)
  | str x =>
    refine key (u := .str) rfl rfl ?_
    cases t <;> first | exact absurd rfl (ho _) | (cases e; rfl)
  | tup x =>
    refine key (u := .tuple) rfl rfl ?_
    cases t <;> first | exact absurd rfl (ho _) | (cases e; rfl)
  | lst x =>
    refine key (u := .list) rfl rfl ?_
    cases t <;> first | exact absurd rfl (ho _) | (cases e; rfl)
  | rol x =>
    refine key (u := .list) rfl rfl ?_
    cases t <;> first | exact absurd rfl (ho _) | (cases e; rfl)
  | dct x =>
    refine key (u := .dict) rfl rfl ?_
    cases t <;> first | exact absurd rfl (ho _) | (cases e; rfl)
theorem tyName_boot {t : Ty} (h : ∀ c, t ≠ .own c) : bootBuiltins (tyName t) = some (.type (tyS t)) ∧ tyName t ≠ "__name__" ∧ (tyName t == ("__debug__" : Str)) = false ∧
    tyName t ∈ (["len", "tuple", "list", "sum", "sorted", "int", "all", "any", "max", "min", "dict", "isinstance", "repr", "str", "bool", "range", "enumerate", "zip", "set"] : List Str) := by
  cases t <;> first | exact absurd rfl (h _) | exact ⟨by decide +kernel, by decide, by decide, by simp [tyName]⟩
theorem inv_zipl {es : Es} {ρ ρ' : Sl} {o : Opd} (e : ev np call (.blt .zipl es) ρ = some (o, ρ')) :
    ∃ os d1 d2 xs ys, evs np call es ρ = some (os, ρ') ∧ derefs ρ' os = some [d1, d2] ∧ seqD d1 = some xs ∧ seqD d2 = some ys ∧ o = .imm true (.lst (zipP xs ys)) := by
  simp only [ev] at e
  obtain ⟨⟨os, ρ1⟩, e1, e⟩ := bind_some' e
  obtain ⟨ds, e2, e⟩ := bind_some' e
  obtain ⟨r, e3, e⟩ := bind_some' e
  cases e
  match ds, e3 with
  | [d1, d2], e3 =>
    simp only [bltop] at e3
    obtain ⟨xs, h1, e3⟩ := bind_some' e3
    simp only [Option.map_eq_some_iff] at e3
    obtain ⟨ys, h2, rfl⟩ := e3
    exact ⟨os, d1, d2, xs, ys, e1, e2, h1, h2, rfl⟩
  | [], e3 => simp [bltop] at e3
  | [_], e3 => simp [bltop] at e3
  | _ :: _ :: _ :: _, e3 => simp [bltop] at e3
theorem seq_of {C : CV} {F : Fb} {H : Hp} {v : V} {d : D} {ds : List D} (e : seqD d = some ds) (h : RepT C F H v d) : ∃ a xs, v = .ref a ∧ (SqL C.1 H a xs ∨ SqT C.1 H a xs) ∧ Reps C F H xs ds := by
  cases d <;> simp only [seqD] at e <;> try (cases e; done)
  case tup => cases e; obtain ⟨a, xs, rfl, q, r⟩ := h.tup; exact ⟨a, xs, rfl, .inr q, r⟩
  case lst => cases e; obtain ⟨a, xs, rfl, q, r⟩ := h.lst; exact ⟨a, xs, rfl, .inl (.of q), r⟩
  case rol => cases e; obtain ⟨a, xs, rfl, q, r⟩ := h.rol; exact ⟨a, xs, rfl, .inl q, r⟩
theorem layT_grow {Vs : List (Addr × PySem.Obj × V × V)} {H : Hp} (h : ∀ t ∈ Vs, H t.1 = none) : ∀ a o, H a = some o → layT H Vs a = some o := fun a o e => by
  rw [layT_old fun t ht z => by rw [z, h t ht] at e; cases e]
  exact e
theorem zip_reps {C : CV} {F : Fb} {H : Hp} : ∀ {Vs : List (Addr × PySem.Obj × V × V)} {xs ys : List V} {ds es : List D}, Vs.map (fun t => t.2.2) = xs.zip ys → Reps C F H xs ds → Reps C F H ys es →
    (∀ t ∈ Vs, ¬ F t.1 ∧ t.2.1.dict = none ∧ H t.1 = some (.frz t.2.1 (.tup [t.2.2.1, t.2.2.2]))) → Reps C F H (Vs.map fun t => V.ref t.1) (zipP ds es)
  | Vs, [], ys, ds, es, e, h1, h2, hv => by
    cases ds with
    | nil => cases Vs with
      | nil => simp [zipP, Reps]
      | cons _ _ => simp at e
    | cons _ _ => simp [Reps] at h1
  | Vs, _ :: _, [], ds, es, e, h1, h2, hv => by
    cases es with
    | nil => cases Vs with
      | nil => cases ds <;> simp [zipP, Reps]
      | cons _ _ => simp at e
    | cons _ _ => simp [Reps] at h2
  | [], _ :: _, _ :: _, _, _, e, _, _, _ => by simp at e
  | t :: Vs, x :: xs, y :: ys, ds, es, e, h1, h2, hv => by
    cases ds with
    | nil => simp [Reps] at h1
    | cons d ds => cases es with
      | nil => simp [Reps] at h2
      | cons f es =>
        simp only [Reps] at h1 h2
        simp only [List.map_cons, List.zip_cons_cons, List.cons.injEq] at e
        obtain ⟨n1, n2, n3⟩ := hv t List.mem_cons_self
        rw [e.1] at n3
        simp only [List.map_cons, zipP, Reps]
        refine ⟨?_, zip_reps e.2 h1.2 h2.2 fun u hu => hv u (List.mem_cons_of_mem _ hu)⟩
        simp only [Rep]
        exact ⟨t.1, [x, y], rfl, ⟨n1, t.2.1, n2, n3⟩, by simp only [Reps]; exact ⟨h1.1, h2.1, trivial⟩⟩
theorem nubI_mem : ∀ (ns : List Int) (k : Int), k ∈ nubI ns ↔ k ∈ ns
  | [], _ => by simp [nubI]
  | i :: r, k => by
    simp only [nubI]
    split
    · rename_i h
      rw [nubI_mem r k, List.mem_cons]
      exact ⟨.inr, fun q => q.elim (fun q => by rw [q]; exact h) id⟩
    · rw [List.mem_cons, List.mem_cons, nubI_mem r k]
theorem nubI_nodup : ∀ ns : List Int, (nubI ns).Nodup
  | [] => .nil
  | i :: r => by
    simp only [nubI]
    split
    · exact nubI_nodup r
    · rename_i h
      exact List.nodup_cons.mpr ⟨fun q => h ((nubI_mem r i).mp q), nubI_nodup r⟩
theorem setI_mem (ns : List Int) (k : Int) : k ∈ setI ns ↔ k ∈ ns := ((sortI_perm _).mem_iff).trans (nubI_mem ns k)
theorem setI_nodup (ns : List Int) : (setI ns).Nodup := (sortI_perm _).nodup_iff.mpr (nubI_nodup ns)
theorem setI_sorted (ns : List Int) : (setI ns).Pairwise (· ≤ ·) := sortI_sorted _
theorem lt_le {l : List Int} (h : l.Pairwise (· < ·)) : l.Pairwise (· ≤ ·) := h.imp fun h => Int.le_of_lt h
theorem lt_nodup {l : List Int} (h : l.Pairwise (· < ·)) : l.Nodup := h.imp fun h e => by rw [e] at h; exact Int.lt_irrefl _ h
/-- a row without repetition, in order, is known by what it holds -/
theorem set_one {a b : List Int} (ha : a.Nodup) (hb : b.Nodup) (sa : a.Pairwise (· ≤ ·)) (sb : b.Pairwise (· ≤ ·)) (h : ∀ k, k ∈ a ↔ k ∈ b) : a = b :=
  sorted_one ((List.perm_ext_iff_of_nodup ha hb).mpr h) sa sb
theorem inv_sset {d : D} {r : Bool × D} (e : bltop .sset [d] = some r) : ∃ ds ns, d = .lst ds ∧ intsD ds = some ns ∧ ns.length ≤ 1000 ∧ (setI ns).length < 64 ∧ r = (true, .lst ((setI ns).map .int)) := by
  cases d with
  | lst ds =>
    simp only [bltop] at e
    obtain ⟨ns, h1, e⟩ := bind_some' e
    split at e
    · rename_i h
      cases e
      exact ⟨ds, ns, rfl, h1, h.1, h.2, rfl⟩
    · cases e
  | _ => simp [bltop] at e
theorem e_blt {f : BF} {es : Es} (G : Good T n N sc fb X) (ha : HA T np call N sc X es) : HE T np call N sc X (.blt f es) := by
  intro ast h
  simp only [chk] at h
  split at h
  · rename_i hf
    split at h
    · rename_i g p x xs pos
      simp only [Bool.and_eq_true] at h
      obtain ⟨⟨hn, hg⟩, hx⟩ := h
      obtain rfl := of_decide_eq_true hn
      have hs := chks_star hx
      rw [List.all_cons, Bool.and_eq_true] at hs
      refine ⟨fun pins s σ H Q I hq => ?_⟩
      obtain ⟨B, ρ, oo, ρ', S, e, q⟩ := hq
      obtain ⟨os, d, r, e1, e2, e3, rfl⟩ := inv_blt (fun z => by rw [z] at hf; cases hf) e
      obtain ⟨fv, r3, hb, ⟨id, hid⟩, hc, n1, n2, n3, hr⟩ := blt_rule (np := np) G rfl hf e3
      have rd : tCB r3 (tA T.C np call es) σ H Q := ⟨B, ρ, os, ρ', S, e1, fun vs H1 p => by
        obtain ⟨v, rfl, rv⟩ := reads1 p.stp.sim e2 p.len p.op
        exact hr B ρ ρ' σ H H1 v Q p.stp rv q⟩
      rcases hid with rfl | rfl
      · exact (pe_callB hc (G.gl hg) n3 hb (ha _ hx) n1 n2 (star_cons hs.1) (star_plain hs.2)).run pins s σ H Q I rd
      · exact (pe_callTy hc (G.gl hg) n3 hb (ha _ hx) n1 n2 (star_cons hs.1) (star_plain hs.2)).run pins s σ H Q I rd
    · cases h
  · rename_i g2 hf
    split at h
    · rename_i g p gi p2 x xs pos2 pos
      simp only [Bool.and_eq_true] at h
      obtain ⟨⟨⟨⟨⟨hn, hg⟩, hn2⟩, hg2⟩, hx⟩, hlen⟩ := h
      obtain rfl := of_decide_eq_true hn
      obtain rfl := of_decide_eq_true hn2
      have hs := chks_star hx
      rw [List.all_cons, Bool.and_eq_true] at hs
      refine ⟨fun pins s σ H Q I hq => ?_⟩
      obtain ⟨B, ρ, oo, ρ', S, e, q⟩ := hq
      have star1 : nStar (.Call (.Name g2 p2) (x :: xs) [] pos2) = true := rfl
      cases f <;> simp only [bfIn] at hf <;> try (cases hf; done)
      case sset =>
        cases hf
        obtain ⟨os, d, r, e1, e2, e3, rfl⟩ := inv_blt (fun z => by cases z) e
        obtain ⟨ds, ns, rfl, hi, l1, l2, rfl⟩ := inv_sset e3
        have hS := pe_callTy (p := p2) (pos := pos2) (cr_setL G.calm) (G.gl hg2) (G.bl _ (by simp)) PyProof.Rows.boot_set (ha _ hx) (by decide) (by decide) (star_cons hs.1) (star_plain hs.2)
        refine (pe_callB (p := p) (pos := pos) (cr_sortedSet G.calm) (G.gl hg) (G.bl _ (by simp [bfName])) PyProof.Rows.boot_sorted (pa_cons hS pa_nil (star_cons star1)) (by decide) (by decide) (star_cons star1) (star_plain rfl)).run pins s σ H Q I ?_
        refine ⟨B, ρ, os, ρ', S, e1, fun vs H1 p => ?_⟩
        obtain ⟨v, rfl, rv⟩ := reads1 p.stp.sim e2 p.len p.op
        obtain ⟨c, us, rfl, q1, r1⟩ := rv.lst
        have := r1.ints hi
        subst this
        refine ⟨c, ns, rfl, .of q1, l1, fun a S' n' hS' hn' ha' => ⟨a, S', n', rfl, upd_same, ?_, fun ns' p' hs' hm' hl' hp' => ?_⟩⟩
        · rw [← hn' (setI ns) (setI_nodup ns) (setI_mem ns)]; exact l2
        · have e9 : ns' = setI ns := set_one (lt_nodup hs') (setI_nodup ns) (lt_le hs') (setI_sorted ns) fun k => by rw [hm' k, hS' k, setI_mem]
          subst e9
          exact q _ _ (.lst (p.stp.trans (Stp.grow p.stp.sim (upd_grow ha'))) hp' (Reps.ofInts _))
      case zipl =>
        cases hf
        obtain ⟨os, d1, d2, ds, es', e1, e2, h1, h2, rfl⟩ := inv_zipl e
        obtain ⟨y, rfl⟩ : ∃ y, xs = [y] := by
          cases xs with
          | nil => cases hlen
          | cons y r => cases r with
            | nil => exact ⟨y, rfl⟩
            | cons _ _ => cases of_decide_eq_true hlen
        refine (pe_zipl (p := p) (p2 := p2) (pos := pos) (pos2 := pos2) G.calm (G.gl hg) (G.bl _ (by simp [bfName])) (G.gl hg2) (G.bl _ (by simp)) (ha _ hx) (star_cons hs.1) (star_plain hs.2)).run pins s σ H Q I ?_
        refine ⟨B, ρ, os, ρ', S, e1, fun vs H1 p => ?_⟩
        obtain ⟨r1, r2⟩ := reads_of p.stp.sim e2 p.len p.op
        match vs, r1 with
        | [v1, v2], _ =>
          obtain ⟨a, xs1, rfl, q1, k1⟩ := seq_of h1 (r2 0 _ _ rfl rfl)
          obtain ⟨b, xs2, rfl, q2, k2⟩ := seq_of h2 (r2 1 _ _ rfl rfl)
          have Kx : X.K = T.C.1 := G.xK
          refine ⟨a, b, xs1, xs2, rfl, by rw [Kx]; exact q1, by rw [Kx]; exact q2, fun p' Vs hv hd hnd hf' hp' => ?_⟩
          have gr := layT_grow fun t ht => (hf' t ht).1
          have mv : Mv (FF B ρ' σ) (FF B ρ' σ) H1 (layT H1 Vs) := fun c o n e => ⟨gr c o e, n⟩
          have st := p.stp.trans (Stp.grow p.stp.sim gr)
          refine q _ _ (.lst st (by rw [layT_old fun t ht z => (hf' t ht).2 z.symm]; exact hp') (zip_reps hv (Reps.mv mv _ _ k1) (Reps.mv mv _ _ k2) fun t ht => ⟨nFF p.stp.sim (hf' t ht).1, hd t ht, layT_new _ _ hnd ht⟩))
    · cases h
theorem e_isi {e : E} {t : Ty} (G : Good T n N sc fb X) (he : HE T np call N sc X e) : HE T np call N sc X (.isi e t) := by
  intro ast h
  simp only [chk] at h
  split at h
  · rename_i g p x y p2 pos
    simp only [Bool.and_eq_true] at h
    obtain ⟨⟨⟨⟨⟨⟨hn, hg⟩, hy⟩, hgy⟩, hx⟩, hs⟩, ht⟩ := h
    obtain rfl := of_decide_eq_true hn
    obtain rfl := of_decide_eq_true hy
    have ho : ∀ c, t ≠ .own c := fun c ec => by subst ec; cases ht
    obtain ⟨b1, b2, b3, b4⟩ := tyName_boot ho
    have hE : PA X [x, .Name (tyName t) p2] (tCons (tE T.C np call e) (tCons (tC (.ty (tyS t))) tNil)) :=
      pa_cons (he x hx) (pa_cons (pe_bltn (v := .ty (tyS t)) (G.gl hgy) (G.bl _ b4) b1 rfl b2 b3) pa_nil (star_cons rfl)) (star_cons hs)
    refine ⟨fun pins s σ H Q I hq => ?_⟩
    obtain ⟨B, ρ, oo, ρ', S, ee, q⟩ := hq
    simp only [ev] at ee
    obtain ⟨⟨o1, ρ1⟩, e1, ee⟩ := bind_some' ee
    obtain ⟨d, e2, ee⟩ := bind_some' ee
    obtain ⟨b, e3, ee⟩ := bind_some' ee
    cases ee
    refine (pe_callB call_isi (G.gl hg) (G.bl _ (by simp)) PyProof.Rows.boot_isinstance hE (by decide) (by decide) (star_cons hs) (star_plain rfl)).run pins s σ H Q I (tE_of S e1 fun v H1 p1 => ?_)
    obtain ⟨u, h1, h2⟩ := isTy_rule (K := X.K) G.xK (p1.op.read p1.stp.sim e2) e3 ho
    exact ⟨v, .ty (tyS t), u, _, b, rfl, .ty _, h1, h2, q _ _ (.imm p1.stp (by simp only [Rep]))⟩
  · cases h

/-! ### what stands in a slot is changed -/
section
variable {C : CV} {B : Fb} {ρ ρ' : Sl} {σ : L2.St} {H H' : Hp} {i : Nat} {d d' : D} {a : Addr} {u : HO}
theorem own_set (e : ρ[i]? = some (Slot.own d)) (b : Addr) : Own (ρ.set i (.own d')) σ b ↔ Own ρ σ b := by
  have hi : i < ρ.length := by
    rcases Nat.lt_or_ge i ρ.length with h | h
    · exact h
    · rw [List.getElem?_eq_none h] at e; cases e
  constructor
  · rintro ⟨j, d1, e1, e2⟩
    by_cases hj : i = j
    · subst hj; exact ⟨i, d, e, e2⟩
    · rw [List.getElem?_set_ne hj] at e1
      exact ⟨j, d1, e1, e2⟩
  · rintro ⟨j, d1, e1, e2⟩
    by_cases hj : i = j
    · subst hj; exact ⟨i, d', List.getElem?_set_self hi, e2⟩
    · exact ⟨j, d1, by rw [List.getElem?_set_ne hj]; exact e1, e2⟩
theorem Stp.write (S : Sim C B ρ σ H) (e : ρ[i]? = some (Slot.own d)) (ea : σ[i]? = some (some (V.ref a))) (hob : ∀ F : Fb, Mv (FF B ρ σ) F H (upd H a u) → Obj C F (upd H a u) a d') :
    Stp C np B ρ (ρ.set i (.own d')) σ H (upd H a u) := by
  have hi : i < ρ.length := by
    rcases Nat.lt_or_ge i ρ.length with h | h
    · exact h
    · rw [List.getElem?_eq_none h] at e; cases e
  have hown : Own ρ σ a := ⟨i, d, e, ea⟩
  have ne : ∀ b, ¬ Own ρ σ b → b ≠ a := fun b n z => n (by rw [z]; exact hown)
  have m : Mv (FF B ρ σ) (FF B (ρ.set i (.own d')) σ) H (upd H a u) := fun b o n eo => by
    refine ⟨by rw [upd_ne (ne b fun z => n (.inr z))]; exact eo, fun z => ?_⟩
    rcases z with z | z
    · exact n (.inl z)
    · exact n (.inr ((own_set e b).mp z))
  have dm : ∀ b o, H b = some o → ∃ o', upd H a u b = some o' := fun b o eo => by
    by_cases hb : b = a
    · subst hb; exact ⟨u, upd_same⟩
    · exact ⟨o, by rw [upd_ne hb]; exact eo⟩
  have nown : ∀ (j : Nat) (d1 : D), (ρ.set i (.own d'))[j]? = some (Slot.own d1) → ∃ d2, ρ[j]? = some (Slot.own d2) := fun j d1 e1 => by
    by_cases hj : i = j
    · subst hj; exact ⟨d, e⟩
    · rw [List.getElem?_set_ne hj] at e1; exact ⟨d1, e1⟩
  refine ⟨fun b o n eo => by rw [upd_ne (ne b n)]; exact eo, dm, nown, fun j _ d1 e1 => ?_, by rw [List.length_set], ⟨by rw [List.length_set]; exact S.len, fun b h => let ⟨o, eo⟩ := S.dom b h; dm b o eo, fun j d1 e1 => ?_, fun j d1 e1 => ?_, fun j k d1 d2 b e1 e2 e3 e4 => ?_⟩⟩
  · by_cases hj : i = j
    · subst hj; exact ⟨d', List.getElem?_set_self hi⟩
    · exact ⟨d1, by rw [List.getElem?_set_ne hj]; exact e1⟩
  · by_cases hj : i = j
    · subst hj; rw [List.getElem?_set_self hi] at e1; cases e1
    · rw [List.getElem?_set_ne hj] at e1
      obtain ⟨v, e2, r⟩ := S.val j d1 e1
      exact ⟨v, e2, Rep.mv m d1 v r⟩
  · by_cases hj : i = j
    · subst hj
      rw [List.getElem?_set_self hi] at e1
      cases e1
      obtain ⟨b, e2, nb, ob⟩ := S.own i d e
      rw [ea] at e2; cases e2
      exact ⟨a, ea, nb, hob _ m⟩
    · rw [List.getElem?_set_ne hj] at e1
      obtain ⟨b, e2, nb, ob⟩ := S.own j d1 e1
      refine ⟨b, e2, nb, ob.mv m fun o eo => ?_⟩
      rw [upd_ne (fun z => hj (S.inj i j d d1 a e e1 ea (by rw [← z]; exact e2)))]
      exact eo
  · have q1 : ∃ x, ρ[j]? = some (Slot.own x) := by
      by_cases hj : i = j
      · subst hj; exact ⟨d, e⟩
      · rw [List.getElem?_set_ne hj] at e1; exact ⟨_, e1⟩
    have q2 : ∃ x, ρ[k]? = some (Slot.own x) := by
      by_cases hk : i = k
      · subst hk; exact ⟨d, e⟩
      · rw [List.getElem?_set_ne hk] at e2; exact ⟨_, e2⟩
    obtain ⟨x, q1⟩ := q1
    obtain ⟨y, q2⟩ := q2
    exact S.inj j k x y b q1 q2 e3 e4
/-- what stood in the heap at the holder of nothing of one's own is kept by such a write -/
theorem Rep.write {v : V} {x : D} (S : Sim C B ρ σ H) (e : ρ[i]? = some (Slot.own d)) (ea : σ[i]? = some (some (V.ref a))) (r : Rep C (FF B ρ σ) H v x) : Rep C (FF B (ρ.set i (.own d')) σ) (upd H a u) v x :=
  Rep.mv (fun b o n eo => ⟨by rw [upd_ne (fun z => n (.inr (by rw [z]; exact ⟨i, d, e, ea⟩)))]; exact eo, fun z => n (z.elim .inl fun w => .inr ((own_set e b).mp w))⟩) x v r
end
theorem m1_of {o : Expr} {m : Str} {ap : Pos} {e : Expr} {cp : Pos} (hb : nBase o = true) (hl : (ap.endLine == cp.line) = true) (hs : nStar e = true) : M1 X o m ap e cp where
  base := base_of hb
  few := by
    rw [star_few (by simp [hs])]
    rfl
  line := hl
  trees := by rw [star_cons hs]; rfl
theorem m2_of {o : Expr} {m : Str} {ap : Pos} {e f : Expr} {cp : Pos} (hb : nBase o = true) (hl : (ap.endLine == cp.line) = true) (hs : nStar e = true) (hs2 : nStar f = true) : M2 X o m ap e f cp where
  base := base_of hb
  few := by
    rw [star_few (by simp [hs, hs2])]
    rfl
  line := hl
  trees := by rw [star_cons hs, star_cons hs2]; rfl
end Iv
/-! Iv, part J: methods, dict displays. -/
namespace Iv
open PySem PySem.Spec PyProof.Rows L2
variable {T : Tab} {n : Nat} {N : List Str} {sc : Scope} {fb : Str → Bool} {X : Cx} {np : Nat} {call : CallF}

def HEs (T : Tab) (np : Nat) (call : CallF) (N : List Str) (sc : Scope) (X : Cx) : Es → Prop
  | .nil => True
  | .cons e r => HE T np call N sc X e ∧ HEs T np call N sc X r
theorem evs1 {e : E} {ρ ρ' : Sl} {os : List Opd} (h : evs np call (.cons e .nil) ρ = some (os, ρ')) : ∃ o, ev np call e ρ = some (o, ρ') ∧ os = [o] := by
  simp only [evs] at h
  obtain ⟨⟨o1, ρ1⟩, e1, h⟩ := bind_some' h
  obtain ⟨⟨os1, ρ2⟩, e2, h⟩ := bind_some' h
  cases e2; cases h
  exact ⟨o1, e1, rfl⟩
theorem evs2 {e f : E} {ρ ρ' : Sl} {os : List Opd} (h : evs np call (.cons e (.cons f .nil)) ρ = some (os, ρ')) : ∃ o ρ1 o', ev np call e ρ = some (o, ρ1) ∧ ev np call f ρ1 = some (o', ρ') ∧ os = [o, o'] := by
  simp only [evs] at h
  obtain ⟨⟨o1, ρ1⟩, e1, h⟩ := bind_some' h
  obtain ⟨⟨os1, ρ2⟩, e2, h⟩ := bind_some' h
  obtain ⟨⟨o2, ρ3⟩, e3, e2⟩ := bind_some' e2
  obtain ⟨⟨os3, ρ4⟩, e4, e2⟩ := bind_some' e2
  cases e4; cases e2; cases h
  exact ⟨o1, ρ1, o2, e1, e3, rfl⟩
theorem imms1 {o : Opd} {d : D} (h : imms [o] = some [d]) : ∃ f, o = .imm f d := by
  cases o with
  | slot i => simp [imms] at h
  | imm f d' => simp [imms] at h; exact ⟨f, by rw [h]⟩
theorem imms2 {o o' : Opd} {d d' : D} (h : imms [o, o'] = some [d, d']) : (∃ f, o = .imm f d) ∧ ∃ f, o' = .imm f d' := by
  cases o with
  | slot i => simp [imms] at h
  | imm f e =>
    cases o' with
    | slot i => simp [imms] at h
    | imm g e' => simp [imms] at h; exact ⟨⟨f, by rw [h.1]⟩, g, by rw [h.2]⟩
theorem imms_len : ∀ {os : List Opd} {ds : List D}, imms os = some ds → os.length = ds.length
  | [], ds, h => by simp [imms] at h; subst h; rfl
  | .slot _ :: _, _, h => by simp [imms] at h
  | .imm f d :: os, ds, h => by
    simp only [imms] at h
    obtain ⟨ds', e, h⟩ := bind_some' h
    cases h
    simp [imms_len e]
theorem es_len1 {es : Es} (h : es.len = 1) : ∃ e, es = .cons e .nil := by
  cases es with
  | nil => simp [Es.len] at h
  | cons e r => cases r with
    | nil => exact ⟨e, rfl⟩
    | cons _ _ => simp [Es.len] at h
theorem es_len2 {es : Es} (h : es.len = 2) : ∃ e f, es = .cons e (.cons f .nil) := by
  cases es with
  | nil => simp [Es.len] at h
  | cons e r => cases r with
    | nil => simp [Es.len] at h
    | cons f r => cases r with
      | nil => exact ⟨e, f, rfl⟩
      | cons _ _ => simp [Es.len] at h
theorem es_len0 {es : Es} (h : es.len = 0) : es = .nil := by
  cases es with
  | nil => rfl
  | cons e r => simp [Es.len] at h
theorem isD_of {C : CV} {F : Fb} {H : Hp} {v : V} {d : D} (h : RepT C F H v d) (e : tyOf d = some .dict) : ∃ a, v = .ref a ∧ IsD H a := by
  cases d <;> simp only [tyOf] at e <;> try (cases e; done)
  obtain ⟨a, xs, rfl, q, _⟩ := h.dct
  exact ⟨a, rfl, .inl ⟨xs, .inl q⟩⟩
theorem chks1 {fns : List Fn} {e : E} {xs : List Expr} (h : chks N fns sc (.cons e .nil) xs = true) : ∃ x, xs = [x] ∧ chk N fns sc e x = true ∧ nStar x = true := by
  cases xs with
  | nil => simp [chks] at h
  | cons x xs =>
    simp only [chks, Bool.and_eq_true, List.isEmpty_iff] at h
    exact ⟨x, by rw [h.2], h.1.1, h.1.2⟩
theorem chks2 {fns : List Fn} {e f : E} {xs : List Expr} (h : chks N fns sc (.cons e (.cons f .nil)) xs = true) : ∃ x y, xs = [x, y] ∧ chk N fns sc e x = true ∧ nStar x = true ∧ chk N fns sc f y = true ∧ nStar y = true := by
  cases xs with
  | nil => simp [chks] at h
  | cons x xs =>
    cases xs with
    | nil => simp [chks] at h
    | cons y xs =>
      simp only [chks, Bool.and_eq_true, List.isEmpty_iff] at h
      exact ⟨x, y, by rw [h.2.2], h.1.1, h.1.2, h.2.1.1, h.2.1.2⟩
theorem chks0 {fns : List Fn} {xs : List Expr} (h : chks N fns sc .nil xs = true) : xs = [] := by
  simpa [chks] using h
theorem inv_mth {m : MF} {o : E} {es : Es} {ρ ρ' : Sl} {oo : Opd} (e : ev np call (.mth m o es) ρ = some (oo, ρ')) : ∃ o1 ρ1 d0 os d1 ds r, ev np call o ρ = some (o1, ρ1) ∧ deref ρ1 o1 = some d0 ∧ evs np call es ρ1 = some (os, ρ') ∧
    deref ρ' o1 = some d1 ∧ imms os = some ds ∧ tyOf d0 = tyOf d1 ∧ mthop m d1 ds = some r ∧ oo = .imm false r := by
  simp only [ev] at e
  obtain ⟨⟨o1, ρ1⟩, e1, e⟩ := bind_some' e
  obtain ⟨d0, e2, e⟩ := bind_some' e
  obtain ⟨⟨os, ρ2⟩, e3, e⟩ := bind_some' e
  obtain ⟨d1, e4, e⟩ := bind_some' e
  obtain ⟨ds, e5, e⟩ := bind_some' e
  split at e
  · rename_i hty
    obtain ⟨r, e6, e⟩ := bind_some' e
    cases e
    exact ⟨o1, ρ1, d0, os, d1, ds, r, e1, e2, e3, e4, e5, hty, e6, rfl⟩
  · cases e
theorem inv_mut {m : MM} {i : Nat} {es : Es} {ρ ρ' : Sl} {oo : Opd} (e : ev np call (.mut m i es) ρ = some (oo, ρ')) : ∃ d0 os ρ1 ds d r d', ρ[i]? = some (Slot.own d0) ∧ evs np call es ρ = some (os, ρ1) ∧ imms os = some ds ∧
    ρ1[i]? = some (Slot.own d) ∧ tyOf d0 = tyOf d ∧ mutop m d ds = some (r, d') ∧ oo = .imm false r ∧ ρ' = ρ1.set i (.own d') := by
  simp only [ev] at e
  split at e
  · rename_i d0 e0
    obtain ⟨⟨os, ρ1⟩, e3, e⟩ := bind_some' e
    obtain ⟨ds, e5, e⟩ := bind_some' e
    split at e
    · rename_i d e4
      split at e
      · rename_i hty
        obtain ⟨⟨r, d'⟩, e6, e⟩ := bind_some' e
        cases e
        exact ⟨d0, os, ρ1, ds, d, r, d', e0, e3, e5, e4, hty, e6, rfl, rfl⟩
      · cases e
    · cases e
  · cases e
theorem e_mth {m : MF} {o : E} {es : Es} (G : Good T n N sc fb X) (ho : HE T np call N sc X o) (he : HEs T np call N sc X es) : HE T np call N sc X (.mth m o es) := by
  intro ast h
  simp only [chk] at h
  split at h
  · rename_i x g p xs pos
    simp only [Bool.and_eq_true] at h
    obtain ⟨⟨⟨⟨⟨hn, hl⟩, hx⟩, hb⟩, hxs⟩, _⟩ := h
    have hu : X.A.units + 1 < cLine := by have := G.room.un; omega
    refine ⟨fun pins s σ H Q I hq => ?_⟩
    obtain ⟨B, ρ, oo, ρ', S, e, q⟩ := hq
    obtain ⟨o1, ρ1, d0, os, d1, ds, r, e1, e2, e3, e4, e5, hty, e6, rfl⟩ := inv_mth e
    clear e
    have hlen := (imms_len e5).symm.trans (evs_len e3)
    unfold mthop at e6
    split at e6
    · rename_i kvs k
      simp only [Option.map_eq_some_iff] at e6
      obtain ⟨key, e7, rfl⟩ := e6
      obtain ⟨e', rfl⟩ := es_len1 hlen.symm
      obtain ⟨y, rfl, hy, hs⟩ := chks1 hxs
      obtain ⟨o2, e8, rfl⟩ := evs1 e3
      obtain ⟨f, rfl⟩ := imms1 e5
      obtain rfl := of_decide_eq_true hn
      refine (pe_dget1 hu (ho x hx) (he.1 y hy) (m1_of hb hl hs)).run pins s σ H Q I (tE_of S e1 fun v H1 p1 => ?_)
      obtain ⟨a, rfl, hd⟩ := isD_of (p1.op.read p1.stp.sim e2) hty
      refine ⟨a, rfl, hd, tE_of p1.stp.sim e8 fun w H2 p2 => ?_⟩
      have st := p1.stp.trans p2.stp
      obtain ⟨a', us, ea, q1, r1⟩ := ((p1.op.next p2.stp).read st.sim e4).dct
      cases ea
      obtain ⟨ov, g, h1, h2, h3⟩ := keyOf_vv key (.inl q1) r1
      refine ⟨ov, by rw [keyOf_v (.inl p2.weak) e7]; exact g, q _ _ (.imm st ?_)⟩
      cases e9 : getK kvs key with
      | none => rw [h3 e9]; simp only [Option.getD_none, Rep]
      | some d =>
        obtain ⟨w', rfl, rw'⟩ := h2 d e9
        exact rw'
    · rename_i kvs k dflt
      simp only [Option.map_eq_some_iff] at e6
      obtain ⟨key, e7, rfl⟩ := e6
      obtain ⟨e', e'', rfl⟩ := es_len2 hlen.symm
      obtain ⟨y, z, rfl, hy, hs, hz, hs2⟩ := chks2 hxs
      obtain ⟨o2, ρ3, o3, e8, e9, rfl⟩ := evs2 e3
      obtain ⟨⟨f, rfl⟩, f', rfl⟩ := imms2 e5
      obtain rfl := of_decide_eq_true hn
      refine (pe_dget2 hu (ho x hx) (he.1 y hy) (he.2.1 z hz) (m2_of hb hl hs hs2)).run pins s σ H Q I (tE_of S e1 fun v H1 p1 => ?_)
      obtain ⟨a, rfl, hd⟩ := isD_of (p1.op.read p1.stp.sim e2) hty
      refine ⟨a, rfl, hd, tE_of p1.stp.sim e8 fun w H2 p2 => tE_of p2.stp.sim e9 fun w2 H3 p3 => ?_⟩
      have st23 := p2.stp.trans p3.stp
      have st := p1.stp.trans st23
      obtain ⟨a', us, ea, q1, r1⟩ := ((p1.op.next st23).read st.sim e4).dct
      cases ea
      obtain ⟨ov, g, h1, h2, h3⟩ := keyOf_vv key (.inl q1) r1
      refine ⟨ov, by rw [keyOf_v (.inl (Rep.mv p3.stp.mv _ _ p2.weak)) e7]; exact g, q _ _ (.imm st ?_)⟩
      cases e10 : getK kvs key with
      | none => rw [h3 e10]; exact p3.weak
      | some d =>
        obtain ⟨w', rfl, rw'⟩ := h2 d e10
        exact rw'
    · cases e6
  · cases h
theorem s_tv {d : D} {a : Addr} {C : CV} {F : Fb} {H : Hp} {K : PySem.W.Frag} (ob : Obj C F H a d) (e : tyOf d = some .list) : tyV K "list" (.ref a) H := by
  cases d <;> simp only [tyOf] at e <;> try (cases e; done)
  all_goals first | exact ob.elim | skip
  obtain ⟨xs, q, _⟩ := ob
  exact .inl ⟨rfl, xs, .of q⟩
theorem e_mut {m : MM} {i : Nat} {es : Es} (G : Good T n N sc fb X) (ha : HA T np call N sc X es) (he : HEs T np call N sc X es) : HE T np call N sc X (.mut m i es) := by
  intro ast h
  simp only [chk] at h
  split at h
  · rename_i x p0 g p xs pos
    simp only [Bool.and_eq_true] at h
    obtain ⟨⟨⟨⟨⟨⟨hn, hl⟩, h1⟩, h2⟩, h3⟩, hxs⟩, hfew⟩ := h
    have hv : PE X (.Name x p0) (tVar i) := s_var G h1 h2 h3
    have hb : nBase (.Name x p0) = true := rfl
    refine ⟨fun pins s σ H Q I hq => ?_⟩
    obtain ⟨B, ρ, oo, ρ', S, e, q⟩ := hq
    obtain ⟨d0, os, ρ1, ds, d, r, d', e0, e3, e5, e4, hty, e6, rfl, rfl⟩ := inv_mut e
    clear e
    have hlen := (imms_len e5).symm.trans (evs_len e3)
    obtain ⟨a, ea, nb, ob⟩ := S.own i d0 e0
    -- a list's method
    have lst : ∀ {id : String} {r3 : V → List V → Hp → VK → Prop} {y : Expr} {ys : List Expr}, xs = y :: ys → tyOf d0 = some .list → PySem.Slot "list" g id → typeOf (.builtin id) = pure (.type "method_descriptor") → MtM X id r3 →
        (∀ vs H1, Stp T.C np B ρ ρ1 σ H H1 → Reps T.C (FF B ρ1 σ) H1 vs ds → Obj T.C (FF B ρ1 σ) H1 a d → r3 (.ref a) vs H1 Q) → wpAny (model X.prog X.w) X.A (eval (.Call (.Attribute (.Name x p0) g p) xs [] pos) X.env) (EP X pins σ Q) X.xe s := by
      intro id r3 y ys exs ht sl ty mt hr
      subst exs
      have hs := chks_star hxs
      rw [List.all_cons, Bool.and_eq_true] at hs
      refine (pe_bm PySem.F.plainAttrs_list sl ty mt hv (ha _ hxs) (base_of hb) ?_ hl (star_cons hs.1) (star_plain hs.2)).run pins s σ H Q I ⟨.ref a, ea, s_tv ob ht, B, ρ, os, ρ1, S, e3, fun vs H1 pA => ?_⟩
      · rw [star_few (by rw [List.all_cons, hs.1, hs.2]; rfl)]
        simp only [keywordEach, backToKw, List.map_nil, List.all_nil, Bool.true_and, decide_eq_true_eq, List.length_nil, List.isEmpty_nil, if_true] at hfew ⊢
        omega
      · obtain ⟨a', ea', _, ob'⟩ := pA.stp.sim.own i d e4
        rw [ea] at ea'; cases ea'
        exact hr vs H1 pA.stp (PostA.imms e5 pA.len pA.op) ob'
    unfold mutop at e6
    split at e6
    · rename_i xs' y'
      split at e6
      · rename_i hz
        cases e6
        obtain rfl := of_decide_eq_true hn
        obtain ⟨e', rfl⟩ := es_len1 hlen.symm
        obtain ⟨y, rfl, hy, hs⟩ := chks1 hxs
        refine lst rfl hty PySem.F.slot_list_append PySem.F.type_list_append mt_append fun vs H1 st rv ob1 => ?_
        obtain ⟨us, q1, r1⟩ := ob1
        match vs, rv with
        | [w], rv =>
          simp only [Reps] at rv
          refine ⟨a, us, w, rfl, rfl, q1, by rw [r1.len]; exact hz, q _ _ (.imm (st.trans (Stp.write st.sim e4 ea fun F m => ⟨_, upd_same, (Reps.mv m _ _ r1).app ?_⟩)) (by simp only [Rep]))⟩
          simp only [Reps]
          exact ⟨Rep.mv m _ _ rv.1, trivial⟩
      · cases e6
    · rename_i xs'
      simp only [Option.map_eq_some_iff] at e6
      obtain ⟨y', e7, e8⟩ := e6
      cases e8
      obtain rfl := of_decide_eq_true hn
      have := es_len0 hlen.symm
      subst this
      have := chks0 hxs
      subst this
      refine (pe_bm0 PySem.F.plainAttrs_list PySem.F.slot_list_pop PySem.F.type_list_pop mt_pop hv (base_of hb) hl).run pins s σ H Q I ⟨.ref a, ea, s_tv ob hty, ?_⟩
      simp only [evs] at e3
      cases e3
      rw [e0] at e4; cases e4
      obtain ⟨us, q1, r1⟩ := ob
      obtain ⟨w, e8, r2⟩ := r1.get e7
      exact ⟨a, us, w, rfl, rfl, q1, by rw [r1.len]; exact e8, q _ _ (.imm (Stp.write S e0 ea fun F m => ⟨_, upd_same, Reps.mv m _ _ r1.dropLast⟩) (Rep.write S e0 ea r2))⟩
    · rename_i xs' j
      split at e6
      · rename_i hj
        obtain ⟨k, e7, e6⟩ := bind_some' e6
        simp only [Option.map_eq_some_iff] at e6
        obtain ⟨y', e8, e9⟩ := e6
        cases e9
        obtain rfl := of_decide_eq_true hn
        obtain ⟨e', rfl⟩ := es_len1 hlen.symm
        obtain ⟨y, rfl, hy, hs⟩ := chks1 hxs
        refine lst rfl hty PySem.F.slot_list_pop PySem.F.type_list_pop mt_popAt fun vs H1 st rv ob1 => ?_
        obtain ⟨us, q1, r1⟩ := ob1
        match vs, rv with
        | [w], rv =>
          simp only [Reps, Rep] at rv
          obtain ⟨rfl, _⟩ := rv
          obtain ⟨w, e10, r2⟩ := r1.get e8
          exact ⟨a, us, j, k, w, rfl, rfl, q1, hj.1, hj.2, by rw [r1.len]; exact (ixN_seq e7).1, e10, q _ _ (.imm (st.trans (Stp.write st.sim e4 ea fun F m => ⟨_, upd_same, Reps.mv m _ _ (r1.erase k)⟩)) (Rep.write st.sim e4 ea r2))⟩
      · cases e6
    · rename_i kvs k dflt
      obtain ⟨key, e7, e6⟩ := bind_some' e6
      obtain rfl := of_decide_eq_true hn
      obtain ⟨e', e'', rfl⟩ := es_len2 hlen.symm
      obtain ⟨y, z, rfl, hy, hs, hz, hs2⟩ := chks2 hxs
      obtain ⟨o2, ρ3, o3, e8, e9, rfl⟩ := evs2 e3
      obtain ⟨⟨f, rfl⟩, f', rfl⟩ := imms2 e5
      refine (pe_dsetd hv (he.1 y hy) (he.2.1 z hz) (m2_of hb hl hs hs2)).run pins s σ H Q I ⟨.ref a, ea, a, rfl, ?_, tE_of S e8 fun w H2 p2 => tE_of p2.stp.sim e9 fun w2 H3 p3 => ?_⟩
      · obtain ⟨a', e10, h10⟩ := isD_of (.inr ⟨a, rfl, ob⟩) hty
        cases e10; exact h10
      · have st := p2.stp.trans p3.stp
        obtain ⟨a', ea', _, ob'⟩ := st.sim.own i _ e4
        rw [ea] at ea'; cases ea'
        obtain ⟨us, q1, r1⟩ := ob'
        have hk := keyOf_v (.inl (Rep.mv p3.stp.mv _ _ p2.weak) : RepT T.C _ _ _ _) e7
        have hz' : kvs.length < sizeLine ∧ (∀ e, getK kvs key = some e → r = e ∧ d' = .dct kvs) ∧ (getK kvs key = none → r = dflt ∧ d' = .dct (putK kvs key dflt)) := by
          split at e6
          · rename_i e10 e11
            split at e6
            · cases e6
              exact ⟨by assumption, fun e e12 => (by rw [e11] at e12; cases e12; exact ⟨rfl, rfl⟩), fun e12 => by rw [e11] at e12; cases e12⟩
            · cases e6
          · rename_i e11
            split at e6
            · cases e6
              exact ⟨by assumption, fun e e12 => (by rw [e11] at e12; cases e12), fun _ => ⟨rfl, rfl⟩⟩
            · cases e6
        refine ⟨us, key, q1, hk, by rw [r1.len]; exact hz'.1, fun w3 ew => ?_, fun ew => ?_⟩
        · rcases r1.get key with ⟨v1, d1, f1, f2, f3⟩ | ⟨f1, f2⟩
          · rw [ew] at f1; cases f1
            obtain ⟨rfl, rfl⟩ := hz'.2.1 d1 f2
            have e9' : ρ1.set i (.own (.dct kvs)) = ρ1 := by
              refine List.ext_getElem? fun jj => ?_
              by_cases hj : i = jj
              · subst hj
                have hi : i < ρ1.length := by
                  rcases Nat.lt_or_ge i ρ1.length with h | h
                  · exact h
                  · rw [List.getElem?_eq_none h] at e4; cases e4
                rw [List.getElem?_set_self hi, e4]
              · rw [List.getElem?_set_ne hj]
            rw [e9'] at q
            exact q _ _ (.imm st f3)
          · rw [ew] at f1; cases f1
        · rcases r1.get key with ⟨v1, d1, f1, f2, f3⟩ | ⟨f1, f2⟩
          · rw [ew] at f1; cases f1
          · obtain ⟨rfl, rfl⟩ := hz'.2.2 f2
            exact q _ _ (.imm (st.trans (Stp.write st.sim e4 ea fun F m => ⟨_, upd_same, RepKs.put key (RepKs.mv m _ _ r1) (Rep.mv m _ _ p3.weak)⟩)) (Rep.write st.sim e4 ea p3.weak))
    · cases e6
  · cases h
end Iv
/-! Iv, part K: targets, what is walked. -/
namespace Iv
open PySem PySem.Spec PyProof.Rows L2
variable {T : Tab} {n : Nat} {N : List Str} {sc : Scope} {fb : Str → Bool} {X : Cx} {np : Nat} {call : CallF}

/-- from one state of a frame to a later one, names stored -/
structure StpS (C : CV) (np : Nat) (B : Fb) (ρ ρ' : Sl) (σ σ' : L2.St) (H H' : Hp) : Prop where
  chg : ∀ a o, ¬ Own ρ σ a → H a = some o → H' a = some o
  dom : ∀ a o, H a = some o → ∃ o', H' a = some o'
  own : ∀ a, Own ρ' σ' a → Own ρ σ a ∨ H a = none
  keep : ∀ (i : Nat), i < np → ∀ d : D, ρ[i]? = some (Slot.own d) → (∃ d', ρ'[i]? = some (Slot.own d')) ∧ σ'[i]? = σ[i]?
  len : ρ'.length = ρ.length
  sim : Sim C B ρ' σ' H'
section
variable {C : CV} {B : Fb} {ρ ρ1 ρ2 ρ' : Sl} {σ σ1 σ2 σ' : L2.St} {H H1 H2 H' : Hp}
theorem Stp.s (t : Stp C np B ρ ρ' σ H H') : StpS C np B ρ ρ' σ σ H H' := ⟨t.chg, t.dom, fun a h => .inl (t.own a h), fun i hi d e => ⟨t.keep i hi d e, rfl⟩, t.len, t.sim⟩
theorem StpS.refl (S : Sim C B ρ σ H) : StpS C np B ρ ρ σ σ H H := (Stp.refl (np := np) S).s
theorem StpS.trans (s : StpS C np B ρ ρ1 σ σ1 H H1) (t : StpS C np B ρ1 ρ2 σ1 σ2 H1 H2) : StpS C np B ρ ρ2 σ σ2 H H2 where
  chg := fun a o h e => t.chg a o (fun z => (s.own a z).elim h fun w => by rw [e] at w; cases w) (s.chg a o h e)
  dom := fun a o e => let ⟨o1, e1⟩ := s.dom a o e; t.dom a o1 e1
  own := fun a h => (t.own a h).elim (s.own a) fun w => .inr (by
    cases e : H a with
    | none => rfl
    | some o => obtain ⟨o1, e1⟩ := s.dom a o e; rw [w] at e1; cases e1)
  keep := fun i hi d e => by
    obtain ⟨⟨d1, e1⟩, q1⟩ := s.keep i hi d e
    obtain ⟨e2, q2⟩ := t.keep i hi d1 e1
    exact ⟨e2, q2.trans q1⟩
  len := t.len.trans s.len
  sim := t.sim
theorem StpS.mv (t : StpS C np B ρ ρ1 σ σ1 H H1) : Mv (FF B ρ σ) (FF B ρ1 σ1) H H1 := fun a o h e =>
  ⟨t.chg a o (fun z => h (.inr z)) e, fun z => z.elim (fun w => h (.inl w)) fun w => (t.own a w).elim (fun y => h (.inr y)) fun y => by rw [e] at y; cases y⟩

theorem lt_of_get {α : Type} {l : List α} {i : Nat} {x : α} (e : l[i]? = some x) : i < l.length := by
  rcases Nat.lt_or_ge i l.length with h | h
  · exact h
  · rw [List.getElem?_eq_none h] at e; cases e
/-- a value is stored under a name -/
theorem Sim.setVal {i : Nat} {v : V} {d : D} (S : Sim C B ρ σ H) (c : canSet np ρ i = true) (r : Rep C (FF B ρ σ) H v d) : StpS C np B ρ (ρ.set i (.val d)) σ (σ.set i (some v)) H H := by
  unfold canSet at c
  rw [Bool.and_eq_true] at c
  have hi : i < ρ.length := of_decide_eq_true c.1
  have hs : i < σ.length := by rw [← S.len]; exact hi
  have oth : ∀ (j : Nat) (d' : D), (ρ.set i (.val d))[j]? = some (Slot.own d') → i ≠ j ∧ ρ[j]? = some (Slot.own d') := fun j d' e => by
    by_cases hj : i = j
    · subst hj; rw [List.getElem?_set_self hi] at e; cases e
    · rw [List.getElem?_set_ne hj] at e; exact ⟨hj, e⟩
  have sub : ∀ a, Own (ρ.set i (.val d)) (σ.set i (some v)) a → Own ρ σ a := fun a ⟨j, d', e1, e2⟩ => by
    obtain ⟨hj, e3⟩ := oth j d' e1
    rw [List.getElem?_set_ne hj] at e2
    exact ⟨j, d', e3, e2⟩
  have m : Mv (FF B ρ σ) (FF B (ρ.set i (.val d)) (σ.set i (some v))) H H := mv_same fun a h => h.elim .inl fun w => .inr (sub a w)
  refine ⟨fun _ _ _ e => e, fun _ o e => ⟨o, e⟩, fun a h => .inl (sub a h), fun j hj d' e => ?_, by rw [List.length_set], ⟨by rw [List.length_set, List.length_set]; exact S.len, S.dom, fun j d' e => ?_, fun j d' e => ?_, fun j k d1 d2 a e1 e2 e3 e4 => ?_⟩⟩
  · have hij : i ≠ j := fun z => by
      subst z
      rw [e] at c
      simp only [Bool.or_eq_true, decide_eq_true_eq, Bool.false_eq_true, or_false] at c
      omega
    exact ⟨⟨d', by rw [List.getElem?_set_ne hij]; exact e⟩, by rw [List.getElem?_set_ne hij]⟩
  · by_cases hj : i = j
    · subst hj
      rw [List.getElem?_set_self hi] at e
      cases e
      exact ⟨v, List.getElem?_set_self hs, Rep.mv m d v r⟩
    · rw [List.getElem?_set_ne hj] at e
      obtain ⟨w, e1, r1⟩ := S.val j d' e
      exact ⟨w, by rw [List.getElem?_set_ne hj]; exact e1, Rep.mv m d' w r1⟩
  · obtain ⟨hj, e1⟩ := oth j d' e
    obtain ⟨a, e2, nb, ob⟩ := S.own j d' e1
    exact ⟨a, by rw [List.getElem?_set_ne hj]; exact e2, nb, ob.mv m fun o eo => eo⟩
  · obtain ⟨hj, e5⟩ := oth j d1 e1
    obtain ⟨hk, e6⟩ := oth k d2 e2
    rw [List.getElem?_set_ne hj] at e3
    rw [List.getElem?_set_ne hk] at e4
    exact S.inj j k d1 d2 a e5 e6 e3 e4
/-- .. one that was made just now -/
theorem Sim.setOwn {i : Nat} {p : Addr} {d : D} (S : Sim C (fun a => B a ∨ a = p) ρ σ H) (c : canSet np ρ i = true) (hb : ∀ a, B a → a ≠ p) (ob : Obj C (FF (fun a => B a ∨ a = p) ρ σ) H p d) :
    (∀ a, Own (ρ.set i (.own d)) (σ.set i (some (.ref p))) a → Own ρ σ a ∨ a = p) ∧
    (∀ (j : Nat), j < np → ∀ d' : D, ρ[j]? = some (Slot.own d') → (∃ d'', (ρ.set i (.own d))[j]? = some (Slot.own d'')) ∧ (σ.set i (some (.ref p)))[j]? = σ[j]?) ∧ Sim C B (ρ.set i (.own d)) (σ.set i (some (.ref p))) H := by
  unfold canSet at c
  rw [Bool.and_eq_true] at c
  have hi : i < ρ.length := of_decide_eq_true c.1
  have hs : i < σ.length := by rw [← S.len]; exact hi
  have sub : ∀ a, Own (ρ.set i (.own d)) (σ.set i (some (.ref p))) a → Own ρ σ a ∨ a = p := fun a ⟨j, d', e1, e2⟩ => by
    by_cases hj : i = j
    · subst hj
      rw [List.getElem?_set_self hs] at e2
      cases e2
      exact .inr rfl
    · rw [List.getElem?_set_ne hj] at e1 e2
      exact .inl ⟨j, d', e1, e2⟩
  have m : Mv (FF (fun a => B a ∨ a = p) ρ σ) (FF B (ρ.set i (.own d)) (σ.set i (some (.ref p)))) H H := mv_same fun a h => h.elim (fun w => .inl (.inl w)) fun w => (sub a w).elim .inr fun y => .inl (.inr y)
  have np' : ∀ (j : Nat) (d' : D), ρ[j]? = some (Slot.own d') → σ[j]? ≠ some (some (V.ref p)) := fun j d' e z => by
    obtain ⟨a, e1, nb, _⟩ := S.own j d' e
    rw [z] at e1; cases e1
    exact nb (.inr rfl)
  refine ⟨sub, fun j hj d' e => ?_, ⟨by rw [List.length_set, List.length_set]; exact S.len, fun a h => S.dom a (.inl h), fun j d' e => ?_, fun j d' e => ?_, fun j k d1 d2 a e1 e2 e3 e4 => ?_⟩⟩
  · have hij : i ≠ j := fun z => by
      subst z
      rw [e] at c
      simp only [Bool.or_eq_true, decide_eq_true_eq, Bool.false_eq_true, or_false] at c
      omega
    exact ⟨⟨d', by rw [List.getElem?_set_ne hij]; exact e⟩, by rw [List.getElem?_set_ne hij]⟩
  · by_cases hj : i = j
    · subst hj; rw [List.getElem?_set_self hi] at e; cases e
    · rw [List.getElem?_set_ne hj] at e
      obtain ⟨w, e1, r1⟩ := S.val j d' e
      exact ⟨w, by rw [List.getElem?_set_ne hj]; exact e1, Rep.mv m d' w r1⟩
  · by_cases hj : i = j
    · subst hj
      rw [List.getElem?_set_self hi] at e
      cases e
      exact ⟨p, List.getElem?_set_self hs, fun z => hb p z rfl, ob.mv m fun o eo => eo⟩
    · rw [List.getElem?_set_ne hj] at e
      obtain ⟨a, e2, nb, ob⟩ := S.own j d' e
      exact ⟨a, by rw [List.getElem?_set_ne hj]; exact e2, fun z => nb (.inl z), ob.mv m fun o eo => eo⟩
  · by_cases hj : i = j
    · subst hj
      rw [List.getElem?_set_self hs] at e3
      cases e3
      by_cases hk : i = k
      · exact hk
      · rw [List.getElem?_set_ne hk] at e2 e4
        exact absurd e4 (np' k d2 e2)
    · rw [List.getElem?_set_ne hj] at e1 e3
      by_cases hk : i = k
      · subst hk
        rw [List.getElem?_set_self hs] at e4
        cases e4
        exact absurd e3 (np' j d1 e1)
      · rw [List.getElem?_set_ne hk] at e2 e4
        exact S.inj j k d1 d2 a e1 e2 e3 e4
end

/-! ### targets -/
def gsOf : List Nat → TGs
  | [] => gNil
  | i :: is => gCons (gName i) (gsOf is)
def gOf (K : PySem.W.Frag) : Tg → TG
  | .v i => gName i
  | .w i => gName i
  | .t is => gTup K is.length (gsOf is)
  | .t2 i js => gTup K 2 (gCons (gName i) (gCons (gTup K js.length (gsOf js)) gNil))
theorem tgIs_name {fbb : Str → Bool} {i : Nat} {e : Expr} (h : tgIs N sc fbb i e = true) : ∃ x p, e = .Name x p ∧ N[i]? = some x ∧ loc sc fbb x = true := by
  cases e with
  | Name x p =>
    simp only [tgIs, Bool.and_eq_true] at h
    exact ⟨x, p, rfl, of_decide_eq_true h.1, h.2⟩
  | _ => simp [tgIs] at h
theorem pg_of {i : Nat} {e : Expr} (G : Good T n N sc fb X) (h : tgIs N sc fb i e = true) : PG X e (gName i) := by
  obtain ⟨x, p, rfl, h1, h2⟩ := tgIs_name h
  obtain ⟨l1, l2⟩ := loc_of h2
  exact pg_name (by rw [G.xN]; exact G.nd) (by rw [G.xN]; exact h1) (by rw [G.xsc]; exact l1) (by rw [G.xsc]; exact l2.elim (fun z => .inl (G.fb x z)) .inr)
theorem pgs_of (G : Good T n N sc fb X) : ∀ {is : List Nat} {es : List Expr}, tgsIs N sc fb is es = true → PGs X es (gsOf is) ∧ (assignEach es X.env).length = is.length ∧ (assignEach es X.env).findIdx? (·.1) = none
  | [], [], _ => ⟨pgs_nil, rfl, rfl⟩
  | [], _ :: _, h => by simp [tgsIs] at h
  | _ :: _, [], h => by simp [tgsIs] at h
  | i :: is, e :: es, h => by
    simp only [tgsIs, Bool.and_eq_true] at h
    obtain ⟨h1, h2, h3⟩ := pgs_of G h.2
    have hg := pg_of G h.1
    obtain ⟨x, p, rfl, _, _⟩ := tgIs_name h.1
    refine ⟨pgs_cons hg h1, ?_, ?_⟩
    · show (assignEach es X.env).length + 1 = _
      rw [h2]; rfl
    · show List.findIdx? (·.1) ((false, assign (Expr.Name x p) X.env) :: assignEach es X.env) = none
      rw [List.findIdx?_cons, h3]; rfl
theorem pg_tg {tg : Tg} {e : Expr} (G : Good T n N sc fb X) (h : chkTg N sc fb tg e = true) : PG X e (gOf X.K tg) := by
  cases tg with
  | v i => exact pg_of G (by simpa [chkTg] using h)
  | w i => exact pg_of G (by simpa [chkTg] using h)
  | t is =>
    cases e with
    | Tuple es k p =>
      obtain ⟨h1, h2, h3⟩ := pgs_of G (show tgsIs N sc fb is es = true by simpa [chkTg] using h)
      exact pg_tup G.calm h1 h2 h3
    | _ => simp [chkTg] at h
  | t2 i js =>
    unfold chkTg at h
    split at h <;> try (cases h; done)
    all_goals rename_i heq
    all_goals cases heq
    rename_i e es k2 p2 k p
    rw [Bool.and_eq_true] at h
    obtain ⟨h1, h2, h3⟩ := pgs_of G h.2
    have hg := pg_of G h.1
    obtain ⟨x, q, rfl, _, _⟩ := tgIs_name h.1
    exact pg_tup G.calm (pgs_cons hg (pgs_cons (pg_tup G.calm h1 h2 h3) pgs_nil)) rfl rfl
section
variable {C : CV} {B : Fb} {ρ ρ1 ρ2 ρ' : Sl} {σ σ1 σ2 σ' : L2.St} {H H1 H2 H' : Hp}
/-- which slots a store may change -/
def Only (is : List Nat) (σ σ' : L2.St) : Prop := ∀ j : Nat, j ∉ is → σ'[j]? = σ[j]?
theorem gs_read {Q : L2.St → Hp → Prop} : ∀ {is : List Nat} {ds : List D} {xs : List V} {ρ ρ' : Sl} {σ : L2.St}, Sim C B ρ σ H → Reps C (FF B ρ σ) H xs ds → setVs np ρ is ds = some ρ' → (∀ σ', StpS C np B ρ ρ' σ σ' H H → Only is σ σ' → Q σ' H) → gsOf is xs σ H Q
  | [], [], [], ρ, ρ', σ, S, _, e, q => by
    simp only [setVs] at e
    cases e
    exact ⟨rfl, q σ (.refl S) fun _ _ => rfl⟩
  | [], [], _ :: _, _, _, _, _, h, _, _ => by simp only [Reps] at h
  | [], _ :: _, _, _, _, _, _, _, e, _ => by simp only [setVs] at e; cases e
  | _ :: _, [], _, _, _, _, _, _, e, _ => by simp only [setVs] at e; cases e
  | _ :: _, _ :: _, [], _, _, _, _, h, _, _ => by simp only [Reps] at h
  | i :: is, d :: ds, x :: xs, ρ, ρ', σ, S, h, e, q => by
    simp only [Reps] at h
    simp only [setVs] at e
    obtain ⟨ρ1, e1, e⟩ := bind_some' e
    unfold setV at e1
    split at e1
    · rename_i hc
      cases e1
      have s1 := S.setVal hc h.1
      refine ⟨x, xs, rfl, gs_read s1.sim (Reps.mv s1.mv ds xs h.2) e fun σ' s2 o2 => q σ' (s1.trans s2) fun j hj => ?_⟩
      rw [o2 j (fun z => hj (List.mem_cons_of_mem _ z)), List.getElem?_set_ne (fun z => hj (by rw [z]; exact List.mem_cons_self))]
    · cases e1
theorem setVs_len : ∀ {is : List Nat} {ds : List D} {ρ ρ' : Sl}, setVs np ρ is ds = some ρ' → is.length = ds.length
  | [], [], _, _, _ => rfl
  | [], _ :: _, _, _, e => by simp only [setVs] at e; cases e
  | _ :: _, [], _, _, e => by simp only [setVs] at e; cases e
  | i :: is, d :: ds, ρ, ρ', e => by
    simp only [setVs] at e
    obtain ⟨ρ1, e1, e⟩ := bind_some' e
    simp [setVs_len e]
theorem Reps2 {F : Fb} {xs : List V} {d e : D} (h : Reps C F H xs [d, e]) : ∃ x y, xs = [x, y] ∧ Rep C F H x d ∧ Rep C F H y e := by
  cases xs with
  | nil => simp only [Reps] at h
  | cons x xs =>
    simp only [Reps] at h
    cases xs with
    | nil => exact h.2.elim
    | cons y xs =>
      cases xs with
      | nil => exact ⟨x, y, rfl, h.1, h.2.1⟩
      | cons z xs => exact h.2.2.elim
theorem g_read {Q : L2.St → Hp → Prop} {tg : Tg} {d : D} {v : V} (S : Sim C B ρ σ H) (r : Rep C (FF B ρ σ) H v d) (e : asgTg np tg d ρ = some ρ') (q : ∀ σ', StpS C np B ρ ρ' σ σ' H H → Only (tgSlots tg) σ σ' → Q σ' H) : gOf C.1 tg v σ H Q := by
  unfold asgTg at e
  split at e
  · rename_i i d
    unfold setV at e
    split at e
    · rename_i hc
      cases e
      exact q _ (S.setVal hc r) fun j hj => List.getElem?_set_ne (fun z => hj (by simp [tgSlots, z]))
    · cases e
  · rename_i i d
    unfold setV at e
    split at e
    · rename_i hc
      cases e
      exact q _ (S.setVal hc r) fun j hj => List.getElem?_set_ne (fun z => hj (by simp [tgSlots, z]))
    · cases e
  · rename_i is ds
    obtain ⟨a, xs, rfl, t, rs⟩ := (RepT.tup (.inl r))
    exact ⟨a, xs, rfl, t, by rw [rs.len, setVs_len e], gs_read S rs e q⟩
  · rename_i i js d ds
    obtain ⟨ρ1, e1, e⟩ := bind_some' e
    unfold setV at e1
    split at e1
    · rename_i hc
      obtain rfl := Option.some.inj e1
      obtain ⟨a, xs, rfl, t, rs⟩ := (RepT.tup (.inl r))
      · obtain ⟨x, y, rfl, rx, ry⟩ := Reps2 rs
        have s1 := S.setVal hc rx
        obtain ⟨b, ys, rfl, t2, rs2⟩ := (RepT.tup (.inl (Rep.mv s1.mv _ _ ry)))
        refine ⟨a, [x, .ref b], rfl, t, rfl, x, [.ref b], rfl, .ref b, [], rfl, ⟨b, ys, rfl, t2, by rw [rs2.len, setVs_len e], gs_read s1.sim rs2 e fun σ' s2 o2 => ⟨rfl, q σ' (s1.trans s2) fun j hj => ?_⟩⟩⟩
        rw [o2 j (fun z => hj (by simp [tgSlots, z])), List.getElem?_set_ne (fun z => hj (by simp [tgSlots, z]))]
    · cases e1
  · rename_i is ds
    obtain ⟨a, xs, rfl, t, rs⟩ := (RepT.prt (.inl r))
    exact ⟨a, xs, rfl, t, by rw [rs.len, setVs_len e], gs_read S rs e q⟩
  · rename_i i js d ds
    obtain ⟨ρ1, e1, e⟩ := bind_some' e
    unfold setV at e1
    split at e1
    · rename_i hc
      obtain rfl := Option.some.inj e1
      obtain ⟨a, xs, rfl, t, rs⟩ := (RepT.prt (.inl r))
      · obtain ⟨x, y, rfl, rx, ry⟩ := Reps2 rs
        have s1 := S.setVal hc rx
        obtain ⟨b, ys, rfl, t2, rs2⟩ := (RepT.tup (.inl (Rep.mv s1.mv _ _ ry)))
        refine ⟨a, [x, .ref b], rfl, t, rfl, x, [.ref b], rfl, .ref b, [], rfl, ⟨b, ys, rfl, t2, by rw [rs2.len, setVs_len e], gs_read s1.sim rs2 e fun σ' s2 o2 => ⟨rfl, q σ' (s1.trans s2) fun j hj => ?_⟩⟩⟩
        rw [o2 j (fun z => hj (by simp [tgSlots, z])), List.getElem?_set_ne (fun z => hj (by simp [tgSlots, z]))]
    · cases e1
  · cases e
end

/-! ### what is walked -/
def ItOk (C : CV) (F : Fb) (H : Hp) (J : L2.It) (ds : List D) : Prop := ∀ (i : Nat) (H' : Hp) (F' : Fb), Mv F F' H H' → (∀ a, F' a → ∃ o, H' a = some o) →
  (∀ d, ds[i]? = some d → J.go i H' ∧ ∀ x H'', J.yld i H' x H'' → (∀ a o, H' a = some o → H'' a = some o) ∧ Rep C F' H'' x d) ∧ (i = ds.length → J.stop i H')
def tI (C : CV) (np : Nat) (call : CallF) (it : It) : TI := fun σ H R => ∃ (B : Fb) (ρ : Sl) (ds : List D) (ρ' : Sl), Sim C B ρ σ H ∧ evIt np call it ρ = some (ds, ρ') ∧ ∀ J H', Stp C np B ρ ρ' σ H H' → ItOk C (FF B ρ' σ) H' J ds → R J H'
section
variable {C : CV} {F : Fb} {H : Hp}
theorem Reps.none {ds : List D} {xs : List V} {i : Nat} (r : Reps C F H xs ds) (h : ds.length ≤ i) : xs.length ≤ i := by rw [r.len]; exact h
theorem ItOk.list {a : Addr} {xs : List V} {ds : List D} (t : TopL C F H a xs) (r : Reps C F H xs ds) : ItOk C F H (Itl C.1 a) ds := fun i H' F' m _ => by
  have q := (t.mv m).sq
  refine ⟨fun d e => ?_, fun h => ⟨xs, q, r.none (Nat.le_of_eq h.symm)⟩⟩
  obtain ⟨x, e1, r1⟩ := r.get e
  refine ⟨⟨xs, x, q, e1⟩, fun y H'' hy => ?_⟩
  obtain ⟨rfl, hy⟩ := hy
  have e2 := hy xs q
  rw [e1] at e2; cases e2
  exact ⟨fun _ _ e => e, Rep.mv m d x r1⟩
theorem ItOk.tup {a : Addr} {xs : List V} {ds : List D} (t : TopT C F H a xs) (r : Reps C F H xs ds) : ItOk C F H (Itt C.1 a) ds := fun i H' F' m _ => by
  have q := (t.mv m).sq
  refine ⟨fun d e => ?_, fun h => ⟨xs, q, r.none (Nat.le_of_eq h.symm)⟩⟩
  obtain ⟨x, e1, r1⟩ := r.get e
  refine ⟨⟨xs, x, q, e1⟩, fun y H'' hy => ?_⟩
  obtain ⟨rfl, hy⟩ := hy
  have e2 := hy xs q
  rw [e1] at e2; cases e2
  exact ⟨fun _ _ e => e, Rep.mv m d x r1⟩
theorem ItOk.rng {i j : Int} : ItOk C F H (Itr i (j - i).toNat) (rngD i j) := fun k H' F' m _ => by
  have hl : (rngD i j).length = (j - i).toNat := by simp [rngD]
  refine ⟨fun d e => ?_, fun h => by rw [hl] at h; exact Nat.le_of_eq h.symm⟩
  have hk := lt_of_get e
  rw [hl] at hk
  refine ⟨hk, fun x H'' hy => ?_⟩
  obtain ⟨rfl, rfl⟩ := hy
  refine ⟨fun _ _ e => e, ?_⟩
  unfold rngD at e
  rw [List.getElem?_map, List.getElem?_range hk] at e
  obtain rfl := Option.some.inj e
  simp only [Rep]
theorem zipD_get : ∀ {ds es : List D} {i : Nat} {d : D}, (zipD ds es)[i]? = some d → ∃ x y, ds[i]? = some x ∧ es[i]? = some y ∧ d = .prt [x, y]
  | [], _, _, _, e => by simp [zipD] at e
  | _ :: _, [], _, _, e => by simp [zipD] at e
  | a :: ds, b :: es, 0, d, e => by
    simp [zipD] at e
    exact ⟨a, b, rfl, rfl, e.symm⟩
  | a :: ds, b :: es, i + 1, d, e => by
    obtain ⟨x, y, h1, h2, h3⟩ := zipD_get (ds := ds) (es := es) (i := i) (by simpa [zipD] using e)
    exact ⟨x, y, by simpa using h1, by simpa using h2, h3⟩
theorem zipD_len : ∀ {ds es : List D}, (zipD ds es).length = min ds.length es.length
  | [], _ => by simp [zipD]
  | _ :: _, [] => by simp [zipD]
  | a :: ds, b :: es => by rw [zipD, List.length_cons, zipD_len (ds := ds) (es := es), List.length_cons, List.length_cons]; omega
theorem new_tup {F' : Fb} {H' : Hp} {p : Addr} {xs : List V} {ds : List D} (hp : H' p = none) (hf : ∀ a, F' a → ∃ o, H' a = some o) (r : Reps C F' H' xs ds) : (∀ a o, H' a = some o → upd H' p (.tup xs) a = some o) ∧ Rep C F' (upd H' p (.tup xs)) (.ref p) (.prt ds) := by
  refine ⟨upd_grow hp, ?_⟩
  simp only [Rep]
  refine ⟨p, xs, rfl, ⟨fun z => ?_, .inl upd_same⟩, Reps.mv (upd_mv0 hp) ds xs r⟩
  obtain ⟨o, e⟩ := hf p z
  rw [hp] at e; cases e
theorem ItOk.zipL {a b : Addr} {xs ys : List V} {ds es : List D} (t : TopL C F H a xs) (r : Reps C F H xs ds) (t' : TopL C F H b ys) (r' : Reps C F H ys es) : ItOk C F H (Itz C.1 a b) (zipD ds es) := fun i H' F' m hf => by
  have q := (t.mv m).sq
  have q' := (t'.mv m).sq
  refine ⟨fun d e => ?_, fun h => ⟨xs, ys, q, q', by rw [zipD_len] at h; rw [r.len, r'.len]; omega⟩⟩
  obtain ⟨x, y, e1, e2, rfl⟩ := zipD_get e
  obtain ⟨u, f1, r1⟩ := r.get e1
  obtain ⟨w, f2, r2⟩ := r'.get e2
  refine ⟨⟨xs, ys, u, w, q, q', f1, f2⟩, fun z H'' hy => ?_⟩
  obtain ⟨T, x', y', rfl, hT, rfl, g1, g2⟩ := hy
  have g1 := g1 xs q
  have g2 := g2 ys q'
  rw [f1] at g1; cases g1
  rw [f2] at g2; cases g2
  exact new_tup hT hf (by simp only [Reps]; exact ⟨Rep.mv m _ _ r1, Rep.mv m _ _ r2, trivial⟩)
theorem ItOk.zipT {a b : Addr} {xs ys : List V} {ds es : List D} (t : TopT C F H a xs) (r : Reps C F H xs ds) (t' : TopT C F H b ys) (r' : Reps C F H ys es) : ItOk C F H (RZ.ItzT C.1 a b) (zipD ds es) := fun i H' F' m hf => by
  have q := (t.mv m).sq
  have q' := (t'.mv m).sq
  refine ⟨fun d e => ?_, fun h => ⟨xs, ys, q, q', by rw [zipD_len] at h; rw [r.len, r'.len]; omega⟩⟩
  obtain ⟨x, y, e1, e2, rfl⟩ := zipD_get e
  obtain ⟨u, f1, r1⟩ := r.get e1
  obtain ⟨w, f2, r2⟩ := r'.get e2
  refine ⟨⟨xs, ys, u, w, q, q', f1, f2⟩, fun z H'' hy => ?_⟩
  obtain ⟨T, x', y', rfl, hT, rfl, g1, g2⟩ := hy
  have g1 := g1 xs q
  have g2 := g2 ys q'
  rw [f1] at g1; cases g1
  rw [f2] at g2; cases g2
  exact new_tup hT hf (by simp only [Reps]; exact ⟨Rep.mv m _ _ r1, Rep.mv m _ _ r2, trivial⟩)
theorem enumD_get : ∀ {n : Nat} {ds : List D} {i : Nat} {d : D}, (enumD n ds)[i]? = some d → ∃ x, ds[i]? = some x ∧ d = .prt [.int ((n + i : Nat) : Int), x]
  | _, [], _, _, e => by simp [enumD] at e
  | n, a :: ds, 0, d, e => by
    simp [enumD] at e
    exact ⟨a, rfl, e.symm⟩
  | n, a :: ds, i + 1, d, e => by
    obtain ⟨x, h1, h3⟩ := enumD_get (n := n + 1) (ds := ds) (i := i) (by simpa [enumD] using e)
    refine ⟨x, by simpa using h1, ?_⟩
    rw [h3]
    have : n + 1 + i = n + (i + 1) := by omega
    rw [this]
theorem enumD_len : ∀ {n : Nat} {ds : List D}, (enumD n ds).length = ds.length
  | _, [] => rfl
  | n, a :: ds => by simp [enumD, enumD_len (n := n + 1) (ds := ds)]
theorem ItOk.enum {a : Addr} {xs : List V} {ds : List D} (t : TopL C F H a xs) (r : Reps C F H xs ds) : ItOk C F H (Ite C.1 a) (enumD 0 ds) := fun i H' F' m hf => by
  have q := (t.mv m).sq
  refine ⟨fun d e => ?_, fun h => ⟨xs, q, by rw [enumD_len] at h; rw [r.len]; omega⟩⟩
  obtain ⟨x, e1, rfl⟩ := enumD_get e
  obtain ⟨u, f1, r1⟩ := r.get e1
  refine ⟨⟨xs, u, q, f1⟩, fun z H'' hy => ?_⟩
  obtain ⟨T, x', rfl, hT, rfl, g1⟩ := hy
  have g1 := g1 xs q
  rw [f1] at g1; cases g1
  exact new_tup hT hf (by simp only [Reps, Rep, Nat.zero_add]; exact ⟨trivial, Rep.mv m _ _ r1, trivial⟩)
end
end Iv
/-! Iv, part K2: enumerate over a tuple. -/
namespace Iv
open PySem PySem.Spec PyProof.Rows L2
set_option maxHeartbeats 1000000 in
theorem meets_enumT (t : Addr) (items : Array Value) :
    Meets (Builtin.«enumerate.__new__» ⟨[.type "enumerate", .ref t], []⟩) (fun _ R s => s.heap.IsTuple t items ∧
      R (.ok (.ret (.ref (s.heap.push { cls := .type "tuple_iterator", data := .fields #[.ref t, .int 0 0] }).objs.size)))
        { s with heap := (s.heap.push { cls := .type "tuple_iterator", data := .fields #[.ref t, .int 0 0] }).push { cls := .type "enumerate", data := .fields #[.none, .bool false, .ref s.heap.objs.size, rawInt 0, .none, .none] } }) :=
  .of_wp fun prog w A R s h => by
    obtain ⟨hL, h⟩ := h
    obtain ⟨hp, g, d, tk, os⟩ := s
    have hsub := sub_enumerate
    have hL' := hL
    obtain ⟨⟨c0, dct, dt, sl⟩, hl, hc, n, hd⟩ := hL'
    replace hc : c0 = .type "tuple" := hc
    replace hd : dt = .seq items n := hd
    subst hc hd
    wp_walk using wpAny_loadPart' hl
    refine wpAny_stack_any fun st => wpAny_pure ?_
    split
    · rename_i c _ _ _ _ _
      cases (c == Value.type "enumerate")
      · wp_walk using wpAny_loadPart' hl, wpAny_pyIter_tuple hL
        exact ⟨_, rfl, h⟩
      · wp_walk using wpAny_loadPart' hl, wpAny_pyIter_tuple hL
        exact ⟨_, rfl, h⟩
    · wp_walk using wpAny_loadPart' hl, wpAny_pyIter_tuple hL
      exact ⟨_, rfl, h⟩

section
variable {prog : Program} {w : World} {A : Around} {E : Value → Shared → Prop} {s : Shared}
theorem call_enumT {t : Addr} {items : Array Value} {Q : Value → Shared → Prop} (hL : s.heap.IsTuple t items)
    (h : ∀ h', IsEnum h' (s.heap.objs.size + 1) s.heap.objs.size 0 .none → h'.IsTupleIter s.heap.objs.size t 0 → h'.objs.size = s.heap.objs.size + 2 →
      (∀ b o, s.heap.get? b = some o → h'.get? b = some o) → Q (.ref (s.heap.objs.size + 1)) { s with heap := h' }) : wpAny (model prog w) A (call (.type "enumerate") [.ref t]) Q E s := by
  refine callType_new F.called_enumerate (by decide) (F.typeCall_enumerate_1 _) (F.newCall_enumerate_1 _) (fun obj => F.args_object_init_2 obj _) F.entry_enumerate_new (meets_enumT t items) ⟨hL, ?_⟩
  have hz : (s.heap.push { cls := .type "tuple_iterator", data := .fields #[.ref t, .int 0 0] }).objs.size = s.heap.objs.size + 1 := Heap.size_push ..
  show _ ∧ _
  rw [hz]
  have he : IsEnum ((s.heap.push { cls := .type "tuple_iterator", data := .fields #[.ref t, .int 0 0] }).push
      { cls := .type "enumerate", data := .fields #[.none, .bool false, .ref s.heap.objs.size, rawInt 0, .none, .none] }) (s.heap.objs.size + 1) s.heap.objs.size 0 .none := by
    have := Heap.get?_push_size (s.heap.push { cls := .type "tuple_iterator", data := .fields #[.ref t, .int 0 0] })
      (o := { cls := .type "enumerate", data := .fields #[.none, .bool false, .ref s.heap.objs.size, rawInt 0, .none, .none] }) rfl
    rw [hz] at this; exact this
  exact ⟨⟨_, he, rfl⟩, h _ he ⟨_, Heap.get?_push_of_some _ (Heap.get?_push_size _ rfl), rfl, rfl⟩ (by rw [Heap.size_push, hz]) fun b o x => Heap.get?_push_of_some _ (Heap.get?_push_of_some _ x)⟩
end
/-- the tuple at a, each item in a new pair with its number -/
def IteT (K : PySem.W.Frag) (a : Addr) : L2.It :=
  ⟨fun i H => ∃ (xs : List V) (x : V), SqT K H a xs ∧ xs[i]? = some x, fun i H v H' => ∃ P x, v = .ref P ∧ H P = none ∧ H' = upd H P (.tup [.int (i : Nat), x]) ∧ ∀ xs, SqT K H a xs → xs[i]? = some x, fun i H => ∃ xs : List V, SqT K H a xs ∧ xs.length = i⟩
theorem turn_enumT {P : Program} {w : World} {K : PySem.W.Frag} {elts : List Expr} {kk : Nat} {tpos : Pos} (a e it : Addr) :
    Turn P w K (.Tuple elts kk tpos) (IteT K a) [e, it] e (fun i h => (∃ old, IsEnum h e it ((i : Nat) : Int) old) ∧ h.IsTupleIter it a i ∧ e ≠ it) where
  mem := by simp
  obj := fun i h st b hb => by
    obtain ⟨⟨old, he⟩, ⟨o, ho, hc, hd⟩, _⟩ := st
    have e' : b = e ∨ b = it := by simpa using hb
    rcases e' with z | z
    · rw [z]; exact ⟨_, he, fun v q => nomatch q⟩
    · rw [z]; exact ⟨o, ho, fun v q => by rw [hd] at q; cases q⟩
  keep := fun i h h' st k => let ⟨⟨old, he⟩, hi, hne⟩ := st; ⟨⟨old, k e (by simp) _ he⟩, hi.at fun o q => k it (by simp) o q, hne⟩
  item := by
    intro X hP hw hK hc i pins s σ H E I hf st hg
    subst hP hw hK
    obtain ⟨⟨old, he⟩, hit, hne⟩ := st
    obtain ⟨xs, x, hq, hx⟩ := hg
    obtain ⟨its, rv, p, hz⟩ := I.tuple hq
    obtain ⟨u, hu, ru⟩ := rv.get hx
    have hel : e < s.heap.objs.size := Heap.lt_size he
    have hil : it < s.heap.objs.size := by obtain ⟨_, q, _⟩ := hit; exact Heap.lt_size q
    have nea : e ≠ a := fun z => by
      subst z
      obtain ⟨o, ho, hcl, _⟩ := p
      rw [he] at ho; cases ho; injection hcl with h9; exact absurd h9 (by decide)
    have nia : a ≠ it := fun z => by
      subst z
      obtain ⟨o, ho, hcl, _⟩ := p
      obtain ⟨o', ho', hcl', _⟩ := hit
      rw [ho] at ho'; cases ho'; rw [hcl] at hcl'; injection hcl' with h9; exact absurd h9 (by decide)
    have hlt : i < its.toArray.size := by
      have := lt_of_get hx
      rw [rv.length] at this
      simpa using this
    refine wpAny_pyNext_enum_itemD (Draws.tuple (A := X.A.in1) (show X.A.in1.handled = none from I.ok.hd hc) it a nia its.toArray) he ⟨hit, p⟩ hlt hne (by simp [nea, hne]) fun x' h' tk hx' ho st' hT hsz hk => ?_
    have ex : x' = u := by
      rw [show its.toArray[i]? = some u by simpa using hu] at hx'
      exact (Option.some.inj hx').symm
    subst ex
    refine ⟨_, rfl, wpAny_letOwnedTupleGo_enum (s := { s with heap := h', toks := tk + 1 }) ho fun h'' he' sb => ?_⟩
    have hT2 : h''.get? s.heap.objs.size = some { cls := .type "tuple", data := .seq #[.int i tk, x'] } := (sb.2 _ (Nat.ne_of_gt hel)).trans hT
    have new : ObjOk X.prog X.w (upd H s.heap.objs.size (.tup [.int (i : Nat), x])) h'' s.heap.objs.size (.tup [.int (i : Nat), x]) :=
      ⟨by show 2 ≤ sizeLine; decide, [.int i tk, x'], .cons ⟨_, rfl⟩ (.cons ru .nil), ⟨_, hT2, rfl, _, rfl⟩⟩
    have I1 : Inv X pins σ (upd H s.heap.objs.size (.tup [.int (i : Nat), x])) { s with heap := h'', toks := tk + 1 } :=
      I.turnedNew (ch := [e, it]) (fun b ob hb q => (sb.2 b (fun z => hb (by simp [z]))).trans (hk b ob (fun z => hb (by simp [z])) (fun z => hb (by simp [z])) q)) hf (Nat.le_refl _) new
    refine ⟨.ref s.heap.objs.size, _, I1, rfl, ⟨_, x, rfl, I.hok.fresh (Nat.le_refl _), rfl, fun ys hy => by rw [I.tuple_inj hy hq]; exact hx⟩, ⟨⟨x', ?_⟩, st'.1.at fun o q => (sb.2 it (Ne.symm hne)).trans q, hne⟩, fun b hb => ?_⟩
    · have e1 : ((i + 1 : Nat) : Int) = (i : Int) + 1 := by omega
      rw [e1]; exact he'
    · have hb' : b < s.heap.objs.size := by
        have e' : b = e ∨ b = it := by simpa using hb
        rcases e' with z | z
        · rw [z]; exact hel
        · rw [z]; exact hil
      rw [upd_ne (Nat.ne_of_lt hb')]
      exact (hf b hb).1
  done := by
    intro X hP hw hK hc i pins s σ H E I hf st hg
    subst hP hw hK
    obtain ⟨⟨old, he⟩, hit, hne⟩ := st
    obtain ⟨xs, hq, hx⟩ := hg
    obtain ⟨its, rv, p, hz⟩ := I.tuple hq
    obtain ⟨f0, f1, f2, f3, f4, f5⟩ := hf it (by simp)
    have hl : i = its.toArray.size := by rw [← hx, rv.length]; simp
    have nia : a ≠ it := fun z => by
      subst z
      obtain ⟨o, ho, hcl, _⟩ := p
      obtain ⟨o', ho', hcl', _⟩ := hit
      rw [ho] at ho'; cases ho'; rw [hcl] at hcl'; injection hcl' with h9; exact absurd h9 (by decide)
    exact wpAny_pyNext_enum_endD (Draws.tuple (A := X.A.in1) (show X.A.in1.handled = none from I.ok.hd hc) it a nia its.toArray) he ⟨by rw [← hl]; exact hit, p⟩ fun h' eb => ⟨rfl, I.turned (t' := s.toks) (fun b o hb q => eb b o hb q) f0 f1 f3 f4 f5⟩
  self := fun A i s Q E st h => let ⟨⟨_, he⟩, _⟩ := st; wpAny_pyIter_enum he h
def iEnumT (K : PySem.W.Frag) (ta : TA) : TI := fun σ H R => ta σ H fun vs H1 => ∃ a xs, vs = [.ref a] ∧ SqT K H1 a xs ∧ R (IteT K a) H1
theorem pi_enumT {X : Cx} {e : Expr} {ta : TA} {p pos tpos : Pos} {elts : List Expr} {kk : Nat} (hg : Gl X "enumerate") (hm : X.mg "enumerate" = none) (ha : PA X [e] ta) (hs : starEach [e] X.env = [(false, eval e X.env)]) :
    PI X (.Tuple elts kk tpos) (.Call (.Name "enumerate" p) [e] [] pos) (iEnumT X.K ta) := by
  refine ⟨fun pins s σ H R I h => ?_⟩
  refine Call_ (ld_blt I hg hm boot_enumerate (PyProof.Rows.callWith_type1 (thn (ha.run pos pins s σ H _ I h) fun us s1 ⟨vs, H1, I1, r1, q1⟩ => ?_) hs rfl))
  obtain ⟨a, xs, ex, hq, q⟩ := q1
  subst ex
  cases r1 with
  | cons r rr =>
    cases rr
    cases r
    obtain ⟨its, rv, p', hz⟩ := I1.tuple hq
    refine call_enumT p' fun h' he hit hsz hk => wpAny_pyIter_enum he ?_
    have I2 : Inv X pins σ H1 { s1 with heap := h' } := I1.kept (t' := s1.toks) hk
    refine ⟨s1.heap.objs.size + 1, [s1.heap.objs.size + 1, s1.heap.objs.size], _, _, H1, rfl, I2, turn_enumT a (s1.heap.objs.size + 1) s1.heap.objs.size, ⟨⟨.none, he⟩, hit, Nat.succ_ne_self _⟩, fun b hb => ?_, q⟩
    have e' : b = s1.heap.objs.size + 1 ∨ b = s1.heap.objs.size := by simpa using hb
    have hle : s1.heap.objs.size ≤ b := by
      rcases e' with z | z
      · rw [z]; exact Nat.le_add_right _ _
      · rw [z]; exact Nat.le_refl _
    exact I1.fpOk hle (I1.hok.fresh hle)
section
variable {C : CV} {F : Fb} {H : Hp}
theorem ItOk.enumT {a : Addr} {xs : List V} {ds : List D} (t : TopT C F H a xs) (r : Reps C F H xs ds) : ItOk C F H (IteT C.1 a) (enumD 0 ds) := fun i H' F' m hf => by
  have q := (t.mv m).sq
  refine ⟨fun d e => ?_, fun h => ⟨xs, q, by rw [enumD_len] at h; rw [r.len]; omega⟩⟩
  obtain ⟨x, e1, rfl⟩ := enumD_get e
  obtain ⟨u, f1, r1⟩ := r.get e1
  refine ⟨⟨xs, u, q, f1⟩, fun z H'' hy => ?_⟩
  obtain ⟨T, x', rfl, hT, rfl, g1⟩ := hy
  have g1 := g1 xs q
  rw [f1] at g1; cases g1
  exact new_tup hT hf (by simp only [Reps, Rep, Nat.zero_add]; exact ⟨trivial, Rep.mv m _ _ r1, trivial⟩)
end

/-! ### what a text walks -/
variable {T : Tab} {n : Nat} {N : List Str} {sc : Scope} {fb : Str → Bool} {X : Cx} {np : Nat} {call : CallF}
abbrev HI (T : Tab) (np : Nat) (call : CallF) (N : List Str) (sc : Scope) (X : Cx) (it : It) : Prop := ∀ tg ast, chkIt N T.fns sc it tg ast = true → PI X tg ast (tI T.C np call it)
theorem nStar1 {x : Expr} {env : Env} (h : nStar x = true) : starEach [x] env = [(false, eval x env)] := star_cons h
theorem i_seq {e : E} (G : Good T n N sc fb X) (he : HE T np call N sc X e) : HI T np call N sc X (.seq e) := by
  intro tg ast h
  simp only [chkIt, Bool.and_eq_true] at h
  have Kx : X.K = T.C.1 := G.xK
  refine ⟨fun pins s σ H R I hq => ?_⟩
  obtain ⟨B, ρ, ds, ρ', S, e0, q⟩ := hq
  simp only [evIt] at e0
  obtain ⟨⟨d, ρ1⟩, e1, e0⟩ := bind_some' e0
  obtain ⟨f, e1⟩ := imm_inv e1
  obtain ⟨ds', e2, e0⟩ := bind_some' e0
  cases e0
  cases d <;> simp only [itemsOf] at e2 <;> try (cases e2; done)
  case tup xs =>
    cases e2
    refine (pi_tup (he ast h.1)).run pins s σ H R I (tE_of S e1 fun v H1 p1 => ?_)
    have r := p1.weak
    simp only [Rep] at r
    obtain ⟨a, us, rfl, t, rs⟩ := r
    exact ⟨a, rfl, ⟨us, by rw [Kx]; exact t.sq⟩, q _ _ p1.stp (by rw [Kx]; exact .tup t rs)⟩
  case lst xs =>
    cases e2
    refine (pi_list (he ast h.1)).run pins s σ H R I (tE_of S e1 fun v H1 p1 => ?_)
    have r := p1.weak
    simp only [Rep] at r
    obtain ⟨a, us, rfl, t, rs⟩ := r
    exact ⟨a, rfl, ⟨us, .of t.2⟩, q _ _ p1.stp (by rw [Kx]; exact .list (.inl ⟨t.1, .inl t.2⟩) rs)⟩
  case rol xs =>
    cases e2
    refine (pi_list (he ast h.1)).run pins s σ H R I (tE_of S e1 fun v H1 p1 => ?_)
    have r := p1.weak
    simp only [Rep] at r
    obtain ⟨a, us, rfl, t, rs⟩ := r
    exact ⟨a, rfl, ⟨us, by rw [Kx]; exact t.sq⟩, q _ _ p1.stp (by rw [Kx]; exact .list t rs)⟩
theorem i_rng1 {e : E} (G : Good T n N sc fb X) (he : HE T np call N sc X e) : HI T np call N sc X (.rng1 e) := by
  intro tg ast h
  simp only [chkIt] at h
  split at h
  · rename_i g p x pos
    simp only [Bool.and_eq_true] at h
    obtain ⟨⟨⟨hg, hgl⟩, hx⟩, hs⟩ := h
    obtain rfl := of_decide_eq_true hg
    refine ⟨fun pins s σ H R I hq => ?_⟩
    obtain ⟨B, ρ, ds, ρ', S, e0, q⟩ := hq
    simp only [evIt] at e0
    obtain ⟨⟨j, ρ1⟩, e1, e0⟩ := bind_some' e0
    obtain ⟨f, e1⟩ := int_inv e1
    split at e0
    · rename_i hj
      cases e0
      refine (pi_range1 (G.gl hgl) (G.bl _ (by simp)) (pa_cons (he x hx) pa_nil (star_cons hs)) (nStar1 hs)).run pins s σ H R I (tE_of S e1 fun v H1 p1 => ⟨j, by rw [p1.int], hj.1, hj.2, q _ _ p1.stp ?_⟩)
      have := ItOk.rng (C := T.C) (F := FF B ρ1 σ) (H := H1) (i := 0) (j := j)
      rw [Int.sub_zero] at this
      exact this
    · cases e0
  · cases h
theorem i_rng2 {a b : E} (G : Good T n N sc fb X) (ha : HE T np call N sc X a) (hb : HE T np call N sc X b) : HI T np call N sc X (.rng2 a b) := by
  intro tg ast h
  simp only [chkIt] at h
  split at h
  · rename_i g p x y pos
    simp only [Bool.and_eq_true] at h
    obtain ⟨⟨⟨⟨⟨hg, hgl⟩, hx⟩, hy⟩, hs⟩, hs2⟩ := h
    obtain rfl := of_decide_eq_true hg
    refine ⟨fun pins s σ H R I hq => ?_⟩
    obtain ⟨B, ρ, ds, ρ', S, e0, q⟩ := hq
    simp only [evIt] at e0
    obtain ⟨⟨i, ρ1⟩, e1, e0⟩ := bind_some' e0
    obtain ⟨⟨j, ρ2⟩, e2, e0⟩ := bind_some' e0
    obtain ⟨f, e1⟩ := int_inv e1
    obtain ⟨f', e2⟩ := int_inv e2
    split at e0
    · rename_i hj
      cases e0
      exact (pi_range2 (G.gl hgl) (G.bl _ (by simp)) (pa_cons (ha x hx) (pa_cons (hb y hy) pa_nil (star_cons hs2)) (star_cons hs)) (by rw [star_cons hs, nStar1 hs2]) (nStar1 hs2)).run pins s σ H R I
        (tE_of S e1 fun v H1 p1 => tE_of p1.stp.sim e2 fun u H2 p2 => ⟨i, j, by rw [p1.int, p2.int], hj, q _ _ (p1.stp.trans p2.stp) .rng⟩)
    · cases e0
  · cases h
theorem i_enm {e : E} (G : Good T n N sc fb X) (he : HE T np call N sc X e) : HI T np call N sc X (.enm e) := by
  intro tg ast h
  have Kx : X.K = T.C.1 := G.xK
  simp only [chkIt] at h
  split at h
  · rename_i g p x pos
    simp only [Bool.and_eq_true] at h
    obtain ⟨⟨⟨hg, hgl⟩, hx⟩, hs⟩ := h
    obtain rfl := of_decide_eq_true hg
    refine ⟨fun pins s σ H R I hq => ?_⟩
    obtain ⟨B, ρ, ds, ρ', S, e0, q⟩ := hq
    simp only [evIt] at e0
    obtain ⟨⟨d, ρ1⟩, e1, e0⟩ := bind_some' e0
    obtain ⟨f, e1⟩ := imm_inv e1
    cases d <;> simp only at e0 <;> try (cases e0; done)
    case tup xs =>
      cases e0
      refine (pi_enumT (G.gl hgl) (G.bl _ (by simp)) (pa_cons (he x hx) pa_nil (star_cons hs)) (nStar1 hs)).run pins s σ H R I (tE_of S e1 fun v H1 p1 => ?_)
      have r := p1.weak
      simp only [Rep] at r
      obtain ⟨a, us, rfl, t, rs⟩ := r
      exact ⟨a, us, rfl, by rw [Kx]; exact t.sq, q _ _ p1.stp (by rw [Kx]; exact .enumT t rs)⟩
    case lst xs =>
      cases e0
      refine (pi_enum (G.gl hgl) (G.bl _ (by simp)) (pa_cons (he x hx) pa_nil (star_cons hs)) (nStar1 hs)).run pins s σ H R I (tE_of S e1 fun v H1 p1 => ?_)
      have r := p1.weak
      simp only [Rep] at r
      obtain ⟨a, us, rfl, t, rs⟩ := r
      exact ⟨a, us, rfl, .of t.2, q _ _ p1.stp (by rw [Kx]; exact .enum (.inl ⟨t.1, .inl t.2⟩) rs)⟩
  · cases h
theorem i_zip {a b : E} (G : Good T n N sc fb X) (ha : HE T np call N sc X a) (hb : HE T np call N sc X b) : HI T np call N sc X (.zip a b) := by
  intro tg ast h
  have Kx : X.K = T.C.1 := G.xK
  simp only [chkIt] at h
  split at h
  · rename_i g p x y pos
    simp only [Bool.and_eq_true] at h
    obtain ⟨⟨⟨⟨⟨hg, hgl⟩, hx⟩, hy⟩, hs⟩, hs2⟩ := h
    obtain rfl := of_decide_eq_true hg
    refine ⟨fun pins s σ H R I hq => ?_⟩
    obtain ⟨B, ρ, ds, ρ', S, e0, q⟩ := hq
    simp only [evIt] at e0
    obtain ⟨⟨d, ρ1⟩, e1, e0⟩ := bind_some' e0
    obtain ⟨⟨e, ρ2⟩, e2, e0⟩ := bind_some' e0
    obtain ⟨f, e1⟩ := imm_inv e1
    obtain ⟨f', e2⟩ := imm_inv e2
    refine (RZ.pi_zipA (G.gl hgl) (G.bl _ (by simp)) (pa_cons (ha x hx) (pa_cons (hb y hy) pa_nil (star_cons hs2)) (star_cons hs)) (star_cons hs) (star_plain (by simp [hs2]))).run pins s σ H R I
        (tE_of S e1 fun v H1 p1 => tE_of p1.stp.sim e2 fun u H2 p2 => ?_)
    have r1 := Rep.mv p2.stp.mv _ _ p1.weak
    have r2 := p2.weak
    have st := p1.stp.trans p2.stp
    cases d <;> cases e <;> simp only at e0 <;> try (cases e0; done)
    case tup xs ys =>
      cases e0
      simp only [Rep] at r1 r2
      obtain ⟨a', us, rfl, t, rs⟩ := r1
      obtain ⟨b', ws, rfl, t', rs'⟩ := r2
      exact ⟨a', b', us, ws, rfl, .inr ⟨by rw [Kx]; exact t.sq, by rw [Kx]; exact t'.sq, q _ _ st (by rw [Kx]; exact .zipT t rs t' rs')⟩⟩
    case lst xs ys =>
      cases e0
      simp only [Rep] at r1 r2
      obtain ⟨a', us, rfl, t, rs⟩ := r1
      obtain ⟨b', ws, rfl, t', rs'⟩ := r2
      exact ⟨a', b', us, ws, rfl, .inl ⟨.of t.2, .of t'.2, q _ _ st (by rw [Kx]; exact .zipL (.inl ⟨t.1, .inl t.2⟩) rs (.inl ⟨t'.1, .inl t'.2⟩) rs')⟩⟩
  · cases h
end Iv
/-! Iv, part L: comprehensions, dict displays. -/
namespace Iv
open PySem PySem.Spec PyProof.Rows L2
variable {T : Tab} {n : Nat} {N : List Str} {sc : Scope} {fb : Str → Bool} {X : Cx} {np : Nat} {call : CallF}

theorem wipeS_len (ρ : Sl) : ∀ vs : List Nat, (wipeS ρ vs).length = ρ.length
  | [] => rfl
  | v :: vs => by unfold wipeS; rw [List.length_set, wipeS_len ρ vs]
theorem wipeS_out {ρ : Sl} {j : Nat} : ∀ {vs : List Nat}, j ∉ vs → (wipeS ρ vs)[j]? = ρ[j]?
  | [], _ => rfl
  | v :: vs, h => by
    rw [List.mem_cons, not_or] at h
    unfold wipeS
    rw [List.getElem?_set_ne (Ne.symm h.1), wipeS_out h.2]
theorem wipeS_in {ρ : Sl} {j : Nat} : ∀ {vs : List Nat}, j ∈ vs → j < ρ.length → (wipeS ρ vs)[j]? = some Slot.none
  | [], h, _ => by simp at h
  | v :: vs, h, hj => by
    unfold wipeS
    by_cases e : v = j
    · subst e; exact List.getElem?_set_self (by rw [wipeS_len]; exact hj)
    · rw [List.getElem?_set_ne e]
      exact wipeS_in (by rcases List.mem_cons.mp h with h | h; exact absurd h.symm e; exact h) hj
theorem wipe_in {σ : L2.St} {j : Nat} : ∀ {vs : List Nat}, j ∈ vs → j < σ.length → (wipe σ vs)[j]? = some none
  | [], h, _ => by simp at h
  | v :: vs, h, hj => by
    unfold wipe
    by_cases e : v = j
    · subst e; exact List.getElem?_set_self (by rw [wipe_length]; exact hj)
    · rw [List.getElem?_set_ne e]
      exact wipe_in (by rcases List.mem_cons.mp h with h | h; exact absurd h.symm e; exact h) hj
theorem backS_len (ρ0 ρ : Sl) : ∀ vs : List Nat, (backS ρ0 ρ vs).length = ρ.length
  | [] => rfl
  | v :: vs => by unfold backS; rw [List.length_set, backS_len ρ0 ρ vs]
theorem backS_out {ρ0 ρ : Sl} {j : Nat} : ∀ {vs : List Nat}, j ∉ vs → (backS ρ0 ρ vs)[j]? = ρ[j]?
  | [], _ => rfl
  | v :: vs, h => by
    rw [List.mem_cons, not_or] at h
    unfold backS
    rw [List.getElem?_set_ne (Ne.symm h.1), backS_out h.2]
theorem backS_in {ρ0 ρ : Sl} {j : Nat} : ∀ {vs : List Nat}, j ∈ vs → j < ρ.length → (backS ρ0 ρ vs)[j]? = some (ρ0[j]?.getD Slot.none)
  | [], h, _ => by simp at h
  | v :: vs, h, hj => by
    unfold backS
    by_cases e : v = j
    · subst e; exact List.getElem?_set_self (by rw [backS_len]; exact hj)
    · rw [List.getElem?_set_ne e]
      exact backS_in (by rcases List.mem_cons.mp h with h | h; exact absurd h.symm e; exact h) hj
/-- two lists of names' values that part at vs alone -/
theorem wipe_same {σ σ' : L2.St} {vs : List Nat} (hl : σ'.length = σ.length) (h : ∀ j, j ∉ vs → σ'[j]? = σ[j]?) : wipe σ' vs = wipe σ vs := by
  refine List.ext_getElem? fun j => ?_
  by_cases hj : j ∈ vs
  · by_cases hlt : j < σ.length
    · rw [wipe_in hj hlt, wipe_in hj (by rw [hl]; exact hlt)]
    · rw [List.getElem?_eq_none (by rw [wipe_length]; omega), List.getElem?_eq_none (by rw [wipe_length]; omega)]
  · rw [wipe_out hj, wipe_out hj, h j hj]
section
variable {C : CV} {B : Fb} {ρ ρ1 ρ2 ρ' : Sl} {σ σ1 σ2 σ' : L2.St} {H H1 H2 H' : Hp} {vs : List Nat}
theorem wipeS_own {j : Nat} {d : D} (h : (wipeS ρ vs)[j]? = some (Slot.own d)) : j ∉ vs ∧ ρ[j]? = some (Slot.own d) := by
  have hn : j ∉ vs := fun hj => by
    have hl := lt_of_get h
    rw [wipeS_len] at hl
    rw [wipeS_in hj hl] at h; cases h
  exact ⟨hn, by rw [wipeS_out hn] at h; exact h⟩
theorem wipeS_val {j : Nat} {d : D} (h : (wipeS ρ vs)[j]? = some (Slot.val d)) : j ∉ vs ∧ ρ[j]? = some (Slot.val d) := by
  have hn : j ∉ vs := fun hj => by
    have hl := lt_of_get h
    rw [wipeS_len] at hl
    rw [wipeS_in hj hl] at h; cases h
  exact ⟨hn, by rw [wipeS_out hn] at h; exact h⟩
theorem own_wipe {a : Addr} (h : Own (wipeS ρ vs) (wipe σ vs) a) : Own ρ σ a := by
  obtain ⟨j, d, e1, e2⟩ := h
  obtain ⟨hn, e3⟩ := wipeS_own e1
  rw [wipe_out hn] at e2
  exact ⟨j, d, e3, e2⟩
/-- the names at vs forgotten -/
theorem Sim.wipe (S : Sim C B ρ σ H) : Sim C B (wipeS ρ vs) (L2.wipe σ vs) H := by
  have m : Mv (FF B ρ σ) (FF B (wipeS ρ vs) (L2.wipe σ vs)) H H := mv_same fun a h => h.elim .inl fun w => .inr (own_wipe w)
  refine ⟨by rw [wipeS_len, wipe_length]; exact S.len, S.dom, fun j d e => ?_, fun j d e => ?_, fun i j d e a e1 e2 e3 e4 => ?_⟩
  · obtain ⟨hn, e1⟩ := wipeS_val e
    obtain ⟨v, e2, r⟩ := S.val j d e1
    exact ⟨v, by rw [wipe_out hn]; exact e2, Rep.mv m d v r⟩
  · obtain ⟨hn, e1⟩ := wipeS_own e
    obtain ⟨a, e2, nb, r⟩ := S.own j d e1
    exact ⟨a, by rw [wipe_out hn]; exact e2, nb, r.mv m fun o eo => eo⟩
  · obtain ⟨h1, f1⟩ := wipeS_own e1
    obtain ⟨h2, f2⟩ := wipeS_own e2
    rw [wipe_out h1] at e3
    rw [wipe_out h2] at e4
    exact S.inj i j d e a f1 f2 e3 e4
/-- a comprehension's block, between two turns: D the new list -/
structure CSt (C : CV) (np : Nat) (B : Fb) (D : Addr) (vs : List Nat) (ρ1 ρi : Sl) (σ : L2.St) (H1 H' : Hp) : Prop where
  chg : ∀ a o, a ≠ D → ¬ Own ρ1 σ a → H1 a = some o → H' a = some o
  dom : ∀ a o, H1 a = some o → ∃ o', H' a = some o'
  nown : ∀ (j : Nat) (d : Iv.D), j ∉ vs → ρi[j]? = some (Slot.own d) → ∃ d', ρ1[j]? = some (Slot.own d')
  keep : ∀ (j : Nat), j < np → j ∉ vs → ∀ d : Iv.D, ρ1[j]? = some (Slot.own d) → ∃ d', ρi[j]? = some (Slot.own d')
  len : ρi.length = ρ1.length
  sim : Sim C (fun a => B a ∨ a = D) (wipeS ρi vs) (L2.wipe σ vs) H'
theorem CSt.sub {D : Addr} {ρi : Sl} (c : CSt C np B D vs ρ1 ρi σ H1 H') {a : Addr} (h : Own (wipeS ρi vs) (L2.wipe σ vs) a) : Own ρ1 σ a := by
  obtain ⟨j, d, e1, e2⟩ := h
  obtain ⟨hn, e3⟩ := wipeS_own e1
  rw [wipe_out hn] at e2
  obtain ⟨d', e4⟩ := c.nown j d hn e3
  exact ⟨j, d', e4, e2⟩
theorem CSt.mv {D : Addr} {ρi : Sl} (hD : H1 D = none) (c : CSt C np B D vs ρ1 ρi σ H1 H') : Mv (FF B ρ1 σ) (FF (fun a => B a ∨ a = D) (wipeS ρi vs) (L2.wipe σ vs)) H1 H' := fun a o h e => by
  have nd : a ≠ D := fun z => by rw [z, hD] at e; cases e
  refine ⟨c.chg a o nd (fun z => h (.inr z)) e, fun z => ?_⟩
  rcases z with (z | z) | z
  · exact h (.inl z)
  · exact nd z
  · exact h (.inr (c.sub z))
theorem barred {B : Fb} (S : Sim C B ρ σ H) {a : Addr} (h : B a) : ¬ Own ρ σ a := fun ⟨j, d, e1, e2⟩ => by
  obtain ⟨b, e3, nb, _⟩ := S.own j d e1
  rw [e2] at e3; cases e3
  exact nb h
theorem quiet_of {j : Nat} (q : quietS ρ vs = true) (hj : j ∈ vs) : ∃ s, ρ[j]? = some s ∧ ∀ d, s ≠ Slot.own d := by
  have := List.all_eq_true.mp q j hj
  cases e : ρ[j]? with
  | none => rw [e] at this; cases this
  | some s =>
    refine ⟨s, rfl, fun d ed => ?_⟩
    rw [e, ed] at this
    cases this
/-- the block is left -/
theorem CSt.post {D : Addr} {ρ0 ρi : Sl} {H0 : Hp} {acc : List V} {xs : List Iv.D} (st : Stp C np B ρ0 ρ1 σ H0 H1) (hD : H1 D = none) (q : quietS ρ1 vs = true) (c : CSt C np B D vs ρ1 ρi σ H1 H') (hacc : H' D = some (.lst acc))
    (r : Reps C (FF (fun a => B a ∨ a = D) (wipeS ρi vs) (L2.wipe σ vs)) H' acc xs) : Post C np B ρ0 (backS ρ1 ρi vs) σ H0 H' (.imm true (.lst xs)) (.ref D) := by
  have hl : ρi.length = σ.length := by rw [c.len]; exact st.sim.len
  have cases_own : ∀ {j : Nat} {d : Iv.D}, (backS ρ1 ρi vs)[j]? = some (Slot.own d) → j ∉ vs ∧ ρi[j]? = some (Slot.own d) := fun {j d} e => by
    have hj := lt_of_get e
    rw [backS_len] at hj
    have hn : j ∉ vs := fun hm => by
      obtain ⟨s, es, hs⟩ := quiet_of q hm
      rw [backS_in hm hj, es] at e
      exact hs d (Option.some.inj e)
    exact ⟨hn, by rw [backS_out hn] at e; exact e⟩
  have sub : ∀ {a : Addr}, Own (backS ρ1 ρi vs) σ a → Own (wipeS ρi vs) (L2.wipe σ vs) a := fun {a} ⟨j, d, e1, e2⟩ => by
    obtain ⟨hn, e3⟩ := cases_own e1
    exact ⟨j, d, by rw [wipeS_out hn]; exact e3, by rw [wipe_out hn]; exact e2⟩
  have nD : ¬ Own (backS ρ1 ρi vs) σ D := fun h => barred c.sim (.inr rfl) (sub h)
  have mk : ∀ B' : Fb, (∀ a, B' a → B a ∨ a = D) → Sim C B' (backS ρ1 ρi vs) σ H' := fun B' hB => by
    have mF : ∀ a, FF B' (backS ρ1 ρi vs) σ a → FF (fun a => B a ∨ a = D) (wipeS ρi vs) (L2.wipe σ vs) a := fun a h => h.elim (fun w => .inl (hB a w)) fun w => .inr (sub w)
    refine ⟨by rw [backS_len]; exact hl, fun a h => ?_, fun j d e => ?_, fun j d e => ?_, fun i j d e a e1 e2 e3 e4 => ?_⟩
    · rcases hB a h with w | w
      · exact c.sim.dom a (.inl w)
      · exact c.sim.dom a (.inr w)
    · have hj := lt_of_get e
      rw [backS_len] at hj
      by_cases hm : j ∈ vs
      · obtain ⟨s, es, hs⟩ := quiet_of q hm
        rw [backS_in hm hj, es] at e
        have e : s = Slot.val d := Option.some.inj e
        subst e
        obtain ⟨v, e2, rv⟩ := st.sim.val j d es
        exact ⟨v, e2, Rep.mv (fun a o h eo => ⟨((c.mv hD) a o h eo).1, fun z => ((c.mv hD) a o h eo).2 (mF a z)⟩) d v rv⟩
      · rw [backS_out hm] at e
        obtain ⟨v, e2, rv⟩ := c.sim.val j d (by rw [wipeS_out hm]; exact e)
        rw [wipe_out hm] at e2
        exact ⟨v, e2, Rep.mv (mv_same mF) d v rv⟩
    · obtain ⟨hm, e1⟩ := cases_own e
      obtain ⟨a, e2, nb, ob⟩ := c.sim.own j d (by rw [wipeS_out hm]; exact e1)
      rw [wipe_out hm] at e2
      exact ⟨a, e2, fun z => nb (hB a z), ob.mv (mv_same mF) fun o eo => eo⟩
    · obtain ⟨h1, f1⟩ := cases_own e1
      obtain ⟨h2, f2⟩ := cases_own e2
      exact c.sim.inj i j d e a (by rw [wipeS_out h1]; exact f1) (by rw [wipeS_out h2]; exact f2) (by rw [wipe_out h1]; exact e3) (by rw [wipe_out h2]; exact e4)
  have S' := mk B fun a h => .inl h
  have st1 : Stp C np B ρ1 (backS ρ1 ρi vs) σ H1 H' := ⟨fun a o h e => c.chg a o (fun z => by rw [z, hD] at e; cases e) h e, c.dom, fun j d e => by
      obtain ⟨hn, e1⟩ := cases_own e
      exact c.nown j d hn e1, fun j hj d e => by
      have hn : j ∉ vs := fun hm => by
        obtain ⟨s, es, hs⟩ := quiet_of q hm
        rw [e] at es; cases es
        exact hs d rfl
      obtain ⟨d', e1⟩ := c.keep j hj hn d e
      exact ⟨d', by rw [backS_out hn]; exact e1⟩, by rw [backS_len]; exact c.len, S'⟩
  have hD0 : H0 D = none := by
    cases e : H0 D with
    | none => rfl
    | some o => obtain ⟨o', e'⟩ := st.dom D o e; rw [hD] at e'; cases e'
  have nFD : ¬ FF B (backS ρ1 ρi vs) σ D := fun z => by
    rcases z with z | z
    · obtain ⟨o, e⟩ := st.sim.dom D z
      rw [hD] at e; cases e
    · exact nD z
  refine ⟨st.trans st1, ?_, fun d e => ?_⟩
  · simp only [OpOk, Rep]
    exact ⟨D, acc, rfl, ⟨nFD, hacc⟩, Reps.mv (mv_same fun a h => h.elim (fun w => .inl (.inl w)) fun w => .inr (sub w)) xs acc r⟩
  · cases e
    exact ⟨D, rfl, hD0, mk _ (fun a h => h), acc, hacc, Reps.mv (mv_same fun a h => h.elim .inl fun w => .inr (sub w)) xs acc r⟩
end

/-! ### a comprehension -/
/-- the parts of the language at whichever place of a def -/
abbrev AE (T : Tab) (n np : Nat) (call : CallF) (N : List Str) (e : E) : Prop := ∀ {sc : Scope} {fb : Str → Bool} {X : Cx}, Good T n N sc fb X → HE T np call N sc X e
abbrev AT (T : Tab) (n np : Nat) (call : CallF) (N : List Str) (e : E) : Prop := ∀ {sc : Scope} {fb : Str → Bool} {X : Cx}, Good T n N sc fb X → HT T np call N sc X e
def tIf' (C : CV) (np : Nat) (call : CallF) : Es → TT
  | .nil => tYes
  | .cons e _ => tT C np call e
theorem ptS (G : Good T n N sc fb X) : ∀ {ifs : Es} {fs : List Expr}, chkIf N T.fns sc ifs fs = true → (∀ e r, ifs = .cons e r → HT T np call N sc X e) → PTs X fs (tIf' T.C np call ifs)
  | .nil, [], _, _ => pts_nil
  | .nil, _ :: _, h, _ => by simp [chkIf] at h
  | .cons e r, [], h, _ => by simp [chkIf] at h
  | .cons e r, [x], h, ht => pts_one (ht e r rfl x (by simpa [chkIf] using h)).1
  | .cons e r, _ :: _ :: _, h, _ => by simp [chkIf] at h
theorem StpS.own' {C : CV} {B : Fb} {ρ ρ' : Sl} {σ σ' : L2.St} {H H' : Hp} (t : StpS C np B ρ ρ' σ σ' H H') {a : Addr} (h : Own ρ' σ' a) (hs : ∃ o, H a = some o) : Own ρ σ a := (t.own a h).elim id fun w => by
  obtain ⟨o, e⟩ := hs
  rw [w] at e; cases e
theorem slot_nown {ρ ρ' : Sl} : ∀ {is : List Nat} {ds : List D}, setVs np ρ is ds = some ρ' → ∀ (j : Nat) (d : D), ρ'[j]? = some (Slot.own d) → ρ[j]? = some (Slot.own d) := by
  intro is
  induction is generalizing ρ with
  | nil =>
    intro ds e j d h
    cases ds <;> simp only [setVs] at e <;> cases e
    exact h
  | cons i is ih =>
    intro ds e j d h
    cases ds with
    | nil => simp only [setVs] at e; cases e
    | cons x ds =>
      simp only [setVs] at e
      obtain ⟨ρ1, e1, e⟩ := bind_some' e
      have := ih e j d h
      unfold setV at e1
      split at e1
      · cases e1
        by_cases hj : i = j
        · subst hj
          have hl := lt_of_get this
          rw [List.length_set] at hl
          rw [List.getElem?_set_self hl] at this; cases this
        · rw [List.getElem?_set_ne hj] at this; exact this
      · cases e1
theorem setV_nown {ρ ρ' : Sl} {i : Nat} {x : D} (e1 : setV np ρ i (.val x) = some ρ') (j : Nat) (d : D) (h : ρ'[j]? = some (Slot.own d)) : ρ[j]? = some (Slot.own d) := by
  unfold setV at e1
  split at e1
  · cases e1
    by_cases hj : i = j
    · subst hj
      have hl := lt_of_get h
      rw [List.length_set] at hl
      rw [List.getElem?_set_self hl] at h; cases h
    · rw [List.getElem?_set_ne hj] at h; exact h
  · cases e1
theorem asgTg_nown {tg : Tg} {x : D} {ρ ρ' : Sl} (e : asgTg np tg x ρ = some ρ') (j : Nat) (d : D) (h : ρ'[j]? = some (Slot.own d)) : ρ[j]? = some (Slot.own d) := by
  unfold asgTg at e
  split at e
  · exact setV_nown e j d h
  · exact setV_nown e j d h
  · exact slot_nown e j d h
  · obtain ⟨ρ1, e1, e⟩ := bind_some' e
    exact setV_nown e1 j d (slot_nown e j d h)
  · exact slot_nown e j d h
  · obtain ⟨ρ1, e1, e⟩ := bind_some' e
    exact setV_nown e1 j d (slot_nown e j d h)
  · cases e
theorem tgSlots_sub {tg : Tg} {vs : List Nat} (h : (tgSlots tg).all vs.contains = true) {j : Nat} (hj : j ∉ vs) : j ∉ tgSlots tg := fun z => by
  have := List.all_eq_true.mp h j z
  simp only [List.contains_eq_mem, decide_eq_true_eq] at this
  exact hj this
/-- one turn's steps keep the block's word -/
theorem CSt.next {C : CV} {B : Fb} {D : Addr} {vs : List Nat} {ρ1 ρi ρa ρc : Sl} {σ σ2 : L2.St} {H1 H' H2 H4 : Hp} (c : CSt C np B D vs ρ1 ρi σ H1 H')
    (g : ∀ a o, H' a = some o → H2 a = some o) (ha : ∀ (j : Nat) (d : Iv.D), ρa[j]? = some (Slot.own d) → (wipeS ρi vs)[j]? = some (Slot.own d)) (hk : ∀ (j : Nat), j < np → ∀ d : Iv.D, (wipeS ρi vs)[j]? = some (Slot.own d) → ∃ d', ρa[j]? = some (Slot.own d'))
    (hσ : ∀ j, j ∉ vs → σ2[j]? = (L2.wipe σ vs)[j]?) (hσl : σ2.length = σ.length) (hl : ρa.length = ρi.length)
    (st : Stp C np (fun a => B a ∨ a = D) ρa ρc σ2 H2 H4) : CSt C np B D vs ρ1 ρc σ H1 H4 := by
  have ew : L2.wipe σ2 vs = L2.wipe σ vs := wipe_same hσl fun j hj => by rw [hσ j hj, wipe_out hj]
  have ownA : ∀ {a : Addr}, Own ρa σ2 a → Own (wipeS ρi vs) (L2.wipe σ vs) a := fun {a} ⟨j, d, e1, e2⟩ => by
    have e3 := ha j d e1
    have hn := (wipeS_own e3).1
    exact ⟨j, d, e3, by rw [← hσ j hn]; exact e2⟩
  refine ⟨fun a o nd n e => st.chg a o (fun z => n (c.sub (ownA z))) (g a o (c.chg a o nd n e)), fun a o e => ?_, fun j d hj e => ?_, fun j hj hn d e => ?_, by rw [st.len, hl, c.len], ?_⟩
  · obtain ⟨o', e1⟩ := c.dom a o e
    exact st.dom a o' (g a o' e1)
  · obtain ⟨d1, e1⟩ := st.nown j d e
    obtain ⟨_, e3⟩ := wipeS_own (ha j d1 e1)
    exact c.nown j d1 hj e3
  · obtain ⟨d1, e1⟩ := c.keep j hj hn d e
    obtain ⟨d2, e2⟩ := hk j hj d1 (by rw [wipeS_out hn]; exact e1)
    exact st.keep j hj d2 e2
  · have := st.sim.wipe (vs := vs)
    rw [ew] at this
    exact this
theorem inv_comp {elt : E} {tg : Tg} {it : It} {ifs : Es} {vs : List Nat} {ρ ρ' : Sl} {o : Opd} (e : ev np call (.comp elt tg it ifs vs) ρ = some (o, ρ')) :
    ∃ ds ρ1 xs ρ2, evIt np call it ρ = some (ds, ρ1) ∧ quietS ρ1 vs = true ∧ ds.length ≤ sizeLine ∧ compL np vs tg (fun ρ => evTest np call ifs ρ) (fun ρ => (ev np call elt ρ).bind immOf) ds ρ1 = some (xs, ρ2) ∧
      o = .imm true (.lst xs) ∧ ρ' = backS ρ1 ρ2 vs := by
  simp only [ev] at e
  obtain ⟨⟨ds, ρ1⟩, e1, e⟩ := bind_some' e
  split at e
  · rename_i hq
    obtain ⟨⟨xs, ρ2⟩, e2, e⟩ := bind_some' e
    cases e
    exact ⟨ds, ρ1, xs, ρ2, e1, hq.1, hq.2, e2, rfl, rfl⟩
  · cases e
theorem e_comp_read {elt : E} {tg : Tg} {it : It} {ifs : Es} {vs : List Nat} (K : PySem.W.Frag) (hK : K = T.C.1) (hv : (tgSlots tg).all vs.contains = true) (σ : L2.St) (H : Hp) (Q : VK) (hq : tE T.C np call (.comp elt tg it ifs vs) σ H Q) :
    tLc (tI T.C np call it) (gOf K tg) (tIf' T.C np call ifs) (tE T.C np call elt) vs σ H Q := by
  subst hK
  obtain ⟨B, ρ, o, ρ', S, e, q⟩ := hq
  obtain ⟨ds, ρ1, xs, ρ2, e1, hqt, hlen, e2, rfl, rfl⟩ := inv_comp e
  refine ⟨B, ρ, ds, ρ1, S, e1, fun J H1 st it => fun D hD => ?_⟩
  let BD : Fb := fun a => B a ∨ a = D
  refine ⟨fun i m H' => m = ds.length - i ∧ i ≤ ds.length ∧ ∃ (ρi : Sl) (acc : List V) (done rest : List Iv.D), CSt T.C np B D vs ρ1 ρi σ H1 H' ∧ H' D = some (.lst acc) ∧ done.length ≤ i ∧
      Reps T.C (FF BD (wipeS ρi vs) (L2.wipe σ vs)) H' acc done ∧ compL np vs tg (fun ρ => evTest np call ifs ρ) (fun ρ => (ev np call elt ρ).bind immOf) (ds.drop i) ρi = some (rest, ρ2) ∧ xs = done ++ rest, ⟨ds.length, by simp, Nat.zero_le _, ?_⟩, ?_⟩
  · refine ⟨ρ1, [], [], xs, ⟨fun a o nd n e => by rw [upd_ne nd]; exact e, fun a o e => ⟨o, upd_grow hD a o e⟩, fun j d _ e => ⟨d, e⟩, fun j _ _ d e => ⟨d, e⟩, rfl, ?_⟩, upd_same, Nat.le_refl _, by simp only [Reps], by simpa using e2, rfl⟩
    refine (st.sim.wipe (vs := vs)).grow (upd_grow hD) (fun a h => h.elim .inl fun w => .inr (by rw [w]; exact hD)) fun a h => ?_
    rcases h with h | h
    · obtain ⟨o, e⟩ := st.sim.dom a h
      exact ⟨o, upd_grow hD a o e⟩
    · subst h; exact ⟨_, upd_same⟩
  · rintro i m H' ⟨rfl, hi, ρi, acc, done, rest, c, hacc, hdl, ra, e3, exs⟩
    obtain ⟨it1, it2⟩ := it i H' (FF BD (wipeS ρi vs) (L2.wipe σ vs)) (c.mv hD) fun a h => FF.dom c.sim h
    by_cases hlt : i < ds.length
    · -- a turn
      obtain ⟨go, yld⟩ := it1 ds[i] (by simp [hlt])
      refine .inr ⟨go, fun H' => ∃ (ρi : Sl) (acc : List V) (done rest : List Iv.D), CSt T.C np B D vs ρ1 ρi σ H1 H' ∧ H' D = some (.lst acc) ∧ done.length ≤ i + 1 ∧
        Reps T.C (FF BD (wipeS ρi vs) (L2.wipe σ vs)) H' acc done ∧ compL np vs tg (fun ρ => evTest np call ifs ρ) (fun ρ => (ev np call elt ρ).bind immOf) (ds.drop (i + 1)) ρi = some (rest, ρ2) ∧ xs = done ++ rest,
        fun H' h => ⟨ds.length - (i + 1), by omega, rfl, hlt, h⟩, fun x H2 hy => ?_⟩
      obtain ⟨ext, rx⟩ := yld x H2 hy
      rw [List.drop_eq_getElem_cons hlt] at e3
      simp only [compL] at e3
      obtain ⟨ρa, e4, e3⟩ := bind_some' e3
      obtain ⟨⟨b, ρb⟩, e5, e3⟩ := bind_some' e3
      have S2 : Sim T.C BD (wipeS ρi vs) (L2.wipe σ vs) H2 := c.sim.grow ext (fun a h => .inl h) fun a h => let ⟨o, e⟩ := c.sim.dom a h; ⟨o, ext a o e⟩
      refine g_read S2 rx e4 fun σ2 s2 o2 => ?_
      have hσ : ∀ j, j ∉ vs → σ2[j]? = (L2.wipe σ vs)[j]? := fun j hj => o2 j (tgSlots_sub hv hj)
      have hσl : σ2.length = σ.length := by
        have := s2.sim.len
        rw [← this, s2.len, wipeS_len, c.len]
        exact st.sim.len
      have hla : ρa.length = ρi.length := by rw [s2.len, wipeS_len]
      have hna : ∀ (j : Nat) (d : Iv.D), ρa[j]? = some (Slot.own d) → (wipeS ρi vs)[j]? = some (Slot.own d) := asgTg_nown e4
      have hka : ∀ (j : Nat), j < np → ∀ d : Iv.D, (wipeS ρi vs)[j]? = some (Slot.own d) → ∃ d', ρa[j]? = some (Slot.own d') := fun j hj d e => (s2.keep j hj d e).1
      refine ⟨wipe_same hσl fun j hj => by rw [hσ j hj, wipe_out hj], ?_⟩
      -- the test, the element
      have tst : ∀ {R : Bool → Hp → Prop}, (∀ H3, Stp T.C np BD ρa ρb σ2 H2 H3 → R b H3) → tIf' T.C np call ifs σ2 H2 R := fun {R} hR => by
        cases ifs with
        | nil =>
          simp only [evTest] at e5
          cases e5
          exact hR H2 (.refl s2.sim)
        | cons f r =>
          simp only [evTest] at e5
          exact ⟨BD, ρa, b, ρb, s2.sim, e5, fun H3 st3 => hR H3 st3⟩
      refine tst fun H3 st3 => ?_
      have nDa : ¬ Own ρa σ2 D := barred s2.sim (.inr rfl)
      have e3D : H3 D = some (.lst acc) := st3.chg D _ nDa (ext D _ hacc)
      have mA : Mv (FF BD (wipeS ρi vs) (L2.wipe σ vs)) (FF BD ρa σ2) H' H2 := fun a o h e => ⟨ext a o e, fun z => h (z.elim .inl fun w => .inr (by
        obtain ⟨j, d, f1, f2⟩ := w
        have f3 := hna j d f1
        exact ⟨j, d, f3, by rw [← hσ j (wipeS_own f3).1]; exact f2⟩))⟩
      have back : ∀ {ρc : Sl} {H4 : Hp}, Stp T.C np BD ρa ρc σ2 H2 H4 → ∀ a, FF BD (wipeS ρc vs) (L2.wipe σ vs) a → FF BD ρc σ2 a := fun {ρc H4} s4 a h => h.elim .inl fun w => .inr (by
        obtain ⟨j, d, f1, f2⟩ := w
        obtain ⟨hn, f3⟩ := wipeS_own f1
        exact ⟨j, d, f3, by rw [hσ j hn]; exact f2⟩)
      cases b with
      | false =>
        simp only [Bool.false_eq_true, if_false] at e3 ⊢
        exact ⟨ρb, acc, done, rest, c.next ext hna hka hσ hσl hla st3, e3D, by omega, Reps.mv (fun a o h e => by
          have h1 := mA a o h e
          have h2 := st3.mv a o h1.2 h1.1
          exact ⟨h2.1, fun z => h2.2 (back st3 a z)⟩) done acc ra, e3, exs⟩
      | true =>
        simp only [if_true] at e3 ⊢
        obtain ⟨⟨y, ρc⟩, e6, e3⟩ := bind_some' e3
        obtain ⟨⟨ys, ρd⟩, e7, e3⟩ := bind_some' e3
        cases e3
        obtain ⟨f, e6⟩ := imm_inv e6
        refine tE_of st3.sim e6 fun w H4 p4 => ?_
        have s4 := st3.trans p4.stp
        have e4D : H4 D = some (.lst acc) := s4.chg D _ nDa (ext D _ hacc)
        have c4 := c.next ext hna hka hσ hσl hla s4
        have r4 : Reps T.C (FF BD ρc σ2) H4 acc done := Reps.mv (fun a o h e => by
          have h1 := mA a o h e
          exact s4.mv a o h1.2 h1.1) done acc ra
        have mU : Mv (FF BD ρc σ2) (FF BD (wipeS ρc vs) (L2.wipe σ vs)) H4 (upd H4 D (.lst (acc ++ [w]))) := fun a o h e =>
          ⟨by rw [upd_ne (fun z => h (.inl (.inr z)))]; exact e, fun z => h (back s4 a z)⟩
        have la : acc.length ≤ i := by rw [r4.len]; exact hdl
        refine ⟨acc, e4D, by omega, ρc, acc ++ [w], done ++ [y], ys, ⟨fun a o nd n e => by rw [upd_ne nd]; exact c4.chg a o nd n e, fun a o e => ?_, c4.nown, c4.keep, c4.len, ?_⟩, upd_same, by simp; omega, ?_, e7, by simp [exs]⟩
        · obtain ⟨o', e'⟩ := c4.dom a o e
          by_cases ha : a = D
          · subst ha; exact ⟨_, upd_same⟩
          · exact ⟨o', by rw [upd_ne ha]; exact e'⟩
        · have m0 : Mv (FF BD (wipeS ρc vs) (L2.wipe σ vs)) (FF BD (wipeS ρc vs) (L2.wipe σ vs)) H4 (upd H4 D (.lst (acc ++ [w]))) := fun a o h e => ⟨by rw [upd_ne (fun z => h (.inl (.inr z)))]; exact e, h⟩
          refine ⟨c4.sim.len, fun a h => ?_, fun j d e => ?_, fun j d e => ?_, c4.sim.inj⟩
          · obtain ⟨o', e'⟩ := c4.sim.dom a h
            by_cases ha : a = D
            · subst ha; exact ⟨_, upd_same⟩
            · exact ⟨o', by rw [upd_ne ha]; exact e'⟩
          · obtain ⟨v, f1, r1⟩ := c4.sim.val j d e
            exact ⟨v, f1, Rep.mv m0 d v r1⟩
          · obtain ⟨a, f1, nb, ob⟩ := c4.sim.own j d e
            exact ⟨a, f1, nb, ob.mv m0 fun o eo => by rw [upd_ne (fun z => nb (.inr z))]; exact eo⟩
        · refine (Reps.mv mU done acc r4).app ?_
          simp only [Reps]
          exact ⟨Rep.mv mU y w p4.weak, trivial⟩
    · have ei : i = ds.length := by omega
      refine .inl ⟨it2 ei, ?_⟩
      rw [ei, List.drop_length] at e3
      simp only [compL] at e3
      cases e3
      rw [List.append_nil] at exs
      subst exs
      exact q _ _ (c.post st hD hqt hacc ra)
end Iv
/-! Iv, part M: all expressions. -/
namespace Iv
open PySem PySem.Spec PyProof.Rows L2
variable {T : Tab} {n : Nat} {N : List Str} {sc : Scope} {fb : Str → Bool} {X : Cx} {np : Nat} {call : CallF}

abbrev AI (T : Tab) (n np : Nat) (call : CallF) (N : List Str) (it : It) : Prop := ∀ {sc : Scope} {fb : Str → Bool} {X : Cx}, Good T n N sc fb X → HI T np call N sc X it
theorem it_set {it : It} {tg ast : Expr} {fns : List Fn} (h : chkIt N fns sc it tg ast = true) : nSet ast = true := by
  cases it with
  | seq e => simp only [chkIt, Bool.and_eq_true] at h; exact h.2
  | rng1 e => simp only [chkIt] at h; split at h <;> first | rfl | cases h
  | rng2 a b => simp only [chkIt] at h; split at h <;> first | rfl | cases h
  | enm e => simp only [chkIt] at h; split at h <;> first | rfl | cases h
  | zip a b => simp only [chkIt] at h; split at h <;> first | rfl | cases h
theorem own_snd (N : List Str) : ∀ vs : List Nat, (ownOf N vs).map (·.2) = vs
  | [] => rfl
  | v :: vs => by
    show v :: (ownOf N vs).map (·.2) = v :: vs
    rw [own_snd N vs]
structure CompOk (N : List Str) (fns : List Fn) (sc scope : Scope) (elt : E) (tg : Tg) (it : It) (ifs : Es) (vs : List Nat) (x t i : Expr) (fs : List Expr) : Prop where
  it : chkIt N fns sc it t i = true
  blk : blkC N sc scope (ownOf N vs) = true
  sub : (tgSlots tg).all vs.contains = true
  tg : chkTg N (relS scope sc) (blkFb scope) tg t = true
  elt : chk N fns (relS scope sc) elt x = true
  ifs : chkIf N fns (relS scope sc) ifs fs = true
theorem comp_inv {elt : E} {tg : Tg} {it : It} {ifs : Es} {vs : List Nat} {ast : Expr} {fns : List Fn} (h : chk N fns sc (.comp elt tg it ifs vs) ast = true) : ∃ x t i fs scope pos, ast = .ListComp x [⟨t, i, fs, 0⟩] scope pos ∧ CompOk N fns sc scope elt tg it ifs vs x t i fs := by
  simp only [chk] at h
  split at h
  · simp only [Bool.and_eq_true] at h
    exact ⟨_, _, _, _, _, _, rfl, h.1.1.1.1.1, h.1.1.1.1.2, h.1.1.1.2, h.1.1.2, h.1.2, h.2⟩
  · cases h
theorem e_comp {elt : E} {tg : Tg} {it : It} {ifs : Es} {vs : List Nat} (G : Good T n N sc fb X) (hi : AI T n np call N it) (he : AE T n np call N elt) (ht : ∀ e r, ifs = .cons e r → AT T n np call N e) : HE T np call N sc X (.comp elt tg it ifs vs) := by
  intro ast h
  obtain ⟨x, t, i, fs, scope, pos, rfl, c⟩ := comp_inv h
  have hN : X.N.Nodup := by rw [G.xN]; exact G.nd
  have ok : BlkOk X.N X.env.scope scope (ownOf N vs) := by rw [G.xN, G.xsc]; exact blkOk_by c.blk
  have hg : ∀ (s : Shared) (H : Hp) (C : Addr) (cl : List (Str × Addr)) (fp : List Addr), PG (X.blk s H scope (compEnvC scope cl C X.env) fp) t (gOf X.K tg) := fun s H C cl fp => pg_tg (G.blk s H scope cl C fp) c.tg
  have base := pe_lc (elt := x) (own := ownOf N vs) (pos := pos) G.calm hN (hi G t i c.it) ok hg (fun s H C cl fp => ptS (np := np) (call := call) (G.blk s H scope cl C fp) c.ifs fun e r er => ht e r er (G.blk s H scope cl C fp))
    (fun s H C cl fp => he (G.blk s H scope cl C fp) x c.elt) (fun y => set_no (it_set c.it))
  rw [own_snd] at base
  exact ⟨fun pins s σ H Q I hq => base.run pins s σ H Q I (e_comp_read X.K G.xK c.sub σ H Q hq)⟩

/-! ### dict displays -/
def trsOf (C : CV) (np : Nat) (call : CallF) : List Key → Es → List (TE × TE)
  | k :: ks, .cons e r => (tC (kV k), tE C np call e) :: trsOf C np call ks r
  | _, _ => []
theorem key_pe {k : Key} {e : Expr} (h : keyIsE k e = true) : PE X e (tC (kV k)) := by
  cases k with
  | inl i =>
    cases e with
    | Constant c j p =>
      cases c with
      | int m =>
        have : i = m := of_decide_eq_true (by simpa [keyIsE] using h)
        subst this
        exact pe_int
      | _ => simp [keyIsE] at h
    | _ => simp [keyIsE] at h
  | inr x =>
    cases e with
    | Constant c j p =>
      cases c with
      | str m =>
        have : x = m := of_decide_eq_true (by simpa [keyIsE] using h)
        subst this
        exact pe_str
      | _ => simp [keyIsE] at h
    | _ => simp [keyIsE] at h
theorem pps_of {pos : Pos} : ∀ {ks : List Key} {es : Es} {kx : List (Option Expr)} {xs : List Expr}, keysIs ks kx = true → chks N T.fns sc es xs = true → kx.length = xs.length → HEs T np call N sc X es → PPs X pos kx xs (trsOf T.C np call ks es) ∧ kx.all (·.isSome) = true ∧ ks.length = es.len
  | [], es, kx, xs, h1, h2, h3, _ => by
    cases kx with
    | cons k kx => simp [keysIs] at h1
    | nil =>
      have hx : xs = [] := List.eq_nil_of_length_eq_zero h3.symm
      subst hx
      have he : es = .nil := es_len0 (chks_len h2).symm
      subst he
      exact ⟨pps_nil, rfl, rfl⟩
  | k :: ks, es, kx, xs, h1, h2, h3, hh => by
    cases kx with
    | nil => simp [keysIs] at h1
    | cons k' kx =>
      cases xs with
      | nil => simp at h3
      | cons x xs =>
        cases es with
        | nil => simp [chks] at h2
        | cons e r =>
          cases k' with
          | none => simp [keysIs] at h1
          | some k' =>
            simp only [keysIs, Bool.and_eq_true] at h1
            simp only [chks, Bool.and_eq_true] at h2
            obtain ⟨q1, q2, q3⟩ := pps_of (pos := pos) h1.2 h2.2 (by simpa using h3) hh.2
            refine ⟨pps_cons (key_pe h1.1) (hh.1 x h2.1.1) q1, ?_, by simp [Es.len, q3]⟩
            rw [List.all_cons, q2]; rfl
section
variable {C : CV} {B : Fb} {ρ ρ' : Sl} {σ : L2.St} {H H' : Hp}
theorem pairs_read : ∀ {ks : List Key} {es : Es} {ρ ρ' : Sl} {H : Hp} {os : List Opd} {R : List (V × V) → Hp → Prop}, Sim C B ρ σ H → evs np call es ρ = some (os, ρ') → ks.length = es.len →
    (∀ vs H', PostA C np B ρ ρ' σ H H' os vs → R ((ks.map kV).zip vs) H') → tPairs (trsOf C np call ks es) σ H R
  | [], es, ρ, ρ', H, os, R, S, e, hl, q => by
    have he : es = .nil := es_len0 hl.symm
    subst he
    simp only [evs] at e
    cases e
    exact q [] H ⟨.refl S, rfl, fun i o v e1 => by simp at e1⟩
  | k :: ks, .nil, _, _, _, _, _, _, _, hl, _ => by simp [Es.len] at hl
  | k :: ks, .cons e r, ρ, ρ', H, os, R, S, h, hl, q => by
    simp only [evs] at h
    obtain ⟨⟨o1, ρ1⟩, e1, h⟩ := bind_some' h
    obtain ⟨⟨os1, ρ2⟩, e2, h⟩ := bind_some' h
    cases h
    show tPairs ((tC (kV k), tE C np call e) :: trsOf C np call ks r) σ H R
    refine tE_of S e1 fun v H1 p1 => pairs_read p1.stp.sim e2 (by simpa [Es.len] using hl) fun vs H2 p2 => q (v :: vs) H2 ⟨p1.stp.trans p2.stp, by simp [p2.len], fun i o w a b => ?_⟩
    cases i with
    | zero =>
      simp at a b
      subst a; subst b
      exact p1.op.next p2.stp
    | succ i => exact p2.op i o w (by simpa using a) (by simpa using b)
theorem repKs_zip {F : Fb} : ∀ {ks : List Key} {vs : List V} {ds : List D}, Reps C F H vs ds → ks.length = ds.length → RepKs C F H (ks.zip vs) (ks.zip ds)
  | [], _, _, _, _ => by simp [RepKs]
  | k :: ks, [], [], _, h => by simp at h
  | k :: ks, [], _ :: _, h, _ => by simp only [Reps] at h
  | k :: ks, _ :: _, [], h, _ => by simp only [Reps] at h
  | k :: ks, v :: vs, d :: ds, h, hl => by
    simp only [Reps] at h
    simp only [List.zip_cons_cons, RepKs]
    exact ⟨trivial, h.1, repKs_zip h.2 (by simpa using hl)⟩
theorem zip_kV : ∀ {ks : List Key} {vs : List V}, (ks.map kV).zip vs = (ks.zip vs).map fun kv => (kV kv.1, kv.2)
  | [], _ => by simp
  | _ :: _, [] => by simp
  | k :: ks, v :: vs => by simp [zip_kV (ks := ks) (vs := vs)]
/-- a dict whose items are made behind it -/
theorem Post.late {p : Addr} {u0 : HO} {acc : List (Key × V)} {ds : List (Key × D)} (S : Sim C B ρ σ H) (hp : H p = none) (st : Stp C np (fun a => B a ∨ a = p) ρ ρ' σ (upd H p u0) H')
    (r : RepKs C (FF (fun a => B a ∨ a = p) ρ' σ) H' acc ds) : Post C np B ρ ρ' σ H (upd H' p (.dK acc)) (.imm true (.dct ds)) (.ref p) := by
  have nO : ∀ a, Own ρ' σ a → a ≠ p := fun a h z => barred st.sim (.inr rfl) (by rw [← z]; exact h)
  have m0 : Mv (FF (fun a => B a ∨ a = p) ρ' σ) (FF (fun a => B a ∨ a = p) ρ' σ) H' (upd H' p (.dK acc)) := fun a o h e => ⟨by rw [upd_ne (fun z => h (.inl (.inr z)))]; exact e, h⟩
  have sub : ∀ a, FF B ρ' σ a → FF (fun a => B a ∨ a = p) ρ' σ a := fun a h => h.elim (fun w => .inl (.inl w)) .inr
  have mk : ∀ B' : Fb, (∀ a, B' a → B a ∨ a = p) → Sim C B' ρ' σ (upd H' p (.dK acc)) := fun B' hB => by
    have mF : ∀ a, FF B' ρ' σ a → FF (fun a => B a ∨ a = p) ρ' σ a := fun a h => h.elim (fun w => .inl (hB a w)) .inr
    refine ⟨st.sim.len, fun a h => ?_, fun j d e => ?_, fun j d e => ?_, st.sim.inj⟩
    · by_cases ha : a = p
      · subst ha; exact ⟨_, upd_same⟩
      · obtain ⟨o, e⟩ := st.sim.dom a (hB a h)
        exact ⟨o, by rw [upd_ne ha]; exact e⟩
    · obtain ⟨v, e1, rv⟩ := st.sim.val j d e
      exact ⟨v, e1, Rep.mv (fun a o h eo => ⟨(m0 a o h eo).1, fun z => h (mF a z)⟩) d v rv⟩
    · obtain ⟨a, e1, nb, ob⟩ := st.sim.own j d e
      exact ⟨a, e1, fun z => nb (hB a z), ob.mv (fun a o h eo => ⟨(m0 a o h eo).1, fun z => h (mF a z)⟩) fun o eo => by rw [upd_ne (fun z => nb (.inr z))]; exact eo⟩
  have S' := mk B fun a h => .inl h
  have ne : ∀ a o, H a = some o → a ≠ p := fun a o e z => by rw [z, hp] at e; cases e
  have nFp : ¬ FF B ρ' σ p := fun z => by
    rcases z with z | z
    · obtain ⟨o, e⟩ := S.dom p z
      rw [hp] at e; cases e
    · exact nO p z rfl
  refine ⟨⟨fun a o n e => by rw [upd_ne (ne a o e)]; exact st.chg a o n (upd_grow hp a o e), fun a o e => ?_, st.nown, st.keep, st.len, S'⟩, ?_, fun d e => ?_⟩
  · obtain ⟨o', e'⟩ := st.dom a o (upd_grow hp a o e)
    exact ⟨o', by rw [upd_ne (ne a o e)]; exact e'⟩
  · simp only [OpOk, Rep]
    exact ⟨p, acc, rfl, nFp, upd_same, RepKs.mv (fun a o h e => ⟨(m0 a o h e).1, fun z => h (sub a z)⟩) ds acc r⟩
  · cases e
    exact ⟨p, rfl, hp, mk _ (fun a h => h), acc, upd_same, RepKs.mv m0 ds acc r⟩
end
theorem inv_dct {ks : List Key} {es : Es} {ρ ρ' : Sl} {o : Opd} (e : ev np call (.dct ks es) ρ = some (o, ρ')) : ∃ os ds, evs np call es ρ = some (os, ρ') ∧ imms os = some ds ∧ o = .imm true (.dct (mergeD [] (ks.zip ds))) := by
  simp only [ev] at e
  obtain ⟨⟨os, ρ1⟩, e1, e⟩ := bind_some' e
  obtain ⟨ds, e2, e⟩ := bind_some' e
  cases e
  exact ⟨os, ds, e1, e2, rfl⟩
theorem e_dct {ks : List Key} {es : Es} (he : HEs T np call N sc X es) : HE T np call N sc X (.dct ks es) := by
  intro ast h
  simp only [chk] at h
  split at h
  · rename_i kx xs pos
    simp only [Bool.and_eq_true, decide_eq_true_eq] at h
    obtain ⟨⟨⟨h1, h2⟩, h3⟩, h4⟩ := h
    obtain ⟨pp, hall, hlen⟩ := pps_of (pos := pos) h1 h2 h3 he
    refine ⟨fun pins s σ H Q I hq => ?_⟩
    obtain ⟨B, ρ, o, ρ', S, e, q⟩ := hq
    obtain ⟨os, ds, e1, e2, rfl⟩ := inv_dct e
    have hd : ds.length = ks.length := by rw [← imms_len e2, evs_len e1, hlen]
    cases kx with
    | nil =>
      have hx : xs = [] := List.eq_nil_of_length_eq_zero h3.symm
      subst hx
      cases ks with
      | cons k ks => simp [keysIs] at h1
      | nil =>
        have he' : es = .nil := es_len0 hlen.symm
        subst he'
        simp only [evs] at e1
        cases e1
        exact pe_dnewK.run pins s σ H Q I fun p hp => q _ _ (.dct (.refl S) hp (by simp [RepKs, mergeD]))
    | cons k0 kx =>
      refine (pe_disp pp hall h3 (by simp) h4).run pins s σ H Q I fun p hp => ?_
      have S1 : Sim T.C (fun a => B a ∨ a = p) ρ σ (upd H p (.dK [])) := S.grow (upd_grow hp) (fun a h => h.elim .inl fun w => .inr (by rw [w]; exact hp)) fun a h => by
        rcases h with h | h
        · obtain ⟨o, e⟩ := S.dom a h
          exact ⟨o, upd_grow hp a o e⟩
        · subst h; exact ⟨_, upd_same⟩
      refine pairs_read S1 e1 hlen fun vs H2 p2 => ⟨?_, ks.zip vs, zip_kV, ?_, q _ _ ?_⟩
      · exact p2.stp.chg p _ (barred S1 (.inr rfl)) upd_same
      · have : ks.length = (k0 :: kx).length := by
          have := chks_len h2
          rw [hlen, ← this, h3]
        rw [List.length_zip]
        omega
      · have r := PostA.imms e2 p2.len p2.op
        have r0 : RepKs T.C (FF (fun a => B a ∨ a = p) ρ' σ) H2 [] [] := by simp [RepKs]
        exact Post.late S hp p2.stp (RepKs.merge r0 (repKs_zip r hd.symm))
  · cases h
end Iv
/-! Iv, part M2: a chain of two comparisons; a list, a tuple from its end. -/
namespace L2
open PySem PySem.Spec PyProof.Rows
section
variable {X : Cx}
theorem fail_opR (f : Value → Value → Sem Value) : OpR X f (fun _ _ _ _ => False) := fun pins s σ H x y v u Q I rx ry q => q.elim
end
theorem applied_rev {prog : Program} {w : World} {A : Around} {E : Value → Shared → Prop} {s : Shared} {sl : Addr} {vl vu vs : Value} {n : Nat} {Q : Int × Int × Nat → Shared → Prop} (hs : s.heap.IsSliceOf sl vl vu vs) (pl : IsPart vl none) (pu : IsPart vu none) (ps : IsPart vs (some (-1)))
    (h : Q ((n : Int) - 1, -1, n) s) : wpAny (model prog w) A (Builtin.Slice.sliceApplied (.ref sl) (pure (n : Int))) Q E s := by
  obtain ⟨os, hos, hcs, hds⟩ := id hs
  unfold Builtin.Slice.sliceApplied Builtin.Slice.sliceFields
  refine wpAny_bind (wpAny_bind (wpAny_field hos hds (x := vl) rfl (wpAny_bind (wpAny_field hos hds (x := vu) rfl (wpAny_bind (wpAny_field hos hds (x := vs) rfl (wpAny_pure ?_)))))))
  refine wpAny_bind (HT.slicePart_ ps ?_)
  show wpAny _ _ (if ((-1 : Int) == 0) = true then _ else _) _ _ s
  rw [if_neg (by decide)]
  refine wpAny_bind (HT.slicePart_ pl (wpAny_bind (HT.slicePart_ pu (wpAny_bind (wpAny_pure ?_)))))
  have ha : Builtin.Slice.sliceAdjust none none (-1) (n : Int) = ((n : Int) - 1, -1) := rfl
  show wpAny _ _ (match Builtin.Slice.sliceAdjust none none (-1) (n : Int) with | (lo, hi) => pure (lo, (-1 : Int), Builtin.Slice.slicePlaces lo hi (-1))) _ _ s
  rw [ha]
  have hp : Builtin.Slice.slicePlaces ((n : Int) - 1) (-1) (-1) = n := by
    unfold Builtin.Slice.slicePlaces
    rw [if_neg (by decide)]
    split
    · rw [show (- -1 : Int) = 1 from rfl, Int.ediv_one]
      omega
    · omega
  show wpAny _ _ (pure ((n : Int) - 1, (-1 : Int), Builtin.Slice.slicePlaces ((n : Int) - 1) (-1) (-1))) _ _ s
  rw [hp]
  exact wpAny_pure h
theorem fm_congr {α β : Type} {f g : α → Option β} : ∀ {l : List α}, (∀ x, x ∈ l → f x = g x) → l.filterMap f = l.filterMap g
  | [], _ => rfl
  | x :: l, h => by
    have e1 := h x (by simp)
    have e2 := fm_congr (l := l) fun y hy => h y (by simp [hy])
    rw [List.filterMap_cons, List.filterMap_cons, e1, e2]
theorem pick_rev (xs : Array Value) : ((List.range xs.size).filterMap fun (m : Nat) => xs[(((xs.size : Int) - 1) + (m : Int) * (-1)).toNat]?).toArray = xs.toList.reverse.toArray := by
  congr 1
  have e : ∀ m, m ∈ List.range xs.size → xs[(((xs.size : Int) - 1) + (m : Int) * (-1)).toNat]? = xs[xs.size - 1 - m]? := fun m hm => by
    rw [List.mem_range] at hm
    rw [show (((xs.size : Int) - 1) + (m : Int) * (-1)).toNat = xs.size - 1 - m by omega]
  rw [fm_congr e, ← PySem.W.krv_all xs, ← List.filterMap_reverse, ← PySem.W.krv_range, List.filterMap_map]
  rfl
theorem getItem_tuple_rev {prog : Program} {w : World} {A : Around} {E : Value → Shared → Prop} {s : Shared} {t sl : Addr} {items : Array Value} {vl vu vs : Value} {Q : Value → Shared → Prop} (ht : IsTup s.heap t items) (hs : s.heap.IsSliceOf sl vl vu vs) (pl : IsPart vl none) (pu : IsPart vu none) (ps : IsPart vs (some (-1)))
    (h : Q (.ref s.heap.objs.size) { s with heap := s.heap.push { cls := .type "tuple", data := .seq items.toList.reverse.toArray } })
    (hsz : items.size ≤ sizeLine) : wpAny (model prog w) A (getItem (.ref t) (.ref sl)) Q E s := by
  have htake : sizeOk (.seq items.toList.reverse.toArray) := by
    show items.toList.reverse.toArray.size ≤ sizeLine
    rw [List.size_toArray, List.length_reverse, Array.length_toList]
    exact hsz
  obtain ⟨os, hos, hcs, hds⟩ := id hs
  have hTs : s.TypeIs (.ref sl) "slice" := ⟨os, hos, hcs⟩
  unfold getItem
  try with_reducible refine wpAny_holding ?_
  first | refine wpAny_bind (wpAny_pure ?_) | skip
  refine wpAny_bind (wpAny_sequenceKey ht.typeIs (by decide) ?_)
  refine wpAny_bind (wpAny_callSpecial?_slot (name := Str.ofString "__getitem__") ht.typeIs PyProof.Rows.slot_tuple_getitem
    (wpAny_call_entry PyProof.Rows.slot_tuple_getitem ht.typeIs entry_tuple_getitem ?_ (args_tuple_getitem _ _)))
  show wpAny _ _ (Builtin.Tuple.tupleItemsOf (.ref t) >>= _) _ _ s
  refine wpAny_bind (tupleItemsOf_ ht ?_)
  refine wpAny_bind (wpAny_typeOf hTs ?_)
  rw [if_pos (by decide)]
  refine wpAny_bind (applied_rev hs pl pu ps ?_)
  have hno : ¬ ((((items.size : Int) - 1 == 0) && (-1 : Int) == 1 && (items.size == items.size)) = true) := by
    intro q
    rw [Bool.and_eq_true, Bool.and_eq_true] at q
    exact absurd (eq_of_beq q.1.2) (by decide)
  show wpAny _ _ (if ((((items.size : Int) - 1 == 0) && (-1 : Int) == 1 && (items.size == items.size)) = true) then _ else _) _ _ s
  rw [if_neg hno, pick_rev]
  first
    | exact wpAny_bind (m := Builtin.Tuple.tupleExact _) (wpAny_newObj_type (wpAny_pure ⟨_, rfl, wpAny_pure h⟩) htake)
    | exact wpAny_bind (m := Builtin.Tuple.tupleExact _) (wpAny_newObj_type (wpAny_bind (wpAny_pure (wpAny_pure ⟨_, rfl, wpAny_pure h⟩))) htake)
    | exact wpAny_bind (wpAny_bind (m := Builtin.Tuple.tupleExact _) (wpAny_newObj_type (wpAny_pure (wpAny_pure ⟨_, rfl, wpAny_pure h⟩)) htake))
    | exact wpAny_bind (wpAny_bind (m := Builtin.Tuple.tupleExact _) (wpAny_newObj_type (wpAny_pure ⟨_, rfl, wpAny_pure h⟩) htake))
section
variable {X : Cx}
/-- x[::-1], a list or a tuple -/
def tRevA (K : PySem.W.Frag) (te : TE) : TE := fun σ H Q => te σ H fun x H1 => ∃ a xs, x = .ref a ∧
  ((SqL K H1 a xs ∧ ∀ p, H1 p = none → Q (.ref p) (upd H1 p (.lst xs.reverse))) ∨ (SqT K H1 a xs ∧ ∀ p H2, H1 p = none → Iv.NewT H1 p xs.reverse H2 → Q (.ref p) H2))
theorem pe_revA {e : Expr} {te : TE} {k : Nat} {p1 p2 p3 pos : Pos} (he : PE X e te) : PE X (.Subscript e (.Slice none none (some (.UnaryOp .USub (.Constant (.int 1) k p1) p2)) p3) pos) (tRevA X.K te) := by
  refine ⟨fun pins s σ H Q I h => ?_⟩
  refine Subscript_ (thn (he.run pins s σ H _ I h) fun v s1 ⟨x, H1, I1, r1, q1⟩ => ?_)
  obtain ⟨a, xs, ex, q⟩ := q1
  subst ex
  cases r1
  have hst : PO X (some (.UnaryOp .USub (.Constant (.int 1) k p1) p2)) (tPart (tUn (rU fun i => .int (-i)) (tC (.int 1)))) := po_some (pe_un un_neg pe_int)
  refine wpAny_Slice (thn (po_none.run pins s1 σ H1 (fun o H2 => o = none ∧ H2 = H1) I1 ⟨rfl, rfl⟩) fun vl s2 ⟨l, H2, I2, pl, el, e2⟩ => ?_)
  subst el e2
  refine thn (po_none.run pins s2 σ H2 (fun o H3 => o = none ∧ H3 = H2) I2 ⟨rfl, rfl⟩) fun vu s3 ⟨u, H3, I3, pu, eu, e3⟩ => ?_
  subst eu e3
  refine thn (hst.run pins s3 σ H3 (fun o H4 => o = some (-1) ∧ H4 = H3) I3 ⟨1, rfl, -1, rfl, rfl, rfl⟩) fun vs s4 ⟨o, H4, I4, ps, eo, e4⟩ => ?_
  subst eo e4
  have I5 : Inv X pins σ H4 { s4 with heap := s4.heap.push { cls := .type "slice", data := .fields #[vl, vu, vs] } } := I4.kept (t' := s4.toks) fun b ob q => Heap.get?_push_of_some _ q
  show wpAny (model X.prog X.w) X.A (subscriptTail e (.Slice none none (some (.UnaryOp .USub (.Constant (.int 1) k p1) p2)) p3) (.ref a) (.ref s4.heap.objs.size)) (EP X pins σ Q) X.xe { s4 with heap := s4.heap.push { cls := .type "slice", data := .fields #[vl, vu, vs] } }
  rcases q with ⟨hx, q⟩ | ⟨hx, q⟩
  · obtain ⟨its, r, ht, hz⟩ := I5.list hx
    have hlen := r.length
    refine tail_any (ops := [.ref a, .ref s4.heap.objs.size]) ht.isList.typeIs (PySem.slot_list_getitem.lookup) ?_ (by with_unfolding_all rfl)
    refine wpAny_getItem_list_slice ht.isList (Heap.IsSliceOf.new _ vl vu vs) pl pu ps (by decide) ?_ (by rw [List.size_toArray]; omega)
    rw [PySem.W.krv_pick]
    refine ⟨.ref _, _, I5.laid (t' := s4.toks) (o := .lst xs.reverse) (fun b ob q => Heap.get?_push_of_some _ q) (Nat.le_refl _) ?_, rfl, q _ (I5.hok.fresh (Nat.le_refl _))⟩
    exact ⟨by rw [List.length_reverse]; exact hz, _, 0, r.reverse, Heap.get?_push_size _ rfl⟩
  · obtain ⟨its, r, ht, hz⟩ := I5.tuple hx
    have hlen := r.length
    refine tail_any (ops := [.ref a, .ref s4.heap.objs.size]) ht.typeIs (PyProof.Rows.slot_tuple_getitem.lookup) ?_ (by with_unfolding_all rfl)
    refine getItem_tuple_rev ht (Heap.IsSliceOf.new _ vl vu vs) pl pu ps ?_ (by rw [List.size_toArray]; omega)
    exact ⟨.ref _, _, Iv.newTup I5 (t := s4.toks) (fun b ob q => Heap.get?_push_of_some _ q) r.reverse (by rw [List.length_reverse]; exact hz) (Heap.get?_push_size _ rfl), rfl, q _ _ (I5.hok.fresh (Nat.le_refl _)) ⟨_, rfl, rfl⟩⟩
end
end L2

namespace Iv
open PySem PySem.Spec PyProof.Rows L2
variable {T : Tab} {n : Nat} {N : List Str} {sc : Scope} {fb : Str → Bool} {X : Cx} {np : Nat} {call : CallF}
theorem Reps.rev {C : CV} {F : Fb} {H : Hp} : ∀ {ds : List D} {vs : List V}, Reps C F H vs ds → Reps C F H vs.reverse ds.reverse
  | [], [], _ => by simp [Reps]
  | [], _ :: _, h => by simp [Reps] at h
  | _ :: _, [], h => by simp [Reps] at h
  | d :: ds, v :: vs, h => by
    simp only [Reps] at h
    rw [List.reverse_cons, List.reverse_cons]
    exact (Reps.rev h.2).app (by simp only [Reps]; exact ⟨h.1, trivial⟩)
theorem e_rev {a : E} (G : Good T n N sc fb X) (ha : HE T np call N sc X a) : HE T np call N sc X (.rev a) := by
  intro ast h
  simp only [chk] at h
  split at h
  · rename_i x j k p1 p2 p3 p
    simp only [Bool.and_eq_true, decide_eq_true_eq] at h
    obtain ⟨rfl, hx⟩ := h
    refine ⟨fun pins s σ H Q I hq => ?_⟩
    obtain ⟨B, ρ, o, ρ', S, e, q⟩ := hq
    simp only [ev] at e
    obtain ⟨⟨o1, ρ1⟩, e1, e⟩ := bind_some' e
    obtain ⟨d1, e2, e⟩ := bind_some' e
    obtain ⟨r, e3, e⟩ := bind_some' e
    cases e
    refine (pe_revA (ha x hx)).run pins s σ H Q I (tE_of S e1 fun v H1 p1 => ?_)
    have rv := p1.op.read p1.stp.sim e2
    cases d1 <;> simp only [revop] at e3 <;> try (cases e3; done)
    · cases e3
      obtain ⟨a, xs, rfl, t, rs⟩ := rv.tup
      rw [G.xK]
      exact ⟨a, xs, rfl, .inr ⟨t, fun p H2 hp hn => q _ _ (.tup p1.stp hp rs.rev hn)⟩⟩
    · cases e3
      obtain ⟨a, xs, rfl, t, rs⟩ := rv.lst
      rw [G.xK]
      exact ⟨a, xs, rfl, .inl ⟨.inl (.inl t), fun p hp => q _ _ (.lst p1.stp hp rs.rev)⟩⟩
  · cases h
/-- the rule of a comparison in a chain -/
theorem cmp_ord {op : COp} {f : CmpOp} (G : Good T n N sc fb X) (ho : copIs op f = true) (hn : ordC op = true) {d1 d2 : D} {r : Bool} (e : cmpop op d1 d2 = some r) :
    ∃ r2 : R2, OpR X (compareOp f) r2 ∧ ∀ (F : Fb) (H : Hp) (v u : V) (Q : VK), RepT T.C F H v d1 → RepT T.C F H u d2 → Q (.bl r) H → r2 v u H Q := by
  rcases cmp_rule G rfl ho e with h | ⟨kvs, k, rfl, hk, ⟨rfl, _⟩ | ⟨rfl, _⟩⟩
  · exact h
  · cases op <;> first | (simp [copIs] at ho; done) | (simp [ordC] at hn; done)
  · cases op <;> first | (simp [copIs] at ho; done) | (simp [ordC] at hn; done)
theorem cmp2_read {op op2 : COp} {f1 f2 : CmpOp} {a b c : E} (G : Good T n N sc fb X) (ho : copIs op f1 = true) (ho2 : copIs op2 f2 = true) (hn : ordC op = true) (hn2 : ordC op2 = true)
    {B : Fb} {ρ ρ' : Sl} {o : Opd} {σ : L2.St} {H : Hp} {Q : VK} (S : Sim T.C B ρ σ H) (e : ev np call (.cmp2 op op2 a b c) ρ = some (o, ρ')) (q : ∀ r H', o = .imm false (.bl r) → Stp T.C np B ρ ρ' σ H H' → Q (.bl r) H') :
    ∃ r1 r2 : R2, OpR X (compareOp f1) r1 ∧ OpR X (compareOp f2) r2 ∧ tChain r1 r2 (tE T.C np call a) (tE T.C np call b) (tE T.C np call c) σ H Q := by
  simp only [ev] at e
  obtain ⟨⟨d1, ρ1⟩, e1, e⟩ := bind_some' e
  obtain ⟨g1, e1⟩ := imm_inv e1
  obtain ⟨⟨d2, ρ2⟩, e2, e⟩ := bind_some' e
  obtain ⟨g2, e2⟩ := imm_inv e2
  obtain ⟨r, e3, e⟩ := bind_some' e
  obtain ⟨r1, hop, hr⟩ := cmp_ord G ho hn e3
  cases r with
  | false =>
    simp only [Bool.false_eq_true, if_false] at e
    cases e
    refine ⟨r1, _, hop, fail_opR _, tE_of S e1 fun v H1 p1 => tE_of p1.stp.sim e2 fun u H2 p2 => ?_⟩
    refine hr _ H2 v u _ (.inl (Rep.mv p2.stp.mv _ _ p1.weak)) (.inl p2.weak) ⟨false, rfl, ?_⟩
    rw [if_neg Bool.false_ne_true]
    exact q _ _ rfl (p1.stp.trans p2.stp)
  | true =>
    simp only [if_true] at e
    obtain ⟨⟨d3, ρ3⟩, e4, e⟩ := bind_some' e
    obtain ⟨g3, e4⟩ := imm_inv e4
    obtain ⟨r', e5, e⟩ := bind_some' e
    cases e
    obtain ⟨r2, hop2, hr2⟩ := cmp_ord G ho2 hn2 e5
    refine ⟨r1, r2, hop, hop2, tE_of S e1 fun v H1 p1 => tE_of p1.stp.sim e2 fun u H2 p2 => ?_⟩
    refine hr _ H2 v u _ (.inl (Rep.mv p2.stp.mv _ _ p1.weak)) (.inl p2.weak) ⟨true, rfl, ?_⟩
    rw [if_pos rfl]
    exact tE_of p2.stp.sim e4 fun y H3 p3 => hr2 _ H3 u y _ (.inl (Rep.mv p3.stp.mv _ _ p2.weak)) (.inl p3.weak) (q _ _ rfl ((p1.stp.trans p2.stp).trans p3.stp))
theorem e_cmp2 {op op2 : COp} {a b c : E} (G : Good T n N sc fb X) (ha : HE T np call N sc X a) (hb : HE T np call N sc X b) (hc : HE T np call N sc X c) : HE T np call N sc X (.cmp2 op op2 a b c) := by
  intro ast h
  simp only [chk] at h
  split at h
  · rename_i x f1 f2 y z p
    simp only [Bool.and_eq_true, Bool.not_eq_true'] at h
    obtain ⟨⟨⟨⟨⟨⟨⟨ho, ho2⟩, hn⟩, hn2⟩, hx⟩, hy⟩, hz⟩, hm⟩ := h
    refine ⟨fun pins s σ H Q I hq => ?_⟩
    obtain ⟨B, ρ, o, ρ', S, e, q⟩ := hq
    obtain ⟨r1, r2, h1, h2, hh⟩ := cmp2_read (Q := Q) G ho ho2 hn hn2 S e fun r H' eo st => q _ _ (by rw [eo]; exact .imm st (by simp only [Rep]))
    exact (pe_chain h1 h2 (ha x hx) (hb y hy) (hc z hz) hm).run pins s σ H Q I hh
  · cases h
theorem t_cmp2 {op op2 : COp} {a b c : E} (G : Good T n N sc fb X) (ha : HE T np call N sc X a) (hb : HE T np call N sc X b) (hc : HE T np call N sc X c) : HT T np call N sc X (.cmp2 op op2 a b c) := by
  intro ast h
  simp only [chk] at h
  split at h
  · rename_i x f1 f2 y z p
    refine ⟨?_, fun op es pos e => by cases e⟩
    simp only [Bool.and_eq_true, Bool.not_eq_true'] at h
    obtain ⟨⟨⟨⟨⟨⟨⟨ho, ho2⟩, hn⟩, hn2⟩, hx⟩, hy⟩, hz⟩, hm⟩ := h
    refine ⟨fun pins s σ H Q I hq => ?_⟩
    obtain ⟨B, ρ, bb, ρ', S, e, q⟩ := hq
    obtain ⟨ff, e⟩ := bl_inv e
    obtain ⟨r1, r2, h1, h2, hh⟩ := cmp2_read (Q := fun x H' => ∃ k, x = .bl k ∧ Q k H') G ho ho2 hn hn2 S e fun r H' eo st => by
      cases eo
      exact ⟨_, rfl, q _ st⟩
    exact (pt_chain h1 h2 (ha x hx) (hb y hy) (hc z hz) hm).run pins s σ H Q I hh
  · cases h
end Iv
/-! Iv, part N: every expression of the language is a program's. -/
namespace Iv
open PySem PySem.Spec PyProof.Rows L2
variable {T : Tab} {n : Nat} {N : List Str} {sc : Scope} {fb : Str → Bool} {X : Cx} {np : Nat}

def plainB : Expr → Bool
  | .Name .. | .Constant .. | .Call .. | .Subscript .. | .Attribute .. | .BinOp .. | .Tuple .. | .List .. | .Dict .. | .ListComp .. => true
  | .UnaryOp .USub .. => true
  | _ => false
theorem isTrue_plainB {ast : Expr} {env : Env} (h : plainB ast = true) (whole : Sem Value) : isTrue ast env whole = (do let v ← whole; standAt ast.pos; holding [v] (truthy v)) := by
  cases ast with
  | UnaryOp op a p => cases op <;> first | rfl | simp [plainB] at h
  | _ => first | rfl | simp [plainB] at h
theorem t_plain {call : CallF} {e : E} (he : HE T np call N sc X e) (hp : ∀ ast, chk N T.fns sc e ast = true → plainB ast = true) : HT T np call N sc X e := fun ast h =>
  ⟨t_val (he ast h) (isTrue_plainB (hp ast h)), fun op es pos e => by
    have := hp ast h
    rw [e] at this
    simp [plainB] at this⟩

theorem t_ite {call : CallF} {c a b : E} (hc : HT T np call N sc X c) (ha : HT T np call N sc X a) (hb : HT T np call N sc X b) : HT T np call N sc X (.ite c a b) := by
  intro ast h
  simp only [chk] at h
  split at h
  · rename_i t x y p
    simp only [Bool.and_eq_true] at h
    refine ⟨⟨fun pins s σ H Q I hq => ?_⟩, fun op es pos e => by cases e⟩
    obtain ⟨B, ρ, bb, ρ', S, e, q⟩ := hq
    obtain ⟨ff, e⟩ := bl_inv e
    simp only [ev] at e
    obtain ⟨⟨z, ρ1⟩, e1, e⟩ := bind_some' e
    refine isTrue_IfExp (thn ((hc t h.1.1).1.run pins s σ H (fun z' H1 => z' = z ∧ Stp T.C np B ρ ρ1 σ H H1) I ⟨B, ρ, z, ρ1, S, e1, fun H1 st => ⟨rfl, st⟩⟩) fun z' s1 ⟨H1, I1, ez, st⟩ => ?_)
    subst ez
    cases z' with
    | true =>
      simp only [if_true] at e ⊢
      obtain ⟨⟨d, ρ2⟩, e2, e⟩ := bind_some' e
      obtain ⟨g, e2⟩ := imm_inv e2
      cases e
      exact (ha x h.1.2).1.run pins s1 σ H1 Q I1 ⟨B, ρ1, bb, _, st.sim, by rw [e2]; rfl, fun H2 st2 => q H2 (st.trans st2)⟩
    | false =>
      simp only [Bool.false_eq_true, if_false] at e ⊢
      obtain ⟨⟨d, ρ2⟩, e2, e⟩ := bind_some' e
      obtain ⟨g, e2⟩ := imm_inv e2
      cases e
      exact (hb y h.2).1.run pins s1 σ H1 Q I1 ⟨B, ρ1, bb, _, st.sim, by rw [e2]; rfl, fun H2 st2 => q H2 (st.trans st2)⟩
  · cases h

mutual
theorem allE (T : Tab) (n np : Nat) (N : List Str) : ∀ (e : E), AE T n np (run T.fns n) N e ∧ AT T n np (run T.fns n) N e
  | .var i => ⟨fun G => fun ast => e_var G, fun G => t_plain (fun ast => e_var G) fun ast h => by simp only [chk] at h; split at h <;> first | rfl | cases h⟩
  | .frz i => ⟨fun G => fun ast => e_frz G, fun G => t_plain (fun ast => e_frz G) fun ast h => by simp only [chk] at h; split at h <;> first | rfl | cases h⟩
  | .int i => ⟨fun G => fun ast => e_int, fun G => t_plain (fun ast => e_int) fun ast h => by simp only [chk] at h; split at h <;> first | rfl | cases h⟩
  | .str i => ⟨fun G => fun ast => e_str, fun G => t_plain (fun ast => e_str) fun ast h => by simp only [chk] at h; split at h <;> first | rfl | cases h⟩
  | .bl i => ⟨fun G => fun ast => e_bl, fun G => t_plain (fun ast => e_bl) fun ast h => by simp only [chk] at h; split at h <;> first | rfl | cases h⟩
  | .non => ⟨fun G => fun ast => e_non, fun G => t_plain (fun ast => e_non) fun ast h => by simp only [chk] at h; split at h <;> first | rfl | cases h⟩
  | .tup es => ⟨fun G => e_tup (allEs T n np N es G).1, fun G => t_plain (e_tup (allEs T n np N es G).1) fun ast h => by simp only [chk] at h; split at h <;> first | rfl | cases h⟩
  | .lst es => ⟨fun G => e_lst (allEs T n np N es G).1, fun G => t_plain (e_lst (allEs T n np N es G).1) fun ast h => by simp only [chk] at h; split at h <;> first | rfl | cases h⟩
  | .dct ks es => ⟨fun G => e_dct (allEs T n np N es G).2, fun G => t_plain (e_dct (allEs T n np N es G).2) fun ast h => by simp only [chk] at h; split at h <;> first | rfl | cases h⟩
  | .bin op a b => ⟨fun G => e_bin G ((allE T n np N a).1 G) ((allE T n np N b).1 G), fun G => t_plain (e_bin G ((allE T n np N a).1 G) ((allE T n np N b).1 G)) fun ast h => by simp only [chk] at h; split at h <;> first | rfl | cases h⟩
  | .neg a => ⟨fun G => e_neg ((allE T n np N a).1 G), fun G => t_plain (e_neg ((allE T n np N a).1 G)) fun ast h => by simp only [chk] at h; split at h <;> first | rfl | cases h⟩
  | .cmp op a b => ⟨fun G => e_cmp G ((allE T n np N a).1 G) ((allE T n np N b).1 G), fun G => t_cmp G ((allE T n np N a).1 G) ((allE T n np N b).1 G)⟩
  | .cmp2 op op2 a b c => ⟨fun G => e_cmp2 G ((allE T n np N a).1 G) ((allE T n np N b).1 G) ((allE T n np N c).1 G), fun G => t_cmp2 G ((allE T n np N a).1 G) ((allE T n np N b).1 G) ((allE T n np N c).1 G)⟩
  | .rev a => ⟨fun G => e_rev G ((allE T n np N a).1 G), fun G => t_plain (e_rev G ((allE T n np N a).1 G)) fun ast h => by simp only [chk] at h; split at h <;> first | rfl | cases h⟩
  | .and a b => ⟨fun G => e_and ((allE T n np N a).1 G) ((allE T n np N b).1 G), fun G => t_and ((allE T n np N a).2 G) ((allE T n np N b).2 G)⟩
  | .or a b => ⟨fun G => e_or ((allE T n np N a).1 G) ((allE T n np N b).1 G), fun G => t_or ((allE T n np N a).2 G) ((allE T n np N b).2 G)⟩
  | .not a => ⟨fun G => e_not ((allE T n np N a).1 G), fun G => t_not ((allE T n np N a).2 G)⟩
  | .ite c a b => ⟨fun G => e_ite ((allE T n np N c).2 G) ((allE T n np N a).1 G) ((allE T n np N b).1 G), fun G => t_ite ((allE T n np N c).2 G) ((allE T n np N a).2 G) ((allE T n np N b).2 G)⟩
  | .idx a b => ⟨fun G => e_idx G ((allE T n np N a).1 G) ((allE T n np N b).1 G), fun G => t_plain (e_idx G ((allE T n np N a).1 G) ((allE T n np N b).1 G)) fun ast h => by simp only [chk] at h; split at h <;> first | rfl | cases h⟩
  | .slc a b c => ⟨fun G => e_slc G ((allE T n np N a).1 G) ((allE T n np N b).1 G) ((allE T n np N c).1 G), fun G => t_plain (e_slc G ((allE T n np N a).1 G) ((allE T n np N b).1 G) ((allE T n np N c).1 G)) fun ast h => by simp only [chk] at h; split at h <;> first | rfl | cases h⟩
  | .slf a b => ⟨fun G => e_slf G ((allE T n np N a).1 G) ((allE T n np N b).1 G), fun G => t_plain (e_slf G ((allE T n np N a).1 G) ((allE T n np N b).1 G)) fun ast h => by simp only [chk] at h; split at h <;> first | rfl | cases h⟩
  | .slt a b => ⟨fun G => e_slt G ((allE T n np N a).1 G) ((allE T n np N b).1 G), fun G => t_plain (e_slt G ((allE T n np N a).1 G) ((allE T n np N b).1 G)) fun ast h => by simp only [chk] at h; split at h <;> first | rfl | cases h⟩
  | .call f es => ⟨fun G => e_call G (allEs T n np N es G).1, fun G => t_plain (e_call G (allEs T n np N es G).1) fun ast h => by simp only [chk] at h; split at h <;> first | rfl | cases h⟩
  | .blt f es => ⟨fun G => e_blt G (allEs T n np N es G).1, fun G => t_plain (e_blt G (allEs T n np N es G).1) fun ast h => by simp only [chk] at h; split at h <;> split at h <;> first | rfl | cases h⟩
  | .mth m o es => ⟨fun G => e_mth G ((allE T n np N o).1 G) (allEs T n np N es G).2, fun G => t_plain (e_mth G ((allE T n np N o).1 G) (allEs T n np N es G).2) fun ast h => by simp only [chk] at h; split at h <;> first | rfl | cases h⟩
  | .mut m i es => ⟨fun G => e_mut G (allEs T n np N es G).1 (allEs T n np N es G).2, fun G => t_plain (e_mut G (allEs T n np N es G).1 (allEs T n np N es G).2) fun ast h => by simp only [chk] at h; split at h <;> first | rfl | cases h⟩
  | .fld o f => ⟨fun G ast h => by simp [chk] at h, fun G ast h => by simp [chk] at h⟩
  | .isi e t => ⟨fun G => e_isi G ((allE T n np N e).1 G), fun G => t_plain (e_isi G ((allE T n np N e).1 G)) fun ast h => by simp only [chk] at h; split at h <;> first | rfl | cases h⟩
  | .mk c f es => ⟨fun G ast h => by simp [chk] at h, fun G ast h => by simp [chk] at h⟩
  | .comp elt tg it ifs vs => ⟨fun G => e_comp G (allIt T n np N it) (allE T n np N elt).1 (allIf T n np N ifs), fun G => t_plain (e_comp G (allIt T n np N it) (allE T n np N elt).1 (allIf T n np N ifs)) fun ast h => by simp only [chk] at h; split at h <;> first | rfl | cases h⟩
theorem allEs (T : Tab) (n np : Nat) (N : List Str) : ∀ (es : Es) {sc : Scope} {fb : Str → Bool} {X : Cx}, Good T n N sc fb X → HA T np (run T.fns n) N sc X es ∧ HEs T np (run T.fns n) N sc X es
  | .nil, _, _, _, _ => ⟨a_nil, trivial⟩
  | .cons e r, _, _, _, G => ⟨a_cons ((allE T n np N e).1 G) (allEs T n np N r G).1, (allE T n np N e).1 G, (allEs T n np N r G).2⟩
theorem allIf (T : Tab) (n np : Nat) (N : List Str) : ∀ (es : Es) (e : E) (r : Es), es = .cons e r → AT T n np (run T.fns n) N e
  | .nil, _, _, h => by cases h
  | .cons e r, e', r', h => by
    have : AT T n np (run T.fns n) N e := fun G => (allE T n np N e).2 G
    cases h
    exact this
theorem allIt (T : Tab) (n np : Nat) (N : List Str) : ∀ (it : It), AI T n np (run T.fns n) N it
  | .seq e => fun G => i_seq G ((allE T n np N e).1 G)
  | .rng1 e => fun G => i_rng1 G ((allE T n np N e).1 G)
  | .rng2 a b => fun G => i_rng2 G ((allE T n np N a).1 G) ((allE T n np N b).1 G)
  | .enm e => fun G => i_enm G ((allE T n np N e).1 G)
  | .zip a b => fun G => i_zip G ((allE T n np N a).1 G) ((allE T n np N b).1 G)
end
end Iv
/-! Iv, part O: statements. -/
namespace Iv
open PySem PySem.Spec PyProof.Rows L2
variable {T : Tab} {n : Nat} {N : List Str} {sc : Scope} {fb : Str → Bool} {X : Cx} {np wf : Nat} {call : CallF}

structure RetOk (C : CV) (B : Fb) (ρ ρ' : Sl) (σ σ' : L2.St) (H H' : Hp) (fr : Bool) (d : D) (v : V) : Prop where
  rep : Rep C (FF B ρ' σ') H' v d
  fr : fr = true → ∃ p, v = .ref p ∧ (Own ρ σ p ∨ H p = none) ∧ Sim C (fun a => B a ∨ a = p) ρ' σ' H' ∧ Obj C (FF (fun a => B a ∨ a = p) ρ' σ') H' p d
/-- what is wanted of a statement's way out -/
def Out (C : CV) (np : Nat) (B : Fb) (ρ ρ' : Sl) (σ : L2.St) (H : Hp) (D : Ends) : Fl → Prop
  | .next => ∀ σ' H', StpS C np B ρ ρ' σ σ' H H' → D.nx σ' H'
  | .brk => ∀ σ' H', StpS C np B ρ ρ' σ σ' H H' → D.bk σ' H'
  | .cont => ∀ σ' H', StpS C np B ρ ρ' σ σ' H H' → D.ct σ' H'
  | .ret fr d => ∀ v σ' H', StpS C np B ρ ρ' σ σ' H H' → RetOk C B ρ ρ' σ σ' H H' fr d v → D.rt v H'
def tS (C : CV) (np wf : Nat) (call : CallF) (s : S) : TS := fun D σ H => ∃ (B : Fb) (ρ : Sl) (fl : Fl) (ρ' : Sl), Sim C B ρ σ H ∧ ex np wf call s ρ = some (fl, ρ') ∧ Out C np B ρ ρ' σ H D fl
def tSs (C : CV) (np wf : Nat) (call : CallF) (s : Ss) : TS := fun D σ H => ∃ (B : Fb) (ρ : Sl) (fl : Fl) (ρ' : Sl), Sim C B ρ σ H ∧ exs np wf call s ρ = some (fl, ρ') ∧ Out C np B ρ ρ' σ H D fl
section
variable {C : CV} {B : Fb} {ρ ρ1 ρ2 ρ' : Sl} {σ σ1 σ2 σ' : L2.St} {H H1 H2 H' : Hp} {D : Ends} {fl : Fl}
theorem RetOk.after {fr : Bool} {d : Iv.D} {v : V} (s : StpS C np B ρ ρ1 σ σ1 H H1) (r : RetOk C B ρ1 ρ2 σ1 σ2 H1 H2 fr d v) : RetOk C B ρ ρ2 σ σ2 H H2 fr d v := by
  refine ⟨r.rep, fun e => ?_⟩
  obtain ⟨p, e1, h, q⟩ := r.fr e
  refine ⟨p, e1, ?_, q⟩
  rcases h with h | h
  · exact s.own p h
  · refine .inr ?_
    cases e2 : H p with
    | none => rfl
    | some o => obtain ⟨o', e3⟩ := s.dom p o e2; rw [h] at e3; cases e3
theorem Out.after (s : StpS C np B ρ ρ1 σ σ1 H H1) (o : Out C np B ρ ρ2 σ H D fl) : Out C np B ρ1 ρ2 σ1 H1 D fl := by
  cases fl with
  | next => exact fun σ' H' t => o σ' H' (s.trans t)
  | brk => exact fun σ' H' t => o σ' H' (s.trans t)
  | cont => exact fun σ' H' t => o σ' H' (s.trans t)
  | ret fr d => exact fun v σ' H' t r => o v σ' H' (s.trans t) (r.after s)
end
abbrev HS (T : Tab) (np wf : Nat) (call : CallF) (N : List Str) (sc : Scope) (X : Cx) (s : S) : Prop := ∀ ast, chkS N T.fns sc s ast = true → PS X ast (tS T.C np wf call s)
abbrev HSs (T : Tab) (np wf : Nat) (call : CallF) (N : List Str) (sc : Scope) (X : Cx) (s : Ss) : Prop := ∀ xs, chkSs N T.fns sc s xs = true → PSs X xs (tSs T.C np wf call s)

theorem ss_nil : HSs T np wf call N sc X .nil := by
  intro xs h
  have : xs = [] := by simpa [chkSs] using h
  subst this
  refine ⟨fun pins s σ H D I hq => ?_⟩
  obtain ⟨B, ρ, fl, ρ', S, e, q⟩ := hq
  simp only [exs] at e
  cases e
  exact pss_nil.run pins s σ H D I (q σ H (.refl S))
theorem ss_cons {s : S} {r : Ss} (hs : HS T np wf call N sc X s) (hr : HSs T np wf call N sc X r) : HSs T np wf call N sc X (.cons s r) := by
  intro xs h
  cases xs with
  | nil => simp [chkSs] at h
  | cons x xs =>
    simp only [chkSs, Bool.and_eq_true] at h
    refine ⟨fun pins st σ H D I hq => ?_⟩
    obtain ⟨B, ρ, fl, ρ', S, e, q⟩ := hq
    simp only [exs] at e
    obtain ⟨⟨f1, ρ1⟩, e1, e⟩ := bind_some' e
    refine (pss_cons (hs x h.1) (hr xs h.2)).run pins st σ H D I ⟨B, ρ, f1, ρ1, S, e1, ?_⟩
    cases f1 with
    | next => exact fun σ' H' t => ⟨B, ρ1, fl, ρ', t.sim, e, q.after t⟩
    | brk => cases e; exact q
    | cont => cases e; exact q
    | ret fr d => cases e; exact q

/-! ### small statements -/
theorem s_expr {e : E} (he : HE T np call N sc X e) : HS T np wf call N sc X (.expr e) := by
  intro ast h
  simp only [chkS] at h
  split at h
  · rename_i x p
    rw [Bool.and_eq_true] at h
    refine ⟨fun pins s σ H D I hq => ?_⟩
    obtain ⟨B, ρ, fl, ρ', S, e1, q⟩ := hq
    simp only [ex] at e1
    obtain ⟨⟨o, ρ1⟩, e2, e1⟩ := bind_some' e1
    cases e1
    exact (ps_expr (he x h.1) (swaps_no h.2)).run pins s σ H D I (tE_of S e2 fun v H1 p1 => q σ H1 p1.stp.s)
  · cases h
theorem s_simple {D : Ends} : True := trivial
theorem s_pass : HS T np wf call N sc X .pass := by
  intro ast h
  simp only [chkS] at h
  split at h
  · refine ⟨fun pins s σ H D I hq => ?_⟩
    obtain ⟨B, ρ, fl, ρ', S, e1, q⟩ := hq
    simp only [ex] at e1
    cases e1
    exact ps_pass.run pins s σ H D I (q σ H (.refl S))
  · cases h
theorem s_brk : HS T np wf call N sc X .brk := by
  intro ast h
  simp only [chkS] at h
  split at h
  · refine ⟨fun pins s σ H D I hq => ?_⟩
    obtain ⟨B, ρ, fl, ρ', S, e1, q⟩ := hq
    simp only [ex] at e1
    cases e1
    exact ps_break.run pins s σ H D I (q σ H (.refl S))
  · cases h
theorem s_cont : HS T np wf call N sc X .cont := by
  intro ast h
  simp only [chkS] at h
  split at h
  · refine ⟨fun pins s σ H D I hq => ?_⟩
    obtain ⟨B, ρ, fl, ρ', S, e1, q⟩ := hq
    simp only [ex] at e1
    cases e1
    exact ps_continue.run pins s σ H D I (q σ H (.refl S))
  · cases h
theorem s_fail : HS T np wf call N sc X .fail := by
  intro ast h
  refine ⟨fun pins s σ H D I hq => ?_⟩
  obtain ⟨B, ρ, fl, ρ', S, e1, q⟩ := hq
  simp only [ex] at e1
  cases e1
theorem s_retN : HS T np wf call N sc X .retN := by
  intro ast h
  simp only [chkS] at h
  split at h
  · refine ⟨fun pins s σ H D I hq => ?_⟩
    obtain ⟨B, ρ, fl, ρ', S, e1, q⟩ := hq
    simp only [ex] at e1
    cases e1
    exact ps_retN.run pins s σ H D I (q .non σ H (.refl S) ⟨by simp only [Rep], fun e => by cases e⟩)
  · cases h
/-- a slot of one's own is handed out -/
theorem Sim.move {C : CV} {B : Fb} {ρ : Sl} {σ : L2.St} {H : Hp} {i : Nat} {d : D} {a : Addr} (S : Sim C B ρ σ H) (e : ρ[i]? = some (Slot.own d)) (ea : σ[i]? = some (some (V.ref a))) :
    (∀ b, Own (ρ.set i .none) σ b → Own ρ σ b ∧ b ≠ a) ∧ Sim C (fun b => B b ∨ b = a) (ρ.set i .none) σ H ∧ Obj C (FF (fun b => B b ∨ b = a) (ρ.set i .none) σ) H a d := by
  have hi := lt_of_get e
  have oth : ∀ (j : Nat) (d' : D), (ρ.set i .none)[j]? = some (Slot.own d') → i ≠ j ∧ ρ[j]? = some (Slot.own d') := fun j d' e => by
    by_cases hj : i = j
    · subst hj; rw [List.getElem?_set_self hi] at e; cases e
    · rw [List.getElem?_set_ne hj] at e; exact ⟨hj, e⟩
  have sub : ∀ b, Own (ρ.set i .none) σ b → Own ρ σ b ∧ b ≠ a := fun b ⟨j, d', e1, e2⟩ => by
    obtain ⟨hj, e3⟩ := oth j d' e1
    exact ⟨⟨j, d', e3, e2⟩, fun z => hj (S.inj i j d d' a e e3 ea (by rw [← z]; exact e2))⟩
  have hown : Own ρ σ a := ⟨i, d, e, ea⟩
  have m : Mv (FF B ρ σ) (FF (fun b => B b ∨ b = a) (ρ.set i .none) σ) H H := mv_same fun b h => by
    rcases h with (h | h) | h
    · exact .inl h
    · exact .inr (by rw [h]; exact hown)
    · exact .inr (sub b h).1
  obtain ⟨a', e2, nb, ob⟩ := S.own i d e
  rw [ea] at e2; cases e2
  refine ⟨sub, ⟨by rw [List.length_set]; exact S.len, fun b h => ?_, fun j d' e1 => ?_, fun j d' e1 => ?_, fun j k d1 d2 b e1 e2 e3 e4 => ?_⟩, ob.mv m fun o eo => eo⟩
  · rcases h with h | h
    · exact S.dom b h
    · rw [h]; exact FF.dom S (.inr hown)
  · by_cases hj : i = j
    · subst hj; rw [List.getElem?_set_self hi] at e1; cases e1
    · rw [List.getElem?_set_ne hj] at e1
      obtain ⟨v, e2, r⟩ := S.val j d' e1
      exact ⟨v, e2, Rep.mv m d' v r⟩
  · obtain ⟨hj, e2⟩ := oth j d' e1
    obtain ⟨b, e3, nb', ob'⟩ := S.own j d' e2
    refine ⟨b, e3, fun z => ?_, ob'.mv m fun o eo => eo⟩
    rcases z with z | z
    · exact nb' z
    · subst z; exact hj (S.inj i j d d' b e e2 ea e3)
  · obtain ⟨_, f1⟩ := oth j d1 e1
    obtain ⟨_, f2⟩ := oth k d2 e2
    exact S.inj j k d1 d2 b f1 f2 e3 e4
theorem Sim.less {C : CV} {B B' : Fb} {ρ : Sl} {σ : L2.St} {H : Hp} (S : Sim C B ρ σ H) (h : ∀ a, B' a → B a) : Sim C B' ρ σ H := by
  have m : Mv (FF B ρ σ) (FF B' ρ σ) H H := mv_same fun a z => z.elim (fun w => .inl (h a w)) .inr
  refine ⟨S.len, fun a z => S.dom a (h a z), fun j d e => ?_, fun j d e => ?_, S.inj⟩
  · obtain ⟨v, e1, r⟩ := S.val j d e
    exact ⟨v, e1, Rep.mv m d v r⟩
  · obtain ⟨a, e1, nb, ob⟩ := S.own j d e
    exact ⟨a, e1, fun z => nb (h a z), ob.mv m fun o eo => eo⟩
theorem Obj.rep {C : CV} {F : Fb} {H : Hp} {a : Addr} {d : D} (n : ¬ F a) (ob : Obj C F H a d) : Rep C F H (.ref a) d := by
  cases d with
  | lst ds => obtain ⟨xs, e5, r⟩ := ob; simp only [Rep]; exact ⟨a, xs, rfl, ⟨n, e5⟩, r⟩
  | dct ds => obtain ⟨xs, e5, r⟩ := ob; simp only [Rep]; exact ⟨a, xs, rfl, n, e5, r⟩
  | ins c ds => obtain ⟨dx, xs, e5, r⟩ := ob; simp only [Rep]; exact ⟨a, dx, xs, rfl, n, e5, r⟩
  | _ => exact ob.elim
theorem s_ret {e : E} (he : HE T np call N sc X e) : HS T np wf call N sc X (.ret e) := by
  intro ast h
  simp only [chkS] at h
  split at h
  · rename_i x p
    refine ⟨fun pins s σ H D I hq => ?_⟩
    obtain ⟨B, ρ, fl, ρ', S, e1, q⟩ := hq
    simp only [ex] at e1
    obtain ⟨⟨o, ρ1⟩, e2, e1⟩ := bind_some' e1
    refine (ps_ret (he x h)).run pins s σ H D I (tE_of S e2 fun v H1 p1 => ?_)
    cases o with
    | imm fr d =>
      cases e1
      refine q v σ H1 p1.stp.s ⟨p1.weak, fun hf => ?_⟩
      subst hf
      obtain ⟨p, e3, e4, s4, ob⟩ := p1.fr d rfl
      exact ⟨p, e3, .inr e4, s4, ob⟩
    | slot i =>
      simp only at e1
      split at e1
      · rename_i d' e4
        split at e1
        · rename_i hn
          cases e1
          have hv : σ[i]? = some (some v) := p1.op
          obtain ⟨a, e6, nb, ob⟩ := p1.stp.sim.own i d' e4
          rw [hv] at e6; cases e6
          obtain ⟨sub, S2, ob2⟩ := p1.stp.sim.move e4 hv
          have hi := lt_of_get e4
          have st : StpS T.C np B ρ1 (ρ1.set i .none) σ σ H1 H1 := ⟨fun _ _ _ e => e, fun _ o e => ⟨o, e⟩, fun b h => .inl (sub b h).1, fun j hj d e => by
            have hij : i ≠ j := by omega
            exact ⟨⟨d, by rw [List.getElem?_set_ne hij]; exact e⟩, rfl⟩, by rw [List.length_set], S2.less fun a h => .inl h⟩
          refine q (.ref a) σ H1 (p1.stp.s.trans st) ⟨?_, fun _ => ⟨a, rfl, .inl (p1.stp.own a ⟨i, d', e4, hv⟩), S2, ob2⟩⟩
          refine Obj.rep (fun z => ?_) (ob2.mv (mv_same fun b hb => hb.elim (fun w => .inl (.inl w)) .inr) fun o eo => eo)
          rcases z with z | z
          · exact nb z
          · exact (sub a z).2 rfl
        · cases e1
      · cases e1
  · cases h

/-! ### assignments -/
theorem swaps_cell {e : Expr} {y : Str} {py : Pos} {l : Nat} {env : Env} (h : setcNo env.scope y e = true) : swapsWith e (some (.Name y py)) l env = pure false := by
  cases e with
  | ListComp elt gs scope pos =>
    simp only [setcNo] at h
    split at h
    · rename_i hk
      have ky : env.kindOf y = some .cell := hk
      have kc : (NameKind.cell == NameKind.local) = false := rfl
      unfold swapsWith
      simp only [ky]
      show pure (env.blockKind == ScopeKind.function && NameKind.cell == NameKind.local && py.line == pos.line && _) = pure false
      rw [kc, Bool.and_false, Bool.false_and, Bool.false_and]
    · cases h
  | SetComp _ _ _ _ => simp [setcNo] at h
  | DictComp _ _ _ _ _ => simp [setcNo] at h
  | _ => rfl
section
variable {C : CV} {B : Fb} {ρ ρ1 ρ2 ρ' : Sl} {σ σ1 σ2 σ' : L2.St} {H H1 H2 H' : Hp} {D : Ends} {fl : Fl}
/-- what is stored under a name behind an expression -/
theorem store_read {i : Nat} {f : Bool} {d : Iv.D} {v : V} (S : Sim C B ρ σ H) (p : Post C np B ρ ρ1 σ H H1 (.imm f d) v) (e : setV np ρ1 i (if f = true then .own d else .val d) = some ρ') :
    StpS C np B ρ ρ' σ (σ.set i (some v)) H H1 := by
  unfold setV at e
  split at e
  · rename_i hc
    cases e
    cases f with
    | false =>
      simp only [Bool.false_eq_true, if_false]
      exact p.stp.s.trans (p.stp.sim.setVal hc p.weak)
    | true =>
      simp only [if_true]
      obtain ⟨q, rfl, hq, s2, ob⟩ := p.fr d rfl
      have hb : ∀ a, B a → a ≠ q := fun a ha z => by
        obtain ⟨o, eo⟩ := S.dom a ha
        rw [z, hq] at eo; cases eo
      obtain ⟨sub, kp, s3⟩ := s2.setOwn hc hb ob
      exact ⟨p.stp.chg, p.stp.dom, fun a h => (sub a h).elim (fun w => .inl (p.stp.own a w)) fun w => .inr (by rw [w]; exact hq), fun j hj d' e' => by
        obtain ⟨d1, e1⟩ := p.stp.keep j hj d' e'
        exact kp j hj d1 e1, by rw [List.length_set]; exact p.stp.len, s3⟩
  · cases e
end
theorem inv_asg {tg : Tg} {e : E} {ρ ρ' : Sl} {fl : Fl} (h : ex np wf call (.asg tg e) ρ = some (fl, ρ')) : ∃ f d ρ1, ev np call e ρ = some (.imm f d, ρ1) ∧ fl = .next ∧
    ((∃ i, tg = .v i ∧ setV np ρ1 i (if f = true then .own d else .val d) = some ρ') ∨ asgTg np tg d ρ1 = some ρ') := by
  simp only [ex] at h
  obtain ⟨⟨o, ρ1⟩, e1, h⟩ := bind_some' h
  cases o with
  | slot i => cases tg <;> cases h
  | imm f d =>
    refine ⟨f, d, ρ1, e1, ?_⟩
    cases f with
    | false =>
      have h' : ((asgTg np tg d ρ1).bind fun ρ2 => some (Fl.next, ρ2)) = some (fl, ρ') := by cases tg <;> exact h
      obtain ⟨ρ2, e2, h'⟩ := bind_some' h'
      cases h'
      exact ⟨rfl, .inr e2⟩
    | true =>
      cases tg with
      | v i =>
        obtain ⟨ρ2, e2, h⟩ := bind_some' h
        cases h
        exact ⟨rfl, .inl ⟨i, rfl, e2⟩⟩
      | w i =>
        obtain ⟨ρ2, e2, h⟩ := bind_some' h
        cases h
        exact ⟨rfl, .inr e2⟩
      | t is =>
        obtain ⟨ρ2, e2, h⟩ := bind_some' h
        cases h
        exact ⟨rfl, .inr e2⟩
      | t2 i js =>
        obtain ⟨ρ2, e2, h⟩ := bind_some' h
        cases h
        exact ⟨rfl, .inr e2⟩
theorem asg_read {tg : Tg} {e : E} {K : PySem.W.Frag} (hK : K = T.C.1) (σ : L2.St) (H : Hp) (D : Ends) (hq : tS T.C np wf call (.asg tg e) D σ H) : tE T.C np call e σ H fun x H1 => gOf K tg x σ H1 D.nx := by
  subst hK
  obtain ⟨B, ρ, fl, ρ', S, e1, q⟩ := hq
  obtain ⟨f, d, ρ1, e2, rfl, h⟩ := inv_asg e1
  refine tE_of S e2 fun v H1 p1 => ?_
  rcases h with ⟨i, rfl, h⟩ | h
  · exact q _ H1 (store_read S p1 h)
  · exact g_read p1.stp.sim p1.weak h fun σ' s2 _ => q σ' H1 (p1.stp.s.trans s2)
theorem s_asg {tg : Tg} {e : E} (G : Good T n N sc (fun _ => true) X) (he : HE T np (run T.fns n) N sc X e) (hc : ∀ elt tg' it ifs vs, e = .comp elt tg' it ifs vs → AI T n np (run T.fns n) N it ∧ AE T n np (run T.fns n) N elt ∧ ∀ c r, ifs = .cons c r → AT T n np (run T.fns n) N c) :
    HS T np wf (run T.fns n) N sc X (.asg tg e) := by
  intro ast h
  simp only [chkS] at h
  split at h
  · rename_i t x p
    simp only [Bool.and_eq_true] at h
    obtain ⟨⟨hx, htg⟩, ht⟩ := h
    have hN : X.N.Nodup := by rw [G.xN]; exact G.nd
    have hpg := pg_tg G htg
    split at ht
    · rename_i y py
      cases tg with
      | t is => simp [chkTg] at htg
      | t2 i js => simp [chkTg] at htg
      | v i =>
        simp only [chkTg] at htg
        obtain ⟨y', p', ey, hy, hl⟩ := tgIs_name htg
        cases ey
        rw [Bool.or_eq_true] at ht
        rcases ht with ht | ht
        · -- a comprehension that is stored as it is made
          unfold setcOk at ht
          split at ht
          · rename_i elt0 gs scope cpos
            simp only [Bool.and_eq_true, Bool.not_eq_true'] at ht
            obtain ⟨⟨h1, h2⟩, h3⟩ := ht
            split at h1
            · rename_i hloc
              cases e <;> try (first | (simp [chk] at hx; done) | (simp only [chk] at hx; split at hx <;> cases hx; done))
              rename_i elt tg' it ifs vs
              obtain ⟨ai, ae, at'⟩ := hc _ _ _ _ _ rfl
              obtain ⟨x', t', i', fs, scope', pos', eq, c⟩ := comp_inv hx
              cases eq
              have ok : BlkOk X.N X.env.scope scope (ownOf N vs) := by rw [G.xN, G.xsc]; exact blkOk_by c.blk
              have hg : ∀ (s : Shared) (H : Hp) (C : Addr) (cl : List (Str × Addr)) (fp : List Addr), PG (X.blk s H scope (compEnvC scope cl C X.env) fp) t' (gOf X.K tg') := fun s H C cl fp => pg_tg (G.blk s H scope cl C fp) c.tg
              refine ⟨fun pins s σ H D I hq => ?_⟩
              have base := ps_setLc (elt := elt0) (own := ownOf N vs) (pos := cpos) (spos := p) (py := py) (i := i) G.calm hN (by rw [G.xN]; exact hy) (by rw [G.xsc]; exact hloc) (sw_true I.ok.kind (by rw [G.xsc]; exact hloc) h2 h3) (ai G t' i' c.it) ok hg
                (fun s H C cl fp => ptS (np := np) (call := run T.fns n) (G.blk s H scope cl C fp) c.ifs fun e r er => at' e r er (G.blk s H scope cl C fp)) (fun s H C cl fp => ae (G.blk s H scope cl C fp) elt0 c.elt) (fun y => set_no (it_set c.it))
              rw [own_snd] at base
              refine base.run pins s σ H D I ?_
              exact e_comp_read X.K G.xK c.sub σ H _ (asg_read (K := X.K) G.xK σ H D hq)
            · cases h1
          · cases ht
        · have hno : setcNo X.env.scope y x = true := by rw [G.xsc]; exact ht
          obtain ⟨l1, l2⟩ := loc_of hl
          refine ⟨fun pins s σ H D I hq => ?_⟩
          exact (ps_set hN (by rw [G.xN]; exact hy) (by rw [G.xsc]; exact l1) (he x hx) (swaps_cell hno) (.inl (G.fb _ rfl))).run pins s σ H D I (asg_read (K := X.K) G.xK σ H D hq)
      | w i =>
        simp only [chkTg] at htg
        obtain ⟨y', p', ey, hy, hl⟩ := tgIs_name htg
        cases ey
        rw [Bool.or_eq_true] at ht
        rcases ht with ht | ht
        · -- a comprehension that is stored as it is made
          unfold setcOk at ht
          split at ht
          · rename_i elt0 gs scope cpos
            simp only [Bool.and_eq_true, Bool.not_eq_true'] at ht
            obtain ⟨⟨h1, h2⟩, h3⟩ := ht
            split at h1
            · rename_i hloc
              cases e <;> try (first | (simp [chk] at hx; done) | (simp only [chk] at hx; split at hx <;> cases hx; done))
              rename_i elt tg' it ifs vs
              obtain ⟨ai, ae, at'⟩ := hc _ _ _ _ _ rfl
              obtain ⟨x', t', i', fs, scope', pos', eq, c⟩ := comp_inv hx
              cases eq
              have ok : BlkOk X.N X.env.scope scope (ownOf N vs) := by rw [G.xN, G.xsc]; exact blkOk_by c.blk
              have hg : ∀ (s : Shared) (H : Hp) (C : Addr) (cl : List (Str × Addr)) (fp : List Addr), PG (X.blk s H scope (compEnvC scope cl C X.env) fp) t' (gOf X.K tg') := fun s H C cl fp => pg_tg (G.blk s H scope cl C fp) c.tg
              refine ⟨fun pins s σ H D I hq => ?_⟩
              have base := ps_setLc (elt := elt0) (own := ownOf N vs) (pos := cpos) (spos := p) (py := py) (i := i) G.calm hN (by rw [G.xN]; exact hy) (by rw [G.xsc]; exact hloc) (sw_true I.ok.kind (by rw [G.xsc]; exact hloc) h2 h3) (ai G t' i' c.it) ok hg
                (fun s H C cl fp => ptS (np := np) (call := run T.fns n) (G.blk s H scope cl C fp) c.ifs fun e r er => at' e r er (G.blk s H scope cl C fp)) (fun s H C cl fp => ae (G.blk s H scope cl C fp) elt0 c.elt) (fun y => set_no (it_set c.it))
              rw [own_snd] at base
              refine base.run pins s σ H D I ?_
              exact e_comp_read X.K G.xK c.sub σ H _ (asg_read (K := X.K) G.xK σ H D hq)
            · cases h1
          · cases ht
        · have hno : setcNo X.env.scope y x = true := by rw [G.xsc]; exact ht
          obtain ⟨l1, l2⟩ := loc_of hl
          refine ⟨fun pins s σ H D I hq => ?_⟩
          exact (ps_set hN (by rw [G.xN]; exact hy) (by rw [G.xsc]; exact l1) (he x hx) (swaps_cell hno) (.inl (G.fb _ rfl))).run pins s σ H D I (asg_read (K := X.K) G.xK σ H D hq)
    · rename_i es k pt
      rw [Bool.and_eq_true] at ht
      refine ⟨fun pins s σ H D I hq => ?_⟩
      refine (ps_asg (he x hx) hpg (show swapsWith x (some (.Tuple es k pt)) p.line X.env = pure false from swaps_no ht.2) ?_ ?_).run pins s σ H D I (asg_read (K := X.K) G.xK σ H D hq)
      · cases x <;> first | rfl | simp [nTup] at ht
      · rfl
    · cases ht
  · cases h
end Iv
/-! Iv, part P: statements, further. -/
namespace Iv
open PySem PySem.Spec PyProof.Rows L2
variable {T : Tab} {n : Nat} {N : List Str} {sc : Scope} {fb : Str → Bool} {X : Cx} {np wf : Nat} {call : CallF}

theorem s_ite {c : E} {a b : Ss} (hc : HT T np call N sc X c) (ha : HSs T np wf call N sc X a) (hb : HSs T np wf call N sc X b) : HS T np wf call N sc X (.ite c a b) := by
  intro ast h
  simp only [chkS] at h
  split at h
  · rename_i t x y p
    simp only [Bool.and_eq_true] at h
    refine ⟨fun pins s σ H D I hq => ?_⟩
    obtain ⟨B, ρ, fl, ρ', S, e, q⟩ := hq
    simp only [ex] at e
    obtain ⟨⟨z, ρ1⟩, e1, e⟩ := bind_some' e
    refine (ps_if (hc t h.1.1).1 (ha x h.1.2) (hb y h.2)).run pins s σ H D I ⟨B, ρ, z, ρ1, S, e1, fun H1 st => ?_⟩
    cases z with
    | true =>
      simp only [if_true] at e ⊢
      exact ⟨B, ρ1, fl, ρ', st.sim, e, q.after st.s⟩
    | false =>
      simp only [Bool.false_eq_true, if_false] at e ⊢
      exact ⟨B, ρ1, fl, ρ', st.sim, e, q.after st.s⟩
  · cases h
theorem inv_set {i : Nat} {k v : E} {ρ ρ' : Sl} {fl : Fl} (h : ex np wf call (.set i k v) ρ = some (fl, ρ')) : ∃ f d ρ1 f' kd ρ2 o0 o o', ev np call v ρ = some (.imm f d, ρ1) ∧ ρ1[i]? = some (Slot.own o0) ∧ ev np call k ρ1 = some (.imm f' kd, ρ2) ∧ ρ2[i]? = some (Slot.own o) ∧ setop o kd d = some o' ∧
    fl = .next ∧ ρ' = ρ2.set i (.own o') := by
  simp only [ex] at h
  obtain ⟨⟨d, ρ1⟩, e1, h⟩ := bind_some' h
  obtain ⟨f, e1⟩ := imm_inv e1
  dsimp only at h
  split at h
  · rename_i o0 e0
    obtain ⟨⟨kd, ρ2⟩, e2, h⟩ := bind_some' h
    obtain ⟨f', e2⟩ := imm_inv e2
    dsimp only at e2 h
    split at h
    · rename_i o e3
      obtain ⟨o', e4, h⟩ := bind_some' h
      cases h
      exact ⟨f, d, ρ1, f', kd, ρ2, o0, o, o', e1, e0, e2, e3, e4, rfl, rfl⟩
    · cases h
  · cases h
theorem sub_assign {o i : Expr} {p : Pos} {env : Env} (h : nSlice i = true) (v : Value) : assign (.Subscript o i p) env v = (do
      let ov ← holding [v] (eval o env)
      let iv ← holding [v, ov] (eval i env)
      standAt p
      holding [v, ov, iv] (setItem ov iv v)
      release [v, ov, iv] []) := by
  cases i <;> first | rfl | simp [nSlice] at h
theorem s_set {i : Nat} {k v : E} (G : Good T n N sc fb X) (hk : HE T np call N sc X k) (hv : HE T np call N sc X v) : HS T np wf call N sc X (.set i k v) := by
  intro ast h
  simp only [chkS] at h
  split at h
  · rename_i x p0 y p1 z p
    simp only [Bool.and_eq_true] at h
    obtain ⟨⟨⟨⟨⟨⟨h1, h2⟩, h3⟩, hy⟩, hz⟩, hs⟩, hc⟩ := h
    have hu : X.A.units + 1 < cLine := by have := G.room.un; omega
    have hx : PE X (.Name x p0) (tVar i) := s_var G h1 h2 h3
    refine ⟨fun pins s σ H D I hq => ?_⟩
    obtain ⟨B, ρ, fl, ρ', S, e, q⟩ := hq
    obtain ⟨f, d, ρ1, f', kd, ρ2, o0, o, o', e1, e0, e2, e3, e4, rfl, rfl⟩ := inv_set e
    cases o <;> simp only [setop] at e4 <;> try (cases e4; done)
    case dct kvs =>
      obtain ⟨key, e5, e4⟩ := bind_some' e4
      split at e4
      · rename_i hl
        cases e4
        refine (ps_dput hu hx (hk y hy) (hv z hz) (swaps_no hc)).run pins s σ H D I (tE_of S e1 fun w H1 q1 => ?_)
        obtain ⟨a, ea, _, _⟩ := q1.stp.sim.own i o0 e0
        refine ⟨.ref a, ea, tE_of q1.stp.sim e2 fun u H2 q2 => ?_⟩
        obtain ⟨a', ea', nb, ob⟩ := q2.stp.sim.own i _ e3
        rw [ea] at ea'; cases ea'
        obtain ⟨us, q3, r3⟩ := ob
        have rw' := Rep.mv q2.stp.mv d w q1.weak
        refine ⟨a, _, rfl, ?_, q σ _ ((q1.stp.trans q2.stp).trans (Stp.write (u := .dK (L2.putK us key w)) (d' := .dct (putK kvs key d)) q2.stp.sim e3 ea fun F m => ⟨_, upd_same, RepKs.put key (RepKs.mv m _ _ r3) (Rep.mv m _ _ rw')⟩)).s⟩
        rw [keyOf_v (.inl q2.weak) e5]
        exact DPut.k q3 (by rw [r3.len]; exact hl)
      · cases e4
    case lst xs =>
      cases kd <;> try (cases e4; done)
      rename_i j
      simp only [Option.map_eq_some_iff] at e4
      obtain ⟨m, e5, rfl⟩ := e4
      refine (ps_asg (hv z hz) (pg_sub hx (hk y hy) set_list (sub_assign hs)) (show swapsWith z (some (.Subscript (.Name x p0) y p1)) p.line X.env = pure false from swaps_no hc) rfl rfl).run pins s σ H D I (tE_of S e1 fun w H1 q1 => ?_)
      obtain ⟨a, ea, _, _⟩ := q1.stp.sim.own i o0 e0
      refine ⟨.ref a, ea, tE_of q1.stp.sim e2 fun u H2 q2 => ?_⟩
      obtain ⟨a', ea', nb, ob⟩ := q2.stp.sim.own i _ e3
      rw [ea] at ea'; cases ea'
      obtain ⟨us, q3, r3⟩ := ob
      have rw' := Rep.mv q2.stp.mv d w q1.weak
      exact ⟨a, us, j, m, rfl, q2.int, q3, by rw [r3.len]; exact e5, q σ _ ((q1.stp.trans q2.stp).trans (Stp.write (u := .lst (us.set m w)) (d' := .lst (xs.set m d)) q2.stp.sim e3 ea fun F m' => ⟨_, upd_same, (Reps.mv m' _ _ r3).set m (Rep.mv m' _ _ rw')⟩)).s⟩
  · cases h
theorem inv_aug {i : Nat} {op : BOp} {e : E} {ρ ρ' : Sl} {fl : Fl} (h : ex np wf call (.aug i op e) ρ = some (fl, ρ')) : ∃ d f d2 ρ1 r, ρ[i]? = some (Slot.val d) ∧ ev np call e ρ = some (.imm f d2, ρ1) ∧ augop op d d2 = some r ∧ setV np ρ1 i (.val r) = some ρ' ∧ fl = .next := by
  simp only [ex] at h
  split at h
  · rename_i d e0
    obtain ⟨⟨d2, ρ1⟩, e1, h⟩ := bind_some' h
    obtain ⟨f, e1⟩ := imm_inv e1
    obtain ⟨r, e2, h⟩ := bind_some' h
    obtain ⟨ρ2, e3, h⟩ := bind_some' h
    cases h
    exact ⟨d, f, d2, ρ1, r, e0, e1, e2, e3, rfl⟩
  · cases h
theorem s_aug {i : Nat} {op : BOp} {e : E} (G : Good T n N sc (fun _ => true) X) (he : HE T np call N sc X e) : HS T np wf call N sc X (.aug i op e) := by
  intro ast h
  simp only [chkS] at h
  split at h
  · rename_i x p0 o y p
    simp only [Bool.and_eq_true] at h
    obtain ⟨⟨⟨ho, h1⟩, h2⟩, hy⟩ := h
    obtain ⟨l1, l2⟩ := loc_of h2
    have hN : X.N.Nodup := by rw [G.xN]; exact G.nd
    have hi : X.N[i]? = some x := by rw [G.xN]; exact of_decide_eq_true h1
    refine ⟨fun pins s σ H D I hq => ?_⟩
    obtain ⟨B, ρ, fl, ρ', S, e0, q⟩ := hq
    obtain ⟨d, f, d2, ρ1, r, e1, e2, e3, e4, rfl⟩ := inv_aug e0
    obtain ⟨v, ev1, rv⟩ := S.val i d e1
    unfold augop at e3
    split at e3
    · rename_i a b
      cases e3
      cases o <;> simp only [bopIs] at ho <;> try (exact absurd ho (by decide))
      refine (ps_aug hN hi (by rw [G.xsc]; exact l1) (he y hy) ip_add (.inl (G.fb _ rfl))).run pins s σ H D I ⟨v, ev1, tE_of S e2 fun w H1 p1 => ⟨a, b, by simpa only [Rep] using rv, p1.int, ?_⟩⟩
      unfold setV at e4
      split at e4
      · rename_i hc
        cases e4
        exact q _ H1 (p1.stp.s.trans (p1.stp.sim.setVal hc (by simp only [Rep])))
      · cases e4
    · rename_i a b
      cases e3
      cases o <;> simp only [bopIs] at ho <;> try (exact absurd ho (by decide))
      refine (ps_aug hN hi (by rw [G.xsc]; exact l1) (he y hy) ip_sub (.inl (G.fb _ rfl))).run pins s σ H D I ⟨v, ev1, tE_of S e2 fun w H1 p1 => ⟨a, b, by simpa only [Rep] using rv, p1.int, ?_⟩⟩
      unfold setV at e4
      split at e4
      · rename_i hc
        cases e4
        exact q _ H1 (p1.stp.s.trans (p1.stp.sim.setVal hc (by simp only [Rep])))
      · cases e4
    · cases e3
  · cases h

/-! ### loops -/
theorem s_for {tg : Tg} {it : It} {b : Ss} (G : Good T n N sc (fun _ => true) X) (hi : HI T np call N sc X it) (hb : HSs T np wf call N sc X b) : HS T np wf call N sc X (.for tg it b) := by
  intro ast h
  simp only [chkS] at h
  split at h
  · rename_i t i x p
    simp only [Bool.and_eq_true] at h
    obtain ⟨⟨⟨h1, h2⟩, h3⟩, h4⟩ := h
    refine ⟨fun pins s σ H D I hq => ?_⟩
    obtain ⟨B, ρ, fl, ρ', S, e, q⟩ := hq
    simp only [ex] at e
    obtain ⟨⟨ds, ρ1⟩, e1, e⟩ := bind_some' e
    dsimp only at e
    refine (ps_for (by rw [G.xe]; exact PassesOwn.never) G.calm (hi t i h1) (pg_tg G h3) (hb x h4) (fun y => set_no h2)).run pins s σ H D I ⟨B, ρ, ds, ρ1, S, e1, fun J H1 st itok => ?_⟩
    refine ⟨fun k m σ' H' => m = ds.length - k ∧ k ≤ ds.length ∧ ∃ ρk, StpS T.C np B ρ1 ρk σ σ' H1 H' ∧ forL np tg (fun ρ => exs np wf call b ρ) (ds.drop k) ρk = some (fl, ρ'), ⟨ds.length, by simp, Nat.zero_le _, ρ1, .refl st.sim, by simpa using e⟩, ?_⟩
    rintro k m σ' H' ⟨rfl, hk, ρk, sk, ek⟩
    obtain ⟨it1, it2⟩ := itok k H' (FF B ρk σ') sk.mv fun a h => FF.dom sk.sim h
    have st0 := st.s.trans sk
    by_cases hlt : k < ds.length
    · obtain ⟨go, yld⟩ := it1 ds[k] (by simp [hlt])
      rw [List.drop_eq_getElem_cons hlt] at ek
      simp only [forL] at ek
      obtain ⟨ρa, e2, ek⟩ := bind_some' ek
      obtain ⟨⟨f1, ρb⟩, e3, ek⟩ := bind_some' ek
      refine .inr ⟨go, fun σ' H' => ∃ ρk, StpS T.C np B ρ1 ρk σ σ' H1 H' ∧ forL np tg (fun ρ => exs np wf call b ρ) (ds.drop (k + 1)) ρk = some (fl, ρ'), fun σ' H' h => ⟨ds.length - (k + 1), by omega, rfl, hlt, h⟩, fun y H2 hy => ?_⟩
      obtain ⟨ext, ry⟩ := yld y H2 hy
      have g : StpS T.C np B ρk ρk σ' σ' H' H2 := (Stp.grow sk.sim ext).s
      rw [G.xK]
      refine g_read g.sim ry e2 fun σ2 s2 _ => ?_
      have sa := (sk.trans g).trans s2
      refine ⟨B, ρa, f1, ρb, s2.sim, e3, ?_⟩
      cases f1 with
      | next => exact fun σ3 H3 s3 => ⟨ρb, sa.trans s3, ek⟩
      | cont => exact fun σ3 H3 s3 => ⟨ρb, sa.trans s3, ek⟩
      | brk =>
        cases ek
        exact fun σ3 H3 s3 => q σ3 H3 (st.s.trans (sa.trans s3))
      | ret fr d =>
        cases ek
        exact fun v σ3 H3 s3 r => q v σ3 H3 (st.s.trans (sa.trans s3)) ((r.after sa).after st.s)
    · have ek' : k = ds.length := by omega
      refine .inl ⟨it2 ek', ?_⟩
      rw [ek', List.drop_length] at ek
      simp only [forL] at ek
      cases ek
      exact q σ' H' st0
  · cases h
theorem s_whl {c : E} {b : Ss} (G : Good T n N sc fb X) (hc : HT T np call N sc X c) (hb : HSs T np wf call N sc X b) : HS T np wf call N sc X (.whl c b) := by
  intro ast h
  simp only [chkS] at h
  split at h
  · rename_i t x p
    simp only [Bool.and_eq_true] at h
    refine ⟨fun pins s σ H D I hq => ?_⟩
    obtain ⟨B, ρ, fl, ρ', S, e, q⟩ := hq
    simp only [ex] at e
    refine (ps_while (by rw [G.xe]; exact PassesOwn.never) (hc t h.1).1 (hb x h.2)).run pins s σ H D I ?_
    refine ⟨fun m σ' H' => ∃ ρk, StpS T.C np B ρ ρk σ σ' H H' ∧ whlL (fun ρ => (ev np call c ρ).bind blOf) (fun ρ => exs np wf call b ρ) m ρk = some (fl, ρ'), ⟨wf, ρ, .refl S, e⟩, ?_⟩
    rintro m σ' H' ⟨ρk, sk, ek⟩
    cases m with
    | zero => simp only [whlL] at ek; cases ek
    | succ m =>
      simp only [whlL] at ek
      obtain ⟨⟨z, ρ1⟩, e1, ek⟩ := bind_some' ek
      refine ⟨B, ρk, z, ρ1, sk.sim, e1, fun H1 st => ?_⟩
      have sa := sk.trans st.s
      cases z with
      | false =>
        simp only [Bool.false_eq_true, if_false] at ek ⊢
        cases ek
        exact q σ' H1 sa
      | true =>
        simp only [if_true] at ek ⊢
        obtain ⟨⟨f1, ρb⟩, e3, ek⟩ := bind_some' ek
        refine ⟨fun σ3 H3 => ∃ ρk, StpS T.C np B ρ ρk σ σ3 H H3 ∧ whlL (fun ρ => (ev np call c ρ).bind blOf) (fun ρ => exs np wf call b ρ) m ρk = some (fl, ρ'), fun σ3 H3 h => ⟨m, Nat.lt_succ_self m, h⟩, B, ρ1, f1, ρb, st.sim, e3, ?_⟩
        cases f1 with
        | next => exact fun σ3 H3 s3 => ⟨ρb, sa.trans s3, ek⟩
        | cont => exact fun σ3 H3 s3 => ⟨ρb, sa.trans s3, ek⟩
        | brk =>
          cases ek
          exact fun σ3 H3 s3 => q σ3 H3 (sa.trans s3)
        | ret fr d =>
          cases ek
          exact fun v σ3 H3 s3 r => q v σ3 H3 (sa.trans s3) (r.after sa)
  · cases h
end Iv
/-! Iv, part Q: two names at once; every statement. -/
namespace Iv
open PySem PySem.Spec PyProof.Rows L2
variable {T : Tab} {n : Nat} {N : List Str} {sc : Scope} {fb : Str → Bool} {X : Cx} {np wf : Nat} {call : CallF}

theorem par_sw {x y : Str} {px py pt : Pos} {kt k2 pt2} {p q : Expr} {env : Env} (hk : env.blockKind = .function) (hx : localB env.scope x = true) (hy : localB env.scope y = true) (hl : (px.line == py.line) = true) (hxy : (x == y) = false)
    (h1 : nStar p = true) (h2 : nStar q = true) (f : [p, q].all (foldedForSure 8) = false) (c : [p, q].all (constantsAlone 8) = false) :
    swappedStores [.Tuple [.Name x px, .Name y py] kt pt] (.Tuple [p, q] k2 pt2) env = pure (some [x, y]) := by
  have kx : env.kindOf x = some .local := by
    unfold localB at hx
    split at hx
    · assumption
    · cases hx
  have ky : env.kindOf y = some .local := by
    unfold localB at hy
    split at hy
    · assumption
    · cases hy
  have ns : ([p, q].any fun e => match e with | .Starred .. => true | _ => false) = false := by
    cases p <;> first | (simp [nStar] at h1; done) | (cases q <;> first | rfl | (simp [nStar] at h2; done))
  have hl' : (py.line == px.line) = true := by
    rw [beq_iff_eq] at hl ⊢
    exact hl.symm
  have e1 : (env.kindOf x == some NameKind.local && px.line == px.line) = true := by
    rw [kx]; simp
  have e2 : (env.kindOf y == some NameKind.local && py.line == px.line) = true := by
    rw [ky, hl']; rfl
  have nm : (List.filterMap (fun e : Expr => match e with
    | .Name id pos => if (env.kindOf id == some NameKind.local && pos.line == px.line) = true then some id else none
    | _ => none) [.Name x px, .Name y py]) = [x, y] := by
    simp only [List.filterMap, e1, e2, if_true]
  have nd : ([x, y].eraseDups.length != [x, y].length) = false := by
    have : (y == x) = false := by
      rw [beq_eq_false_iff_ne] at hxy ⊢
      exact fun z => hxy z.symm
    simp [List.eraseDups_cons, this]
  unfold swappedStores
  dsimp only
  rw [hk]
  have n3 : ((List.filterMap (fun e : Expr => match e with
    | .Name id pos => if (env.kindOf id == some NameKind.local && pos.line == px.line) = true then some id else none
    | _ => none) [.Name x px, .Name y py]).length != 2 || (List.filterMap (fun e : Expr => match e with
    | .Name id pos => if (env.kindOf id == some NameKind.local && pos.line == px.line) = true then some id else none
    | _ => none) [.Name x px, .Name y py]).eraseDups.length != (List.filterMap (fun e : Expr => match e with
    | .Name id pos => if (env.kindOf id == some NameKind.local && pos.line == px.line) = true then some id else none
    | _ => none) [.Name x px, .Name y py]).length) = false := by
    rw [nm]
    exact nd
  refine (if_neg (Bool.eq_false_iff.mp rfl)).trans ?_
  refine (if_neg (Bool.eq_false_iff.mp ns)).trans ?_
  refine (if_neg (Bool.eq_false_iff.mp n3)).trans ?_
  refine (if_neg (Bool.eq_false_iff.mp f)).trans ?_
  refine (if_neg (Bool.eq_false_iff.mp c)).trans ?_
  exact congrArg (fun l => pure (some l)) nm
theorem canSet_set {ρ : Sl} {i j : Nat} {s : Slot} (h : i ≠ j) : canSet np (ρ.set j s) i = canSet np ρ i := by
  unfold canSet
  rw [List.length_set, List.getElem?_set_ne (fun z => h z.symm)]
theorem setV_inv {ρ ρ' : Sl} {i : Nat} {s : Slot} (h : setV np ρ i s = some ρ') : canSet np ρ i = true ∧ ρ' = ρ.set i s := by
  unfold setV at h
  split at h
  · cases h; exact ⟨‹_›, rfl⟩
  · cases h
theorem inv_par {i j : Nat} {a b : E} {ρ ρ' : Sl} {fl : Fl} (h : ex np wf call (.par i j a b) ρ = some (fl, ρ')) : i ≠ j ∧ ∃ f1 d1 ρ1 f2 d2 ρ2, ev np call a ρ = some (.imm f1 d1, ρ1) ∧ ev np call b ρ1 = some (.imm f2 d2, ρ2) ∧ fl = .next ∧
    canSet np ρ2 i = true ∧ setV np ρ2 j (if f2 = true then .own d2 else .val d2) = some (ρ2.set j (if f2 = true then .own d2 else .val d2)) ∧
    ρ' = (ρ2.set j (if f2 = true then .own d2 else .val d2)).set i (if f1 = true then .own d1 else .val d1) := by
  simp only [ex] at h
  split at h
  · cases h
  · rename_i hij
    obtain ⟨⟨o1, ρ1⟩, e1, h⟩ := bind_some' h
    obtain ⟨⟨o2, ρ2⟩, e2, h⟩ := bind_some' h
    cases o1 with
    | slot i => cases h
    | imm f1 d1 =>
      cases o2 with
      | slot i => cases h
      | imm f2 d2 =>
        obtain ⟨ρ3, e3, h⟩ := bind_some' h
        obtain ⟨ρ4, e4, h⟩ := bind_some' h
        cases h
        obtain ⟨c1, rfl⟩ := setV_inv e3
        obtain ⟨c2, rfl⟩ := setV_inv e4
        rw [canSet_set (fun z => hij z.symm)] at c2
        refine ⟨hij, f1, d1, ρ1, f2, d2, ρ2, e1, e2, rfl, c1, ?_, List.set_comm _ _ hij⟩
        unfold setV
        rw [if_pos c2]
theorem par_read {i j : Nat} {a b : E} (σ : L2.St) (H : Hp) (D : Ends) (hq : tS T.C np wf call (.par i j a b) D σ H) :
    tPar i j (tCons (tE T.C np call a) (tCons (tE T.C np call b) tNil)) D σ H := by
  obtain ⟨B, ρ, fl, ρ', S, e, q⟩ := hq
  obtain ⟨hij, f1, d1, ρ1, f2, d2, ρ2, e1, e2, rfl, c1, c2, rfl⟩ := inv_par e
  refine tE_of S e1 fun v H1 p1 => ?_
  cases f1 with
  | false =>
    refine tE_of p1.stp.sim e2 fun w H2 p2 => ⟨v, w, rfl, ?_⟩
    have t := store_read p1.stp.sim p2 c2
    have r : Rep T.C (FF B _ _) H2 v d1 := Rep.mv t.mv d1 v p1.weak
    rw [List.set_comm _ _ hij]
    exact q _ H2 ((p1.stp.s.trans t).trans (t.sim.setVal ((canSet_set hij).trans c1) r))
  | true =>
    obtain ⟨p, rfl, hp, s1, ob⟩ := p1.fr d1 rfl
    refine tE_of s1 e2 fun w H2 p2 => ⟨_, w, rfl, ?_⟩
    have t := store_read s1 p2 c2
    have hb : ∀ a, B a → a ≠ p := fun a ha z => by
      obtain ⟨o, eo⟩ := S.dom a ha
      rw [z, hp] at eo; cases eo
    have ob2 : Obj T.C (FF (fun a => B a ∨ a = p) _ _) H2 p d1 := ob.mv t.mv fun o e => t.chg p o (fun ⟨k, d, x1, x2⟩ => by
      obtain ⟨a', y1, y2, _⟩ := s1.own k d x1
      rw [x2] at y1; cases y1
      exact y2 (.inr rfl)) e
    obtain ⟨sub, kp, s3⟩ := t.sim.setOwn ((canSet_set hij).trans c1) hb ob2
    rw [List.set_comm _ _ hij]
    have m1 := p1.stp
    refine q _ H2 ⟨fun a o h e => t.chg a o (fun z => h (m1.own a z)) (m1.chg a o h e), fun a o e => ?_, fun a h => ?_, fun k hk d' e' => ?_, ?_, s3⟩
    · obtain ⟨o1, e1⟩ := m1.dom a o e
      exact t.dom a o1 e1
    · rcases sub a h with w1 | w1
      · rcases t.own a w1 with w2 | w2
        · exact .inl (m1.own a w2)
        · refine .inr ?_
          cases e3 : H a with
          | none => rfl
          | some o => obtain ⟨o', e4⟩ := m1.dom a o e3; rw [w2] at e4; cases e4
      · exact .inr (by rw [w1]; exact hp)
    · obtain ⟨d2', x1⟩ := m1.keep k hk d' e'
      obtain ⟨⟨d3, x2⟩, x3⟩ := t.keep k hk _ x1
      obtain ⟨x4, x5⟩ := kp k hk _ x2
      exact ⟨x4, x5.trans x3⟩
    · rw [List.length_set, t.len, m1.len]
theorem s_par {i j : Nat} {a b : E} (G : Good T n N sc fb X) (ha : HE T np call N sc X a) (hb : HE T np call N sc X b) : HS T np wf call N sc X (.par i j a b) := by
  intro ast h
  simp only [chkS] at h
  split at h
  · rename_i x px y py kt pt p q k2 pt2 pos
    simp only [Bool.and_eq_true, Bool.not_eq_true'] at h
    obtain ⟨⟨⟨⟨⟨⟨⟨⟨⟨⟨⟨hi, hj⟩, hp⟩, hq⟩, np1⟩, nq⟩, hxy⟩, lx⟩, ly⟩, hl⟩, hf⟩, hc⟩ := h
    have hN : X.N.Nodup := by rw [G.xN]; exact G.nd
    have xi : X.N[i]? = some x := by rw [G.xN]; exact of_decide_eq_true hi
    have xj : X.N[j]? = some y := by rw [G.xN]; exact of_decide_eq_true hj
    have hij : i ≠ j := fun z => by
      rw [z, xj] at xi; cases xi
      simp at hxy
    have lk : ∀ z, localB sc z = true → X.env.scope.names.lookup z = some .local := fun z hz => by
      rw [G.xsc]
      unfold localB at hz
      split at hz
      · assumption
      · cases hz
    refine ⟨fun pins s σ H D I hq' => ?_⟩
    exact (ps_par G.calm hN xi xj hij (lk x lx) (lk y ly) (pa_cons (ha p hp) (pa_cons (hb q hq) pa_nil (star_cons nq)) (star_cons np1)) (par_sw (by unfold Env.blockKind; rw [I.ok.kind]; rfl) (by rw [G.xsc]; exact lx) (by rw [G.xsc]; exact ly) hl hxy np1 nq hf hc)).run pins s σ H D I (par_read σ H D hq')
  · cases h
mutual
theorem allS (T : Tab) (n np wf : Nat) (N : List Str) (sc : Scope) (X : Cx) (G : Good T n N sc (fun _ => true) X) : ∀ (s : S), HS T np wf (run T.fns n) N sc X s
  | .expr e => s_expr ((allE T n np N e).1 G)
  | .asg tg e => s_asg G ((allE T n np N e).1 G) fun elt tg' it ifs vs _ => ⟨allIt T n np N it, (allE T n np N elt).1, fun c r h => allIf T n np N ifs c r h⟩
  | .par i j a b => s_par G ((allE T n np N a).1 G) ((allE T n np N b).1 G)
  | .set i k v => s_set G ((allE T n np N k).1 G) ((allE T n np N v).1 G)
  | .setf i f v => fun ast h => by simp [chkS] at h
  | .aug i op e => s_aug G ((allE T n np N e).1 G)
  | .ite c a b => s_ite ((allE T n np N c).2 G) (allSs T n np wf N sc X G a) (allSs T n np wf N sc X G b)
  | .for tg it b => s_for G (allIt T n np N it G) (allSs T n np wf N sc X G b)
  | .whl c b => s_whl G ((allE T n np N c).2 G) (allSs T n np wf N sc X G b)
  | .ret e => s_ret ((allE T n np N e).1 G)
  | .retN => s_retN
  | .pass => s_pass
  | .brk => s_brk
  | .cont => s_cont
  | .fail => s_fail
theorem allSs (T : Tab) (n np wf : Nat) (N : List Str) (sc : Scope) (X : Cx) (G : Good T n N sc (fun _ => true) X) : ∀ (s : Ss), HSs T np wf (run T.fns n) N sc X s
  | .nil => ss_nil
  | .cons s r => ss_cons (allS T n np wf N sc X G s) (allSs T n np wf N sc X G r)
end
end Iv
/-! Iv, part R: defs. -/
namespace Iv
open PySem PySem.Spec PyProof.Rows L2

/-- what stands of a def -/
structure DefOk (T : Tab) (mg : Str → Option Value) (f : Nat) (F : Fn) : Prop where
  tx : ∃ (qual : Str) (st : Stmt), Fun T.C.1 F.name qual st (T.fa f) (T.fd f) ∧ FnScope F.N (F.N.take F.np) (defScope st) ∧ chkSs F.N T.fns (defScope st) F.body (defBody st) = true ∧
    ∀ (kV doc pm : Value) (an : Option Addr) (cdv ct : Value) (us : List Value), us.length = (F.N.take F.np).length → bindArgs (PySem.W.fnOf F.name qual (defArgs st) (defBody st) (defScope st) .none kV doc pm an cdv ct) ⟨us, []⟩ = pure ((F.N.take F.np).zip us)
  np : F.np ≤ F.N.length
  mg : mg F.name = some (.ref (T.fa f))
structure TabOk (T : Tab) (mg : Str → Option Value) : Prop where
  fns : ∀ f F, T.fns[f]? = some F → DefOk T mg f F
  bl : ∀ x, x ∈ (["len", "tuple", "list", "sum", "sorted", "int", "all", "any", "max", "min", "dict", "isinstance", "repr", "str", "bool", "range", "enumerate", "zip", "set"] : List Str) → mg x = none

section
variable {C : CV} {B : Fb} {args ρ' : Sl} {σ σ' : L2.St} {H H' : Hp} {k np : Nat} {fr : Bool} {d : D} {v : V}
theorem app_own {i : Nat} {e : D} (h : (args ++ List.replicate k Slot.none)[i]? = some (Slot.own e)) : args[i]? = some (Slot.own e) := by
  rcases Nat.lt_or_ge i args.length with g | g
  · rwa [List.getElem?_append_left g] at h
  · rw [List.getElem?_append_right g, List.getElem?_replicate] at h
    split at h <;> cases h
theorem app_val {i : Nat} {e : D} (h : (args ++ List.replicate k Slot.none)[i]? = some (Slot.val e)) : args[i]? = some (Slot.val e) := by
  rcases Nat.lt_or_ge i args.length with g | g
  · rwa [List.getElem?_append_left g] at h
  · rw [List.getElem?_append_right g, List.getElem?_replicate] at h
    split at h <;> cases h
theorem app_get {α : Type} {l r : List α} {i : Nat} {x : α} (h : l[i]? = some x) : (l ++ r)[i]? = some x := by
  rw [List.getElem?_append_left (lt_of_get h)]; exact h
theorem Own.app (hl : args.length = σ.length) {a : Addr} : Own (args ++ List.replicate k Slot.none) (σ ++ List.replicate k none) a ↔ Own args σ a := by
  constructor
  · rintro ⟨i, e, h1, h2⟩
    have h1 := app_own h1
    rw [List.getElem?_append_left (by rw [← hl]; exact lt_of_get h1)] at h2
    exact ⟨i, e, h1, h2⟩
  · rintro ⟨i, e, h1, h2⟩
    exact ⟨i, e, app_get h1, app_get h2⟩
theorem Sim.app (S : Sim C B args σ H) : Sim C B (args ++ List.replicate k Slot.none) (σ ++ List.replicate k none) H := by
  have m : Mv (FF B args σ) (FF B (args ++ List.replicate k Slot.none) (σ ++ List.replicate k none)) H H := mv_same fun a z => z.elim .inl fun w => .inr ((Own.app S.len).mp w)
  refine ⟨by rw [List.length_append, List.length_append, List.length_replicate, List.length_replicate, S.len], S.dom, fun i e h => ?_, fun i e h => ?_, fun i j e e' a h1 h2 h3 h4 => ?_⟩
  · obtain ⟨v, e1, r⟩ := S.val i e (app_val h)
    exact ⟨v, app_get e1, Rep.mv m e v r⟩
  · obtain ⟨a, e1, n, r⟩ := S.own i e (app_own h)
    exact ⟨a, app_get e1, n, r.mv m fun _ x => x⟩
  · have h1 := app_own h1
    have h2 := app_own h2
    rw [List.getElem?_append_left (by rw [← S.len]; exact lt_of_get h1)] at h3
    rw [List.getElem?_append_left (by rw [← S.len]; exact lt_of_get h2)] at h4
    exact S.inj i j e e' a h1 h2 h3 h4
theorem call_post (S : Sim C B args σ H) (hl : args.length = np) (t : StpS C np B (args ++ List.replicate k Slot.none) ρ' (σ ++ List.replicate k none) σ' H H')
    (r : RetOk C B (args ++ List.replicate k Slot.none) ρ' (σ ++ List.replicate k none) σ' H H' fr d v) : CallPost C B args σ H (ρ'.take np) H' fr d v := by
  have kp : ∀ (i : Nat) (e : D) (a : Addr), args[i]? = some (Slot.own e) → σ[i]? = some (some (V.ref a)) → ∃ e', ρ'[i]? = some (Slot.own e') ∧ σ'[i]? = some (some (V.ref a)) := fun i e a h1 h2 => by
    have hi := lt_of_get h1
    obtain ⟨⟨e', q1⟩, q2⟩ := t.keep i (by rw [← hl]; exact hi) e (app_get h1)
    exact ⟨e', q1, q2.trans (app_get h2)⟩
  have sub : ∀ a, Own args σ a → Own ρ' σ' a := fun a ⟨i, e, h1, h2⟩ => by
    obtain ⟨e', q1, q2⟩ := kp i e a h1 h2
    exact ⟨i, e', q1, q2⟩
  have m : Mv (FF B ρ' σ') (FF B args σ) H' H' := mv_same fun a z => z.elim .inl fun w => .inr (sub a w)
  have tk : ∀ (i : Nat) (e : D), args[i]? = some (Slot.own e) → (ρ'.take np)[i]? = ρ'[i]? := fun i e h => by
    rw [List.getElem?_take_of_lt (by rw [← hl]; exact lt_of_get h)]
  refine ⟨fun a o h e => t.chg a o (fun z => h ((Own.app S.len).mp z)) e, t.dom, fun i e h => ?_, Rep.mv m d v r.rep, fun hf => ?_⟩
  · obtain ⟨a, e1, _, _⟩ := S.own i e h
    obtain ⟨e', q1, q2⟩ := kp i e a h e1
    refine ⟨e', (tk i e h).trans q1, fun a' e2 => ?_⟩
    rw [e1] at e2; cases e2
    obtain ⟨a2, x1, _, x2⟩ := t.sim.own i e' q1
    rw [q2] at x1; cases x1
    exact x2.mv m fun _ x => x
  · obtain ⟨p, ev', h, S2, ob⟩ := r.fr hf
    have m2 : Mv (FF (fun a => B a ∨ a = p) ρ' σ') (fun a => FF B args σ a ∨ a = p) H' H' := mv_same fun a z => by
      rcases z with (z | z) | z
      · exact .inl (.inl z)
      · exact .inr (sub a z)
      · exact .inl (.inr z)
    refine ⟨p, ev', ?_, ob.mv m2 fun _ x => x, fun i e e' h1 h2 a h3 => ?_⟩
    · rcases h with h | h
      · obtain ⟨i, e, h1, h2⟩ := (Own.app S.len).mp h
        obtain ⟨e', q1, q2⟩ := kp i e p h1 h2
        obtain ⟨a2, x1, x3, _⟩ := S2.own i e' q1
        rw [q2] at x1; cases x1
        exact absurd (.inr rfl) x3
      · exact h
    · rw [tk i e h1] at h2
      obtain ⟨e2, q1, q2⟩ := kp i e a h1 h3
      rw [h2] at q1; cases q1
      obtain ⟨a2, x1, _, x2⟩ := S2.own i e' h2
      rw [q2] at x1; cases x1
      exact x2.mv m2 fun _ x => x
end

theorem run_inv {tab : List Fn} {n f : Nat} {args outs : Sl} {fr : Bool} {d : D} (h : run tab (n + 1) f args = some (fr, d, outs)) : ∃ F, tab[f]? = some F ∧ args.length = F.np ∧ ∃ fl ρ',
    exs F.np whileFuel (run tab n) F.body (args ++ List.replicate (F.N.length - F.np) .none) = some (fl, ρ') ∧ outs = ρ'.take F.np ∧ (fl = .ret fr d ∨ (fl = .next ∧ fr = false ∧ d = .non)) := by
  unfold run at h
  split at h
  · cases h
  · rename_i F hF
    split at h
    · rename_i hl
      split at h
      · rename_i fr' d' ρ e
        cases h
        exact ⟨F, hF, hl, _, _, e, rfl, .inl rfl⟩
      · rename_i ρ e
        cases h
        exact ⟨F, hF, hl, _, _, e, rfl, .inr ⟨rfl, rfl, rfl⟩⟩
      · cases h
    · cases h

section
variable {P : Program} {w : World} {K : PySem.W.Frag} {mg : Str → Option Value} {base : Heap} {T : Tab}
abbrev FnIh (P : Program) (w : World) (mg : Str → Option Value) (base : Heap) (T : Tab) (n : Nat) : Prop :=
  ∀ f F, T.fns[f]? = some F → FnG P w T.C.1 mg base CX0 (2 * n) (T.fa f) (T.fd f) (F.N.take F.np) (spF T.C (run T.fns n f) F.np)
theorem fn_all (O : TabOk T mg) : ∀ n, FnIh P w mg base T n
  | 0 => fun f F hF => by
    refine ⟨fun vs H Q E h => ?_, fun A outer s H args us vs Q E g hr he hb hv hs => ?_⟩
    · obtain ⟨_, B, a, fr, d, outs, _, e, _⟩ := h
      cases e
    · obtain ⟨_, B, a, fr, d, outs, _, e, _⟩ := hs
      cases e
  | n + 1 => fun f F hF => by
    have ih := fn_all O n
    obtain ⟨⟨qual, st, hfun, hsc, hck, hbi⟩, hnp, hmg⟩ := O.fns f F hF
    have hlen : (F.N.take F.np).length = F.np := by rw [List.length_take]; exact Nat.min_eq_left hnp
    refine FnG.of (k := 2 * n + 1) hfun hsc (fun vs H Q E h => h.1.trans hlen.symm) fun cdv A outer s H vs Q E g hr hsp => ?_
    obtain ⟨hv, B, args, fr, d, outs, S, e, q⟩ := hsp
    obtain ⟨F', hF', hl, fl, ρ', ee, rfl, hfl⟩ := run_inv e
    rw [hF] at hF'; cases hF'
    have G : Good T n F.N (defScope st) (fun _ => true) (cxOf CX0 P w T.C.1 mg base F.N qual (defScope st) (T.fa f) cdv A outer s H E).nox :=
      { xN := rfl, xsc := rfl, xK := rfl, calm := rfl, nd := hsc.nd, room := hr, gd := g, xe := rfl, fb := fun _ _ => rfl, bl := O.bl
        fns := fun f' F' h' => by
          obtain ⟨⟨qual', st', hfun', hsc', hck', hbi'⟩, hnp', hmg'⟩ := O.fns f' F' h'
          exact ⟨ih f' F' h', hmg', hfun'.kp, hfun'.binds hbi'⟩ }
    have hst : L2.start F.N vs = vs.map some ++ List.replicate (F.N.length - F.np) none := by unfold L2.start; rw [hv]
    refine ⟨_, (allSs T n F.np whileFuel F.N (defScope st) _ G F.body (defBody st) hck).nox, ?_⟩
    rw [hst]
    refine ⟨B, _, fl, ρ', S.app, ee, ?_⟩
    rcases hfl with rfl | ⟨rfl, rfl, rfl⟩
    · exact fun v σ' H' t r => q v H' (call_post S hl t r)
    · exact fun σ' H' t => q .non H' (call_post S hl t ⟨by simp only [Rep], fun z => by cases z⟩)
end
end Iv
namespace K07
open PySem Iv L2
def f_l_pen : Nat := 0
def f_l_draw : Nat := 1
def f_l_pick : Nat := 2
def f_l_drawn_order : Nat := 3
def f_l_drawn_term : Nat := 4
def f_l_is_var : Nat := 5
def f_l_put : Nat := 6
def f_l_matched : Nat := 7
def f_p_pairs_of : Nat := 8
def f_p_is_variable : Nat := 9
def f_p_match : Nat := 10
def f_l_put_there : Nat := 11
def f_l_pairs : Nat := 12
def f_l_drawn_pairs : Nat := 13
def f_l_paths : Nat := 14
def f_p_law : Nat := 15
def l_pen_b0 : Ss := (.cons (.asg (.w 1) (.bin .mod (.blt .int (.cons (.bin .add (.bin .mul (.var 1) (.int 47)) (.var 2)) .nil)) (.int 1000000007))) .nil)
def l_pen_s : Ss := (.cons (.asg (.w 1) (.int 0)) (.cons (.for (.w 2) (.seq (.var 0)) l_pen_b0) (.cons (.ret (.dct [.inr "cells", .inr "at", .inr "digits", .inr "count", .inr "fold"] (.cons (.blt .list (.cons (.var 0) .nil)) (.cons (.int 0) (.cons (.int 0) (.cons (.int 0) (.cons (.var 1) .nil))))))) .nil)))
def l_pen_f : Fn := ⟨"_law_pen", ["_law_script", "_law_fold", "_law_cell"], 1, l_pen_s⟩
def l_draw_s : Ss := (.cons (.set 0 (.str "count") (.bin .add (.idx (.var 0) (.str "count")) (.int 1))) (.cons (.ite (.and (.cmp .eq (.idx (.var 0) (.str "digits")) (.int 0)) (.cmp .lt (.idx (.var 0) (.str "at")) (.blt .len (.cons (.idx (.var 0) (.str "cells")) .nil)))) (.cons (.asg (.w 3) (.idx (.idx (.var 0) (.str "cells")) (.idx (.var 0) (.str "at")))) (.cons (.set 0 (.str "at") (.bin .add (.idx (.var 0) (.str "at")) (.int 1))) (.cons (.ite (.cmp .ge (.var 3) (.bin .pow (.int 10) (.int 18))) (.cons (.set 0 (.str "digits") (.bin .sub (.var 3) (.bin .pow (.int 10) (.int 18)))) .nil) (.cons (.set 0 (.str "fold") (.bin .mod (.blt .int (.cons (.bin .add (.bin .mul (.idx (.var 0) (.str "fold")) (.int 69069)) (.var 3)) .nil)) (.int 2147483587))) .nil)) .nil))) .nil) (.cons (.ite (.cmp .gt (.idx (.var 0) (.str "digits")) (.int 0)) (.cons (.asg (.w 4) (.bin .mod (.blt .int (.cons (.idx (.var 0) (.str "digits")) .nil)) (.var 1))) (.cons (.set 0 (.str "digits") (.bin .fdiv (.idx (.var 0) (.str "digits")) (.var 1))) (.cons (.ret (.var 4)) .nil))) .nil) (.cons (.asg (.w 2) (.bin .add (.bin .add (.idx (.var 0) (.str "fold")) (.bin .mul (.idx (.var 0) (.str "count")) (.int 7907))) (.int 43))) (.cons (.ret (.bin .mod (.bin .fdiv (.blt .int (.cons (.bin .mod (.bin .pow (.var 2) (.int 17)) (.int 2305843009213693951)) .nil)) (.int 128)) (.var 1))) .nil)))))
def l_draw_f : Fn := ⟨"_law_draw", ["_law_pen_here", "_law_many", "_law_blend", "_law_cell", "_law_digit"], 2, l_draw_s⟩
def l_pick_s : Ss := (.cons (.ret (.idx (.var 1) (.call f_l_draw (.cons (.var 0) (.cons (.blt .len (.cons (.var 1) .nil)) .nil))))) .nil)
def l_pick_f : Fn := ⟨"_law_pick", ["_law_pen_here", "_law_some"], 2, l_pick_s⟩
def l_drawn_order_b0 : Ss := (.cons (.asg (.t [7, 8]) (.mut .popAt 4 (.cons (.call f_l_draw (.cons (.var 0) (.cons (.blt .len (.cons (.var 4) .nil)) .nil))) .nil))) (.cons (.expr (.mut .append 6 (.cons (.tup (.cons (.var 7) (.cons (.var 8) (.cons (.call f_l_pick (.cons (.var 0) (.cons (.lst (.cons (.int 1) (.cons (.int 1) (.cons (.int 2) .nil)))) .nil))) .nil)))) .nil))) .nil))
def l_drawn_order_b1 : Ss := (.cons (.par 4 6 (.blt .list (.cons (.var 4) .nil)) (.lst .nil)) (.cons (.for (.w 5) (.rng1 (.blt .len (.cons (.var 4) .nil))) l_drawn_order_b0) (.cons (.expr (.mut .append 3 (.cons (.blt .tuple (.cons (.var 6) .nil)) .nil))) .nil)))
def l_drawn_order_s : Ss := (.cons (.asg (.w 1) (.bin .add (.bin .add (.lst (.cons (.tup (.cons (.str "a") (.cons (.int 0) .nil))) (.cons (.tup (.cons (.str "b") (.cons (.int 0) .nil))) .nil))) (.ite (.cmp .eq (.call f_l_draw (.cons (.var 0) (.cons (.int 3) .nil))) (.int 0)) (.lst (.cons (.tup (.cons (.str "c") (.cons (.int 0) .nil))) .nil)) (.lst .nil))) (.lst (.cons (.tup (.cons (.str "f") (.cons (.int 1) .nil))) .nil)))) (.cons (.asg (.w 1) (.bin .add (.var 1) (.ite (.cmp .eq (.call f_l_draw (.cons (.var 0) (.cons (.int 2) .nil))) (.int 0)) (.lst (.cons (.tup (.cons (.str "g") (.cons (.int 2) .nil))) .nil)) (.lst .nil)))) (.cons (.asg (.w 2) (.bin .add (.lst (.cons (.tup (.cons (.str "p") (.cons (.int 1) .nil))) .nil)) (.call f_l_pick (.cons (.var 0) (.cons (.lst (.cons (.lst (.cons (.tup (.cons (.str "q") (.cons (.int 0) .nil))) .nil)) (.cons (.lst (.cons (.tup (.cons (.str "r") (.cons (.int 2) .nil))) .nil)) (.cons (.lst (.cons (.tup (.cons (.str "q") (.cons (.int 0) .nil))) (.cons (.tup (.cons (.str "r") (.cons (.int 2) .nil))) .nil))) .nil)))) .nil))))) (.cons (.asg (.v 3) (.lst .nil)) (.cons (.for (.v 4) (.seq (.lst (.cons (.var 1) (.cons (.var 2) .nil)))) l_drawn_order_b1) (.cons (.ret (.tup (.cons (.idx (.var 3) (.int 0)) (.cons (.idx (.var 3) (.int 1)) .nil)))) .nil))))))
def l_drawn_order_f : Fn := ⟨"_law_drawn_order", ["_law_pen_here", "_law_things", "_law_truths", "_law_rows", "_law_kind", "_law_lap", "_law_blend", "_law_name", "_law_arity"], 1, l_drawn_order_s⟩
def l_drawn_term_e0 : E := (.var 8)
def l_drawn_term_i0 : Es := (.cons (.or (.cmp .gt (.var 2) (.int 0)) (.cmp .eq (.idx (.var 8) (.int 1)) (.int 0))) .nil)
def l_drawn_term_e1 : E := (.call f_l_drawn_term (.cons (.var 0) (.cons (.var 1) (.cons (.bin .sub (.var 2) (.int 1)) (.cons (.var 3) .nil)))))
def l_drawn_term_s : Ss := (.cons (.ite (.and (.cmp .gt (.var 3) (.int 0)) (.cmp .eq (.call f_l_draw (.cons (.var 0) (.cons (.int 3) .nil))) (.int 0))) (.cons (.ret (.call f_l_draw (.cons (.var 0) (.cons (.var 3) .nil)))) .nil) .nil) (.cons (.asg (.w 4) (.comp l_drawn_term_e0 (.v 8) (.seq (.idx (.var 1) (.int 0))) l_drawn_term_i0 [8])) (.cons (.asg (.t [5, 6, 7]) (.call f_l_pick (.cons (.var 0) (.cons (.var 4) .nil)))) (.cons (.ret (.bin .add (.tup (.cons (.var 5) .nil)) (.blt .tuple (.cons (.comp l_drawn_term_e1 (.v 9) (.rng1 (.var 6)) .nil [9]) .nil)))) .nil))))
def l_drawn_term_f : Fn := ⟨"_law_drawn_term", ["_law_pen_here", "_law_rows", "_law_deep", "_law_variables", "_law_some", "_law_name", "_law_arity", "_law_weight", "_law_row", "_law_k"], 4, l_drawn_term_s⟩
def l_is_var_s : Ss := (.cons (.ret (.isi (.var 0) .int)) .nil)
def l_is_var_f : Fn := ⟨"_law_is_var", ["_law_term"], 1, l_is_var_s⟩
def l_put_e0 : E := (.call f_l_put (.cons (.var 2) (.cons (.var 1) .nil)))
def l_put_s : Ss := (.cons (.ite (.call f_l_is_var (.cons (.var 0) .nil)) (.cons (.ret (.mth .get2 (.var 1) (.cons (.var 0) (.cons (.var 0) .nil)))) .nil) .nil) (.cons (.ret (.bin .add (.tup (.cons (.idx (.var 0) (.int 0)) .nil)) (.blt .tuple (.cons (.comp l_put_e0 (.v 2) (.seq (.slf (.var 0) (.int 1))) .nil [2]) .nil)))) .nil))
def l_put_f : Fn := ⟨"_law_put", ["_law_term", "_law_known", "_law_part"], 2, l_put_s⟩
def l_matched_b0 : Ss := (.cons (.ite (.cmp .eq (.var 4) (.lst .nil)) (.cons (.ret (.var 3)) .nil) .nil) (.cons (.asg (.t [5, 6]) (.mut .pop 4 .nil)) (.cons (.ite (.call f_l_is_var (.cons (.var 5) .nil)) (.cons (.ite (.cmp .ne (.mth .get2 (.var 3) (.cons (.var 5) (.cons (.var 6) .nil))) (.var 6)) (.cons (.ret .non) .nil) .nil) (.cons (.set 3 (.var 5) (.var 6)) .nil)) (.cons (.ite (.or (.call f_l_is_var (.cons (.var 6) .nil)) (.or (.cmp .ne (.idx (.var 5) (.int 0)) (.idx (.var 6) (.int 0))) (.cmp .ne (.blt .len (.cons (.var 5) .nil)) (.blt .len (.cons (.var 6) .nil))))) (.cons (.ret .non) .nil) (.cons (.asg (.v 4) (.bin .add (.var 4) (.blt .zipl (.cons (.slf (.var 5) (.int 1)) (.cons (.slf (.var 6) (.int 1)) .nil))))) .nil)) .nil)) .nil)))
def l_matched_s : Ss := (.cons (.par 3 4 (.dct [] .nil) (.lst (.cons (.tup (.cons (.var 0) (.cons (.var 1) .nil))) .nil))) (.cons (.for (.w 2) (.rng1 (.int 10000)) l_matched_b0) (.cons (.ret .non) .nil)))
def l_matched_f : Fn := ⟨"_law_matched", ["_law_pattern", "_law_term", "_law_lap", "_law_known", "_law_waiting", "_law_one", "_law_two"], 2, l_matched_s⟩
def p_pairs_of_e0 : E := (.tup (.cons (.var 1) (.cons (.idx (.var 0) (.var 1)) .nil)))
def p_pairs_of_i0 : Es := (.cons (.cmp .ne (.idx (.var 0) (.var 1)) (.var 1)) .nil)
def p_pairs_of_s : Ss := (.cons (.ret (.blt .tuple (.cons (.comp p_pairs_of_e0 (.v 1) (.seq (.blt .sorted (.cons (.var 0) .nil))) p_pairs_of_i0 [1]) .nil))) .nil)
def p_pairs_of_f : Fn := ⟨"pairs_of", ["known", "variable"], 1, p_pairs_of_s⟩
def p_is_variable_s : Ss := (.cons (.ret (.isi (.var 0) .int)) .nil)
def p_is_variable_f : Fn := ⟨"is_variable", ["term"], 1, p_is_variable_s⟩
def p_match_t0 : E := (.cmp .gt (.blt .len (.cons (.var 3) .nil)) (.int 0))
def p_match_w0 : Ss := (.cons (.asg (.t [4, 5]) (.mut .pop 3 .nil)) (.cons (.ite (.call f_p_is_variable (.cons (.var 4) .nil)) (.cons (.ite (.cmp .ne (.mut .setdefault 2 (.cons (.var 4) (.cons (.var 5) .nil))) (.var 5)) (.cons (.ret .non) .nil) .nil) .nil) (.cons (.ite (.or (.call f_p_is_variable (.cons (.var 5) .nil)) (.or (.cmp .ne (.idx (.var 4) (.int 0)) (.idx (.var 5) (.int 0))) (.cmp .ne (.blt .len (.cons (.var 4) .nil)) (.blt .len (.cons (.var 5) .nil))))) (.cons (.ret .non) .nil) (.cons (.asg (.v 3) (.bin .add (.var 3) (.blt .zipl (.cons (.slf (.var 4) (.int 1)) (.cons (.slf (.var 5) (.int 1)) .nil))))) .nil)) .nil)) .nil))
def p_match_s : Ss := (.cons (.par 2 3 (.dct [] .nil) (.lst (.cons (.tup (.cons (.var 0) (.cons (.var 1) .nil))) .nil))) (.cons (.whl p_match_t0 p_match_w0) (.cons (.ret (.call f_p_pairs_of (.cons (.var 2) .nil))) .nil)))
def p_match_f : Fn := ⟨"match", ["pattern", "term", "known", "waiting", "one", "other"], 2, p_match_s⟩
def l_put_there_s : Ss := (.cons (.ite (.cmp .eq (.var 1) (.tup .nil)) (.cons (.ret (.var 2)) .nil) .nil) (.cons (.asg (.w 3) (.bin .add (.int 1) (.idx (.var 1) (.int 0)))) (.cons (.ret (.bin .add (.bin .add (.slt (.var 0) (.var 3)) (.tup (.cons (.call f_l_put_there (.cons (.idx (.var 0) (.var 3)) (.cons (.slf (.var 1) (.int 1)) (.cons (.var 2) .nil)))) .nil))) (.slf (.var 0) (.bin .add (.var 3) (.int 1))))) .nil)))
def l_put_there_f : Fn := ⟨"_law_put_there", ["_law_term", "_law_path", "_law_new", "_law_k"], 3, l_put_there_s⟩
def l_pairs_e0 : E := (.tup (.cons (.var 1) (.cons (.idx (.var 0) (.var 1)) .nil)))
def l_pairs_i0 : Es := (.cons (.cmp .ne (.idx (.var 0) (.var 1)) (.var 1)) .nil)
def l_pairs_s : Ss := (.cons (.ret (.blt .tuple (.cons (.comp l_pairs_e0 (.v 1) (.seq (.blt .sorted (.cons (.blt .list (.cons (.var 0) .nil)) .nil))) l_pairs_i0 [1]) .nil))) .nil)
def l_pairs_f : Fn := ⟨"_law_pairs", ["_law_known", "_law_variable"], 1, l_pairs_s⟩
def l_drawn_pairs_b0 : Ss := (.cons (.ite (.cmp .eq (.call f_l_draw (.cons (.var 0) (.cons (.int 2) .nil))) (.int 0)) (.cons (.set 4 (.var 5) (.call f_l_drawn_term (.cons (.var 0) (.cons (.var 1) (.cons (.call f_l_draw (.cons (.var 0) (.cons (.bin .add (.var 3) (.int 1)) .nil))) (.cons (.var 2) .nil)))))) .nil) .nil) .nil)
def l_drawn_pairs_s : Ss := (.cons (.asg (.v 4) (.dct [] .nil)) (.cons (.for (.w 5) (.rng1 (.var 2)) l_drawn_pairs_b0) (.cons (.ret (.call f_l_pairs (.cons (.var 4) .nil))) .nil)))
def l_drawn_pairs_f : Fn := ⟨"_law_drawn_pairs", ["_law_pen_here", "_law_rows", "_law_variables", "_law_deep", "_law_known", "_law_variable"], 4, l_drawn_pairs_s⟩
def l_paths_e0 : E := (.bin .add (.tup (.cons (.var 2) .nil)) (.var 3))
def l_paths_b0 : Ss := (.cons (.asg (.w 1) (.bin .add (.var 1) (.comp l_paths_e0 (.v 3) (.seq (.call f_l_paths (.cons (.idx (.var 0) (.bin .add (.int 1) (.var 2))) .nil))) .nil [3]))) .nil)
def l_paths_s : Ss := (.cons (.asg (.w 1) (.lst (.cons (.tup .nil) .nil))) (.cons (.ite (.not (.call f_l_is_var (.cons (.var 0) .nil))) (.cons (.for (.w 2) (.rng1 (.bin .sub (.blt .len (.cons (.var 0) .nil)) (.int 1))) l_paths_b0) .nil) .nil) (.cons (.ret (.var 1)) .nil)))
def l_paths_f : Fn := ⟨"_law_paths", ["_law_term", "_law_found", "_law_k", "_law_path"], 1, l_paths_s⟩
def p_law_b0 : Ss := (.cons (.asg (.w 4) (.call f_l_drawn_term (.cons (.var 1) (.cons (.var 2) (.cons (.int 3) (.cons (.bin .add (.int 1) (.call f_l_draw (.cons (.var 1) (.cons (.int 3) .nil)))) .nil)))))) (.cons (.asg (.w 5) (.call f_l_put (.cons (.var 4) (.cons (.blt .dict (.cons (.call f_l_drawn_pairs (.cons (.var 1) (.cons (.var 2) (.cons (.int 4) (.cons (.int 2) .nil))))) .nil)) .nil)))) (.cons (.ite (.cmp .eq (.call f_l_draw (.cons (.var 1) (.cons (.int 3) .nil))) (.int 0)) (.cons (.asg (.w 5) (.call f_l_put_there (.cons (.var 5) (.cons (.call f_l_pick (.cons (.var 1) (.cons (.call f_l_paths (.cons (.var 5) .nil)) .nil))) (.cons (.call f_l_drawn_term (.cons (.var 1) (.cons (.var 2) (.cons (.int 1) (.cons (.int 3) .nil))))) .nil))))) .nil) .nil) (.cons (.ite (.cmp .eq (.call f_l_draw (.cons (.var 1) (.cons (.int 6) .nil))) (.int 0)) (.cons (.asg (.w 5) (.call f_l_drawn_term (.cons (.var 1) (.cons (.var 2) (.cons (.int 3) (.cons (.int 3) .nil)))))) .nil) .nil) (.cons (.asg (.w 6) (.call f_l_matched (.cons (.var 4) (.cons (.var 5) .nil)))) (.cons (.asg (.w 7) (.call f_p_match (.cons (.var 4) (.cons (.var 5) .nil)))) (.cons (.ite (.cmp .ne (.blt .repr (.cons (.var 7) .nil)) (.blt .repr (.cons (.ite (.cmp .isN (.var 6) .non) .non (.call f_l_pairs (.cons (.var 6) .nil))) .nil))) (.cons (.ret (.bl false)) .nil) .nil) .nil)))))))
def p_law_s : Ss := (.cons (.asg (.v 1) (.call f_l_pen (.cons (.var 0) .nil))) (.cons (.asg (.w 2) (.call f_l_drawn_order (.cons (.var 1) .nil))) (.cons (.for (.w 3) (.rng1 (.int 8)) p_law_b0) (.cons (.ret (.cmp .eq (.lst (.cons (.call f_p_match (.cons (.int 0) (.cons (.int 0) .nil))) (.cons (.call f_p_match (.cons (.tup (.cons (.str "f") (.cons (.int 0) .nil))) (.cons (.int 0) .nil))) (.cons (.call f_p_match (.cons (.tup (.cons (.str "f") (.cons (.int 0) (.cons (.int 0) .nil)))) (.cons (.tup (.cons (.str "f") (.cons (.int 1) (.cons (.int 1) .nil)))) .nil))) .nil)))) (.lst (.cons (.tup .nil) (.cons .non (.cons (.tup (.cons (.tup (.cons (.int 0) (.cons (.int 1) .nil))) .nil)) .nil)))))) .nil))))
def p_law_f : Fn := ⟨"law", ["_law_script", "_law_pen_here", "_law_rows", "_law_lap", "_law_pattern", "_law_term", "_law_due", "_law_told"], 1, p_law_s⟩
def tab : List Fn := [l_pen_f, l_draw_f, l_pick_f, l_drawn_order_f, l_drawn_term_f, l_is_var_f, l_put_f, l_matched_f, p_pairs_of_f, p_is_variable_f, p_match_f, l_put_there_f, l_pairs_f, l_drawn_pairs_f, l_paths_f, p_law_f]
def topS (i : Nat) : Stmt := PySem.Challenge.pw_downtoground_k07_whole_matching.main.body.getD i (.Pass ⟨0, 0, 0, 0⟩)
theorem l_pen_c : chkSs l_pen_f.N tab (defScope (topS 5)) l_pen_f.body (defBody (topS 5)) = true := by decide +kernel
theorem l_draw_c : chkSs l_draw_f.N tab (defScope (topS 6)) l_draw_f.body (defBody (topS 6)) = true := by decide +kernel
theorem l_pick_c : chkSs l_pick_f.N tab (defScope (topS 7)) l_pick_f.body (defBody (topS 7)) = true := by decide +kernel
theorem l_drawn_order_c : chkSs l_drawn_order_f.N tab (defScope (topS 8)) l_drawn_order_f.body (defBody (topS 8)) = true := by decide +kernel
theorem l_drawn_term_c : chkSs l_drawn_term_f.N tab (defScope (topS 11)) l_drawn_term_f.body (defBody (topS 11)) = true := by decide +kernel
theorem l_is_var_c : chkSs l_is_var_f.N tab (defScope (topS 9)) l_is_var_f.body (defBody (topS 9)) = true := by decide +kernel
theorem l_put_c : chkSs l_put_f.N tab (defScope (topS 10)) l_put_f.body (defBody (topS 10)) = true := by decide +kernel
theorem l_matched_c : chkSs l_matched_f.N tab (defScope (topS 16)) l_matched_f.body (defBody (topS 16)) = true := by decide +kernel
theorem p_pairs_of_c : chkSs p_pairs_of_f.N tab (defScope (topS 2)) p_pairs_of_f.body (defBody (topS 2)) = true := by decide +kernel
theorem p_is_variable_c : chkSs p_is_variable_f.N tab (defScope (topS 1)) p_is_variable_f.body (defBody (topS 1)) = true := by decide +kernel
theorem p_match_c : chkSs p_match_f.N tab (defScope (topS 3)) p_match_f.body (defBody (topS 3)) = true := by decide +kernel
theorem l_put_there_c : chkSs l_put_there_f.N tab (defScope (topS 13)) l_put_there_f.body (defBody (topS 13)) = true := by decide +kernel
theorem l_pairs_c : chkSs l_pairs_f.N tab (defScope (topS 14)) l_pairs_f.body (defBody (topS 14)) = true := by decide +kernel
theorem l_drawn_pairs_c : chkSs l_drawn_pairs_f.N tab (defScope (topS 15)) l_drawn_pairs_f.body (defBody (topS 15)) = true := by decide +kernel
theorem l_paths_c : chkSs l_paths_f.N tab (defScope (topS 12)) l_paths_f.body (defBody (topS 12)) = true := by decide +kernel
theorem p_law_c : chkSs p_law_f.N tab (defScope (topS 17)) p_law_f.body (defBody (topS 17)) = true := by decide +kernel
end K07
/-! Iv, part S2: the law's own call, from its promise (no repr is under way there). -/
namespace Iv
open PySem PySem.Spec PyProof.Rows L2
/-- what the law's def promises: a list of at most m ints goes in, True comes out -/
def spTrue (K : PySem.W.Frag) (m : Nat) : Sp := fun vs H Q _ => ∃ (a : Addr) (ns : List Int), vs = [.ref a] ∧ SqL K H a (ns.map V.int) ∧ ns.length ≤ m ∧ (∀ z ∈ ns, Builtin.Int.intBits z ≤ 1048576) ∧ ∀ H', Q (.bl true) H'
section
variable {P : Program} {w : World} {K : PySem.W.Frag} {s1 : Shared} {a : Addr} {vs : List Value} {ns : List Int}
/-- an abstract heap in which the script is seen, and nothing else -/
theorem script_heap (kin : K.In s1.heap) (at1 : s1.heap.get? a = some { cls := .type "list", data := .seq vs.toArray }) (hi : IntsAre vs ns) (hl : ns.length ≤ sizeLine) :
    ∃ H : Hp, SqL K H a (ns.map V.int) ∧ HOk P w H s1.heap ∧ ∀ b u, H b = some u → b = a ∧ K.lookup a = none ∧ u = .frz { cls := .type "list", data := .seq vs.toArray } (.lst (ns.map V.int)) := by
  have rv := vals_ints hi
  cases hk : K.lookup a with
  | some o =>
    obtain rfl := Option.some.inj ((kin a o hk).symm.trans at1)
    exact ⟨fun _ => none, .inr ⟨_, vs.toArray, _, hk, rfl, rfl, rfl, by rw [List.size_toArray, hi.length]; exact hl, rv⟩, fun b u z => (by cases z), fun b u z => by cases z⟩
  | none =>
    refine ⟨fun b => if b = a then some (.frz { cls := .type "list", data := .seq vs.toArray } (.lst (ns.map V.int))) else none, .inl (.inr ⟨_, if_pos rfl⟩), fun b u z => ?_, fun b u z => ?_⟩
    · simp only at z
      split at z
      · rename_i eb
        obtain rfl := Option.some.inj z
        subst eb
        exact ⟨at1, by rw [List.length_map]; exact hl, vs, _, rv, at1⟩
      · cases z
    · simp only at z
      split at z
      · rename_i eb
        exact ⟨eb, rfl, (Option.some.inj z).symm⟩
      · cases z
theorem law_goG {mg mb : Str → Option Value} {k m : Nat} {fa : Addr} {fd : FuncData} {x : Str} (kin : K.In s1.heap) (nsg : s1.heap.Ns mainGlobals mg) (nsb : s1.heap.Ns builtinsNs mb) (bb : ∀ x : Str, x ≠ "__name__" → mb x = bootBuiltins x) (lim : s1.heap.NoLimit) (gz : s1.gens = #[])
    (at1 : s1.heap.get? a = some { cls := .type "list", data := .seq vs.toArray }) (hi : IntsAre vs ns) (hl : ns.length ≤ m) (hm : m ≤ sizeLine) (bits : ∀ z ∈ ns, Builtin.Int.intBits z ≤ 1048576) (room : Room k callerA)
    (F : ∀ base : Heap, K.In base → base.Ns mainGlobals mg → FnG P w K mg base CX0 k fa fd [x] (spTrue K m)) (bind : ∀ (s : Shared) (u : Value), BindsTo s fd ⟨[u], []⟩ [(x, u)]) :
    codeAny (model P w) callerA (.call (.ref fa) ⟨[.ref a], []⟩) (fun r s' => r = .ok (.ret (.bool true)) ∧ OldK s1.heap s'.heap ∧ s'.os = s1.os ∧ AllBare s'.gens) s1 := by
  obtain ⟨H, hS, hok, only⟩ := script_heap (P := P) (w := w) kin at1 hi (Nat.le_trans hl hm)
  -- what is no list of values, and what is the module's, is not tracked
  have free : ∀ b o, s1.heap.get? b = some o → (b = a → K.lookup a = none → False) → H b = none := fun b o e n => by
    cases q : H b with
    | none => rfl
    | some u =>
      obtain ⟨eb, kb, _⟩ := only b u q
      exact (n eb kb).elim
  have low : ∀ b mm, s1.heap.Ns b mm → (hidT s1.heap H).Ns b mm := by
    rintro b mm ⟨o, es, ep, e, dd, rest⟩
    refine ⟨o, es, ep, hidT_get e (free b o e fun eb _ => ?_), dd, rest⟩
    rw [eb, at1] at e
    cases e
    cases dd
  have kb : K.In (hidT s1.heap H) := fun b o e => hidT_get (kin b o e) (free b o (kin b o e) fun eb z => by
    rw [eb, z] at e
    cases e)
  obtain ⟨lc, l1, l2⟩ := lim
  have md : Mod K mg (hidT s1.heap H) := ⟨kb, low _ _ nsg, ⟨mb, low _ _ nsb, bb⟩, ⟨lc, low _ _ l1, l2⟩⟩
  have ev : Env0 P w K mg (hidT s1.heap H) callerA [] s1 H := {
    frames := rfl, mod := md, bs := fun b o e => of_hidT e, bsz := Nat.le_of_eq (hidT_size _ _), funs := trivial, frf := fun b z => (by cases z), hok := hok, bare := .of_eq gz }
  have run := (F _ kb (low _ _ nsg)).go callerA [] s1 H ⟨[.ref a], []⟩ [.ref a] [.ref a] (fun v _ => v = .bl true) (fun _ _ _ => False) rfl room ev (bind s1 _) (.cons rfl .nil) ⟨a, ns, rfl, hS, hl, bits, fun _ => rfl⟩
  refine codeAny_mono run ?_
  intro r s2 z
  match r, z with
  | .error e, z => exact z.elim
  | .ok (.ret u), ⟨v, H2, os, bare, un, hok2, rv, qv⟩ =>
    subst qv
    have eu : u = Value.bool true := rv
    subst eu
    refine ⟨rfl, OldK.of_keep fun b o e => ?_, os, bare⟩
    cases q : H b with
    | none => exact un.keep b o e q (List.not_mem_nil) (List.not_mem_nil)
    | some u =>
      obtain ⟨rfl, _, rfl⟩ := only b u q
      rw [at1] at e
      cases e
      exact (hok2 b _ (un.frzs b _ _ q)).1
end
/-- the goal behind k_head and k_fill -/
theorem walkG {l : PySem.W.OpenLaw} {n k : Nat} {q : Program} {loose : List Str} {XP : (Str → Option Value) → Heap → Prop} {YP : World → Heap → Prop} {d : DefRec} {K : Params → PySem.W.Frag} {x : Str}
    (hn : l.most = some n) (hn2 : n ≤ sizeLine) (nd : d.params.defaults = []) (room : Room k callerA) (kY : ∀ (w : World) (h : Heap), YP w h → (K w.params).In h)
    (F : ∀ (w : World) (mg : Str → Option Value) (fa : Addr) (h : Heap), (K w.params).In h → h.Ns mainGlobals mg → mg d.name = some (.ref fa) →
      ∃ fd : FuncData, (∀ (s : Shared) (u : Value), BindsTo s fd ⟨[u], []⟩ [(x, u)]) ∧ ∀ base : Heap, (K w.params).In base → base.Ns mainGlobals mg → FnG l.prog w (K w.params) mg base CX0 k fa fd [x] (spTrue (K w.params) n)) :
    PySem.W.WalkO q loose XP YP l.row.toRowW d [] (fun f us => PySem.call f us) :=
  Att.attach_callB hn nd fun w s0 s1 mg mb fa o pm cd doc a us ns G Y ho hd hcd hmg hobj hints hlen hbits hg => by
    obtain ⟨fd, hb, hF⟩ := F w mg fa _ (kY w _ Y) G.T.g hmg
    exact law_goG (kY w _ Y) G.T.g G.T.b G.T.builtins G.T.nolimit hg hobj hints hlen hn2 hbits room hF hb
end Iv
/-! Iv, part S: the law's own call. -/
namespace Iv
open PySem PySem.Spec PyProof.Rows L2

theorem law_fn {P : Program} {w : World} {mg : Str → Option Value} {base : Heap} {T : Tab} (O : TabOk T mg) {f n m : Nat} {F : Fn} (hF : T.fns[f]? = some F) (hp : F.np = 1)
    (main : ∀ ns : List Int, ns.length ≤ m → (∀ z ∈ ns, Builtin.Int.intBits z ≤ 1048576) → ∃ fr outs, run T.fns n f [.val (.rol (ns.map .int))] = some (fr, .bl true, outs)) :
    FnG P w T.C.1 mg base CX0 (2 * n) (T.fa f) (T.fd f) (F.N.take 1) (spTrue T.C.1 m) := by
  have h := fn_all (P := P) (w := w) (base := base) O n f F hF
  rw [hp] at h
  refine h.imp fun vs H Q E q => ?_
  obtain ⟨a, ns, rfl, hS, hl, hb, q⟩ := q
  obtain ⟨fr, outs, e⟩ := main ns hl hb
  refine ⟨rfl, fun _ => False, [.val (.rol (ns.map .int))], fr, .bl true, outs, ?_, e, fun v H' p => ?_⟩
  · have nF : ∀ b, ¬ FF (fun _ => False) [Slot.val (.rol (ns.map D.int))] (List.map some [V.ref a]) b := fun b z => by
      rcases z with z | ⟨i, d, e1, _⟩
      · exact z
      · cases i with
        | zero => simp at e1
        | succ i => simp at e1
    refine ⟨rfl, fun _ z => z.elim, fun i d e1 => ?_, fun i d e1 => ?_, fun i j d e' b e1 => ?_⟩
    · cases i with
      | zero =>
        simp at e1
        subst e1
        refine ⟨_, rfl, ?_⟩
        simp only [Rep]
        refine ⟨a, ns.map V.int, rfl, ?_, Reps.ofInts ns⟩
        rcases hS with h | h
        · exact .inl ⟨nF a, h⟩
        · exact .inr (.inr h)
      | succ i => simp at e1
    · cases i with
      | zero => simp at e1
      | succ i => simp at e1
    · cases i with
      | zero => simp at e1
      | succ i => simp at e1
  · have := p.res
    simp only [Rep] at this
    subst this
    exact q H'
/-- the def at its place -/
theorem bl_all {mg : Str → Option Value} (h : ∀ x, x ∈ (["len", "tuple", "list", "sum", "sorted", "int", "all", "any", "max", "min", "dict", "isinstance", "repr", "str", "bool", "range", "enumerate", "zip", "set"] : List Str) → mg x = none) : ∀ x, x ∈ (["len", "tuple", "list", "sum", "sorted", "int", "all", "any", "max", "min", "dict", "isinstance", "repr", "str", "bool", "range", "enumerate", "zip", "set"] : List Str) → mg x = none := h
end Iv
/-! Iv, part T: runs, worked out from the head (what is still to do is a function that nothing looks into). -/
namespace Iv
open PySem
theorem run_ret {tab : List Fn} {n f : Nat} {F : Fn} {args ρ' : Sl} {fr : Bool} {d : D} (hF : tab[f]? = some F) (hl : args.length = F.np)
    (h : exs F.np whileFuel (run tab n) F.body (args ++ List.replicate (F.N.length - F.np) .none) = some (.ret fr d, ρ')) : run tab (n + 1) f args = some (fr, d, ρ'.take F.np) := by
  unfold run
  rw [hF]
  simp only [hl, if_true, h]
theorem run_end {tab : List Fn} {n f : Nat} {F : Fn} {args ρ' : Sl} (hF : tab[f]? = some F) (hl : args.length = F.np)
    (h : exs F.np whileFuel (run tab n) F.body (args ++ List.replicate (F.N.length - F.np) .none) = some (.next, ρ')) : run tab (n + 1) f args = some (false, .non, ρ'.take F.np) := by
  unfold run
  rw [hF]
  simp only [hl, if_true, h]
theorem bk {α β : Type} {x : Option α} {a : α} (h : x = some a) (k : α → Option β) : x.bind k = k a := by rw [h]; rfl

section
variable {np wf : Nat} {call : CallF} {β : Type}
def evK (np : Nat) (call : CallF) (e : E) (ρ : Sl) (k : Opd → Sl → Option β) : Option β := (ev np call e ρ).bind fun p => k p.1 p.2
def evsK (np : Nat) (call : CallF) (e : Es) (ρ : Sl) (k : List Opd → Sl → Option β) : Option β := (evs np call e ρ).bind fun p => k p.1 p.2
def itK (np : Nat) (call : CallF) (e : It) (ρ : Sl) (k : List D → Sl → Option β) : Option β := (evIt np call e ρ).bind fun p => k p.1 p.2
def exK (np wf : Nat) (call : CallF) (e : S) (ρ : Sl) (k : Fl → Sl → Option β) : Option β := (ex np wf call e ρ).bind fun p => k p.1 p.2
def exsK (np wf : Nat) (call : CallF) (e : Ss) (ρ : Sl) (k : Fl → Sl → Option β) : Option β := (exs np wf call e ρ).bind fun p => k p.1 p.2
def asV (o : Opd) (k : D → Option β) : Option β := match o with | .imm _ d => k d | _ => none
def asB (o : Opd) (k : Bool → Option β) : Option β := match o with | .imm _ (.bl d) => k d | _ => none
def asN (o : Opd) (k : Int → Option β) : Option β := match o with | .imm _ (.int d) => k d | _ => none
def look (ρ : Sl) (i : Nat) (k : Slot → Option β) : Option β := (ρ[i]?).bind k
def drK (ρ : Sl) (o : Opd) (k : D → Option β) : Option β := (deref ρ o).bind k
def immsK (os : List Opd) (k : List D → Option β) : Option β := (imms os).bind k
def dersK (ρ : Sl) (os : List Opd) (k : List D → Option β) : Option β := (derefs ρ os).bind k
def argsK (ρ : Sl) (os : List Opd) (k : Sl → Option β) : Option β := (toArgs ρ os).bind k
def outK (ρ outs : Sl) (os : List Opd) (k : Sl → Option β) : Option β := k (setOuts ρ outs os 0)
def putS (ρ : Sl) (i : Nat) (s : Slot) (k : Sl → Option β) : Option β := k (ρ.set i s)
def setK (np : Nat) (ρ : Sl) (i : Nat) (s : Slot) (k : Sl → Option β) : Option β := (setV np ρ i s).bind k
def setsK (np : Nat) (ρ : Sl) (is : List Nat) (ds : List D) (k : Sl → Option β) : Option β := (setVs np ρ is ds).bind k
def tgK (np : Nat) (tg : Tg) (d : D) (ρ : Sl) (k : Sl → Option β) : Option β := (asgTg np tg d ρ).bind k
def onS (s : Slot) (f g : D → Option β) : Option β := match s with | .val d => f d | .own d => g d | .none => none
def forS (np wf : Nat) (call : CallF) (tg : Tg) (b : Ss) (ds : List D) (ρ : Sl) : Option (Fl × Sl) := forL np tg (fun ρ => exs np wf call b ρ) ds ρ
def whlS (np wf : Nat) (call : CallF) (c : E) (b : Ss) (n : Nat) (ρ : Sl) : Option (Fl × Sl) := whlL (fun ρ => (ev np call c ρ).bind blOf) (fun ρ => exs np wf call b ρ) n ρ
def backK (ρ0 ρ : Sl) (vs : List Nat) (k : Sl → Option β) : Option β := k (backS ρ0 ρ vs)
def compS (np : Nat) (call : CallF) (vs : List Nat) (tg : Tg) (ifs : Es) (elt : E) (ds : List D) (ρ : Sl) : Option (List D × Sl) := compL np vs tg (fun ρ => evTest np call ifs ρ) (fun ρ => (ev np call elt ρ).bind immOf) ds ρ

theorem kV {e : E} {ρ : Sl} {k : D × Sl → Option β} : ((ev np call e ρ).bind immOf).bind k = evK np call e ρ fun o ρ1 => asV o fun d => k (d, ρ1) := by
  unfold evK; cases ev np call e ρ with
  | none => rfl
  | some p => obtain ⟨o, ρ1⟩ := p; cases o <;> rfl
theorem kB {e : E} {ρ : Sl} {k : Bool × Sl → Option β} : ((ev np call e ρ).bind blOf).bind k = evK np call e ρ fun o ρ1 => asB o fun d => k (d, ρ1) := by
  unfold evK; cases ev np call e ρ with
  | none => rfl
  | some p => obtain ⟨o, ρ1⟩ := p; cases o with
    | slot => rfl
    | imm f d => cases d <;> rfl
theorem kN {e : E} {ρ : Sl} {k : Int × Sl → Option β} : ((ev np call e ρ).bind intOf).bind k = evK np call e ρ fun o ρ1 => asN o fun d => k (d, ρ1) := by
  unfold evK; cases ev np call e ρ with
  | none => rfl
  | some p => obtain ⟨o, ρ1⟩ := p; cases o with
    | slot => rfl
    | imm f d => cases d <;> rfl
theorem k0 {e : E} {ρ : Sl} {k : Opd × Sl → Option β} : (ev np call e ρ).bind k = evK np call e ρ fun o ρ1 => k (o, ρ1) := rfl
theorem kS {e : Es} {ρ : Sl} {k : List Opd × Sl → Option β} : (evs np call e ρ).bind k = evsK np call e ρ fun o ρ1 => k (o, ρ1) := rfl
theorem kI {e : It} {ρ : Sl} {k : List D × Sl → Option β} : (evIt np call e ρ).bind k = itK np call e ρ fun o ρ1 => k (o, ρ1) := rfl
theorem kX {e : S} {ρ : Sl} {k : Fl × Sl → Option β} : (ex np wf call e ρ).bind k = exK np wf call e ρ fun o ρ1 => k (o, ρ1) := rfl
theorem rV {o : Opd} {ρ : Sl} {k : D × Sl → Option β} : (immOf (o, ρ)).bind k = asV o fun d => k (d, ρ) := by cases o <;> rfl
theorem rB {o : Opd} {ρ : Sl} {k : Bool × Sl → Option β} : (blOf (o, ρ)).bind k = asB o fun d => k (d, ρ) := by
  cases o with
  | slot => rfl
  | imm f d => cases d <;> rfl
theorem rN {o : Opd} {ρ : Sl} {k : Int × Sl → Option β} : (intOf (o, ρ)).bind k = asN o fun d => k (d, ρ) := by
  cases o with
  | slot => rfl
  | imm f d => cases d <;> rfl
theorem ite_bind {α : Type} {c : Prop} [Decidable c] {x y : Option α} {k : α → Option β} : (if c then x else y).bind k = if c then x.bind k else y.bind k := by split <;> rfl
/-! the head -/
theorem k_var {i : Nat} {ρ : Sl} {k : Opd → Sl → Option β} : evK np call (.var i) ρ k = look ρ i fun s => onS s (fun d => k (.imm false d) ρ) fun _ => k (.slot i) ρ := by
  first
  | (unfold evK look; simp only [ev]; cases ρ[i]? with
    | none => rfl
    | some s => cases s <;> rfl)
  | (unfold evK; simp only [ev, Option.bind_assoc, ite_bind]; rfl)
  | (unfold evK; simp only [ev, Option.bind_assoc, ite_bind]; simp only [kV, kB, kN, k0, kS, kI, kX, rV, rB, rN, Option.bind_some]; try rfl)
theorem k_int {i : Int} {ρ : Sl} {k : Opd → Sl → Option β} : evK np call (.int i) ρ k = k (.imm false (.int i)) ρ := by
  first
  | rfl
  | (unfold evK; simp only [ev, Option.bind_assoc, ite_bind]; rfl)
  | (unfold evK; simp only [ev, Option.bind_assoc, ite_bind]; simp only [kV, kB, kN, k0, kS, kI, kX, rV, rB, rN, Option.bind_some]; try rfl)
theorem k_str {i : Str} {ρ : Sl} {k : Opd → Sl → Option β} : evK np call (.str i) ρ k = k (.imm false (.str i)) ρ := by
  first
  | rfl
  | (unfold evK; simp only [ev, Option.bind_assoc, ite_bind]; rfl)
  | (unfold evK; simp only [ev, Option.bind_assoc, ite_bind]; simp only [kV, kB, kN, k0, kS, kI, kX, rV, rB, rN, Option.bind_some]; try rfl)
theorem k_bl {i : Bool} {ρ : Sl} {k : Opd → Sl → Option β} : evK np call (.bl i) ρ k = k (.imm false (.bl i)) ρ := by
  first
  | rfl
  | (unfold evK; simp only [ev, Option.bind_assoc, ite_bind]; rfl)
  | (unfold evK; simp only [ev, Option.bind_assoc, ite_bind]; simp only [kV, kB, kN, k0, kS, kI, kX, rV, rB, rN, Option.bind_some]; try rfl)
theorem k_non  {ρ : Sl} {k : Opd → Sl → Option β} : evK np call .non ρ k = k (.imm false .non) ρ := by
  first
  | rfl
  | (unfold evK; simp only [ev, Option.bind_assoc, ite_bind]; rfl)
  | (unfold evK; simp only [ev, Option.bind_assoc, ite_bind]; simp only [kV, kB, kN, k0, kS, kI, kX, rV, rB, rN, Option.bind_some]; try rfl)
theorem k_tup {es : Es} {ρ : Sl} {k : Opd → Sl → Option β} : evK np call (.tup es) ρ k = evsK np call es ρ fun os ρ1 => immsK os fun ds => k (.imm false (.tup ds)) ρ1 := by
  first
  | rfl
  | (unfold evK; simp only [ev, Option.bind_assoc, ite_bind]; rfl)
  | (unfold evK; simp only [ev, Option.bind_assoc, ite_bind]; simp only [kV, kB, kN, k0, kS, kI, kX, rV, rB, rN, Option.bind_some]; try rfl)
theorem k_lst {es : Es} {ρ : Sl} {k : Opd → Sl → Option β} : evK np call (.lst es) ρ k = evsK np call es ρ fun os ρ1 => immsK os fun ds => k (.imm true (.lst ds)) ρ1 := by
  first
  | rfl
  | (unfold evK; simp only [ev, Option.bind_assoc, ite_bind]; rfl)
  | (unfold evK; simp only [ev, Option.bind_assoc, ite_bind]; simp only [kV, kB, kN, k0, kS, kI, kX, rV, rB, rN, Option.bind_some]; try rfl)
theorem k_dct {ks : List L2.Key} {es : Es} {ρ : Sl} {k : Opd → Sl → Option β} : evK np call (.dct ks es) ρ k = evsK np call es ρ fun os ρ1 => immsK os fun ds => k (.imm true (.dct (mergeD [] (ks.zip ds)))) ρ1 := by
  first
  | rfl
  | (unfold evK; simp only [ev, Option.bind_assoc, ite_bind]; rfl)
  | (unfold evK; simp only [ev, Option.bind_assoc, ite_bind]; simp only [kV, kB, kN, k0, kS, kI, kX, rV, rB, rN, Option.bind_some]; try rfl)
theorem k_bin {op : BOp} {a b : E} {ρ : Sl} {k : Opd → Sl → Option β} : evK np call (.bin op a b) ρ k = evK np call a ρ fun o1 ρ1 => evK np call b ρ1 fun o2 ρ2 => drK ρ2 o1 fun d1 => drK ρ2 o2 fun d2 => (binop op d1 d2).bind fun r => k (.imm r.1 r.2) ρ2 := by
  first
  | rfl
  | (unfold evK; simp only [ev, Option.bind_assoc, ite_bind]; rfl)
  | (unfold evK; simp only [ev, Option.bind_assoc, ite_bind]; simp only [kV, kB, kN, k0, kS, kI, kX, rV, rB, rN, Option.bind_some]; try rfl)
theorem k_neg {a : E} {ρ : Sl} {k : Opd → Sl → Option β} : evK np call (.neg a) ρ k = evK np call a ρ fun o1 ρ1 => asN o1 fun i => k (.imm false (.int (-i))) ρ1 := by
  first
  | rfl
  | (unfold evK; simp only [ev, Option.bind_assoc, ite_bind]; rfl)
  | (unfold evK; simp only [ev, Option.bind_assoc, ite_bind]; simp only [kV, kB, kN, k0, kS, kI, kX, rV, rB, rN, Option.bind_some]; try rfl)
theorem k_cmp {op : COp} {a b : E} {ρ : Sl} {k : Opd → Sl → Option β} : evK np call (.cmp op a b) ρ k = evK np call a ρ fun o1 ρ1 => evK np call b ρ1 fun o2 ρ2 => drK ρ2 o1 fun d1 => drK ρ2 o2 fun d2 => (cmpop op d1 d2).bind fun r => k (.imm false (.bl r)) ρ2 := by
  first
  | rfl
  | (unfold evK; simp only [ev, Option.bind_assoc, ite_bind]; rfl)
  | (unfold evK; simp only [ev, Option.bind_assoc, ite_bind]; simp only [kV, kB, kN, k0, kS, kI, kX, rV, rB, rN, Option.bind_some]; try rfl)
theorem k_cmp2 {op op2 : COp} {a b c : E} {ρ : Sl} {k : Opd → Sl → Option β} : evK np call (.cmp2 op op2 a b c) ρ k = evK np call a ρ fun o1 ρ1 => asV o1 fun d1 => evK np call b ρ1 fun o2 ρ2 => asV o2 fun d2 => (cmpop op d1 d2).bind fun r => if r = true then evK np call c ρ2 fun o3 ρ3 => asV o3 fun d3 => (cmpop op2 d2 d3).bind fun r2 => k (.imm false (.bl r2)) ρ3 else k (.imm false (.bl false)) ρ2 := by
  first
  | rfl
  | (unfold evK; simp only [ev, Option.bind_assoc, ite_bind]; rfl)
  | (unfold evK; simp only [ev, Option.bind_assoc, ite_bind]; simp only [kV, kB, kN, k0, kS, kI, kX, rV, rB, rN, Option.bind_some]; try rfl)
theorem k_rev {a : E} {ρ : Sl} {k : Opd → Sl → Option β} : evK np call (.rev a) ρ k = evK np call a ρ fun o1 ρ1 => drK ρ1 o1 fun d1 => (revop d1).bind fun r => k (.imm r.1 r.2) ρ1 := by
  first
  | rfl
  | (unfold evK; simp only [ev, Option.bind_assoc, ite_bind]; rfl)
  | (unfold evK; simp only [ev, Option.bind_assoc, ite_bind]; simp only [kV, kB, kN, k0, kS, kI, kX, rV, rB, rN, Option.bind_some]; try rfl)
theorem k_and {a b : E} {ρ : Sl} {k : Opd → Sl → Option β} : evK np call (.and a b) ρ k = evK np call a ρ fun o1 ρ1 => asB o1 fun c => if c = true then evK np call b ρ1 fun o2 ρ2 => asB o2 fun d => k (.imm false (.bl d)) ρ2 else k (.imm false (.bl false)) ρ1 := by
  first
  | rfl
  | (unfold evK; simp only [ev, Option.bind_assoc, ite_bind]; rfl)
  | (unfold evK; simp only [ev, Option.bind_assoc, ite_bind]; simp only [kV, kB, kN, k0, kS, kI, kX, rV, rB, rN, Option.bind_some]; try rfl)
theorem k_or {a b : E} {ρ : Sl} {k : Opd → Sl → Option β} : evK np call (.or a b) ρ k = evK np call a ρ fun o1 ρ1 => asB o1 fun c => if c = true then k (.imm false (.bl true)) ρ1 else evK np call b ρ1 fun o2 ρ2 => asB o2 fun d => k (.imm false (.bl d)) ρ2 := by
  first
  | rfl
  | (unfold evK; simp only [ev, Option.bind_assoc, ite_bind]; rfl)
  | (unfold evK; simp only [ev, Option.bind_assoc, ite_bind]; simp only [kV, kB, kN, k0, kS, kI, kX, rV, rB, rN, Option.bind_some]; try rfl)
theorem k_not {a : E} {ρ : Sl} {k : Opd → Sl → Option β} : evK np call (.not a) ρ k = evK np call a ρ fun o1 ρ1 => asB o1 fun c => k (.imm false (.bl (!c))) ρ1 := by
  first
  | rfl
  | (unfold evK; simp only [ev, Option.bind_assoc, ite_bind]; rfl)
  | (unfold evK; simp only [ev, Option.bind_assoc, ite_bind]; simp only [kV, kB, kN, k0, kS, kI, kX, rV, rB, rN, Option.bind_some]; try rfl)
theorem k_ite {c a b : E} {ρ : Sl} {k : Opd → Sl → Option β} : evK np call (.ite c a b) ρ k = evK np call c ρ fun o1 ρ1 => asB o1 fun x => if x = true then evK np call a ρ1 fun o2 ρ2 => asV o2 fun d => k (.imm false d) ρ2 else evK np call b ρ1 fun o2 ρ2 => asV o2 fun d => k (.imm false d) ρ2 := by
  first
  | rfl
  | (unfold evK; simp only [ev, Option.bind_assoc, ite_bind]; rfl)
  | (unfold evK; simp only [ev, Option.bind_assoc, ite_bind]; simp only [kV, kB, kN, k0, kS, kI, kX, rV, rB, rN, Option.bind_some]; try rfl)
theorem k_idx {a b : E} {ρ : Sl} {k : Opd → Sl → Option β} : evK np call (.idx a b) ρ k = evK np call a ρ fun o1 ρ1 => evK np call b ρ1 fun o2 ρ2 => drK ρ2 o1 fun d1 => drK ρ2 o2 fun d2 => (idxop d1 d2).bind fun r => k (.imm false r) ρ2 := by
  first
  | rfl
  | (unfold evK; simp only [ev, Option.bind_assoc, ite_bind]; rfl)
  | (unfold evK; simp only [ev, Option.bind_assoc, ite_bind]; simp only [kV, kB, kN, k0, kS, kI, kX, rV, rB, rN, Option.bind_some]; try rfl)
theorem k_slc {a lo hi : E} {ρ : Sl} {k : Opd → Sl → Option β} : evK np call (.slc a lo hi) ρ k = evK np call a ρ fun o1 ρ1 => evK np call lo ρ1 fun o2 ρ2 => asN o2 fun i => evK np call hi ρ2 fun o3 ρ3 => asN o3 fun j => drK ρ3 o1 fun d1 => (slcop d1 (some i) (some j)).bind fun r => k (.imm r.1 r.2) ρ3 := by
  first
  | rfl
  | (unfold evK; simp only [ev, Option.bind_assoc, ite_bind]; rfl)
  | (unfold evK; simp only [ev, Option.bind_assoc, ite_bind]; simp only [kV, kB, kN, k0, kS, kI, kX, rV, rB, rN, Option.bind_some]; try rfl)
theorem k_slf {a lo : E} {ρ : Sl} {k : Opd → Sl → Option β} : evK np call (.slf a lo) ρ k = evK np call a ρ fun o1 ρ1 => evK np call lo ρ1 fun o2 ρ2 => asN o2 fun i => drK ρ2 o1 fun d1 => (slcop d1 (some i) none).bind fun r => k (.imm r.1 r.2) ρ2 := by
  first
  | rfl
  | (unfold evK; simp only [ev, Option.bind_assoc, ite_bind]; rfl)
  | (unfold evK; simp only [ev, Option.bind_assoc, ite_bind]; simp only [kV, kB, kN, k0, kS, kI, kX, rV, rB, rN, Option.bind_some]; try rfl)
theorem k_slt {a hi : E} {ρ : Sl} {k : Opd → Sl → Option β} : evK np call (.slt a hi) ρ k = evK np call a ρ fun o1 ρ1 => evK np call hi ρ1 fun o2 ρ2 => asN o2 fun i => drK ρ2 o1 fun d1 => (slcop d1 none (some i)).bind fun r => k (.imm r.1 r.2) ρ2 := by
  first
  | rfl
  | (unfold evK; simp only [ev, Option.bind_assoc, ite_bind]; rfl)
  | (unfold evK; simp only [ev, Option.bind_assoc, ite_bind]; simp only [kV, kB, kN, k0, kS, kI, kX, rV, rB, rN, Option.bind_some]; try rfl)
theorem k_call {f : Nat} {es : Es} {ρ : Sl} {k : Opd → Sl → Option β} : evK np call (.call f es) ρ k = evsK np call es ρ fun os ρ1 => argsK ρ1 os fun args => if nodupN (slotsOf os) = true then (call f args).bind fun r => outK ρ1 r.2.2 os fun ρ2 => k (.imm r.1 r.2.1) ρ2 else none := by
  first
  | rfl
  | (unfold evK; simp only [ev, Option.bind_assoc, ite_bind]; rfl)
  | (unfold evK; simp only [ev, Option.bind_assoc, ite_bind]; simp only [kV, kB, kN, k0, kS, kI, kX, rV, rB, rN, Option.bind_some]; try rfl)
theorem k_blt {f : BF} {es : Es} {ρ : Sl} {k : Opd → Sl → Option β} : evK np call (.blt f es) ρ k = evsK np call es ρ fun os ρ1 => dersK ρ1 os fun ds => (bltop f ds).bind fun r => k (.imm r.1 r.2) ρ1 := by
  first
  | rfl
  | (unfold evK; simp only [ev, Option.bind_assoc, ite_bind]; rfl)
  | (unfold evK; simp only [ev, Option.bind_assoc, ite_bind]; simp only [kV, kB, kN, k0, kS, kI, kX, rV, rB, rN, Option.bind_some]; try rfl)
theorem k_isi {a : E} {t : Ty} {ρ : Sl} {k : Opd → Sl → Option β} : evK np call (.isi a t) ρ k = evK np call a ρ fun o1 ρ1 => drK ρ1 o1 fun d => (isTy1 t d).bind fun b => k (.imm false (.bl b)) ρ1 := by
  first
  | rfl
  | (unfold evK; simp only [ev, Option.bind_assoc, ite_bind]; rfl)
  | (unfold evK; simp only [ev, Option.bind_assoc, ite_bind]; simp only [kV, kB, kN, k0, kS, kI, kX, rV, rB, rN, Option.bind_some]; try rfl)
theorem k_comp {elt : E} {tg : Tg} {it : It} {ifs : Es} {vs : List Nat} {ρ : Sl} {k : Opd → Sl → Option β} : evK np call (.comp elt tg it ifs vs) ρ k = itK np call it ρ fun ds ρ1 => if quietS ρ1 vs = true ∧ ds.length ≤ sizeLine then (compS np call vs tg ifs elt ds ρ1).bind fun r => backK ρ1 r.2 vs fun ρ2 => k (.imm true (.lst r.1)) ρ2 else none := by
  first
  | rfl
  | (unfold evK; simp only [ev, Option.bind_assoc, ite_bind]; rfl)
  | (unfold evK; simp only [ev, Option.bind_assoc, ite_bind]; simp only [kV, kB, kN, k0, kS, kI, kX, rV, rB, rN, Option.bind_some]; try rfl)
theorem k_nil  {ρ : Sl} {k : List Opd → Sl → Option β} : evsK np call .nil ρ k = k [] ρ := by
  first
  | rfl
  | (unfold evsK; simp only [evs, Option.bind_assoc, ite_bind]; rfl)
  | (unfold evsK; simp only [evs, Option.bind_assoc, ite_bind]; simp only [kV, kB, kN, k0, kS, kI, kX, rV, rB, rN, Option.bind_some]; try rfl)
theorem k_cons {e : E} {r : Es} {ρ : Sl} {k : List Opd → Sl → Option β} : evsK np call (.cons e r) ρ k = evK np call e ρ fun o ρ1 => evsK np call r ρ1 fun os ρ2 => k (o :: os) ρ2 := by
  first
  | rfl
  | (unfold evsK; simp only [evs, Option.bind_assoc, ite_bind]; rfl)
  | (unfold evsK; simp only [evs, Option.bind_assoc, ite_bind]; simp only [kV, kB, kN, k0, kS, kI, kX, rV, rB, rN, Option.bind_some]; try rfl)
theorem k_seq {e : E} {ρ : Sl} {k : List D → Sl → Option β} : itK np call (.seq e) ρ k = evK np call e ρ fun o ρ1 => asV o fun d => (itemsOf d).bind fun ds => k ds ρ1 := by
  first
  | rfl
  | (unfold itK; simp only [evIt, Option.bind_assoc, ite_bind]; rfl)
  | (unfold itK; simp only [evIt, Option.bind_assoc, ite_bind]; simp only [kV, kB, kN, k0, kS, kI, kX, rV, rB, rN, Option.bind_some]; try rfl)
theorem k_rng1 {e : E} {ρ : Sl} {k : List D → Sl → Option β} : itK np call (.rng1 e) ρ k = evK np call e ρ fun o ρ1 => asN o fun j => if -(2 ^ 62) ≤ j ∧ j < 2 ^ 62 then k (rngD 0 j) ρ1 else none := by
  first
  | rfl
  | (unfold itK; simp only [evIt, Option.bind_assoc, ite_bind]; rfl)
  | (unfold itK; simp only [evIt, Option.bind_assoc, ite_bind]; simp only [kV, kB, kN, k0, kS, kI, kX, rV, rB, rN, Option.bind_some]; try rfl)
theorem k_expr {e : E} {ρ : Sl} {k : Fl → Sl → Option β} : exK np wf call (.expr e) ρ k = evK np call e ρ fun _ ρ1 => k .next ρ1 := by
  first
  | rfl
  | (unfold exK; simp only [ex, Option.bind_assoc, ite_bind]; rfl)
  | (unfold exK; simp only [ex, Option.bind_assoc, ite_bind]; simp only [kV, kB, kN, k0, kS, kI, kX, rV, rB, rN, Option.bind_some]; try rfl)
theorem k_aite {c : E} {a b : Ss} {ρ : Sl} {k : Fl → Sl → Option β} : exK np wf call (.ite c a b) ρ k = evK np call c ρ fun o1 ρ1 => asB o1 fun x => if x = true then exsK np wf call a ρ1 k else exsK np wf call b ρ1 k := by
  first
  | rfl
  | (unfold exK; simp only [ex, Option.bind_assoc, ite_bind]; rfl)
  | (unfold exK; simp only [ex, Option.bind_assoc, ite_bind]; simp only [kV, kB, kN, k0, kS, kI, kX, rV, rB, rN, Option.bind_some]; try rfl)
theorem k_for {tg : Tg} {it : It} {b : Ss} {ρ : Sl} {k : Fl → Sl → Option β} : exK np wf call (.for tg it b) ρ k = itK np call it ρ fun ds ρ1 => (forS np wf call tg b ds ρ1).bind fun r => k r.1 r.2 := by
  first
  | rfl
  | (unfold exK; simp only [ex, Option.bind_assoc, ite_bind]; rfl)
  | (unfold exK; simp only [ex, Option.bind_assoc, ite_bind]; simp only [kV, kB, kN, k0, kS, kI, kX, rV, rB, rN, Option.bind_some]; try rfl)
theorem k_whl {c : E} {b : Ss} {ρ : Sl} {k : Fl → Sl → Option β} : exK np wf call (.whl c b) ρ k = (whlS np wf call c b wf ρ).bind fun r => k r.1 r.2 := by
  first
  | rfl
  | (unfold exK; simp only [ex, Option.bind_assoc, ite_bind]; rfl)
  | (unfold exK; simp only [ex, Option.bind_assoc, ite_bind]; simp only [kV, kB, kN, k0, kS, kI, kX, rV, rB, rN, Option.bind_some]; try rfl)
theorem k_retN  {ρ : Sl} {k : Fl → Sl → Option β} : exK np wf call .retN ρ k = k (.ret false .non) ρ := by
  first
  | rfl
  | (unfold exK; simp only [ex, Option.bind_assoc, ite_bind]; rfl)
  | (unfold exK; simp only [ex, Option.bind_assoc, ite_bind]; simp only [kV, kB, kN, k0, kS, kI, kX, rV, rB, rN, Option.bind_some]; try rfl)
theorem k_pass  {ρ : Sl} {k : Fl → Sl → Option β} : exK np wf call .pass ρ k = k .next ρ := by
  first
  | rfl
  | (unfold exK; simp only [ex, Option.bind_assoc, ite_bind]; rfl)
  | (unfold exK; simp only [ex, Option.bind_assoc, ite_bind]; simp only [kV, kB, kN, k0, kS, kI, kX, rV, rB, rN, Option.bind_some]; try rfl)
theorem k_brk  {ρ : Sl} {k : Fl → Sl → Option β} : exK np wf call .brk ρ k = k .brk ρ := by
  first
  | rfl
  | (unfold exK; simp only [ex, Option.bind_assoc, ite_bind]; rfl)
  | (unfold exK; simp only [ex, Option.bind_assoc, ite_bind]; simp only [kV, kB, kN, k0, kS, kI, kX, rV, rB, rN, Option.bind_some]; try rfl)
theorem k_cont  {ρ : Sl} {k : Fl → Sl → Option β} : exK np wf call .cont ρ k = k .cont ρ := by
  first
  | rfl
  | (unfold exK; simp only [ex, Option.bind_assoc, ite_bind]; rfl)
  | (unfold exK; simp only [ex, Option.bind_assoc, ite_bind]; simp only [kV, kB, kN, k0, kS, kI, kX, rV, rB, rN, Option.bind_some]; try rfl)
end
end Iv
/-! Iv, part U: runs from the head, further. -/
namespace Iv
open PySem
section
variable {np wf : Nat} {call : CallF} {β : Type} {ρ : Sl}
theorem exs_K {b : Ss} : exs np wf call b ρ = exsK np wf call b ρ fun f ρ1 => some (f, ρ1) := by
  unfold exsK
  cases exs np wf call b ρ <;> rfl
def frK (np : Nat) (ρ : Sl) (i : Nat) (k : Opd → Sl → Option β) : Option β := (ev np (fun _ _ => none) (.frz i) ρ).bind fun p => k p.1 p.2
theorem k_frz {i : Nat} {k : Opd → Sl → Option β} : evK np call (.frz i) ρ k = frK np ρ i k := by
  unfold evK frK
  simp only [ev]
theorem k_mth {m : MF} {a : E} {es : Es} {k : Opd → Sl → Option β} : evK np call (.mth m a es) ρ k = evK np call a ρ fun o1 ρ1 => drK ρ1 o1 fun d0 => evsK np call es ρ1 fun os ρ2 => drK ρ2 o1 fun d1 => immsK os fun ds => if tyOf d0 = tyOf d1 then (mthop m d1 ds).bind fun r => k (.imm false r) ρ2 else none := by
  unfold evK
  simp only [ev, Option.bind_assoc, ite_bind]
  simp only [kV, kB, kN, k0, kS, kI, kX, rV, rB, rN, Option.bind_some]
  rfl
def ownK (s : Slot) (k : D → Option β) : Option β := match s with | .own d => k d | _ => none
theorem k_mut {m : MM} {i : Nat} {es : Es} {k : Opd → Sl → Option β} : evK np call (.mut m i es) ρ k = look ρ i fun s => ownK s fun d0 => evsK np call es ρ fun os ρ1 => immsK os fun ds => look ρ1 i fun s1 => ownK s1 fun d =>
    if tyOf d0 = tyOf d then (mutop m d ds).bind fun r => putS ρ1 i (.own r.2) fun ρ2 => k (.imm false r.1) ρ2 else none := by
  unfold evK look
  simp only [ev]
  cases ρ[i]? with
  | none => rfl
  | some s =>
    cases s with
    | none => rfl
    | val d => rfl
    | own d0 =>
      simp only [Option.bind_some, ownK]
      unfold evsK
      simp only [Option.bind_assoc]
      congr 1
      funext p
      unfold immsK
      congr 1
      funext ds
      cases p.2[i]? with
      | none => rfl
      | some s1 =>
        cases s1 with
        | none => rfl
        | val d => rfl
        | own d =>
          simp only [Option.bind_some]
          split
          · simp only [Option.bind_assoc]; rfl
          · rfl
theorem k_scons {s : S} {r : Ss} {k : Fl → Sl → Option β} : exsK np wf call (.cons s r) ρ k = exK np wf call s ρ fun fl ρ1 => match fl with
    | .next => exsK np wf call r ρ1 k
    | .brk => k .brk ρ1
    | .cont => k .cont ρ1
    | .ret fr d => k (.ret fr d) ρ1 := by
  unfold exsK exK
  simp only [exs, Option.bind_assoc]
  congr 1
  funext p
  obtain ⟨fl, ρ1⟩ := p
  cases fl <;> rfl
theorem k_snil {k : Fl → Sl → Option β} : exsK np wf call .nil ρ k = k .next ρ := rfl
def asgK (np : Nat) (tg : Tg) (o : Opd) (ρ : Sl) (k : Sl → Option β) : Option β := match tg, o with
  | .v i, .imm true d => setK np ρ i (.own d) k
  | tg, .imm _ d => tgK np tg d ρ k
  | _, _ => none
theorem k_asg {tg : Tg} {e : E} {k : Fl → Sl → Option β} : exK np wf call (.asg tg e) ρ k = evK np call e ρ fun o ρ1 => asgK np tg o ρ1 fun ρ2 => k .next ρ2 := by
  unfold exK evK
  simp only [ex, Option.bind_assoc]
  congr 1
  funext p
  obtain ⟨o, ρ1⟩ := p
  cases o with
  | slot i => cases tg <;> rfl
  | imm f d => cases f <;> cases tg <;> (simp only [asgK, tgK, setK, Option.bind_assoc]; rfl)
theorem bn {α : Type} (x : Option α) : (x.bind fun _ => (none : Option β)) = none := by cases x <;> rfl
theorem k_par {i j : Nat} {a b : E} {k : Fl → Sl → Option β} : exK np wf call (.par i j a b) ρ k = if i = j then none else evK np call a ρ fun o1 ρ1 => evK np call b ρ1 fun o2 ρ2 => asgK np (.v i) o1 ρ2 fun ρ3 => asgK np (.v j) o2 ρ3 fun ρ4 => k .next ρ4 := by
  unfold exK evK
  simp only [ex]
  split
  · rfl
  · simp only [Option.bind_assoc]
    congr 1
    funext p
    congr 1
    funext p2
    obtain ⟨o1, ρ1⟩ := p
    obtain ⟨o2, ρ2⟩ := p2
    cases o1 with
    | slot i => rfl
    | imm f1 d1 =>
      cases o2 with
      | slot i =>
        cases f1 <;> simp only [asgK, tgK, asgTg, setK] <;> exact (bn _).symm
      | imm f2 d2 =>
        cases f1 <;> cases f2 <;> (simp only [asgK, tgK, asgTg, setK, Option.bind_assoc]; rfl)
theorem k_set {i : Nat} {a v : E} {k : Fl → Sl → Option β} : exK np wf call (.set i a v) ρ k = evK np call v ρ fun o ρ1 => asV o fun d => look ρ1 i fun s => ownK s fun _ => evK np call a ρ1 fun o2 ρ2 => asV o2 fun kd => look ρ2 i fun s2 => ownK s2 fun ob => (setop ob kd d).bind fun ob' => putS ρ2 i (.own ob') fun ρ3 => k .next ρ3 := by
  unfold exK
  simp only [ex, Option.bind_assoc]
  simp only [kV, k0, rV]
  congr 1
  funext o ρ1
  congr 1
  funext d
  unfold look
  cases ρ1[i]? with
  | none => rfl
  | some s =>
    cases s with
    | none => rfl
    | val d => rfl
    | own d0 =>
      refine (Option.bind_assoc ..).trans ?_
      show (ev np call a ρ1).bind _ = (ev np call a ρ1).bind _
      congr 1
      funext p
      obtain ⟨o2, ρ2⟩ := p
      cases o2 with
      | slot j => rfl
      | imm f kd =>
        simp only [asV]
        cases ρ2[i]? with
        | none => rfl
        | some s1 =>
          cases s1 with
          | none => rfl
          | val d => rfl
          | own d1 =>
            show Option.bind (Option.bind _ _) _ = Option.bind _ _
            rw [Option.bind_assoc]
            rfl
def retK (np : Nat) (o : Opd) (ρ : Sl) (k : Fl → Sl → Option β) : Option β := match o with
  | .imm fr d => k (.ret fr d) ρ
  | .slot i => match ρ[i]? with
    | some (.own d) => if np ≤ i then k (.ret true d) (ρ.set i .none) else none
    | _ => none
theorem k_ret {e : E} {k : Fl → Sl → Option β} : exK np wf call (.ret e) ρ k = evK np call e ρ fun o ρ1 => retK np o ρ1 k := by
  unfold exK evK
  simp only [ex, Option.bind_assoc]
  congr 1
  funext p
  obtain ⟨o, ρ1⟩ := p
  cases o with
  | imm fr d => rfl
  | slot i =>
    simp only [retK]
    cases ρ1[i]? with
    | none => rfl
    | some s =>
      cases s with
      | none => rfl
      | val d => rfl
      | own d =>
        dsimp only
        rw [ite_bind]
        split <;> rfl
def valK (s : Slot) (k : D → Option β) : Option β := match s with | .val d => k d | _ => none
theorem k_aug {i : Nat} {op : BOp} {e : E} {k : Fl → Sl → Option β} : exK np wf call (.aug i op e) ρ k = look ρ i fun s => valK s fun d => evK np call e ρ fun o ρ1 => asV o fun d2 => (augop op d d2).bind fun r => setK np ρ1 i (.val r) fun ρ2 => k .next ρ2 := by
  unfold exK look
  simp only [ex]
  cases ρ[i]? with
  | none => rfl
  | some s =>
    cases s with
    | none => rfl
    | own d => rfl
    | val d =>
      simp only [Option.bind_some, valK]
      simp only [Option.bind_assoc]
      simp only [k0, rV]
      rfl
theorem k_enm {e : E} {k : List D → Sl → Option β} : itK np call (.enm e) ρ k = evK np call e ρ fun o ρ1 => asV o fun d => match d with
    | .lst ds => k (enumD 0 ds) ρ1
    | .tup ds => k (enumD 0 ds) ρ1
    | _ => none := by
  unfold itK
  simp only [evIt, Option.bind_assoc]
  simp only [k0, rV]
  congr 1
  funext o ρ1
  congr 1
  funext d
  cases d <;> rfl
theorem k_rng2 {a b : E} {k : List D → Sl → Option β} : itK np call (.rng2 a b) ρ k = evK np call a ρ fun o ρ1 => asN o fun i => evK np call b ρ1 fun o2 ρ2 => asN o2 fun j => if -(2 ^ 62) ≤ i ∧ i < 2 ^ 62 ∧ -(2 ^ 62) ≤ j ∧ j < 2 ^ 62 then k (rngD i j) ρ2 else none := by
  unfold itK
  simp only [evIt, Option.bind_assoc, ite_bind]
  simp only [k0, rN]
  rfl
end
end Iv
/-! Iv, part V: slots and operands, from the head. -/
namespace Iv
open PySem
section
variable {np : Nat} {β : Type} {ρ : Sl} {s x : Slot} {i : Nat} {d : D} {f : Bool} {os : List Opd}
theorem look_0 {k : Slot → Option β} : look (s :: ρ) 0 k = k s := rfl
theorem look_s {k : Slot → Option β} : look (s :: ρ) (i + 1) k = look ρ i k := rfl
theorem onS_v {g h : D → Option β} : onS (.val d) g h = g d := rfl
theorem onS_o {g h : D → Option β} : onS (.own d) g h = h d := rfl
theorem ownK_o {k : D → Option β} : ownK (.own d) k = k d := rfl
theorem valK_v {k : D → Option β} : valK (.val d) k = k d := rfl
theorem asV_i {k : D → Option β} : asV (.imm f d) k = k d := rfl
theorem asB_i {b : Bool} {k : Bool → Option β} : asB (.imm f (.bl b)) k = k b := rfl
theorem asN_i {b : Int} {k : Int → Option β} : asN (.imm f (.int b)) k = k b := rfl
def dsK (s : Slot) (k : D → Option β) : Option β := (s.d?).bind k
theorem dsK_v {k : D → Option β} : dsK (.val d) k = k d := rfl
theorem dsK_o {k : D → Option β} : dsK (.own d) k = k d := rfl
theorem drK_i {k : D → Option β} : drK ρ (.imm f d) k = k d := rfl
theorem drK_s {k : D → Option β} : drK ρ (.slot i) k = look ρ i fun s => dsK s k := by
  unfold drK look dsK
  simp only [deref, Option.bind_assoc]
theorem immsK_0 {k : List D → Option β} : immsK [] k = k [] := rfl
theorem immsK_i {k : List D → Option β} : immsK (.imm f d :: os) k = immsK os fun ds => k (d :: ds) := by
  unfold immsK
  simp only [imms]
  cases imms os <;> rfl
theorem dersK_0 {k : List D → Option β} : dersK ρ [] k = k [] := rfl
theorem dersK_c {o : Opd} {k : List D → Option β} : dersK ρ (o :: os) k = drK ρ o fun d => dersK ρ os fun ds => k (d :: ds) := by
  unfold dersK drK
  simp only [derefs]
  cases deref ρ o with
  | none => rfl
  | some d => cases derefs ρ os <;> rfl
theorem argsK_0 {k : Sl → Option β} : argsK ρ [] k = k [] := rfl
theorem argsK_i {k : Sl → Option β} : argsK ρ (.imm f d :: os) k = argsK ρ os fun as => k (.val d :: as) := by
  unfold argsK
  simp only [toArgs]
  cases toArgs ρ os <;> rfl
theorem argsK_s {k : Sl → Option β} : argsK ρ (.slot i :: os) k = look ρ i fun s => ownK s fun d => argsK ρ os fun as => k (.own d :: as) := by
  unfold argsK look
  simp only [toArgs]
  cases ρ[i]? with
  | none => rfl
  | some s =>
    cases s with
    | none => rfl
    | val d => rfl
    | own d => simp only [Option.bind_some, ownK]; cases toArgs ρ os <;> rfl
def getO (outs : Sl) (i : Nat) (k : Slot → Option β) : Option β := k (outs[i]?.getD .none)
theorem getO_0 {k : Slot → Option β} : getO (s :: ρ) 0 k = k s := rfl
theorem getO_s {k : Slot → Option β} : getO (s :: ρ) (i + 1) k = getO ρ i k := rfl
def goO (ρ outs : Sl) (os : List Opd) (i : Nat) (k : Sl → Option β) : Option β := k (setOuts ρ outs os i)
theorem outK_go {outs : Sl} {k : Sl → Option β} : outK ρ outs os k = goO ρ outs os 0 k := rfl
theorem goO_0 {outs : Sl} {k : Sl → Option β} : goO ρ outs [] i k = k ρ := rfl
theorem goO_i {outs : Sl} {k : Sl → Option β} : goO ρ outs (.imm f d :: os) i k = goO ρ outs os (i + 1) k := rfl
theorem goO_s {outs : Sl} {j : Nat} {k : Sl → Option β} : goO ρ outs (.slot j :: os) i k = getO outs i fun s => putS ρ j s fun r => goO r outs os (i + 1) k := rfl
theorem putS_0 {k : Sl → Option β} : putS (x :: ρ) 0 s k = k (s :: ρ) := rfl
theorem putS_s {k : Sl → Option β} : putS (x :: ρ) (i + 1) s k = putS ρ i s fun r => k (x :: r) := rfl
theorem setK_v {k : Sl → Option β} : setK np (.val d :: ρ) 0 s k = k (s :: ρ) := by
  unfold setK setV canSet
  simp
theorem setK_n {k : Sl → Option β} : setK np (.none :: ρ) 0 s k = k (s :: ρ) := by
  unfold setK setV canSet
  simp
theorem setK_o {k : Sl → Option β} : setK 0 (.own d :: ρ) 0 s k = k (s :: ρ) := by
  unfold setK setV canSet
  simp
theorem setK_z {k : Sl → Option β} : setK 0 (x :: ρ) 0 s k = k (s :: ρ) := by
  unfold setK setV canSet
  simp
theorem setV_ss : setV (np + 1) (x :: ρ) (i + 1) s = (setV np ρ i s).bind fun r => some (x :: r) := by
  unfold setV
  have : canSet (np + 1) (x :: ρ) (i + 1) = canSet np ρ i := by
    unfold canSet
    simp only [List.length_cons, Nat.add_lt_add_iff_right, Nat.add_le_add_iff_right, List.getElem?_cons_succ]
  rw [this]
  split <;> rfl
theorem setV_0s : setV 0 (x :: ρ) (i + 1) s = (setV 0 ρ i s).bind fun r => some (x :: r) := by
  unfold setV
  have : canSet 0 (x :: ρ) (i + 1) = canSet 0 ρ i := by
    unfold canSet
    simp only [List.length_cons, Nat.add_lt_add_iff_right, Nat.zero_le, List.getElem?_cons_succ]
  rw [this]
  split <;> rfl
theorem setK_ss {k : Sl → Option β} : setK (np + 1) (x :: ρ) (i + 1) s k = setK np ρ i s fun r => k (x :: r) := by
  unfold setK
  rw [setV_ss, Option.bind_assoc]
  rfl
theorem setK_0s {k : Sl → Option β} : setK 0 (x :: ρ) (i + 1) s k = setK 0 ρ i s fun r => k (x :: r) := by
  unfold setK
  rw [setV_0s, Option.bind_assoc]
  rfl
theorem frK_v {k : Opd → Sl → Option β} : frK np (.val d :: ρ) 0 k = k (.imm false d) (.val d :: ρ) := by
  unfold frK
  simp [ev]
theorem frK_o {k : Opd → Sl → Option β} : frK 0 (.own d :: ρ) 0 k = k (.imm false d) (.val d :: ρ) := by
  unfold frK
  simp [ev]
theorem frK_ss {k : Opd → Sl → Option β} : frK (np + 1) (x :: ρ) (i + 1) k = frK np ρ i fun o r => k o (x :: r) := by
  unfold frK
  simp only [ev, List.getElem?_cons_succ, Nat.add_le_add_iff_right, List.set_cons_succ]
  cases ρ[i]? with
  | none => rfl
  | some s =>
    cases s with
    | none => rfl
    | val d => rfl
    | own d => dsimp only; split <;> rfl
theorem frK_0s {k : Opd → Sl → Option β} : frK 0 (x :: ρ) (i + 1) k = frK 0 ρ i fun o r => k o (x :: r) := by
  unfold frK
  simp only [ev, List.getElem?_cons_succ, Nat.zero_le, if_true, List.set_cons_succ]
  cases ρ[i]? with
  | none => rfl
  | some s =>
    cases s with
    | none => rfl
    | val d => rfl
    | own d => rfl
theorem setsK_0 {k : Sl → Option β} : setsK np ρ [] [] k = k ρ := rfl
theorem setsK_c {is : List Nat} {ds : List D} {k : Sl → Option β} : setsK np ρ (i :: is) (d :: ds) k = setK np ρ i (.val d) fun r => setsK np r is ds k := by
  unfold setsK setK
  simp only [setVs, Option.bind_assoc]
theorem tgK_v {k : Sl → Option β} : tgK np (.v i) d ρ k = setK np ρ i (.val d) k := rfl
theorem tgK_w {k : Sl → Option β} : tgK np (.w i) d ρ k = setK np ρ i (.val d) k := rfl
theorem tgK_t {is : List Nat} {ds : List D} {k : Sl → Option β} : tgK np (.t is) (.tup ds) ρ k = setsK np ρ is ds k := rfl
theorem tgK_p {is : List Nat} {ds : List D} {k : Sl → Option β} : tgK np (.t is) (.prt ds) ρ k = setsK np ρ is ds k := rfl
theorem tgK_2p {js : List Nat} {ds : List D} {k : Sl → Option β} : tgK np (.t2 i js) (.prt [d, .tup ds]) ρ k = setK np ρ i (.val d) fun r => setsK np r js ds k := by
  unfold tgK setK setsK
  simp only [asgTg, Option.bind_assoc]
theorem tgK_2 {js : List Nat} {ds : List D} {k : Sl → Option β} : tgK np (.t2 i js) (.tup [d, .tup ds]) ρ k = setK np ρ i (.val d) fun r => setsK np r js ds k := by
  unfold tgK setK setsK
  simp only [asgTg, Option.bind_assoc]
theorem asgK_f {k : Sl → Option β} : asgK np (.v i) (.imm true d) ρ k = setK np ρ i (.own d) k := rfl
theorem asgK_v {k : Sl → Option β} : asgK np (.v i) (.imm false d) ρ k = setK np ρ i (.val d) k := rfl
theorem asgK_w {k : Sl → Option β} : asgK np (.w i) (.imm f d) ρ k = setK np ρ i (.val d) k := rfl
theorem asgK_t {is : List Nat} {k : Sl → Option β} : asgK np (.t is) (.imm f d) ρ k = tgK np (.t is) d ρ k := rfl
theorem asgK_2 {is : List Nat} {k : Sl → Option β} : asgK np (.t2 i is) (.imm f d) ρ k = tgK np (.t2 i is) d ρ k := rfl
theorem retK_i {k : Fl → Sl → Option β} : retK np (.imm f d) ρ k = k (.ret f d) ρ := rfl
theorem retK_s {k : Fl → Sl → Option β} : retK np (.slot i) ρ k = look ρ i fun s => ownK s fun d => if np ≤ i then putS ρ i .none fun r => k (.ret true d) r else none := by
  unfold look
  simp only [retK]
  cases ρ[i]? with
  | none => rfl
  | some s => cases s <;> rfl
/-! operations -/
theorem add_i {i j : Int} {k : Bool × D → Option β} : (binop .add (.int i) (.int j)).bind k = k (false, .int (i + j)) := rfl
theorem sub_i {i j : Int} {k : Bool × D → Option β} : (binop .sub (.int i) (.int j)).bind k = k (false, .int (i - j)) := rfl
theorem eq_i {i j : Int} {k : Bool → Option β} : (cmpop .eq (.int i) (.int j)).bind k = k (decide (i = j)) := rfl
theorem len_t {ds : List D} {k : Bool × D → Option β} : (bltop .len [.tup ds]).bind k = k (false, .int ds.length) := rfl
theorem len_l {ds : List D} {k : Bool × D → Option β} : (bltop .len [.lst ds]).bind k = k (false, .int ds.length) := rfl
end
end Iv
/-! Iv, part W: items and slices by number. -/
namespace Iv
open PySem L2
theorem idx_t {xs : List D} {i : Int} {k : Nat} {d : D} (e : i = (k : Int)) (h : xs[k]? = some d) : idxop (.tup xs) (.int i) = some d := by
  subst e
  exact atI_nat h
theorem idx_l {xs : List D} {i : Int} {k : Nat} {d : D} (e : i = (k : Int)) (h : xs[k]? = some d) : idxop (.lst xs) (.int i) = some d := by
  subst e
  exact atI_nat h
theorem cut_from (xs : List D) {i : Int} {k : Nat} (e : i = (k : Int)) : cutD xs (some i) none = xs.drop k := by
  subst e
  unfold cutD
  rw [HT.sIx_nat, HT.sIx_none]
  rcases Nat.le_total k xs.length with h | h
  · rw [Nat.min_eq_left h]
    exact List.take_of_length_le (by rw [List.length_drop]; exact Nat.le_refl _)
  · rw [Nat.min_eq_right h, List.drop_length, List.drop_eq_nil_of_le h, List.take_nil]
theorem cut_to (xs : List D) {i : Int} {k : Nat} (e : i = (k : Int)) : cutD xs none (some i) = xs.take k := by
  subst e
  unfold cutD
  rw [HT.sIx_nat, HT.sIx_none, List.drop_zero, Nat.sub_zero]
  rcases Nat.le_total k xs.length with h | h
  · rw [Nat.min_eq_left h]
  · rw [Nat.min_eq_right h, List.take_length, List.take_of_length_le h]
theorem slc_t {xs : List D} {lo hi : Option Int} : slcop (.tup xs) lo hi = some (false, .tup (cutD xs lo hi)) := rfl
theorem slc_l {xs : List D} {lo hi : Option Int} : slcop (.lst xs) lo hi = some (true, .lst (cutD xs lo hi)) := rfl
theorem add_t {xs ys : List D} (h : xs.length + ys.length ≤ 1000000) : binop .add (.tup xs) (.tup ys) = some (false, .tup (xs ++ ys)) := by
  have : xs.length + ys.length ≤ sizeLine := Nat.le_trans h (by decide)
  simp only [binop, this, if_true]
theorem add_l {xs ys : List D} (h : xs.length + ys.length ≤ 1000000) : binop .add (.lst xs) (.lst ys) = some (true, .lst (xs ++ ys)) := by
  have : xs.length + ys.length ≤ sizeLine := Nat.le_trans h (by decide)
  simp only [binop, this, if_true]
end Iv
/-! Iv, part X: comprehensions and loops, plainly. -/
namespace Iv
open PySem L2
section
variable {np : Nat} {call : CallF} {β : Type} {ρ : Sl}
theorem bkk {ρ0 ρ r : Sl} {vs : List Nat} (e : backS ρ0 ρ vs = r) (k : Sl → Option β) : backK ρ0 ρ vs k = k r := by rw [← e]; rfl
theorem imm_K {e : E} : (ev np call e ρ).bind immOf = evK np call e ρ fun o ρ1 => asV o fun d => some (d, ρ1) := by
  unfold evK
  cases ev np call e ρ with
  | none => rfl
  | some p => obtain ⟨o, ρ1⟩ := p; cases o <;> rfl
theorem test_K {c : E} {r : Es} : evTest np call (.cons c r) ρ = evK np call c ρ fun o ρ1 => asB o fun d => some (d, ρ1) := by
  unfold evK
  simp only [evTest]
  cases ev np call c ρ with
  | none => rfl
  | some p =>
    obtain ⟨o, ρ1⟩ := p
    cases o with
    | slot => rfl
    | imm f d => cases d <;> rfl
theorem it_t {ds : List D} {k : List D → Option β} : (itemsOf (.tup ds)).bind k = k ds := rfl
theorem it_l {ds : List D} {k : List D → Option β} : (itemsOf (.lst ds)).bind k = k ds := rfl
theorem it_r {ds : List D} {k : List D → Option β} : (itemsOf (.rol ds)).bind k = k ds := rfl
end
theorem wipe_len {ρ : Sl} : ∀ {vs : List Nat}, (wipeS ρ vs).length = ρ.length
  | [] => rfl
  | v :: vs => by
    show ((wipeS ρ vs).set v .none).length = _
    rw [List.length_set, wipe_len]
theorem back_len {ρ0 ρ : Sl} : ∀ {vs : List Nat}, (backS ρ0 ρ vs).length = ρ.length
  | [] => rfl
  | v :: vs => by
    show ((backS ρ0 ρ vs).set v _).length = _
    rw [List.length_set, back_len]
theorem wipe_get {ρ : Sl} {j : Nat} : ∀ {vs : List Nat}, j ∉ vs → (wipeS ρ vs)[j]? = ρ[j]?
  | [], _ => rfl
  | v :: vs, h => by
    show ((wipeS ρ vs).set v .none)[j]? = _
    rw [List.getElem?_set_ne (fun z => h (by simp [z])), wipe_get fun z => h (by simp [z])]
theorem back_out {ρ0 ρ : Sl} {j : Nat} : ∀ {vs : List Nat}, j ∉ vs → (backS ρ0 ρ vs)[j]? = ρ[j]?
  | [], _ => rfl
  | v :: vs, h => by
    show ((backS ρ0 ρ vs).set v _)[j]? = _
    rw [List.getElem?_set_ne (fun z => h (by simp [z])), back_out fun z => h (by simp [z])]
theorem back_in {ρ0 ρ : Sl} {j : Nat} (hl : j < ρ.length) : ∀ {vs : List Nat}, j ∈ vs → (backS ρ0 ρ vs)[j]? = some (ρ0[j]?.getD .none)
  | v :: vs, h => by
    show ((backS ρ0 ρ vs).set v _)[j]? = _
    by_cases hv : v = j
    · subst hv
      rw [List.getElem?_set_self (by rw [back_len]; exact hl)]
    · rw [List.getElem?_set_ne hv]
      rcases List.mem_cons.mp h with z | z
      · exact absurd z.symm hv
      · exact back_in hl z
theorem back_same {ρ0 ρ : Sl} {vs : List Nat} (h : wipeS ρ vs = wipeS ρ0 vs) : backS ρ0 ρ vs = ρ0 := by
  have hl : ρ.length = ρ0.length := by rw [← wipe_len (vs := vs), h, wipe_len]
  refine List.ext_getElem? fun j => ?_
  by_cases hj : j ∈ vs
  · rcases Nat.lt_or_ge j ρ.length with g | g
    · rw [back_in g hj]
      have : j < ρ0.length := by omega
      rw [List.getElem?_eq_getElem this]
      rfl
    · rw [List.getElem?_eq_none (by rw [back_len]; exact g), List.getElem?_eq_none (by omega)]
  · rw [back_out hj, ← wipe_get (vs := vs) hj, h, wipe_get hj]
section
variable {np : Nat} {call : CallF} {vs : List Nat} {tg : Tg} {ifs : Es} {elt : E} {ρ0 : Sl}
/-- items that are picked and mapped; nothing changes -/
theorem compS_fm (p : D → Bool) (g : D → D) : ∀ (ds : List D) (ρ : Sl), wipeS ρ vs = ρ0 →
    (∀ d ∈ ds, ∃ ρ1 ρ2, asgTg np tg d ρ0 = some ρ1 ∧ evTest np call ifs ρ1 = some (p d, ρ2) ∧ wipeS ρ2 vs = ρ0 ∧ (p d = true → ∃ ρ3, (ev np call elt ρ2).bind immOf = some (g d, ρ3) ∧ wipeS ρ3 vs = ρ0)) →
    ∃ ρ', compS np call vs tg ifs elt ds ρ = some ((ds.filter p).map g, ρ') ∧ wipeS ρ' vs = ρ0
  | [], ρ, hρ, _ => ⟨ρ, rfl, hρ⟩
  | d :: ds, ρ, hρ, h => by
    obtain ⟨ρ1, ρ2, e1, e2, w2, h3⟩ := h d (by simp)
    have hr : ∀ d ∈ ds, _ := fun x hx => h x (by simp [hx])
    unfold compS
    unfold compL
    rw [hρ, e1]
    simp only [Option.bind_some, e2]
    cases hp : p d with
    | false =>
      obtain ⟨ρ', e, w⟩ := compS_fm p g ds ρ2 w2 hr
      refine ⟨ρ', ?_, w⟩
      simp only [Bool.false_eq_true, if_false]
      rw [List.filter_cons_of_neg (by simp [hp])]
      exact e
    | true =>
      obtain ⟨ρ3, e3, w3⟩ := h3 hp
      obtain ⟨ρ', e, w⟩ := compS_fm p g ds ρ3 w3 hr
      refine ⟨ρ', ?_, w⟩
      simp only [if_true, e3, Option.bind_some]
      unfold compS at e
      rw [e, List.filter_cons_of_pos hp]
      rfl
theorem compS_map (g : D → D) (ds : List D) (ρ : Sl) (h : ∀ d ∈ ds, ∃ ρ1, asgTg np tg d (wipeS ρ vs) = some ρ1 ∧ ∃ ρ3, (ev np call elt ρ1).bind immOf = some (g d, ρ3) ∧ wipeS ρ1 vs = wipeS ρ vs ∧ wipeS ρ3 vs = wipeS ρ vs) :
    ∃ ρ', compS np call vs tg .nil elt ds ρ = some (ds.map g, ρ') ∧ backS ρ ρ' vs = ρ := by
  obtain ⟨ρ', e, w⟩ := compS_fm (np := np) (call := call) (ifs := .nil) (elt := elt) (tg := tg) (vs := vs) (fun _ => true) g ds ρ rfl fun d hd => by
    obtain ⟨ρ1, e1, ρ3, e3, w1, w3⟩ := h d hd
    exact ⟨ρ1, ρ1, e1, rfl, w1, fun _ => ⟨ρ3, e3, w3⟩⟩
  refine ⟨ρ', ?_, back_same w⟩
  rw [e, List.filter_eq_self.mpr fun _ _ => rfl]
/-- items by a state -/
theorem compS_st (J : Sl → Prop) (R : D → Prop) : ∀ (ds : List D) (ρ : Sl), J (wipeS ρ vs) →
    (∀ d ∈ ds, ∀ r, J r → ∃ ρ1 x ρ3, asgTg np tg d r = some ρ1 ∧ (ev np call elt ρ1).bind immOf = some (x, ρ3) ∧ R x ∧ J (wipeS ρ3 vs)) →
    ∃ xs ρ', compS np call vs tg .nil elt ds ρ = some (xs, ρ') ∧ xs.length = ds.length ∧ (∀ x ∈ xs, R x) ∧ J (wipeS ρ' vs)
  | [], ρ, hρ, _ => ⟨[], ρ, rfl, rfl, fun _ z => (by cases z), hρ⟩
  | d :: ds, ρ, hρ, h => by
    obtain ⟨ρ1, x, ρ3, e1, e3, hx, w3⟩ := h d (by simp) _ hρ
    obtain ⟨xs, ρ', e, hl, hR, w⟩ := compS_st J R ds ρ3 w3 fun y hy => h y (by simp [hy])
    refine ⟨x :: xs, ρ', ?_, by simp [hl], fun y hy => ?_, w⟩
    · unfold compS at e ⊢
      unfold compL
      rw [e1]
      simp only [Option.bind_some, evTest, if_true, e3]
      exact bk e _
    · rcases List.mem_cons.mp hy with z | z
      · rw [z]; exact hx
      · exact hR y z
end
/-- a loop that runs to its end -/
theorem forS_inv {np wf : Nat} {call : CallF} {tg : Tg} {b : Ss} (J : Nat → Sl → Prop) : ∀ (ds : List D) (i : Nat) (ρ : Sl), J i ρ →
    (∀ (j : Nat) (d : D) (r : Sl), ds[j]? = some d → J (i + j) r → ∃ ρ1 fl ρ2, asgTg np tg d r = some ρ1 ∧ exs np wf call b ρ1 = some (fl, ρ2) ∧ (fl = .next ∨ fl = .cont) ∧ J (i + j + 1) ρ2) →
    ∃ ρ', forS np wf call tg b ds ρ = some (.next, ρ') ∧ J (i + ds.length) ρ'
  | [], i, ρ, hρ, _ => ⟨ρ, rfl, hρ⟩
  | d :: ds, i, ρ, hρ, h => by
    obtain ⟨ρ1, fl, ρ2, e1, e2, hf, w⟩ := h 0 d ρ rfl hρ
    obtain ⟨ρ', e, w'⟩ := forS_inv J ds (i + 1) ρ2 w fun j x r hj hJ => by
      rw [Nat.add_right_comm] at hJ
      obtain ⟨r1, f1, r2, q1, q2, q3, q4⟩ := h (j + 1) x r hj hJ
      refine ⟨r1, f1, r2, q1, q2, q3, ?_⟩
      rw [show i + 1 + j + 1 = i + (j + 1) + 1 by omega]
      exact q4
    refine ⟨ρ', ?_, ?_⟩
    · unfold forS at e ⊢
      unfold forL
      rw [e1]
      simp only [Option.bind_some, e2]
      rcases hf with rfl | rfl <;> exact e
    · rw [List.length_cons, show i + (ds.length + 1) = i + 1 + ds.length by omega]
      exact w'
section
variable {β : Type} {i j : Int}
theorem ne_i {k : Bool → Option β} : (cmpop .ne (.int i) (.int j)).bind k = k (!decide (i = j)) := rfl
theorem lt_i {k : Bool → Option β} : (cmpop .lt (.int i) (.int j)).bind k = k (decide (i < j)) := rfl
theorem le_i {k : Bool → Option β} : (cmpop .le (.int i) (.int j)).bind k = k (decide (i ≤ j)) := rfl
theorem gt_i {k : Bool → Option β} : (cmpop .gt (.int i) (.int j)).bind k = k (decide (j < i)) := rfl
theorem ge_i {k : Bool → Option β} : (cmpop .ge (.int i) (.int j)).bind k = k (decide (j ≤ i)) := rfl
end
section
variable {np wf : Nat} {call : CallF} {tg : Tg} {b : Ss} {d x : D} {ds : List D} {ρ ρ1 ρ2 : Sl} {f : Bool}
theorem forS_next (h1 : asgTg np tg d ρ = some ρ1) (h2 : exs np wf call b ρ1 = some (.next, ρ2)) : forS np wf call tg b (d :: ds) ρ = forS np wf call tg b ds ρ2 := by
  unfold forS
  rw [forL, h1]
  simp only [Option.bind_some, h2]
theorem forS_cont (h1 : asgTg np tg d ρ = some ρ1) (h2 : exs np wf call b ρ1 = some (.cont, ρ2)) : forS np wf call tg b (d :: ds) ρ = forS np wf call tg b ds ρ2 := by
  unfold forS
  rw [forL, h1]
  simp only [Option.bind_some, h2]
theorem forS_brk (h1 : asgTg np tg d ρ = some ρ1) (h2 : exs np wf call b ρ1 = some (.brk, ρ2)) : forS np wf call tg b (d :: ds) ρ = some (.next, ρ2) := by
  unfold forS
  rw [forL, h1]
  simp only [Option.bind_some, h2]
theorem forS_ret (h1 : asgTg np tg d ρ = some ρ1) (h2 : exs np wf call b ρ1 = some (.ret f x, ρ2)) : forS np wf call tg b (d :: ds) ρ = some (.ret f x, ρ2) := by
  unfold forS
  rw [forL, h1]
  simp only [Option.bind_some, h2]
end
end Iv
/-! Iv, part Y: comprehensions whose state is counted. -/
namespace Iv
open PySem L2
section
variable {np : Nat} {call : CallF} {vs : List Nat} {tg : Tg} {elt : E}
theorem compS_sti (J : Nat → Sl → Prop) (R : D → Prop) : ∀ (ds : List D) (i : Nat) (ρ : Sl), J i (wipeS ρ vs) →
    (∀ d ∈ ds, ∀ j r, j < i + ds.length → J j r → ∃ ρ1 x ρ3, asgTg np tg d r = some ρ1 ∧ (ev np call elt ρ1).bind immOf = some (x, ρ3) ∧ R x ∧ J (j + 1) (wipeS ρ3 vs)) →
    ∃ xs ρ', compS np call vs tg .nil elt ds ρ = some (xs, ρ') ∧ xs.length = ds.length ∧ (∀ x ∈ xs, R x) ∧ J (i + ds.length) (wipeS ρ' vs)
  | [], i, ρ, hρ, _ => ⟨[], ρ, rfl, rfl, fun _ z => (by cases z), hρ⟩
  | d :: ds, i, ρ, hρ, h => by
    obtain ⟨ρ1, x, ρ3, e1, e3, hx, w3⟩ := h d (by simp) i _ (by simp) hρ
    obtain ⟨xs, ρ', e, hl, hR, w⟩ := compS_sti J R ds (i + 1) ρ3 w3 fun y hy j r hj => h y (by simp [hy]) j r (by simp; omega)
    refine ⟨x :: xs, ρ', ?_, by simp [hl], fun y hy => ?_, ?_⟩
    · unfold compS at e ⊢
      unfold compL
      rw [e1]
      simp only [Option.bind_some, evTest, if_true, e3]
      exact bk e _
    · rcases List.mem_cons.mp hy with z | z
      · rw [z]; exact hx
      · exact hR y z
    · rw [List.length_cons, show i + (ds.length + 1) = i + 1 + ds.length by omega]
      exact w
end
end Iv
/-! Iv, part Z: what a run ends in (Tot), step by step: the rules stop where something is not known. -/
namespace Iv
open PySem L2
inductive Mark {α : Type} : α → Type where
  | mk (a : α) : Mark a
/-- what follows is not looked into: its mark's type names it -/
def bndK {α β : Type} (x : Option α) (k : α → Option β) (_ : Mark k) : Option β := x.bind k
def cndK {β : Type} (c : Bool) (a : Option β) (_ : Mark a) (b : Option β) (_ : Mark b) : Option β := if c = true then a else b
theorem bkz {α β : Type} {x : Option α} {a : α} (h : x = some a) (k : α → Option β) (m : Mark k) : bndK x k m = k a := by rw [bndK, h]; rfl
theorem bkz_some {α β : Type} {a : α} {k : α → Option β} {m : Mark k} : bndK (some a) k m = k a := rfl
theorem cnd_t {β : Type} {a b : Option β} {m : Mark a} {n : Mark b} : cndK true a m b n = a := rfl
theorem cnd_f {β : Type} {a b : Option β} {m : Mark a} {n : Mark b} : cndK false a m b n = b := rfl
/-- a computation that ends in something of which Q holds -/
def Tot {α : Type} (x : Option α) (Q : α → Prop) : Prop := ∃ a, x = some a ∧ Q a
section
variable {α β : Type} {Q R : α → Prop} {Z : β → Prop}
theorem Tot.ret {a : α} (h : Q a) : Tot (some a) Q := ⟨a, rfl, h⟩
theorem Tot.mono {x : Option α} (h : Tot x R) (g : ∀ a, R a → Q a) : Tot x Q := h.elim fun a w => ⟨a, w.1, g a w.2⟩
theorem Tot.bnd {x : Option α} {k : α → Option β} {m : Mark k} (h : Tot x R) (g : ∀ a, R a → Tot (k a) Z) : Tot (bndK x k m) Z := by
  obtain ⟨a, e, w⟩ := h
  rw [bkz e]
  exact g a w
theorem Tot.by {x : Option α} {k : α → Option β} {m : Mark k} {a : α} (h : x = some a) (g : Tot (k a) Z) : Tot (bndK x k m) Z := by
  rw [bkz h]
  exact g
theorem Tot.cnd {c : Bool} {a b : Option β} {m : Mark a} {n : Mark b} (h1 : c = true → Tot a Z) (h2 : c = false → Tot b Z) : Tot (cndK c a m b n) Z := by
  cases c
  · exact h2 rfl
  · exact h1 rfl
theorem Tot.cndP {p : Prop} [Decidable p] {a b : Option β} {m : Mark a} {n : Mark b} (h1 : p → Tot a Z) (h2 : ¬ p → Tot b Z) : Tot (cndK (decide p) a m b n) Z :=
  Tot.cnd (fun h => h1 (of_decide_eq_true h)) fun h => h2 (of_decide_eq_false h)
theorem Tot.of {x : Option α} {a : α} (h : x = some a) (g : Q a) : Tot x Q := ⟨a, h, g⟩
theorem Tot.bind0 {x : Option α} {k : α → Option β} (h : Tot x fun a => Tot (k a) Z) : Tot (x.bind k) Z := by
  obtain ⟨a, rfl, w⟩ := h
  exact w
end
section
variable {np wf : Nat} {call : CallF} {β : Type} {Q : β → Prop}
/-- a part and what follows -/
theorem exsK_join {b : Ss} {ρ : Sl} {k : Fl → Sl → Option β} {R : Fl × Sl → Prop} (h : Tot (exsK np wf call b ρ fun fl r => some (fl, r)) R) (g : ∀ q, R q → Tot (k q.1 q.2) Q) : Tot (exsK np wf call b ρ k) Q := by
  rw [← exs_K] at h
  obtain ⟨⟨fl, r⟩, e, w⟩ := h
  unfold exsK
  rw [e]
  exact g (fl, r) w
theorem exK_join {b : S} {ρ : Sl} {k : Fl → Sl → Option β} {R : Fl × Sl → Prop} (h : Tot (exK np wf call b ρ fun fl r => some (fl, r)) R) (g : ∀ q, R q → Tot (k q.1 q.2) Q) : Tot (exK np wf call b ρ k) Q := by
  obtain ⟨⟨fl, r⟩, e, w⟩ := h
  have e' : ex np wf call b ρ = some (fl, r) := by
    unfold exK at e
    cases h0 : ex np wf call b ρ with
    | none => rw [h0] at e; cases e
    | some p => rw [h0] at e; exact e
  unfold exK
  rw [e']
  exact g (fl, r) w
theorem evK_join {b : E} {ρ : Sl} {k : Opd → Sl → Option β} {R : Opd × Sl → Prop} (h : Tot (evK np call b ρ fun o r => some (o, r)) R) (g : ∀ q, R q → Tot (k q.1 q.2) Q) : Tot (evK np call b ρ k) Q := by
  obtain ⟨⟨fl, r⟩, e, w⟩ := h
  have e' : ev np call b ρ = some (fl, r) := by
    unfold evK at e
    cases h0 : ev np call b ρ with
    | none => rw [h0] at e; cases e
    | some p => rw [h0] at e; exact e
  unfold evK
  rw [e']
  exact g (fl, r) w
/-! a def -/
def endK (np : Nat) (fl : Fl) (ρ : Sl) : Option (Bool × D × Sl) := match fl with
  | .ret fr d => some (fr, d, ρ.take np)
  | .next => some (false, .non, ρ.take np)
  | _ => none
theorem endK_ret {ρ : Sl} {fr : Bool} {d : D} : endK np (.ret fr d) ρ = some (fr, d, ρ.take np) := rfl
theorem endK_next {ρ : Sl} : endK np .next ρ = some (false, .non, ρ.take np) := rfl
theorem run_tot {tab : List Fn} {n f : Nat} {F : Fn} {args : Sl} {Q : Bool × D × Sl → Prop} (hF : tab[f]? = some F) (hl : args.length = F.np)
    (h : Tot (exsK F.np whileFuel (run tab n) F.body (args ++ List.replicate (F.N.length - F.np) .none) (endK F.np)) Q) : Tot (run tab (n + 1) f args) Q := by
  obtain ⟨a, e, w⟩ := h
  refine ⟨a, ?_, w⟩
  unfold run
  rw [hF]
  simp only [hl, if_true]
  unfold exsK at e
  cases h0 : exs F.np whileFuel (run tab n) F.body (args ++ List.replicate (F.N.length - F.np) .none) with
  | none => rw [h0] at e; cases e
  | some p =>
    rw [h0] at e
    obtain ⟨fl, r⟩ := p
    cases fl <;> first | exact e | cases e
end
section
variable {np wf : Nat} {call : CallF} {β : Type} {ρ : Sl}
theorem z_bin {op : BOp} {a b : E} {k : Opd → Sl → Option β} : evK np call (.bin op a b) ρ k = evK np call a ρ fun o1 ρ1 => evK np call b ρ1 fun o2 ρ2 => drK ρ2 o1 fun d1 => drK ρ2 o2 fun d2 => bndK (binop op d1 d2) (fun r => k (.imm r.1 r.2) ρ2) (.mk _) := k_bin
theorem z_cmp {op : COp} {a b : E} {k : Opd → Sl → Option β} : evK np call (.cmp op a b) ρ k = evK np call a ρ fun o1 ρ1 => evK np call b ρ1 fun o2 ρ2 => drK ρ2 o1 fun d1 => drK ρ2 o2 fun d2 => bndK (cmpop op d1 d2) (fun r => k (.imm false (.bl r)) ρ2) (.mk _) := k_cmp
theorem z_cmp2 {op op2 : COp} {a b c : E} {k : Opd → Sl → Option β} : evK np call (.cmp2 op op2 a b c) ρ k = evK np call a ρ fun o1 ρ1 => asV o1 fun d1 => evK np call b ρ1 fun o2 ρ2 => asV o2 fun d2 => bndK (cmpop op d1 d2) (fun r => cndK r (evK np call c ρ2 fun o3 ρ3 => asV o3 fun d3 => bndK (cmpop op2 d2 d3) (fun r2 => k (.imm false (.bl r2)) ρ3) (.mk _)) (.mk _) (k (.imm false (.bl false)) ρ2) (.mk _)) (.mk _) := k_cmp2
theorem z_rev {a : E} {k : Opd → Sl → Option β} : evK np call (.rev a) ρ k = evK np call a ρ fun o1 ρ1 => drK ρ1 o1 fun d1 => bndK (revop d1) (fun r => k (.imm r.1 r.2) ρ1) (.mk _) := k_rev
theorem z_and {a b : E} {k : Opd → Sl → Option β} : evK np call (.and a b) ρ k = evK np call a ρ fun o1 ρ1 => asB o1 fun c => cndK c (evK np call b ρ1 fun o2 ρ2 => asB o2 fun d => k (.imm false (.bl d)) ρ2) (.mk _) (k (.imm false (.bl false)) ρ1) (.mk _) := k_and
theorem z_or {a b : E} {k : Opd → Sl → Option β} : evK np call (.or a b) ρ k = evK np call a ρ fun o1 ρ1 => asB o1 fun c => cndK c (k (.imm false (.bl true)) ρ1) (.mk _) (evK np call b ρ1 fun o2 ρ2 => asB o2 fun d => k (.imm false (.bl d)) ρ2) (.mk _) := k_or
theorem z_ite {c a b : E} {k : Opd → Sl → Option β} : evK np call (.ite c a b) ρ k = evK np call c ρ fun o1 ρ1 => asB o1 fun x => cndK x (evK np call a ρ1 fun o2 ρ2 => asV o2 fun d => k (.imm false d) ρ2) (.mk _) (evK np call b ρ1 fun o2 ρ2 => asV o2 fun d => k (.imm false d) ρ2) (.mk _) := k_ite
theorem z_idx {a b : E} {k : Opd → Sl → Option β} : evK np call (.idx a b) ρ k = evK np call a ρ fun o1 ρ1 => evK np call b ρ1 fun o2 ρ2 => drK ρ2 o1 fun d1 => drK ρ2 o2 fun d2 => bndK (idxop d1 d2) (fun r => k (.imm false r) ρ2) (.mk _) := k_idx
theorem z_slc {a lo hi : E} {k : Opd → Sl → Option β} : evK np call (.slc a lo hi) ρ k = evK np call a ρ fun o1 ρ1 => evK np call lo ρ1 fun o2 ρ2 => asN o2 fun i => evK np call hi ρ2 fun o3 ρ3 => asN o3 fun j => drK ρ3 o1 fun d1 => bndK (slcop d1 (some i) (some j)) (fun r => k (.imm r.1 r.2) ρ3) (.mk _) := k_slc
theorem z_slf {a lo : E} {k : Opd → Sl → Option β} : evK np call (.slf a lo) ρ k = evK np call a ρ fun o1 ρ1 => evK np call lo ρ1 fun o2 ρ2 => asN o2 fun i => drK ρ2 o1 fun d1 => bndK (slcop d1 (some i) none) (fun r => k (.imm r.1 r.2) ρ2) (.mk _) := k_slf
theorem z_slt {a hi : E} {k : Opd → Sl → Option β} : evK np call (.slt a hi) ρ k = evK np call a ρ fun o1 ρ1 => evK np call hi ρ1 fun o2 ρ2 => asN o2 fun i => drK ρ2 o1 fun d1 => bndK (slcop d1 none (some i)) (fun r => k (.imm r.1 r.2) ρ2) (.mk _) := k_slt
theorem z_call {f : Nat} {es : Es} {k : Opd → Sl → Option β} : evK np call (.call f es) ρ k = evsK np call es ρ fun os ρ1 => argsK ρ1 os fun args => cndK (nodupN (slotsOf os)) (bndK (call f args) (fun r => outK ρ1 r.2.2 os fun ρ2 => k (.imm r.1 r.2.1) ρ2) (.mk _)) (.mk _) none (.mk _) := k_call
theorem z_blt {f : BF} {es : Es} {k : Opd → Sl → Option β} : evK np call (.blt f es) ρ k = evsK np call es ρ fun os ρ1 => dersK ρ1 os fun ds => bndK (bltop f ds) (fun r => k (.imm r.1 r.2) ρ1) (.mk _) := k_blt
theorem z_isi {a : E} {t : Ty} {k : Opd → Sl → Option β} : evK np call (.isi a t) ρ k = evK np call a ρ fun o1 ρ1 => drK ρ1 o1 fun d => bndK (isTy1 t d) (fun b => k (.imm false (.bl b)) ρ1) (.mk _) := k_isi
/-- a comprehension; its own names stand behind it as ahead of it -/
def cmpS (np : Nat) (call : CallF) (vs : List Nat) (tg : Tg) (ifs : Es) (elt : E) (ds : List D) (ρ : Sl) : Option (List D × Sl) := (compS np call vs tg ifs elt ds ρ).bind fun r => some (r.1, backS ρ r.2 vs)
theorem z_comp {elt : E} {tg : Tg} {it : It} {ifs : Es} {vs : List Nat} {k : Opd → Sl → Option β} : evK np call (.comp elt tg it ifs vs) ρ k = itK np call it ρ fun ds ρ1 => cndK (quietS ρ1 vs && decide (ds.length ≤ sizeLine)) (bndK (cmpS np call vs tg ifs elt ds ρ1) (fun r => k (.imm true (.lst r.1)) r.2) (.mk _)) (.mk _) none (.mk _) := by
  rw [k_comp]
  congr 1
  funext ds ρ1
  unfold cndK bndK cmpS
  simp only [Bool.and_eq_true, decide_eq_true_eq, Option.bind_assoc, Option.bind_some]
  rfl
theorem z_seq {e : E} {k : List D → Sl → Option β} : itK np call (.seq e) ρ k = evK np call e ρ fun o ρ1 => asV o fun d => bndK (itemsOf d) (fun ds => k ds ρ1) (.mk _) := k_seq
theorem z_rng1 {e : E} {k : List D → Sl → Option β} : itK np call (.rng1 e) ρ k = evK np call e ρ fun o ρ1 => asN o fun j => cndK (decide (-(2 ^ 62) ≤ j ∧ j < 2 ^ 62)) (k (rngD 0 j) ρ1) (.mk _) none (.mk _) := by
  rw [k_rng1]
  unfold cndK
  simp only [decide_eq_true_eq]
theorem z_rng2 {a b : E} {k : List D → Sl → Option β} : itK np call (.rng2 a b) ρ k = evK np call a ρ fun o ρ1 => asN o fun i => evK np call b ρ1 fun o2 ρ2 => asN o2 fun j => cndK (decide (-(2 ^ 62) ≤ i ∧ i < 2 ^ 62 ∧ -(2 ^ 62) ≤ j ∧ j < 2 ^ 62)) (k (rngD i j) ρ2) (.mk _) none (.mk _) := by
  rw [k_rng2]
  unfold cndK
  simp only [decide_eq_true_eq]
theorem z_enm {e : E} {k : List D → Sl → Option β} : itK np call (.enm e) ρ k = evK np call e ρ fun o ρ1 => asV o fun d => bndK (match d with | .lst ds => some ds | .tup ds => some ds | _ => none) (fun ds => k (enumD 0 ds) ρ1) (.mk _) := by
  rw [k_enm]
  congr 1
  funext o ρ1
  congr 1
  funext d
  cases d <;> rfl
theorem z_aite {c : E} {a b : Ss} {k : Fl → Sl → Option β} : exK np wf call (.ite c a b) ρ k = evK np call c ρ fun o1 ρ1 => asB o1 fun x => cndK x (exsK np wf call a ρ1 k) (.mk _) (exsK np wf call b ρ1 k) (.mk _) := k_aite
theorem z_for {tg : Tg} {it : It} {b : Ss} {k : Fl → Sl → Option β} : exK np wf call (.for tg it b) ρ k = itK np call it ρ fun ds ρ1 => bndK (forS np wf call tg b ds ρ1) (fun r => k r.1 r.2) (.mk _) := k_for
theorem z_whl {c : E} {b : Ss} {k : Fl → Sl → Option β} : exK np wf call (.whl c b) ρ k = bndK (whlS np wf call c b wf ρ) (fun r => k r.1 r.2) (.mk _) := k_whl
theorem z_mth {m : MF} {a : E} {es : Es} {k : Opd → Sl → Option β} : evK np call (.mth m a es) ρ k = evK np call a ρ fun o1 ρ1 => drK ρ1 o1 fun d0 => evsK np call es ρ1 fun os ρ2 => drK ρ2 o1 fun d1 => immsK os fun ds => cndK (decide (tyOf d0 = tyOf d1)) (bndK (mthop m d1 ds) (fun r => k (.imm false r) ρ2) (.mk _)) (.mk _) none (.mk _) := by
  rw [k_mth]
  unfold cndK
  simp only [decide_eq_true_eq]
  rfl
theorem z_mut {m : MM} {i : Nat} {es : Es} {k : Opd → Sl → Option β} : evK np call (.mut m i es) ρ k = look ρ i fun s => ownK s fun d0 => evsK np call es ρ fun os ρ1 => immsK os fun ds => look ρ1 i fun s1 => ownK s1 fun d =>
    cndK (decide (tyOf d0 = tyOf d)) (bndK (mutop m d ds) (fun r => putS ρ1 i (.own r.2) fun ρ2 => k (.imm false r.1) ρ2) (.mk _)) (.mk _) none (.mk _) := by
  rw [k_mut]
  unfold cndK
  simp only [decide_eq_true_eq]
  rfl
theorem z_set {i : Nat} {a v : E} {k : Fl → Sl → Option β} : exK np wf call (.set i a v) ρ k = evK np call v ρ fun o ρ1 => asV o fun d => look ρ1 i fun s => ownK s fun _ => evK np call a ρ1 fun o2 ρ2 => asV o2 fun kd => look ρ2 i fun s2 => ownK s2 fun ob => bndK (setop ob kd d) (fun ob' => putS ρ2 i (.own ob') fun ρ3 => k .next ρ3) (.mk _) := k_set
theorem z_aug {i : Nat} {op : BOp} {e : E} {k : Fl → Sl → Option β} : exK np wf call (.aug i op e) ρ k = look ρ i fun s => valK s fun d => evK np call e ρ fun o ρ1 => asV o fun d2 => bndK (augop op d d2) (fun r => setK np ρ1 i (.val r) fun ρ2 => k .next ρ2) (.mk _) := k_aug
theorem zfor_nil {tg : Tg} {b : Ss} : forS np wf call tg b [] ρ = some (.next, ρ) := rfl
/-- to stop at a statement -/
theorem stop_ex (s : S) {k : Fl → Sl → Option β} : exK np wf call s ρ k = bndK (ex np wf call s ρ) (fun p => k p.1 p.2) (.mk _) := rfl
theorem ex_K {s : S} : ex np wf call s ρ = exK np wf call s ρ fun f ρ1 => some (f, ρ1) := by
  unfold exK
  cases ex np wf call s ρ <;> rfl
/-- the first statement, and what follows -/
def headS : Ss → S
  | .cons s _ => s
  | .nil => .pass
def tailS : Ss → Ss
  | .cons _ r => r
  | .nil => .nil
/-! flow: one rule for each end -/
def thenK (fl : Fl) (ρ : Sl) (r : Ss) (np wf : Nat) (call : CallF) (k : Fl → Sl → Option β) : Option β := match fl with
  | .next => exsK np wf call r ρ k
  | .brk => k .brk ρ
  | .cont => k .cont ρ
  | .ret fr d => k (.ret fr d) ρ
/-! operations -/
section
variable {i j : Int} {ds es : List D}
theorem za_i {k : Bool × D → Option β} {m : Mark k} : bndK (binop .add (.int i) (.int j)) k m = k (false, .int (i + j)) := rfl
theorem zs_i {k : Bool × D → Option β} {m : Mark k} : bndK (binop .sub (.int i) (.int j)) k m = k (false, .int (i - j)) := rfl
theorem zeq_i {k : Bool → Option β} {m : Mark k} : bndK (cmpop .eq (.int i) (.int j)) k m = k (decide (i = j)) := rfl
theorem zne_i {k : Bool → Option β} {m : Mark k} : bndK (cmpop .ne (.int i) (.int j)) k m = k (!decide (i = j)) := rfl
theorem zlt_i {k : Bool → Option β} {m : Mark k} : bndK (cmpop .lt (.int i) (.int j)) k m = k (decide (i < j)) := rfl
theorem zle_i {k : Bool → Option β} {m : Mark k} : bndK (cmpop .le (.int i) (.int j)) k m = k (decide (i ≤ j)) := rfl
theorem zgt_i {k : Bool → Option β} {m : Mark k} : bndK (cmpop .gt (.int i) (.int j)) k m = k (decide (j < i)) := rfl
theorem zge_i {k : Bool → Option β} {m : Mark k} : bndK (cmpop .ge (.int i) (.int j)) k m = k (decide (j ≤ i)) := rfl
theorem zeq_s {x y : Str} {k : Bool → Option β} {m : Mark k} : bndK (cmpop .eq (.str x) (.str y)) k m = k (decide (x = y)) := rfl
theorem zne_s {x y : Str} {k : Bool → Option β} {m : Mark k} : bndK (cmpop .ne (.str x) (.str y)) k m = k (!decide (x = y)) := rfl
theorem zeq_b {x y : Bool} {k : Bool → Option β} {m : Mark k} : bndK (cmpop .eq (.bl x) (.bl y)) k m = k (decide (x = y)) := rfl
theorem zne_b {x y : Bool} {k : Bool → Option β} {m : Mark k} : bndK (cmpop .ne (.bl x) (.bl y)) k m = k (!decide (x = y)) := rfl
theorem zlen_t {k : Bool × D → Option β} {m : Mark k} : bndK (bltop .len [.tup ds]) k m = k (false, .int ds.length) := rfl
theorem zlen_l {k : Bool × D → Option β} {m : Mark k} : bndK (bltop .len [.lst ds]) k m = k (false, .int ds.length) := rfl
theorem zlen_r {k : Bool × D → Option β} {m : Mark k} : bndK (bltop .len [.rol ds]) k m = k (false, .int ds.length) := rfl
theorem zlen_d {kvs : List (Key × D)} {k : Bool × D → Option β} {m : Mark k} : bndK (bltop .len [.dct kvs]) k m = k (false, .int kvs.length) := rfl
theorem ztup_l {k : Bool × D → Option β} {m : Mark k} : bndK (bltop .tuple [.lst ds]) k m = k (false, .tup ds) := rfl
theorem ztup_t {k : Bool × D → Option β} {m : Mark k} : bndK (bltop .tuple [.tup ds]) k m = k (false, .tup ds) := rfl
theorem zlst_l {k : Bool × D → Option β} {m : Mark k} : bndK (bltop .list [.lst ds]) k m = k (true, .lst ds) := rfl
theorem zlst_t {k : Bool × D → Option β} {m : Mark k} : bndK (bltop .list [.tup ds]) k m = k (true, .lst ds) := rfl
theorem zlst_r {k : Bool × D → Option β} {m : Mark k} : bndK (bltop .list [.rol ds]) k m = k (true, .lst ds) := rfl
theorem zzip_t {as bs : List D} {k : Bool × D → Option β} {m : Mark k} : bndK (bltop .zipl [.tup as, .tup bs]) k m = k (true, .lst (zipP as bs)) := rfl
theorem zzip_l {as bs : List D} {k : Bool × D → Option β} {m : Mark k} : bndK (bltop .zipl [.lst as, .lst bs]) k m = k (true, .lst (zipP as bs)) := rfl
theorem zint_i {k : Bool × D → Option β} {m : Mark k} : bndK (bltop .int [.int i]) k m = k (false, .int i) := rfl
theorem zint_b {b : Bool} {k : Bool × D → Option β} {m : Mark k} : bndK (bltop .int [.bl b]) k m = k (false, .int (if b = true then 1 else 0)) := rfl
theorem zit_t {k : List D → Option β} {m : Mark k} : bndK (itemsOf (.tup ds)) k m = k ds := rfl
theorem zit_l {k : List D → Option β} {m : Mark k} : bndK (itemsOf (.lst ds)) k m = k ds := rfl
theorem zit_r {k : List D → Option β} {m : Mark k} : bndK (itemsOf (.rol ds)) k m = k ds := rfl
theorem zslc_t {lo hi : Option Int} {k : Bool × D → Option β} {m : Mark k} : bndK (slcop (.tup ds) lo hi) k m = k (false, .tup (cutD ds lo hi)) := rfl
theorem zslc_l {lo hi : Option Int} {k : Bool × D → Option β} {m : Mark k} : bndK (slcop (.lst ds) lo hi) k m = k (true, .lst (cutD ds lo hi)) := rfl
theorem zrev_t {k : Bool × D → Option β} {m : Mark k} : bndK (revop (.tup ds)) k m = k (false, .tup ds.reverse) := rfl
theorem zrev_l {k : Bool × D → Option β} {m : Mark k} : bndK (revop (.lst ds)) k m = k (true, .lst ds.reverse) := rfl
theorem zaug_a {k : D → Option β} {m : Mark k} : bndK (augop .add (.int i) (.int j)) k m = k (.int (i + j)) := rfl
theorem zaug_s {k : D → Option β} {m : Mark k} : bndK (augop .sub (.int i) (.int j)) k m = k (.int (i - j)) := rfl
theorem zisn {k : Bool → Option β} {m : Mark k} : bndK (cmpop .isN .non .non) k m = k true := rfl
theorem znotn {k : Bool → Option β} {m : Mark k} : bndK (cmpop .notN .non .non) k m = k false := rfl
end
theorem zadd_l {xs ys : List D} {k : Bool × D → Option β} {m : Mark k} (h : xs.length + ys.length ≤ 1000000) : bndK (binop .add (.lst xs) (.lst ys)) k m = k (true, .lst (xs ++ ys)) := bkz (add_l h) k m
theorem zadd_t {xs ys : List D} {k : Bool × D → Option β} {m : Mark k} (h : xs.length + ys.length ≤ 1000000) : bndK (binop .add (.tup xs) (.tup ys)) k m = k (false, .tup (xs ++ ys)) := bkz (add_t h) k m
theorem app_l {xs : List D} {d : D} (h : xs.length < 1000000) : mutop .append (.lst xs) [d] = some (.non, .lst (xs ++ [d])) := by
  have : xs.length < sizeLine := Nat.lt_of_lt_of_le h (by decide)
  simp only [mutop, this, if_true]
theorem zapp_l {xs : List D} {d : D} {k : D × D → Option β} {m : Mark k} (h : xs.length + 1 ≤ 1000000) : bndK (mutop .append (.lst xs) [d]) k m = k (.non, .lst (xs ++ [d])) := bkz (app_l h) k m
theorem ty_ll {xs ys : List D} : (tyOf (.lst xs) = tyOf (.lst ys)) = True := eq_true rfl
theorem ty_dd {xs ys : List (Key × D)} : (tyOf (.dct xs) = tyOf (.dct ys)) = True := eq_true rfl
theorem size_ok {n : Nat} (h : n ≤ 1000000) : (n ≤ sizeLine) = True := by
  have : n ≤ sizeLine := Nat.le_trans h (by decide)
  exact eq_true this
/-! isinstance of what is seen -/
section
variable {t : Ty} {ds : List D} {i : Int} {x : Str} {b : Bool} {kvs : List (Key × D)} {k : Bool → Option β} {m : Mark k}
theorem zty_i : bndK (isTy1 .int (.int i)) k m = k true := rfl
theorem zty_ib : bndK (isTy1 .bool (.int i)) k m = k false := rfl
theorem zty_is : bndK (isTy1 .str (.int i)) k m = k false := rfl
theorem zty_it : bndK (isTy1 .tuple (.int i)) k m = k false := rfl
theorem zty_il : bndK (isTy1 .list (.int i)) k m = k false := rfl
theorem zty_bi : bndK (isTy1 .int (.bl b)) k m = k true := rfl
theorem zty_bb : bndK (isTy1 .bool (.bl b)) k m = k true := rfl
theorem zty_bs : bndK (isTy1 .str (.bl b)) k m = k false := rfl
theorem zty_bt : bndK (isTy1 .tuple (.bl b)) k m = k false := rfl
theorem zty_bl : bndK (isTy1 .list (.bl b)) k m = k false := rfl
theorem zty_si : bndK (isTy1 .int (.str x)) k m = k false := rfl
theorem zty_sb : bndK (isTy1 .bool (.str x)) k m = k false := rfl
theorem zty_ss : bndK (isTy1 .str (.str x)) k m = k true := rfl
theorem zty_st : bndK (isTy1 .tuple (.str x)) k m = k false := rfl
theorem zty_sl : bndK (isTy1 .list (.str x)) k m = k false := rfl
theorem zty_ti : bndK (isTy1 .int (.tup ds)) k m = k false := rfl
theorem zty_tb : bndK (isTy1 .bool (.tup ds)) k m = k false := rfl
theorem zty_ts : bndK (isTy1 .str (.tup ds)) k m = k false := rfl
theorem zty_tt : bndK (isTy1 .tuple (.tup ds)) k m = k true := rfl
theorem zty_tl : bndK (isTy1 .list (.tup ds)) k m = k false := rfl
theorem zty_li : bndK (isTy1 .int (.lst ds)) k m = k false := rfl
theorem zty_lb : bndK (isTy1 .bool (.lst ds)) k m = k false := rfl
theorem zty_ls : bndK (isTy1 .str (.lst ds)) k m = k false := rfl
theorem zty_lt : bndK (isTy1 .tuple (.lst ds)) k m = k false := rfl
theorem zty_ll : bndK (isTy1 .list (.lst ds)) k m = k true := rfl
theorem zty_ni : bndK (isTy1 .int .non) k m = k false := rfl
theorem zty_nb : bndK (isTy1 .bool .non) k m = k false := rfl
theorem zty_ns : bndK (isTy1 .str .non) k m = k false := rfl
theorem zty_nt : bndK (isTy1 .tuple .non) k m = k false := rfl
theorem zty_nl : bndK (isTy1 .list .non) k m = k false := rfl
theorem zty_di : bndK (isTy1 .int (.dct kvs)) k m = k false := rfl
theorem zty_db : bndK (isTy1 .bool (.dct kvs)) k m = k false := rfl
theorem zty_ds : bndK (isTy1 .str (.dct kvs)) k m = k false := rfl
theorem zty_dt : bndK (isTy1 .tuple (.dct kvs)) k m = k false := rfl
theorem zty_dl : bndK (isTy1 .list (.dct kvs)) k m = k false := rfl
end
end
/-! quiet names -/
def qS (ρ : Sl) (v : Nat) : Bool := match ρ[v]? with | some (.own _) => false | some _ => true | _ => false
theorem quiet_0 {ρ : Sl} : quietS ρ [] = true := rfl
theorem quiet_s {ρ : Sl} {v : Nat} {vs : List Nat} : quietS ρ (v :: vs) = (qS ρ v && quietS ρ vs) := rfl
theorem qS_v {ρ : Sl} {d : D} : qS (.val d :: ρ) 0 = true := rfl
theorem qS_n {ρ : Sl} : qS (.none :: ρ) 0 = true := rfl
theorem qS_s {ρ : Sl} {s : Slot} {v : Nat} : qS (s :: ρ) (v + 1) = qS ρ v := rfl
/-! loops -/
def LoopQ (J : Sl → Prop) (Z : Fl × Sl → Prop) : Fl × Sl → Prop
  | (.next, r) => J r
  | (.cont, r) => J r
  | (.brk, r) => Z (.next, r)
  | (.ret fr d, r) => Z (.ret fr d, r)
section
variable {np wf : Nat} {call : CallF} {tg : Tg} {b : Ss} {vs : List Nat} {ifs : Es} {elt : E}
theorem tg_K {β : Type} {d : D} {ρ : Sl} {k : Sl → Option β} : (asgTg np tg d ρ).bind k = tgK np tg d ρ k := rfl
theorem forS_tot (J : Nat → Sl → Prop) (Z : Fl × Sl → Prop) : ∀ (ds : List D) (i : Nat) (ρ : Sl), J i ρ →
    (∀ (j : Nat) (d : D) (r : Sl), ds[j]? = some d → J (i + j) r → Tot (tgK np tg d r fun r1 => exsK np wf call b r1 fun fl r2 => some (fl, r2)) (LoopQ (J (i + j + 1)) Z)) →
    (∀ r, J (i + ds.length) r → Z (.next, r)) → Tot (forS np wf call tg b ds ρ) Z
  | [], i, ρ, hρ, _, hz => ⟨(.next, ρ), rfl, hz ρ hρ⟩
  | d :: ds, i, ρ, hρ, h, hz => by
    obtain ⟨⟨fl, ρ2⟩, e, w⟩ := h 0 d ρ rfl hρ
    rw [← tg_K] at e
    unfold forS
    unfold forL
    cases e1 : asgTg np tg d ρ with
    | none => rw [e1] at e; cases e
    | some ρ1 =>
      rw [e1] at e
      have e2 : exs np wf call b ρ1 = some (fl, ρ2) := by rw [exs_K]; exact e
      simp only [Option.bind_some, e2]
      have go : J (i + 1) ρ2 → Tot (forL np tg (fun ρ => exs np wf call b ρ) ds ρ2) Z := fun w => forS_tot J Z ds (i + 1) ρ2 w (fun j x r hj hJ => by
        have := h (j + 1) x r hj (by rw [show i + (j + 1) = i + 1 + j by omega]; exact hJ)
        rw [show i + 1 + j + 1 = i + (j + 1) + 1 by omega]; exact this) fun r hr => hz r (by rw [List.length_cons, show i + (ds.length + 1) = i + 1 + ds.length by omega]; exact hr)
      cases fl with
      | next => exact go w
      | cont => exact go w
      | brk => exact ⟨_, rfl, w⟩
      | ret fr x => exact ⟨_, rfl, w⟩
theorem forS_nil {Z : Fl × Sl → Prop} {ρ : Sl} (h : Z (.next, ρ)) : Tot (forS np wf call tg b [] ρ) Z := ⟨_, rfl, h⟩
theorem forS_cons {Z : Fl × Sl → Prop} {d : D} {ds : List D} {ρ : Sl} (h : Tot (tgK np tg d ρ fun r1 => exsK np wf call b r1 fun fl r2 => some (fl, r2)) (LoopQ (fun r => Tot (forS np wf call tg b ds r) Z) Z)) : Tot (forS np wf call tg b (d :: ds) ρ) Z := by
  obtain ⟨⟨fl, ρ2⟩, e, w⟩ := h
  rw [← tg_K] at e
  unfold forS
  unfold forL
  cases e1 : asgTg np tg d ρ with
  | none => rw [e1] at e; cases e
  | some ρ1 =>
    rw [e1] at e
    have e2 : exs np wf call b ρ1 = some (fl, ρ2) := by rw [exs_K]; exact e
    simp only [Option.bind_some, e2]
    cases fl with
    | next => exact w
    | cont => exact w
    | brk => exact ⟨_, rfl, w⟩
    | ret fr x => exact ⟨_, rfl, w⟩
/-- one turn of a while: none at its end -/
def WhlQ (J : Nat → Sl → Prop) (Z : Fl × Sl → Prop) (m : Nat) : Option Fl × Sl → Prop
  | (none, r) => Z (.next, r)
  | (some .next, r) => ∃ m' < m, J m' r
  | (some .cont, r) => ∃ m' < m, J m' r
  | (some .brk, r) => Z (.next, r)
  | (some (.ret fr d), r) => Z (.ret fr d, r)
theorem whlS_tot {c : E} (J : Nat → Sl → Prop) (Z : Fl × Sl → Prop)
    (h : ∀ (m : Nat) (r : Sl), J m r → Tot (evK np call c r fun o r1 => asB o fun x => cndK x (exsK np wf call b r1 fun fl r2 => some (some fl, r2)) (.mk _) (some (none, r1)) (.mk _)) (WhlQ J Z m)) :
    ∀ (n m : Nat) (ρ : Sl), J m ρ → m < n → Tot (whlS np wf call c b n ρ) Z
  | n + 1, m, ρ, hρ, hm => by
    obtain ⟨⟨fl, ρ2⟩, e, w⟩ := h m ρ hρ
    unfold whlS
    unfold whlL
    rw [kB]
    have go : ∀ m', m' < m → J m' ρ2 → Tot (whlS np wf call c b n ρ2) Z := fun m' h1 h2 => whlS_tot J Z h n m' ρ2 h2 (by omega)
    unfold evK at e ⊢
    cases e0 : ev np call c ρ with
    | none => rw [e0] at e; cases e
    | some p =>
      obtain ⟨o, ρ1⟩ := p
      rw [e0] at e
      simp only [Option.bind_some] at e ⊢
      cases o with
      | slot i => cases e
      | imm f d =>
        cases d <;> first | (cases e; done) | skip
        rename_i x
        cases x with
        | false =>
          cases e
          exact ⟨_, rfl, w⟩
        | true =>
          have e' : (exsK np wf call b ρ1 fun fl r2 => some (some fl, r2)) = some (fl, ρ2) := e
          simp only [asB, if_true]
          unfold exsK at e'
          cases e2 : exs np wf call b ρ1 with
          | none => rw [e2] at e'; cases e'
          | some q =>
            obtain ⟨f2, r2⟩ := q
            rw [e2] at e'
            cases e'
            simp only [Option.bind_some]
            cases f2 with
            | next => exact w.elim fun m' z => go m' z.1 z.2
            | cont => exact w.elim fun m' z => go m' z.1 z.2
            | brk => exact ⟨_, rfl, w⟩
            | ret fr x => exact ⟨_, rfl, w⟩
theorem back_wipe {ρ0 ρ : Sl} : ∀ (vs : List Nat), backS ρ0 (wipeS ρ vs) vs = backS ρ0 ρ vs := fun vs => by
  refine List.ext_getElem? fun j => ?_
  by_cases hj : j ∈ vs
  · rcases Nat.lt_or_ge j ρ.length with g | g
    · rw [back_in (by rw [wipe_len]; exact g) hj, back_in g hj]
    · rw [List.getElem?_eq_none (by rw [back_len, wipe_len]; exact g), List.getElem?_eq_none (by rw [back_len]; exact g)]
  · rw [back_out hj, back_out hj, wipe_get hj]
/-- a comprehension by a state -/
theorem cmpS_tot (J : Nat → Sl → Prop) (R : Nat → D → Prop) (ds : List D) (ρ : Sl) (h0 : J 0 (wipeS ρ vs))
    (h : ∀ (i : Nat) (d : D) (r : Sl), ds[i]? = some d → J i r → Tot (tgK np tg d r fun r1 => evK np call elt r1 fun o r2 => asV o fun x => some (x, r2)) fun q => R i q.1 ∧ J (i + 1) (wipeS q.2 vs)) :
    Tot (cmpS np call vs tg .nil elt ds ρ) fun q => q.1.length = ds.length ∧ (∀ i x, q.1[i]? = some x → R i x) ∧ ∃ r, J ds.length r ∧ q.2 = backS ρ r vs := by
  suffices H : ∀ (es : List D) (i : Nat) (r : Sl), (∀ j : Nat, es[j]? = ds[i + j]?) → J i (wipeS r vs) →
      ∃ xs r', compS np call vs tg .nil elt es r = some (xs, r') ∧ xs.length = es.length ∧ (∀ j x, xs[j]? = some x → R (i + j) x) ∧ J (i + es.length) (wipeS r' vs) by
    obtain ⟨xs, r', e, hl, hR, hJ⟩ := H ds 0 ρ (fun j => by rw [Nat.zero_add]) h0
    refine ⟨(xs, backS ρ r' vs), ?_, hl, fun i x hx => by have := hR i x hx; rwa [Nat.zero_add] at this, wipeS r' vs, by rwa [Nat.zero_add] at hJ, (back_wipe vs).symm⟩
    unfold cmpS
    rw [e]; rfl
  intro es
  induction es with
  | nil => exact fun i r _ hJ => ⟨[], r, rfl, rfl, fun j x hx => by simp at hx, hJ⟩
  | cons d es ih =>
    intro i r he hJ
    obtain ⟨⟨x, r2⟩, e, hx, hJ2⟩ := h i d _ (by have := he 0; rw [Nat.add_zero] at this; rw [← this]; rfl) hJ
    obtain ⟨xs, r', e2, hl, hR, hJ3⟩ := ih (i + 1) r2 (fun j => by have := he (j + 1); rw [List.getElem?_cons_succ] at this; rw [this]; congr 1; omega) hJ2
    refine ⟨x :: xs, r', ?_, by simp [hl], fun j y hy => ?_, by rw [List.length_cons, show i + (es.length + 1) = i + 1 + es.length by omega]; exact hJ3⟩
    · rw [← tg_K] at e
      unfold compS at e2 ⊢
      unfold compL
      cases e1 : asgTg np tg d (wipeS r vs) with
      | none => rw [e1] at e; cases e
      | some ρ1 =>
        rw [e1] at e
        simp only [Option.bind_some] at e
        rw [← imm_K] at e
        simp only [Option.bind_some, evTest, if_true, e]
        exact bk e2 _
    · cases j with
      | zero => cases hy; exact hx
      | succ j => have := hR j y hy; rwa [show i + 1 + j = i + (j + 1) by omega] at this
/-- items that are mapped; nothing changes -/
theorem cmpS_map (g : D → D) (ds : List D) (ρ : Sl) (h : ∀ d ∈ ds, Tot (tgK np tg d (wipeS ρ vs) fun r1 => evK np call elt r1 fun o r2 => asV o fun x => some (x, r2)) fun q => q.1 = g d ∧ wipeS q.2 vs = wipeS ρ vs) :
    cmpS np call vs tg .nil elt ds ρ = some (ds.map g, ρ) := by
  obtain ⟨⟨xs, r⟩, e, hl, hR, r', hr, hb⟩ := cmpS_tot (np := np) (call := call) (tg := tg) (vs := vs) (elt := elt) (fun _ r => r = wipeS ρ vs) (fun i x => ∃ d, ds[i]? = some d ∧ x = g d) ds ρ rfl fun i d r hd hr => by
    subst hr
    exact (h d (List.mem_of_getElem? hd)).mono fun q w => ⟨⟨d, hd, w.1⟩, w.2⟩
  subst hr
  simp only at hb hl hR
  rw [e, hb, back_wipe, back_same rfl]
  congr 2
  refine List.ext_getElem? fun i => ?_
  rw [List.getElem?_map]
  cases hx : xs[i]? with
  | none =>
    rw [List.getElem?_eq_none (by have := List.getElem?_eq_none_iff.mp hx; omega)]
    rfl
  | some x =>
    obtain ⟨d, hd, rfl⟩ := hR i x hx
    rw [hd]; rfl
/-- .. told by what they stand for -/
theorem cmpS_mapOf {α : Type} (e g : α → D) (as : List α) (ρ : Sl) (h : ∀ a ∈ as, Tot (tgK np tg (e a) (wipeS ρ vs) fun r1 => evK np call elt r1 fun o r2 => asV o fun x => some (x, r2)) fun q => q.1 = g a ∧ wipeS q.2 vs = wipeS ρ vs) :
    cmpS np call vs tg .nil elt (as.map e) ρ = some (as.map g, ρ) := by
  obtain ⟨⟨xs, r⟩, q, hl, hR, r', hr, hb⟩ := cmpS_tot (np := np) (call := call) (tg := tg) (vs := vs) (elt := elt) (fun _ r => r = wipeS ρ vs) (fun i x => ∃ a, as[i]? = some a ∧ x = g a) (as.map e) ρ rfl fun i d r hd hr => by
    subst hr
    rw [List.getElem?_map] at hd
    obtain ⟨a, ha, rfl⟩ := Option.map_eq_some_iff.mp hd
    exact (h a (List.mem_of_getElem? ha)).mono fun q w => ⟨⟨a, ha, w.1⟩, w.2⟩
  subst hr
  simp only at hb hl hR
  rw [List.length_map] at hl
  rw [q, hb, back_wipe, back_same rfl]
  congr 2
  refine List.ext_getElem? fun i => ?_
  rw [List.getElem?_map]
  cases hx : xs[i]? with
  | none =>
    rw [List.getElem?_eq_none (by have := List.getElem?_eq_none_iff.mp hx; omega)]
    rfl
  | some x =>
    obtain ⟨a, ha, rfl⟩ := hR i x hx
    rw [ha]; rfl
/-- items that are picked and mapped; nothing changes -/
theorem cmpS_fm {c : E} {cs : Es} (p : D → Bool) (g : D → D) (ds : List D) (ρ : Sl)
    (h : ∀ d ∈ ds, Tot (tgK np tg d (wipeS ρ vs) fun r1 => evK np call c r1 fun o r2 => asB o fun x => some (x, r2)) fun q => q.1 = p d ∧ wipeS q.2 vs = wipeS ρ vs ∧
      (p d = true → Tot (evK np call elt q.2 fun o r2 => asV o fun x => some (x, r2)) fun q => q.1 = g d ∧ wipeS q.2 vs = wipeS ρ vs)) :
    cmpS np call vs tg (.cons c cs) elt ds ρ = some ((ds.filter p).map g, ρ) := by
  obtain ⟨ρ', e, w⟩ := compS_fm (np := np) (call := call) (ifs := .cons c cs) (elt := elt) (tg := tg) (vs := vs) p g ds ρ rfl fun d hd => by
    obtain ⟨⟨x, r2⟩, e, h1, h2, h3⟩ := h d hd
    rw [← tg_K] at e
    cases e1 : asgTg np tg d (wipeS ρ vs) with
    | none => rw [e1] at e; cases e
    | some ρ1 =>
      rw [e1] at e
      simp only [Option.bind_some] at e
      rw [← test_K (r := cs)] at e
      simp only at h1 h2 h3
      subst h1
      refine ⟨ρ1, r2, rfl, e, h2, fun hp => ?_⟩
      obtain ⟨⟨y, r3⟩, e3, h4, h5⟩ := h3 hp
      rw [← imm_K] at e3
      simp only at h4 h5
      subst h4
      exact ⟨r3, e3, h5⟩
  unfold cmpS
  rw [e]
  simp only [Option.bind_some]
  rw [back_same w]
end
end Iv
namespace K07
open PySem Iv
/-! the pen -/
def pen (cells : List Int) (at' digits count fold : Int) : D := .dct [(.inr "cells", .lst (cells.map .int)), (.inr "at", .int at'), (.inr "digits", .int digits), (.inr "count", .int count), (.inr "fold", .int fold)]
section
variable {c : List Int} {a d n f x : Int}
theorem g_cells : idxop (pen c a d n f) (.str "cells") = some (.lst (c.map .int)) := rfl
theorem g_at : idxop (pen c a d n f) (.str "at") = some (.int a) := rfl
theorem g_digits : idxop (pen c a d n f) (.str "digits") = some (.int d) := rfl
theorem g_count : idxop (pen c a d n f) (.str "count") = some (.int n) := rfl
theorem g_fold : idxop (pen c a d n f) (.str "fold") = some (.int f) := rfl
theorem s_at : setop (pen c a d n f) (.str "at") (.int x) = some (pen c x d n f) := rfl
theorem s_digits : setop (pen c a d n f) (.str "digits") (.int x) = some (pen c a x n f) := rfl
theorem s_count : setop (pen c a d n f) (.str "count") (.int x) = some (pen c a d x f) := rfl
theorem s_fold : setop (pen c a d n f) (.str "fold") (.int x) = some (pen c a d n x) := rfl
end
/-- a pen that has drawn at most N times -/
structure PenOk (N : Nat) (p : D) : Prop where
  ex : ∃ (c : List Int) (a d n f : Int), p = pen c a d n f ∧ 0 ≤ a ∧ 0 ≤ d ∧ 0 ≤ n ∧ n ≤ N ∧ 0 ≤ f ∧ f < 2147483587
theorem mod_i {i j : Int} (h : 0 < j) : binop .mod (.int i) (.int j) = some (false, .int (i % j)) := by simp only [binop, h, if_true]
theorem fdiv_i {i j : Int} (h : 0 < j) (h2 : j < 1073741824) : binop .fdiv (.int i) (.int j) = some (false, .int (i / j)) := by simp only [binop, h, h2, and_self, if_true]
theorem int_i {i : Int} : bltop .int [.int i] = some (false, .int i) := rfl
theorem mul_s {i j : Int} (h : -(2 ^ 64) < j ∧ j < 2 ^ 64) : binop .mul (.int i) (.int j) = some (false, .int (i * j)) := by
  have : mulOk i j = true := by unfold mulOk; exact decide_eq_true (.inr h)
  simp only [binop, this, if_true]
theorem pow17 {i : Int} (h : i.natAbs < 2 ^ 64) : binop .pow (.int i) (.int 17) = some (false, .int (i ^ 17)) := by
  simp only [binop]
  rw [if_pos ⟨by decide, by decide, h⟩]
  rfl
theorem p18 : binop .pow (.int 10) (.int 18) = some (false, .int 1000000000000000000) := by
  simp only [binop]
  rw [if_pos (by decide)]
  rfl
/-- what is drawn where no cell is read (or behind it) -/
theorem draw_none (n : Nat) {c : List Int} {a d k f many : Int} (hm : 0 < many) (hm2 : many < 1073741824) (h0 : 0 ≤ a) (hd : 0 ≤ d) (hk : 0 ≤ k) (hk2 : k < 1000000000000000) (hf : 0 ≤ f) (hf2 : f < 2147483587) (hno : ¬ (d = 0 ∧ a < c.length)) :
    ∃ v d', 0 ≤ v ∧ v < many ∧ 0 ≤ d' ∧ run tab (n + 1) f_l_draw [.own (pen c a d k f), .val (.int many)] = some (false, .int v, [.own (pen c a d' (k + 1) f), .val (.int many)]) := by
  have q1 := @g_count c a d k f
  have q2 := @s_count c a d k f (k + 1)
  have e1 := @g_digits c a d (k + 1) f
  have e2 := @g_at c a d (k + 1) f
  have e3 := @g_cells c a d (k + 1) f
  have e4 := @g_fold c a d (k + 1) f
  have e5 := @g_count c a d (k + 1) f
  have m1 := @mod_i d many hm
  have m2 := @fdiv_i d many hm hm2
  have e6 := @s_digits c a d (k + 1) f (d / many)
  by_cases hd0 : 0 < d
  · have c1 : (d = 0) = False := eq_false (by omega)
    have c2 : (0 < d) = True := eq_true hd0
    refine ⟨d % many, d / many, Int.emod_nonneg _ (by omega), Int.emod_lt_of_pos _ hm, Int.ediv_nonneg hd (by omega), ?_⟩
    refine run_ret (F := l_draw_f) rfl rfl (ρ' := [.own (pen c a (d / many) (k + 1) f), .val (.int many), .none, .none, .val (.int (d % many))]) ?_
    show exs 2 whileFuel (run tab n) l_draw_s [.own (pen c a d k f), .val (.int many), .none, .none, .none] = _
    simp -implicitDefEqProofs only [Iv.exs_K, Iv.imm_K, Iv.test_K, ↓Iv.k_var, ↓Iv.k_int, ↓Iv.k_str, ↓Iv.k_bl, ↓Iv.k_non, ↓Iv.k_tup, ↓Iv.k_lst, ↓Iv.k_dct, ↓Iv.k_bin, ↓Iv.k_neg, ↓Iv.k_cmp, ↓Iv.k_cmp2, ↓Iv.k_rev, ↓Iv.k_and, ↓Iv.k_or, ↓Iv.k_not, ↓Iv.k_ite, ↓Iv.k_idx, ↓Iv.k_slc, ↓Iv.k_slf, ↓Iv.k_slt, ↓Iv.k_call, ↓Iv.k_blt, ↓Iv.k_isi, ↓Iv.k_comp, ↓Iv.k_nil, ↓Iv.k_cons, ↓Iv.k_seq, ↓Iv.k_rng1, ↓Iv.k_expr, ↓Iv.k_aite, ↓Iv.k_for, ↓Iv.k_whl, ↓Iv.k_retN, ↓Iv.k_pass, ↓Iv.k_brk, ↓Iv.k_cont, ↓Iv.k_frz, ↓Iv.k_mth, ↓Iv.k_mut, ↓Iv.k_scons, ↓Iv.k_snil, ↓Iv.k_asg, ↓Iv.k_par, ↓Iv.k_set, ↓Iv.k_ret, ↓Iv.k_aug, ↓Iv.k_enm, ↓Iv.k_rng2, ↓Iv.look_0, ↓Iv.look_s, ↓Iv.onS_v, ↓Iv.onS_o, ↓Iv.ownK_o, ↓Iv.valK_v, ↓Iv.asV_i, ↓Iv.asB_i, ↓Iv.asN_i, ↓Iv.dsK_v, ↓Iv.dsK_o, ↓Iv.drK_i, ↓Iv.drK_s, ↓Iv.immsK_0, ↓Iv.immsK_i, ↓Iv.dersK_0, ↓Iv.dersK_c, ↓Iv.argsK_0, ↓Iv.argsK_i, ↓Iv.argsK_s, ↓Iv.getO_0, ↓Iv.getO_s, ↓Iv.outK_go, ↓Iv.goO_0, ↓Iv.goO_i, ↓Iv.goO_s, ↓Iv.putS_0, ↓Iv.putS_s, ↓Iv.setK_z, ↓Iv.setK_v, ↓Iv.setK_n, ↓Iv.setK_ss, ↓Iv.setK_0s, ↓Iv.frK_v, ↓Iv.frK_o, ↓Iv.frK_ss, ↓Iv.frK_0s, ↓Iv.setsK_0, ↓Iv.setsK_c, ↓Iv.tgK_v, ↓Iv.tgK_w, ↓Iv.tgK_t, ↓Iv.tgK_2, ↓Iv.tgK_p, ↓Iv.tgK_2p, ↓Iv.asgK_f, ↓Iv.asgK_v, ↓Iv.asgK_w, ↓Iv.asgK_t, ↓Iv.asgK_2, ↓Iv.retK_i, ↓Iv.retK_s, ↓Iv.add_i, ↓Iv.sub_i, ↓Iv.eq_i, ↓Iv.len_t, ↓Iv.len_l, ↓Iv.it_t, ↓Iv.it_l, ↓Iv.it_r, ↓Iv.ne_i, ↓Iv.lt_i, ↓Iv.le_i, ↓Iv.gt_i, ↓Iv.ge_i, ↓reduceIte, Bool.false_eq_true, Nat.reduceLeDiff, Nat.zero_le, Iv.slotsOf, Iv.nodupN, List.contains_nil, Bool.not_false, Bool.not_true, Bool.and_true, Bool.true_and, Bool.and_false, Bool.false_and, decide_true, decide_false, List.replicate, List.cons_append, List.nil_append, List.length_cons, List.length_nil, Nat.reduceAdd, Nat.reduceSub, l_draw_s, ↓bk q1, ↓bk q2, ↓bk e1, c1, c2, ↓bk int_i, ↓bk m1, ↓bk m2, ↓bk e6]
  · have d0 : d = 0 := by omega
    subst d0
    have ha : ¬ (a < c.length) := fun z => hno ⟨rfl, z⟩
    have c2 : (a < (((c.map D.int).length : Nat) : Int)) = False := eq_false (by rw [List.length_map]; exact ha)
    have m3 := @mul_s (k + 1) 7907 (by decide)
    have m4 := @pow17 (f + (k + 1) * 7907 + 43) (by omega)
    have m5 := @mod_i ((f + (k + 1) * 7907 + 43) ^ 17) 2305843009213693951 (by decide)
    have m6 := @fdiv_i ((f + (k + 1) * 7907 + 43) ^ 17 % 2305843009213693951) 128 (by decide) (by decide)
    have m7 := @mod_i ((f + (k + 1) * 7907 + 43) ^ 17 % 2305843009213693951 / 128) many hm
    refine ⟨(f + (k + 1) * 7907 + 43) ^ 17 % 2305843009213693951 / 128 % many, 0, Int.emod_nonneg _ (by omega), Int.emod_lt_of_pos _ hm, Int.le_refl _, ?_⟩
    refine run_ret (F := l_draw_f) rfl rfl (ρ' := [.own (pen c a 0 (k + 1) f), .val (.int many), .val (.int (f + (k + 1) * 7907 + 43)), .none, .none]) ?_
    show exs 2 whileFuel (run tab n) l_draw_s [.own (pen c a 0 k f), .val (.int many), .none, .none, .none] = _
    have z0 : ((0 : Int) < 0) = False := eq_false (by decide)
    simp -implicitDefEqProofs only [Iv.exs_K, Iv.imm_K, Iv.test_K, ↓Iv.k_var, ↓Iv.k_int, ↓Iv.k_str, ↓Iv.k_bl, ↓Iv.k_non, ↓Iv.k_tup, ↓Iv.k_lst, ↓Iv.k_dct, ↓Iv.k_bin, ↓Iv.k_neg, ↓Iv.k_cmp, ↓Iv.k_cmp2, ↓Iv.k_rev, ↓Iv.k_and, ↓Iv.k_or, ↓Iv.k_not, ↓Iv.k_ite, ↓Iv.k_idx, ↓Iv.k_slc, ↓Iv.k_slf, ↓Iv.k_slt, ↓Iv.k_call, ↓Iv.k_blt, ↓Iv.k_isi, ↓Iv.k_comp, ↓Iv.k_nil, ↓Iv.k_cons, ↓Iv.k_seq, ↓Iv.k_rng1, ↓Iv.k_expr, ↓Iv.k_aite, ↓Iv.k_for, ↓Iv.k_whl, ↓Iv.k_retN, ↓Iv.k_pass, ↓Iv.k_brk, ↓Iv.k_cont, ↓Iv.k_frz, ↓Iv.k_mth, ↓Iv.k_mut, ↓Iv.k_scons, ↓Iv.k_snil, ↓Iv.k_asg, ↓Iv.k_par, ↓Iv.k_set, ↓Iv.k_ret, ↓Iv.k_aug, ↓Iv.k_enm, ↓Iv.k_rng2, ↓Iv.look_0, ↓Iv.look_s, ↓Iv.onS_v, ↓Iv.onS_o, ↓Iv.ownK_o, ↓Iv.valK_v, ↓Iv.asV_i, ↓Iv.asB_i, ↓Iv.asN_i, ↓Iv.dsK_v, ↓Iv.dsK_o, ↓Iv.drK_i, ↓Iv.drK_s, ↓Iv.immsK_0, ↓Iv.immsK_i, ↓Iv.dersK_0, ↓Iv.dersK_c, ↓Iv.argsK_0, ↓Iv.argsK_i, ↓Iv.argsK_s, ↓Iv.getO_0, ↓Iv.getO_s, ↓Iv.outK_go, ↓Iv.goO_0, ↓Iv.goO_i, ↓Iv.goO_s, ↓Iv.putS_0, ↓Iv.putS_s, ↓Iv.setK_z, ↓Iv.setK_v, ↓Iv.setK_n, ↓Iv.setK_ss, ↓Iv.setK_0s, ↓Iv.frK_v, ↓Iv.frK_o, ↓Iv.frK_ss, ↓Iv.frK_0s, ↓Iv.setsK_0, ↓Iv.setsK_c, ↓Iv.tgK_v, ↓Iv.tgK_w, ↓Iv.tgK_t, ↓Iv.tgK_2, ↓Iv.tgK_p, ↓Iv.tgK_2p, ↓Iv.asgK_f, ↓Iv.asgK_v, ↓Iv.asgK_w, ↓Iv.asgK_t, ↓Iv.asgK_2, ↓Iv.retK_i, ↓Iv.retK_s, ↓Iv.add_i, ↓Iv.sub_i, ↓Iv.eq_i, ↓Iv.len_t, ↓Iv.len_l, ↓Iv.it_t, ↓Iv.it_l, ↓Iv.it_r, ↓Iv.ne_i, ↓Iv.lt_i, ↓Iv.le_i, ↓Iv.gt_i, ↓Iv.ge_i, ↓reduceIte, Bool.false_eq_true, Nat.reduceLeDiff, Nat.zero_le, Iv.slotsOf, Iv.nodupN, List.contains_nil, Bool.not_false, Bool.not_true, Bool.and_true, Bool.true_and, Bool.and_false, Bool.false_and, decide_true, decide_false, List.replicate, List.cons_append, List.nil_append, List.length_cons, List.length_nil, Nat.reduceAdd, Nat.reduceSub, l_draw_s, ↓bk q1, ↓bk q2, ↓bk e1, ↓bk e2, ↓bk e3, ↓bk e4, ↓bk e5, c2, z0, ↓bk int_i, ↓bk m3, ↓bk m4, ↓bk m5, ↓bk m6, ↓bk m7]
theorem draw_cell (n : Nat) {c : List Int} {k f many cell : Int} {j : Nat} (hm : 0 < many) (hm2 : many < 1073741824) (hk : 0 ≤ k) (hk2 : k < 1000000000000000) (hf : 0 ≤ f) (hf2 : f < 2147483587) (hj : c[j]? = some cell) :
    ∃ v d' f', 0 ≤ v ∧ v < many ∧ 0 ≤ d' ∧ 0 ≤ f' ∧ f' < 2147483587 ∧ run tab (n + 1) f_l_draw [.own (pen c j 0 k f), .val (.int many)] = some (false, .int v, [.own (pen c ((j : Int) + 1) d' (k + 1) f'), .val (.int many)]) := by
  have hlt := (List.getElem?_eq_some_iff.mp hj).1
  have q1 := @g_count c j 0 k f
  have q2 := @s_count c j 0 k f (k + 1)
  have e1 := @g_digits c j 0 (k + 1) f
  have e2 := @g_at c j 0 (k + 1) f
  have e3 := @g_cells c j 0 (k + 1) f
  have e4 := @s_at c j 0 (k + 1) f ((j : Int) + 1)
  have ix : idxop (.lst (c.map D.int)) (.int (j : Int)) = some (.int cell) := idx_l (k := j) rfl (by rw [List.getElem?_map, hj]; rfl)
  have c2 : ((j : Int) < (((c.map D.int).length : Nat) : Int)) = True := eq_true (by rw [List.length_map]; omega)
  have z0 : ((0 : Int) < 0) = False := eq_false (by decide)
  have m3 := @mul_s (k + 1) 7907 (by decide)
  by_cases hc : 1000000000000000000 ≤ cell
  · have c3 : ((1000000000000000000 : Int) ≤ cell) = True := eq_true hc
    have e5 := @s_digits c ((j : Int) + 1) 0 (k + 1) f (cell - 1000000000000000000)
    have e6 := @g_digits c ((j : Int) + 1) (cell - 1000000000000000000) (k + 1) f
    have e7 := @g_fold c ((j : Int) + 1) (cell - 1000000000000000000) (k + 1) f
    have e8 := @g_count c ((j : Int) + 1) (cell - 1000000000000000000) (k + 1) f
    by_cases hd0 : 0 < cell - 1000000000000000000
    · have c4 : (0 < cell - 1000000000000000000) = True := eq_true hd0
      have m1 := @mod_i (cell - 1000000000000000000) many hm
      have m2 := @fdiv_i (cell - 1000000000000000000) many hm hm2
      have e9 := @s_digits c ((j : Int) + 1) (cell - 1000000000000000000) (k + 1) f ((cell - 1000000000000000000) / many)
      refine ⟨(cell - 1000000000000000000) % many, (cell - 1000000000000000000) / many, f, Int.emod_nonneg _ (by omega), Int.emod_lt_of_pos _ hm, Int.ediv_nonneg (by omega) (by omega), hf, hf2, ?_⟩
      refine run_ret (F := l_draw_f) rfl rfl (ρ' := [.own (pen c ((j : Int) + 1) ((cell - 1000000000000000000) / many) (k + 1) f), .val (.int many), .none, .val (.int cell), .val (.int ((cell - 1000000000000000000) % many))]) ?_
      show exs 2 whileFuel (run tab n) l_draw_s [.own (pen c j 0 k f), .val (.int many), .none, .none, .none] = _
      simp -implicitDefEqProofs only [Iv.exs_K, Iv.imm_K, Iv.test_K, ↓Iv.k_var, ↓Iv.k_int, ↓Iv.k_str, ↓Iv.k_bl, ↓Iv.k_non, ↓Iv.k_tup, ↓Iv.k_lst, ↓Iv.k_dct, ↓Iv.k_bin, ↓Iv.k_neg, ↓Iv.k_cmp, ↓Iv.k_cmp2, ↓Iv.k_rev, ↓Iv.k_and, ↓Iv.k_or, ↓Iv.k_not, ↓Iv.k_ite, ↓Iv.k_idx, ↓Iv.k_slc, ↓Iv.k_slf, ↓Iv.k_slt, ↓Iv.k_call, ↓Iv.k_blt, ↓Iv.k_isi, ↓Iv.k_comp, ↓Iv.k_nil, ↓Iv.k_cons, ↓Iv.k_seq, ↓Iv.k_rng1, ↓Iv.k_expr, ↓Iv.k_aite, ↓Iv.k_for, ↓Iv.k_whl, ↓Iv.k_retN, ↓Iv.k_pass, ↓Iv.k_brk, ↓Iv.k_cont, ↓Iv.k_frz, ↓Iv.k_mth, ↓Iv.k_mut, ↓Iv.k_scons, ↓Iv.k_snil, ↓Iv.k_asg, ↓Iv.k_par, ↓Iv.k_set, ↓Iv.k_ret, ↓Iv.k_aug, ↓Iv.k_enm, ↓Iv.k_rng2, ↓Iv.look_0, ↓Iv.look_s, ↓Iv.onS_v, ↓Iv.onS_o, ↓Iv.ownK_o, ↓Iv.valK_v, ↓Iv.asV_i, ↓Iv.asB_i, ↓Iv.asN_i, ↓Iv.dsK_v, ↓Iv.dsK_o, ↓Iv.drK_i, ↓Iv.drK_s, ↓Iv.immsK_0, ↓Iv.immsK_i, ↓Iv.dersK_0, ↓Iv.dersK_c, ↓Iv.argsK_0, ↓Iv.argsK_i, ↓Iv.argsK_s, ↓Iv.getO_0, ↓Iv.getO_s, ↓Iv.outK_go, ↓Iv.goO_0, ↓Iv.goO_i, ↓Iv.goO_s, ↓Iv.putS_0, ↓Iv.putS_s, ↓Iv.setK_z, ↓Iv.setK_v, ↓Iv.setK_n, ↓Iv.setK_ss, ↓Iv.setK_0s, ↓Iv.frK_v, ↓Iv.frK_o, ↓Iv.frK_ss, ↓Iv.frK_0s, ↓Iv.setsK_0, ↓Iv.setsK_c, ↓Iv.tgK_v, ↓Iv.tgK_w, ↓Iv.tgK_t, ↓Iv.tgK_2, ↓Iv.tgK_p, ↓Iv.tgK_2p, ↓Iv.asgK_f, ↓Iv.asgK_v, ↓Iv.asgK_w, ↓Iv.asgK_t, ↓Iv.asgK_2, ↓Iv.retK_i, ↓Iv.retK_s, ↓Iv.add_i, ↓Iv.sub_i, ↓Iv.eq_i, ↓Iv.len_t, ↓Iv.len_l, ↓Iv.it_t, ↓Iv.it_l, ↓Iv.it_r, ↓Iv.ne_i, ↓Iv.lt_i, ↓Iv.le_i, ↓Iv.gt_i, ↓Iv.ge_i, ↓reduceIte, Bool.false_eq_true, Nat.reduceLeDiff, Nat.zero_le, Iv.slotsOf, Iv.nodupN, List.contains_nil, Bool.not_false, Bool.not_true, Bool.and_true, Bool.true_and, Bool.and_false, Bool.false_and, decide_true, decide_false, List.replicate, List.cons_append, List.nil_append, List.length_cons, List.length_nil, Nat.reduceAdd, Nat.reduceSub, l_draw_s, ↓bk q1, ↓bk q2, ↓bk e1, ↓bk e2, ↓bk e3, c2, ↓bk ix, ↓bk e4, ↓bk p18, c3, ↓bk e5, ↓bk e6, c4, ↓bk int_i, ↓bk m1, ↓bk m2, ↓bk e9]
    · have c4 : (0 < cell - 1000000000000000000) = False := eq_false hd0
      have m4 := @pow17 (f + (k + 1) * 7907 + 43) (by omega)
      have m5 := @mod_i ((f + (k + 1) * 7907 + 43) ^ 17) 2305843009213693951 (by decide)
      have m6 := @fdiv_i ((f + (k + 1) * 7907 + 43) ^ 17 % 2305843009213693951) 128 (by decide) (by decide)
      have m7 := @mod_i ((f + (k + 1) * 7907 + 43) ^ 17 % 2305843009213693951 / 128) many hm
      refine ⟨(f + (k + 1) * 7907 + 43) ^ 17 % 2305843009213693951 / 128 % many, cell - 1000000000000000000, f, Int.emod_nonneg _ (by omega), Int.emod_lt_of_pos _ hm, by omega, hf, hf2, ?_⟩
      refine run_ret (F := l_draw_f) rfl rfl (ρ' := [.own (pen c ((j : Int) + 1) (cell - 1000000000000000000) (k + 1) f), .val (.int many), .val (.int (f + (k + 1) * 7907 + 43)), .val (.int cell), .none]) ?_
      show exs 2 whileFuel (run tab n) l_draw_s [.own (pen c j 0 k f), .val (.int many), .none, .none, .none] = _
      simp -implicitDefEqProofs only [Iv.exs_K, Iv.imm_K, Iv.test_K, ↓Iv.k_var, ↓Iv.k_int, ↓Iv.k_str, ↓Iv.k_bl, ↓Iv.k_non, ↓Iv.k_tup, ↓Iv.k_lst, ↓Iv.k_dct, ↓Iv.k_bin, ↓Iv.k_neg, ↓Iv.k_cmp, ↓Iv.k_cmp2, ↓Iv.k_rev, ↓Iv.k_and, ↓Iv.k_or, ↓Iv.k_not, ↓Iv.k_ite, ↓Iv.k_idx, ↓Iv.k_slc, ↓Iv.k_slf, ↓Iv.k_slt, ↓Iv.k_call, ↓Iv.k_blt, ↓Iv.k_isi, ↓Iv.k_comp, ↓Iv.k_nil, ↓Iv.k_cons, ↓Iv.k_seq, ↓Iv.k_rng1, ↓Iv.k_expr, ↓Iv.k_aite, ↓Iv.k_for, ↓Iv.k_whl, ↓Iv.k_retN, ↓Iv.k_pass, ↓Iv.k_brk, ↓Iv.k_cont, ↓Iv.k_frz, ↓Iv.k_mth, ↓Iv.k_mut, ↓Iv.k_scons, ↓Iv.k_snil, ↓Iv.k_asg, ↓Iv.k_par, ↓Iv.k_set, ↓Iv.k_ret, ↓Iv.k_aug, ↓Iv.k_enm, ↓Iv.k_rng2, ↓Iv.look_0, ↓Iv.look_s, ↓Iv.onS_v, ↓Iv.onS_o, ↓Iv.ownK_o, ↓Iv.valK_v, ↓Iv.asV_i, ↓Iv.asB_i, ↓Iv.asN_i, ↓Iv.dsK_v, ↓Iv.dsK_o, ↓Iv.drK_i, ↓Iv.drK_s, ↓Iv.immsK_0, ↓Iv.immsK_i, ↓Iv.dersK_0, ↓Iv.dersK_c, ↓Iv.argsK_0, ↓Iv.argsK_i, ↓Iv.argsK_s, ↓Iv.getO_0, ↓Iv.getO_s, ↓Iv.outK_go, ↓Iv.goO_0, ↓Iv.goO_i, ↓Iv.goO_s, ↓Iv.putS_0, ↓Iv.putS_s, ↓Iv.setK_z, ↓Iv.setK_v, ↓Iv.setK_n, ↓Iv.setK_ss, ↓Iv.setK_0s, ↓Iv.frK_v, ↓Iv.frK_o, ↓Iv.frK_ss, ↓Iv.frK_0s, ↓Iv.setsK_0, ↓Iv.setsK_c, ↓Iv.tgK_v, ↓Iv.tgK_w, ↓Iv.tgK_t, ↓Iv.tgK_2, ↓Iv.tgK_p, ↓Iv.tgK_2p, ↓Iv.asgK_f, ↓Iv.asgK_v, ↓Iv.asgK_w, ↓Iv.asgK_t, ↓Iv.asgK_2, ↓Iv.retK_i, ↓Iv.retK_s, ↓Iv.add_i, ↓Iv.sub_i, ↓Iv.eq_i, ↓Iv.len_t, ↓Iv.len_l, ↓Iv.it_t, ↓Iv.it_l, ↓Iv.it_r, ↓Iv.ne_i, ↓Iv.lt_i, ↓Iv.le_i, ↓Iv.gt_i, ↓Iv.ge_i, ↓reduceIte, Bool.false_eq_true, Nat.reduceLeDiff, Nat.zero_le, Iv.slotsOf, Iv.nodupN, List.contains_nil, Bool.not_false, Bool.not_true, Bool.and_true, Bool.true_and, Bool.and_false, Bool.false_and, decide_true, decide_false, List.replicate, List.cons_append, List.nil_append, List.length_cons, List.length_nil, Nat.reduceAdd, Nat.reduceSub, l_draw_s, ↓bk q1, ↓bk q2, ↓bk e1, ↓bk e2, ↓bk e3, c2, ↓bk ix, ↓bk e4, ↓bk p18, c3, ↓bk e5, ↓bk e6, c4, ↓bk e7, ↓bk e8, ↓bk int_i, ↓bk m3, ↓bk m4, ↓bk m5, ↓bk m6, ↓bk m7]
  · have c3 : ((1000000000000000000 : Int) ≤ cell) = False := eq_false hc
    have g1 := @g_fold c ((j : Int) + 1) 0 (k + 1) f
    have m0 := @mul_s f 69069 (by decide)
    have m1 := @mod_i (f * 69069 + cell) 2147483587 (by decide)
    have g2 := @s_fold c ((j : Int) + 1) 0 (k + 1) f ((f * 69069 + cell) % 2147483587)
    have hf3 : 0 ≤ (f * 69069 + cell) % 2147483587 := Int.emod_nonneg _ (by decide)
    have hf4 : (f * 69069 + cell) % 2147483587 < 2147483587 := Int.emod_lt_of_pos _ (by decide)
    generalize (f * 69069 + cell) % 2147483587 = f' at hf3 hf4 m1 g2
    have e6 := @g_digits c ((j : Int) + 1) 0 (k + 1) f'
    have e7 := @g_fold c ((j : Int) + 1) 0 (k + 1) f'
    have e8 := @g_count c ((j : Int) + 1) 0 (k + 1) f'
    have m4 := @pow17 (f' + (k + 1) * 7907 + 43) (by omega)
    have m5 := @mod_i ((f' + (k + 1) * 7907 + 43) ^ 17) 2305843009213693951 (by decide)
    have m6 := @fdiv_i ((f' + (k + 1) * 7907 + 43) ^ 17 % 2305843009213693951) 128 (by decide) (by decide)
    have m7 := @mod_i ((f' + (k + 1) * 7907 + 43) ^ 17 % 2305843009213693951 / 128) many hm
    refine ⟨(f' + (k + 1) * 7907 + 43) ^ 17 % 2305843009213693951 / 128 % many, 0, f', Int.emod_nonneg _ (by omega), Int.emod_lt_of_pos _ hm, Int.le_refl _, hf3, hf4, ?_⟩
    refine run_ret (F := l_draw_f) rfl rfl (ρ' := [.own (pen c ((j : Int) + 1) 0 (k + 1) f'), .val (.int many), .val (.int (f' + (k + 1) * 7907 + 43)), .val (.int cell), .none]) ?_
    show exs 2 whileFuel (run tab n) l_draw_s [.own (pen c j 0 k f), .val (.int many), .none, .none, .none] = _
    simp -implicitDefEqProofs only [Iv.exs_K, Iv.imm_K, Iv.test_K, ↓Iv.k_var, ↓Iv.k_int, ↓Iv.k_str, ↓Iv.k_bl, ↓Iv.k_non, ↓Iv.k_tup, ↓Iv.k_lst, ↓Iv.k_dct, ↓Iv.k_bin, ↓Iv.k_neg, ↓Iv.k_cmp, ↓Iv.k_cmp2, ↓Iv.k_rev, ↓Iv.k_and, ↓Iv.k_or, ↓Iv.k_not, ↓Iv.k_ite, ↓Iv.k_idx, ↓Iv.k_slc, ↓Iv.k_slf, ↓Iv.k_slt, ↓Iv.k_call, ↓Iv.k_blt, ↓Iv.k_isi, ↓Iv.k_comp, ↓Iv.k_nil, ↓Iv.k_cons, ↓Iv.k_seq, ↓Iv.k_rng1, ↓Iv.k_expr, ↓Iv.k_aite, ↓Iv.k_for, ↓Iv.k_whl, ↓Iv.k_retN, ↓Iv.k_pass, ↓Iv.k_brk, ↓Iv.k_cont, ↓Iv.k_frz, ↓Iv.k_mth, ↓Iv.k_mut, ↓Iv.k_scons, ↓Iv.k_snil, ↓Iv.k_asg, ↓Iv.k_par, ↓Iv.k_set, ↓Iv.k_ret, ↓Iv.k_aug, ↓Iv.k_enm, ↓Iv.k_rng2, ↓Iv.look_0, ↓Iv.look_s, ↓Iv.onS_v, ↓Iv.onS_o, ↓Iv.ownK_o, ↓Iv.valK_v, ↓Iv.asV_i, ↓Iv.asB_i, ↓Iv.asN_i, ↓Iv.dsK_v, ↓Iv.dsK_o, ↓Iv.drK_i, ↓Iv.drK_s, ↓Iv.immsK_0, ↓Iv.immsK_i, ↓Iv.dersK_0, ↓Iv.dersK_c, ↓Iv.argsK_0, ↓Iv.argsK_i, ↓Iv.argsK_s, ↓Iv.getO_0, ↓Iv.getO_s, ↓Iv.outK_go, ↓Iv.goO_0, ↓Iv.goO_i, ↓Iv.goO_s, ↓Iv.putS_0, ↓Iv.putS_s, ↓Iv.setK_z, ↓Iv.setK_v, ↓Iv.setK_n, ↓Iv.setK_ss, ↓Iv.setK_0s, ↓Iv.frK_v, ↓Iv.frK_o, ↓Iv.frK_ss, ↓Iv.frK_0s, ↓Iv.setsK_0, ↓Iv.setsK_c, ↓Iv.tgK_v, ↓Iv.tgK_w, ↓Iv.tgK_t, ↓Iv.tgK_2, ↓Iv.tgK_p, ↓Iv.tgK_2p, ↓Iv.asgK_f, ↓Iv.asgK_v, ↓Iv.asgK_w, ↓Iv.asgK_t, ↓Iv.asgK_2, ↓Iv.retK_i, ↓Iv.retK_s, ↓Iv.add_i, ↓Iv.sub_i, ↓Iv.eq_i, ↓Iv.len_t, ↓Iv.len_l, ↓Iv.it_t, ↓Iv.it_l, ↓Iv.it_r, ↓Iv.ne_i, ↓Iv.lt_i, ↓Iv.le_i, ↓Iv.gt_i, ↓Iv.ge_i, ↓reduceIte, Bool.false_eq_true, Nat.reduceLeDiff, Nat.zero_le, Iv.slotsOf, Iv.nodupN, List.contains_nil, Bool.not_false, Bool.not_true, Bool.and_true, Bool.true_and, Bool.and_false, Bool.false_and, decide_true, decide_false, List.replicate, List.cons_append, List.nil_append, List.length_cons, List.length_nil, Nat.reduceAdd, Nat.reduceSub, l_draw_s, ↓bk q1, ↓bk q2, ↓bk e1, ↓bk e2, ↓bk e3, c2, ↓bk ix, ↓bk e4, ↓bk p18, c3, ↓bk g1, ↓bk m0, ↓bk int_i, ↓bk m1, ↓bk g2, ↓bk e6, z0, ↓bk e7, ↓bk e8, ↓bk m3, ↓bk m4, ↓bk m5, ↓bk m6, ↓bk m7]
theorem draw_run (n N : Nat) {p : D} {many : Int} (hp : PenOk N p) (hN : N < 1000000000000000) (hm : 0 < many) (hm2 : many < 1073741824) :
    ∃ v p', 0 ≤ v ∧ v < many ∧ PenOk (N + 1) p' ∧ run tab (n + 1) f_l_draw [.own p, .val (.int many)] = some (false, .int v, [.own p', .val (.int many)]) := by
  obtain ⟨c, a, d, k, f, rfl, ha, hd, hk, hkN, hf, hf2⟩ := hp
  by_cases hno : d = 0 ∧ a < c.length
  · obtain ⟨rfl, hal⟩ := hno
    obtain ⟨j, rfl⟩ : ∃ j : Nat, a = j := ⟨a.toNat, by omega⟩
    obtain ⟨v, d', f', h1, h2, h3, h4, h5, e⟩ := draw_cell n hm hm2 hk (by omega) hf hf2 (List.getElem?_eq_getElem (show j < c.length by omega))
    exact ⟨v, _, h1, h2, ⟨_, _, _, _, _, rfl, by omega, h3, by omega, by omega, h4, h5⟩, e⟩
  · obtain ⟨v, d', h1, h2, h3, e⟩ := draw_none n hm hm2 ha hd hk (by omega) hf hf2 hno
    exact ⟨v, _, h1, h2, ⟨_, _, _, _, _, rfl, ha, h3, by omega, by omega, hf, hf2⟩, e⟩
/-- a pick from a list or a tuple -/
theorem pick_run (n N : Nat) {p : D} {xs : List D} {s : D} (hs : s = .lst xs ∨ s = .tup xs) (hp : PenOk N p) (hN : N < 1000000000000000) (h0 : 0 < xs.length) (h1 : xs.length < 1073741824) :
    ∃ x p', x ∈ xs ∧ PenOk (N + 1) p' ∧ run tab (n + 2) f_l_pick [.own p, .val s] = some (false, x, [.own p', .val s]) := by
  obtain ⟨v, p', v0, v1, hp', e⟩ := draw_run n N (many := (xs.length : Nat)) hp hN (by omega) (by omega)
  obtain ⟨j, rfl⟩ : ∃ j : Nat, v = j := ⟨v.toNat, by omega⟩
  have hj : j < xs.length := by omega
  refine ⟨xs[j], p', List.getElem_mem hj, hp', ?_⟩
  refine run_ret (F := l_pick_f) rfl rfl (ρ' := [.own p', .val s]) ?_
  show exs 2 whileFuel (run tab (n + 1)) l_pick_s [.own p, .val s] = _
  rcases hs with rfl | rfl
  · have i1 : idxop (.lst xs) (.int (j : Int)) = some xs[j] := idx_l (k := j) rfl (List.getElem?_eq_getElem hj)
    simp -implicitDefEqProofs only [Iv.exs_K, Iv.imm_K, Iv.test_K, ↓Iv.k_var, ↓Iv.k_int, ↓Iv.k_str, ↓Iv.k_bl, ↓Iv.k_non, ↓Iv.k_tup, ↓Iv.k_lst, ↓Iv.k_dct, ↓Iv.k_bin, ↓Iv.k_neg, ↓Iv.k_cmp, ↓Iv.k_cmp2, ↓Iv.k_rev, ↓Iv.k_and, ↓Iv.k_or, ↓Iv.k_not, ↓Iv.k_ite, ↓Iv.k_idx, ↓Iv.k_slc, ↓Iv.k_slf, ↓Iv.k_slt, ↓Iv.k_call, ↓Iv.k_blt, ↓Iv.k_isi, ↓Iv.k_comp, ↓Iv.k_nil, ↓Iv.k_cons, ↓Iv.k_seq, ↓Iv.k_rng1, ↓Iv.k_expr, ↓Iv.k_aite, ↓Iv.k_for, ↓Iv.k_whl, ↓Iv.k_retN, ↓Iv.k_pass, ↓Iv.k_brk, ↓Iv.k_cont, ↓Iv.k_frz, ↓Iv.k_mth, ↓Iv.k_mut, ↓Iv.k_scons, ↓Iv.k_snil, ↓Iv.k_asg, ↓Iv.k_par, ↓Iv.k_set, ↓Iv.k_ret, ↓Iv.k_aug, ↓Iv.k_enm, ↓Iv.k_rng2, ↓Iv.look_0, ↓Iv.look_s, ↓Iv.onS_v, ↓Iv.onS_o, ↓Iv.ownK_o, ↓Iv.valK_v, ↓Iv.asV_i, ↓Iv.asB_i, ↓Iv.asN_i, ↓Iv.dsK_v, ↓Iv.dsK_o, ↓Iv.drK_i, ↓Iv.drK_s, ↓Iv.immsK_0, ↓Iv.immsK_i, ↓Iv.dersK_0, ↓Iv.dersK_c, ↓Iv.argsK_0, ↓Iv.argsK_i, ↓Iv.argsK_s, ↓Iv.getO_0, ↓Iv.getO_s, ↓Iv.outK_go, ↓Iv.goO_0, ↓Iv.goO_i, ↓Iv.goO_s, ↓Iv.putS_0, ↓Iv.putS_s, ↓Iv.setK_z, ↓Iv.setK_v, ↓Iv.setK_n, ↓Iv.setK_ss, ↓Iv.setK_0s, ↓Iv.frK_v, ↓Iv.frK_o, ↓Iv.frK_ss, ↓Iv.frK_0s, ↓Iv.setsK_0, ↓Iv.setsK_c, ↓Iv.tgK_v, ↓Iv.tgK_w, ↓Iv.tgK_t, ↓Iv.tgK_2, ↓Iv.tgK_p, ↓Iv.tgK_2p, ↓Iv.asgK_f, ↓Iv.asgK_v, ↓Iv.asgK_w, ↓Iv.asgK_t, ↓Iv.asgK_2, ↓Iv.retK_i, ↓Iv.retK_s, ↓Iv.add_i, ↓Iv.sub_i, ↓Iv.eq_i, ↓Iv.len_t, ↓Iv.len_l, ↓Iv.it_t, ↓Iv.it_l, ↓Iv.it_r, ↓Iv.ne_i, ↓Iv.lt_i, ↓Iv.le_i, ↓Iv.gt_i, ↓Iv.ge_i, ↓reduceIte, Bool.false_eq_true, Nat.reduceLeDiff, Nat.zero_le, Iv.slotsOf, Iv.nodupN, List.contains_nil, Bool.not_false, Bool.not_true, Bool.and_true, Bool.true_and, Bool.and_false, Bool.false_and, decide_true, decide_false, List.replicate, List.cons_append, List.nil_append, List.length_cons, List.length_nil, Nat.reduceAdd, Nat.reduceSub, l_pick_s, ↓bk e, ↓bk i1]
  · have i1 : idxop (.tup xs) (.int (j : Int)) = some xs[j] := idx_t (k := j) rfl (List.getElem?_eq_getElem hj)
    simp -implicitDefEqProofs only [Iv.exs_K, Iv.imm_K, Iv.test_K, ↓Iv.k_var, ↓Iv.k_int, ↓Iv.k_str, ↓Iv.k_bl, ↓Iv.k_non, ↓Iv.k_tup, ↓Iv.k_lst, ↓Iv.k_dct, ↓Iv.k_bin, ↓Iv.k_neg, ↓Iv.k_cmp, ↓Iv.k_cmp2, ↓Iv.k_rev, ↓Iv.k_and, ↓Iv.k_or, ↓Iv.k_not, ↓Iv.k_ite, ↓Iv.k_idx, ↓Iv.k_slc, ↓Iv.k_slf, ↓Iv.k_slt, ↓Iv.k_call, ↓Iv.k_blt, ↓Iv.k_isi, ↓Iv.k_comp, ↓Iv.k_nil, ↓Iv.k_cons, ↓Iv.k_seq, ↓Iv.k_rng1, ↓Iv.k_expr, ↓Iv.k_aite, ↓Iv.k_for, ↓Iv.k_whl, ↓Iv.k_retN, ↓Iv.k_pass, ↓Iv.k_brk, ↓Iv.k_cont, ↓Iv.k_frz, ↓Iv.k_mth, ↓Iv.k_mut, ↓Iv.k_scons, ↓Iv.k_snil, ↓Iv.k_asg, ↓Iv.k_par, ↓Iv.k_set, ↓Iv.k_ret, ↓Iv.k_aug, ↓Iv.k_enm, ↓Iv.k_rng2, ↓Iv.look_0, ↓Iv.look_s, ↓Iv.onS_v, ↓Iv.onS_o, ↓Iv.ownK_o, ↓Iv.valK_v, ↓Iv.asV_i, ↓Iv.asB_i, ↓Iv.asN_i, ↓Iv.dsK_v, ↓Iv.dsK_o, ↓Iv.drK_i, ↓Iv.drK_s, ↓Iv.immsK_0, ↓Iv.immsK_i, ↓Iv.dersK_0, ↓Iv.dersK_c, ↓Iv.argsK_0, ↓Iv.argsK_i, ↓Iv.argsK_s, ↓Iv.getO_0, ↓Iv.getO_s, ↓Iv.outK_go, ↓Iv.goO_0, ↓Iv.goO_i, ↓Iv.goO_s, ↓Iv.putS_0, ↓Iv.putS_s, ↓Iv.setK_z, ↓Iv.setK_v, ↓Iv.setK_n, ↓Iv.setK_ss, ↓Iv.setK_0s, ↓Iv.frK_v, ↓Iv.frK_o, ↓Iv.frK_ss, ↓Iv.frK_0s, ↓Iv.setsK_0, ↓Iv.setsK_c, ↓Iv.tgK_v, ↓Iv.tgK_w, ↓Iv.tgK_t, ↓Iv.tgK_2, ↓Iv.tgK_p, ↓Iv.tgK_2p, ↓Iv.asgK_f, ↓Iv.asgK_v, ↓Iv.asgK_w, ↓Iv.asgK_t, ↓Iv.asgK_2, ↓Iv.retK_i, ↓Iv.retK_s, ↓Iv.add_i, ↓Iv.sub_i, ↓Iv.eq_i, ↓Iv.len_t, ↓Iv.len_l, ↓Iv.it_t, ↓Iv.it_l, ↓Iv.it_r, ↓Iv.ne_i, ↓Iv.lt_i, ↓Iv.le_i, ↓Iv.gt_i, ↓Iv.ge_i, ↓reduceIte, Bool.false_eq_true, Nat.reduceLeDiff, Nat.zero_le, Iv.slotsOf, Iv.nodupN, List.contains_nil, Bool.not_false, Bool.not_true, Bool.and_true, Bool.true_and, Bool.and_false, Bool.false_and, decide_true, decide_false, List.replicate, List.cons_append, List.nil_append, List.length_cons, List.length_nil, Nat.reduceAdd, Nat.reduceSub, l_pick_s, ↓bk e, ↓bk i1]
theorem PenOk.mono {N M : Nat} {p : D} (h : PenOk N p) (hm : N ≤ M) : PenOk M p := by
  obtain ⟨c, a, d, k, f, e, h1, h2, h3, h4, h5, h6⟩ := h
  exact ⟨c, a, d, k, f, e, h1, h2, h3, by omega, h5, h6⟩
theorem rng_len (a : Nat) : (rngD 0 (a : Int)).length = a := by simp [rngD]
theorem pick_tot (n N : Nat) {p : D} {xs : List D} (hp : PenOk N p) (hN : N < 1000000000000000) (h0 : 0 < xs.length) (h1 : xs.length < 1073741824) :
    Tot (run tab (n + 2) f_l_pick [.own p, .val (.lst xs)]) fun z => ∃ x p', x ∈ xs ∧ PenOk (N + 1) p' ∧ z = (false, x, [.own p', .val (.lst xs)]) := by
  obtain ⟨x, p', hx, hp', e⟩ := pick_run n N (.inl rfl) hp hN h0 h1
  exact ⟨_, e, x, p', hx, hp', rfl⟩
theorem pen_run (n : Nat) (ns : List Int) : Tot (run tab (n + 1) f_l_pen [.val (.rol (ns.map .int))]) fun z => ∃ p, PenOk 0 p ∧ z = (true, p, [.val (.rol (ns.map .int))]) := by
  refine run_tot (F := l_pen_f) rfl rfl ?_
  show Tot (exsK 1 whileFuel (run tab n) l_pen_s [.val (.rol (ns.map .int)), .none, .none] (endK 1)) _
  simp -implicitDefEqProofs only [↓Iv.k_var, ↓Iv.k_int, ↓Iv.k_str, ↓Iv.k_bl, ↓Iv.k_non, ↓Iv.k_tup, ↓Iv.k_lst, ↓Iv.k_dct, ↓Iv.z_bin, ↓Iv.k_neg, ↓Iv.z_cmp, ↓Iv.z_cmp2, ↓Iv.z_rev, ↓Iv.z_and, ↓Iv.z_or, ↓Iv.k_not, ↓Iv.z_ite, ↓Iv.z_idx, ↓Iv.z_slc, ↓Iv.z_slf, ↓Iv.z_slt, ↓Iv.z_call, ↓Iv.z_blt, ↓Iv.z_isi, ↓Iv.z_comp, ↓Iv.k_nil, ↓Iv.k_cons, ↓Iv.z_seq, ↓Iv.z_rng1, ↓Iv.k_expr, ↓Iv.z_aite, ↓Iv.z_for, ↓Iv.z_whl, ↓Iv.k_retN, ↓Iv.k_pass, ↓Iv.k_brk, ↓Iv.k_cont, ↓Iv.k_frz, ↓Iv.z_mth, ↓Iv.z_mut, ↓Iv.k_scons, ↓Iv.k_snil, ↓Iv.k_asg, ↓Iv.k_par, ↓Iv.z_set, ↓Iv.k_ret, ↓Iv.z_aug, ↓Iv.z_enm, ↓Iv.z_rng2, ↓Iv.look_0, ↓Iv.look_s, ↓Iv.onS_v, ↓Iv.onS_o, ↓Iv.ownK_o, ↓Iv.valK_v, ↓Iv.asV_i, ↓Iv.asB_i, ↓Iv.asN_i, ↓Iv.dsK_v, ↓Iv.dsK_o, ↓Iv.drK_i, ↓Iv.drK_s, ↓Iv.immsK_0, ↓Iv.immsK_i, ↓Iv.dersK_0, ↓Iv.dersK_c, ↓Iv.argsK_0, ↓Iv.argsK_i, ↓Iv.argsK_s, ↓Iv.getO_0, ↓Iv.getO_s, ↓Iv.outK_go, ↓Iv.goO_0, ↓Iv.goO_i, ↓Iv.goO_s, ↓Iv.putS_0, ↓Iv.putS_s, ↓Iv.setK_z, ↓Iv.setK_v, ↓Iv.setK_n, ↓Iv.setK_ss, ↓Iv.setK_0s, ↓Iv.frK_v, ↓Iv.frK_o, ↓Iv.frK_ss, ↓Iv.frK_0s, ↓Iv.setsK_0, ↓Iv.setsK_c, ↓Iv.tgK_v, ↓Iv.tgK_w, ↓Iv.tgK_t, ↓Iv.tgK_2, ↓Iv.tgK_p, ↓Iv.tgK_2p, ↓Iv.asgK_f, ↓Iv.asgK_v, ↓Iv.asgK_w, ↓Iv.asgK_t, ↓Iv.asgK_2, ↓Iv.retK_i, ↓Iv.retK_s, ↓Iv.bkz_some, ↓Iv.cnd_t, ↓Iv.cnd_f, ↓Iv.endK_ret, ↓Iv.endK_next, ↓Iv.za_i, ↓Iv.zs_i, ↓Iv.zeq_i, ↓Iv.zne_i, ↓Iv.zlt_i, ↓Iv.zle_i, ↓Iv.zgt_i, ↓Iv.zge_i, ↓Iv.zeq_s, ↓Iv.zne_s, ↓Iv.zeq_b, ↓Iv.zne_b, ↓Iv.zlen_t, ↓Iv.zlen_l, ↓Iv.zlen_r, ↓Iv.zlen_d, ↓Iv.ztup_l, ↓Iv.ztup_t, ↓Iv.zlst_l, ↓Iv.zlst_t, ↓Iv.zlst_r, ↓Iv.zzip_t, ↓Iv.zzip_l, ↓Iv.zint_i, ↓Iv.zint_b, ↓Iv.zit_t, ↓Iv.zit_l, ↓Iv.zit_r, ↓Iv.zslc_t, ↓Iv.zslc_l, ↓Iv.zrev_t, ↓Iv.zrev_l, ↓Iv.zaug_a, ↓Iv.zaug_s, ↓Iv.zisn, ↓Iv.znotn, ↓Iv.zadd_l, ↓Iv.zadd_t, ↓Iv.zapp_l, ↓Iv.ty_ll, ↓Iv.ty_dd, ↓Iv.zfor_nil, ↓Iv.zty_i, ↓Iv.zty_ib, ↓Iv.zty_is, ↓Iv.zty_it, ↓Iv.zty_il, ↓Iv.zty_bi, ↓Iv.zty_bb, ↓Iv.zty_bs, ↓Iv.zty_bt, ↓Iv.zty_bl, ↓Iv.zty_si, ↓Iv.zty_sb, ↓Iv.zty_ss, ↓Iv.zty_st, ↓Iv.zty_sl, ↓Iv.zty_ti, ↓Iv.zty_tb, ↓Iv.zty_ts, ↓Iv.zty_tt, ↓Iv.zty_tl, ↓Iv.zty_li, ↓Iv.zty_lb, ↓Iv.zty_ls, ↓Iv.zty_lt, ↓Iv.zty_ll, ↓Iv.zty_ni, ↓Iv.zty_nb, ↓Iv.zty_ns, ↓Iv.zty_nt, ↓Iv.zty_nl, ↓Iv.zty_di, ↓Iv.zty_db, ↓Iv.zty_ds, ↓Iv.zty_dt, ↓Iv.zty_dl, ↓Iv.quiet_0, ↓Iv.quiet_s, ↓Iv.qS_v, ↓Iv.qS_n, ↓Iv.qS_s, ↓reduceIte, Bool.false_eq_true, Nat.reduceLeDiff, Nat.zero_le, Iv.slotsOf, Iv.nodupN, List.contains_nil, Bool.not_false, Bool.not_true, Bool.and_true, Bool.true_and, Bool.and_false, Bool.false_and, decide_true, decide_false, List.replicate, List.cons_append, List.nil_append, List.length_cons, List.length_nil, Nat.reduceAdd, Nat.reduceSub, List.contains_cons, Nat.reduceBeqDiff, Nat.reduceEqDiff, Bool.or_false, Bool.false_or, Bool.or_true, Bool.true_or, List.take_succ_cons, List.take_zero, l_pen_s]
  refine Tot.bnd (forS_tot (fun _ r => ∃ (f : Int) (s : Slot), 0 ≤ f ∧ f < 1000000007 ∧ r = [.val (.rol (ns.map .int)), .val (.int f), s]) (fun z => ∃ (f : Int) (s : Slot), 0 ≤ f ∧ f < 1000000007 ∧ z = (.next, [.val (.rol (ns.map .int)), .val (.int f), s])) _ 0 _ ⟨0, _, by decide, by decide, rfl⟩ ?_ ?_) ?_
  · rintro j y _ hj ⟨f, s, h0, h1, rfl⟩
    rw [List.getElem?_map] at hj
    obtain ⟨c, hc, rfl⟩ := Option.map_eq_some_iff.mp hj
    have m1 := @mul_s f 47 (by decide)
    have m2 := @mod_i (f * 47 + c) 1000000007 (by decide)
    simp -implicitDefEqProofs only [↓Iv.k_var, ↓Iv.k_int, ↓Iv.k_str, ↓Iv.k_bl, ↓Iv.k_non, ↓Iv.k_tup, ↓Iv.k_lst, ↓Iv.k_dct, ↓Iv.z_bin, ↓Iv.k_neg, ↓Iv.z_cmp, ↓Iv.z_cmp2, ↓Iv.z_rev, ↓Iv.z_and, ↓Iv.z_or, ↓Iv.k_not, ↓Iv.z_ite, ↓Iv.z_idx, ↓Iv.z_slc, ↓Iv.z_slf, ↓Iv.z_slt, ↓Iv.z_call, ↓Iv.z_blt, ↓Iv.z_isi, ↓Iv.z_comp, ↓Iv.k_nil, ↓Iv.k_cons, ↓Iv.z_seq, ↓Iv.z_rng1, ↓Iv.k_expr, ↓Iv.z_aite, ↓Iv.z_for, ↓Iv.z_whl, ↓Iv.k_retN, ↓Iv.k_pass, ↓Iv.k_brk, ↓Iv.k_cont, ↓Iv.k_frz, ↓Iv.z_mth, ↓Iv.z_mut, ↓Iv.k_scons, ↓Iv.k_snil, ↓Iv.k_asg, ↓Iv.k_par, ↓Iv.z_set, ↓Iv.k_ret, ↓Iv.z_aug, ↓Iv.z_enm, ↓Iv.z_rng2, ↓Iv.look_0, ↓Iv.look_s, ↓Iv.onS_v, ↓Iv.onS_o, ↓Iv.ownK_o, ↓Iv.valK_v, ↓Iv.asV_i, ↓Iv.asB_i, ↓Iv.asN_i, ↓Iv.dsK_v, ↓Iv.dsK_o, ↓Iv.drK_i, ↓Iv.drK_s, ↓Iv.immsK_0, ↓Iv.immsK_i, ↓Iv.dersK_0, ↓Iv.dersK_c, ↓Iv.argsK_0, ↓Iv.argsK_i, ↓Iv.argsK_s, ↓Iv.getO_0, ↓Iv.getO_s, ↓Iv.outK_go, ↓Iv.goO_0, ↓Iv.goO_i, ↓Iv.goO_s, ↓Iv.putS_0, ↓Iv.putS_s, ↓Iv.setK_z, ↓Iv.setK_v, ↓Iv.setK_n, ↓Iv.setK_ss, ↓Iv.setK_0s, ↓Iv.frK_v, ↓Iv.frK_o, ↓Iv.frK_ss, ↓Iv.frK_0s, ↓Iv.setsK_0, ↓Iv.setsK_c, ↓Iv.tgK_v, ↓Iv.tgK_w, ↓Iv.tgK_t, ↓Iv.tgK_2, ↓Iv.tgK_p, ↓Iv.tgK_2p, ↓Iv.asgK_f, ↓Iv.asgK_v, ↓Iv.asgK_w, ↓Iv.asgK_t, ↓Iv.asgK_2, ↓Iv.retK_i, ↓Iv.retK_s, ↓Iv.bkz_some, ↓Iv.cnd_t, ↓Iv.cnd_f, ↓Iv.endK_ret, ↓Iv.endK_next, ↓Iv.za_i, ↓Iv.zs_i, ↓Iv.zeq_i, ↓Iv.zne_i, ↓Iv.zlt_i, ↓Iv.zle_i, ↓Iv.zgt_i, ↓Iv.zge_i, ↓Iv.zeq_s, ↓Iv.zne_s, ↓Iv.zeq_b, ↓Iv.zne_b, ↓Iv.zlen_t, ↓Iv.zlen_l, ↓Iv.zlen_r, ↓Iv.zlen_d, ↓Iv.ztup_l, ↓Iv.ztup_t, ↓Iv.zlst_l, ↓Iv.zlst_t, ↓Iv.zlst_r, ↓Iv.zzip_t, ↓Iv.zzip_l, ↓Iv.zint_i, ↓Iv.zint_b, ↓Iv.zit_t, ↓Iv.zit_l, ↓Iv.zit_r, ↓Iv.zslc_t, ↓Iv.zslc_l, ↓Iv.zrev_t, ↓Iv.zrev_l, ↓Iv.zaug_a, ↓Iv.zaug_s, ↓Iv.zisn, ↓Iv.znotn, ↓Iv.zadd_l, ↓Iv.zadd_t, ↓Iv.zapp_l, ↓Iv.ty_ll, ↓Iv.ty_dd, ↓Iv.zfor_nil, ↓Iv.zty_i, ↓Iv.zty_ib, ↓Iv.zty_is, ↓Iv.zty_it, ↓Iv.zty_il, ↓Iv.zty_bi, ↓Iv.zty_bb, ↓Iv.zty_bs, ↓Iv.zty_bt, ↓Iv.zty_bl, ↓Iv.zty_si, ↓Iv.zty_sb, ↓Iv.zty_ss, ↓Iv.zty_st, ↓Iv.zty_sl, ↓Iv.zty_ti, ↓Iv.zty_tb, ↓Iv.zty_ts, ↓Iv.zty_tt, ↓Iv.zty_tl, ↓Iv.zty_li, ↓Iv.zty_lb, ↓Iv.zty_ls, ↓Iv.zty_lt, ↓Iv.zty_ll, ↓Iv.zty_ni, ↓Iv.zty_nb, ↓Iv.zty_ns, ↓Iv.zty_nt, ↓Iv.zty_nl, ↓Iv.zty_di, ↓Iv.zty_db, ↓Iv.zty_ds, ↓Iv.zty_dt, ↓Iv.zty_dl, ↓Iv.quiet_0, ↓Iv.quiet_s, ↓Iv.qS_v, ↓Iv.qS_n, ↓Iv.qS_s, ↓reduceIte, Bool.false_eq_true, Nat.reduceLeDiff, Nat.zero_le, Iv.slotsOf, Iv.nodupN, List.contains_nil, Bool.not_false, Bool.not_true, Bool.and_true, Bool.true_and, Bool.and_false, Bool.false_and, decide_true, decide_false, List.replicate, List.cons_append, List.nil_append, List.length_cons, List.length_nil, Nat.reduceAdd, Nat.reduceSub, List.contains_cons, Nat.reduceBeqDiff, Nat.reduceEqDiff, Bool.or_false, Bool.false_or, Bool.or_true, Bool.true_or, List.take_succ_cons, List.take_zero, l_pen_b0, ↓bkz m1, ↓bkz m2]
    exact Tot.ret ⟨_, _, Int.emod_nonneg _ (by decide), Int.emod_lt_of_pos _ (by decide), rfl⟩
  · rintro _ ⟨f, s, h0, h1, rfl⟩
    exact ⟨f, s, h0, h1, rfl⟩
  · rintro _ ⟨f, s, h0, h1, rfl⟩
    simp -implicitDefEqProofs only [↓Iv.k_var, ↓Iv.k_int, ↓Iv.k_str, ↓Iv.k_bl, ↓Iv.k_non, ↓Iv.k_tup, ↓Iv.k_lst, ↓Iv.k_dct, ↓Iv.z_bin, ↓Iv.k_neg, ↓Iv.z_cmp, ↓Iv.z_cmp2, ↓Iv.z_rev, ↓Iv.z_and, ↓Iv.z_or, ↓Iv.k_not, ↓Iv.z_ite, ↓Iv.z_idx, ↓Iv.z_slc, ↓Iv.z_slf, ↓Iv.z_slt, ↓Iv.z_call, ↓Iv.z_blt, ↓Iv.z_isi, ↓Iv.z_comp, ↓Iv.k_nil, ↓Iv.k_cons, ↓Iv.z_seq, ↓Iv.z_rng1, ↓Iv.k_expr, ↓Iv.z_aite, ↓Iv.z_for, ↓Iv.z_whl, ↓Iv.k_retN, ↓Iv.k_pass, ↓Iv.k_brk, ↓Iv.k_cont, ↓Iv.k_frz, ↓Iv.z_mth, ↓Iv.z_mut, ↓Iv.k_scons, ↓Iv.k_snil, ↓Iv.k_asg, ↓Iv.k_par, ↓Iv.z_set, ↓Iv.k_ret, ↓Iv.z_aug, ↓Iv.z_enm, ↓Iv.z_rng2, ↓Iv.look_0, ↓Iv.look_s, ↓Iv.onS_v, ↓Iv.onS_o, ↓Iv.ownK_o, ↓Iv.valK_v, ↓Iv.asV_i, ↓Iv.asB_i, ↓Iv.asN_i, ↓Iv.dsK_v, ↓Iv.dsK_o, ↓Iv.drK_i, ↓Iv.drK_s, ↓Iv.immsK_0, ↓Iv.immsK_i, ↓Iv.dersK_0, ↓Iv.dersK_c, ↓Iv.argsK_0, ↓Iv.argsK_i, ↓Iv.argsK_s, ↓Iv.getO_0, ↓Iv.getO_s, ↓Iv.outK_go, ↓Iv.goO_0, ↓Iv.goO_i, ↓Iv.goO_s, ↓Iv.putS_0, ↓Iv.putS_s, ↓Iv.setK_z, ↓Iv.setK_v, ↓Iv.setK_n, ↓Iv.setK_ss, ↓Iv.setK_0s, ↓Iv.frK_v, ↓Iv.frK_o, ↓Iv.frK_ss, ↓Iv.frK_0s, ↓Iv.setsK_0, ↓Iv.setsK_c, ↓Iv.tgK_v, ↓Iv.tgK_w, ↓Iv.tgK_t, ↓Iv.tgK_2, ↓Iv.tgK_p, ↓Iv.tgK_2p, ↓Iv.asgK_f, ↓Iv.asgK_v, ↓Iv.asgK_w, ↓Iv.asgK_t, ↓Iv.asgK_2, ↓Iv.retK_i, ↓Iv.retK_s, ↓Iv.bkz_some, ↓Iv.cnd_t, ↓Iv.cnd_f, ↓Iv.endK_ret, ↓Iv.endK_next, ↓Iv.za_i, ↓Iv.zs_i, ↓Iv.zeq_i, ↓Iv.zne_i, ↓Iv.zlt_i, ↓Iv.zle_i, ↓Iv.zgt_i, ↓Iv.zge_i, ↓Iv.zeq_s, ↓Iv.zne_s, ↓Iv.zeq_b, ↓Iv.zne_b, ↓Iv.zlen_t, ↓Iv.zlen_l, ↓Iv.zlen_r, ↓Iv.zlen_d, ↓Iv.ztup_l, ↓Iv.ztup_t, ↓Iv.zlst_l, ↓Iv.zlst_t, ↓Iv.zlst_r, ↓Iv.zzip_t, ↓Iv.zzip_l, ↓Iv.zint_i, ↓Iv.zint_b, ↓Iv.zit_t, ↓Iv.zit_l, ↓Iv.zit_r, ↓Iv.zslc_t, ↓Iv.zslc_l, ↓Iv.zrev_t, ↓Iv.zrev_l, ↓Iv.zaug_a, ↓Iv.zaug_s, ↓Iv.zisn, ↓Iv.znotn, ↓Iv.zadd_l, ↓Iv.zadd_t, ↓Iv.zapp_l, ↓Iv.ty_ll, ↓Iv.ty_dd, ↓Iv.zfor_nil, ↓Iv.zty_i, ↓Iv.zty_ib, ↓Iv.zty_is, ↓Iv.zty_it, ↓Iv.zty_il, ↓Iv.zty_bi, ↓Iv.zty_bb, ↓Iv.zty_bs, ↓Iv.zty_bt, ↓Iv.zty_bl, ↓Iv.zty_si, ↓Iv.zty_sb, ↓Iv.zty_ss, ↓Iv.zty_st, ↓Iv.zty_sl, ↓Iv.zty_ti, ↓Iv.zty_tb, ↓Iv.zty_ts, ↓Iv.zty_tt, ↓Iv.zty_tl, ↓Iv.zty_li, ↓Iv.zty_lb, ↓Iv.zty_ls, ↓Iv.zty_lt, ↓Iv.zty_ll, ↓Iv.zty_ni, ↓Iv.zty_nb, ↓Iv.zty_ns, ↓Iv.zty_nt, ↓Iv.zty_nl, ↓Iv.zty_di, ↓Iv.zty_db, ↓Iv.zty_ds, ↓Iv.zty_dt, ↓Iv.zty_dl, ↓Iv.quiet_0, ↓Iv.quiet_s, ↓Iv.qS_v, ↓Iv.qS_n, ↓Iv.qS_s, ↓reduceIte, Bool.false_eq_true, Nat.reduceLeDiff, Nat.zero_le, Iv.slotsOf, Iv.nodupN, List.contains_nil, Bool.not_false, Bool.not_true, Bool.and_true, Bool.true_and, Bool.and_false, Bool.false_and, decide_true, decide_false, List.replicate, List.cons_append, List.nil_append, List.length_cons, List.length_nil, Nat.reduceAdd, Nat.reduceSub, List.contains_cons, Nat.reduceBeqDiff, Nat.reduceEqDiff, Bool.or_false, Bool.false_or, Bool.or_true, Bool.true_or, List.take_succ_cons, List.take_zero]
    exact Tot.ret ⟨pen ns 0 0 0 f, ⟨ns, 0, 0, 0, f, rfl, by decide, by decide, by decide, by decide, h0, by omega⟩, rfl⟩
end K07
/-! Tm: terms with variables, as data; substitutions. No program here. -/
namespace Tm
open PySem Iv
inductive T where
  | v (i : Nat)
  | f (x : Str) (ts : List T)
mutual
def enc : T → D
  | .v i => .int i
  | .f x ts => .tup (.str x :: encs ts)
def encs : List T → List D
  | [] => []
  | t :: ts => enc t :: encs ts
end
theorem encs_map : ∀ ts : List T, encs ts = ts.map enc
  | [] => rfl
  | t :: ts => by rw [encs, encs_map ts]; rfl
theorem encs_len (ts : List T) : (encs ts).length = ts.length := by rw [encs_map, List.length_map]
mutual
def ht : T → Nat
  | .v _ => 0
  | .f _ ts => 1 + hts ts
def hts : List T → Nat
  | [] => 0
  | t :: ts => max (ht t) (hts ts)
end
mutual
def sz : T → Nat
  | .v _ => 1
  | .f _ ts => 1 + szs ts
def szs : List T → Nat
  | [] => 0
  | t :: ts => sz t + szs ts
end
mutual
/-- names that == and repr know, at most a hundred places -/
def ok : T → Prop
  | .v i => i < 100000
  | .f x ts => PyData.canLay0 (.str x) = true ∧ x.length ≤ 4 ∧ ts.length ≤ 100 ∧ oks ts
def oks : List T → Prop
  | [] => True
  | t :: ts => ok t ∧ oks ts
end
theorem oks_iff : ∀ {ts : List T}, oks ts ↔ ∀ t ∈ ts, ok t
  | [] => by simp [oks]
  | t :: ts => by
    rw [oks, oks_iff]
    simp
theorem ht_mem : ∀ {ts : List T} {t : T}, t ∈ ts → ht t ≤ hts ts
  | u :: ts, t, h => by
    rw [hts]
    rcases List.mem_cons.mp h with z | z
    · rw [z]; exact Nat.le_max_left _ _
    · exact Nat.le_trans (ht_mem z) (Nat.le_max_right _ _)
theorem hts_le : ∀ {ts : List T} {b : Nat}, (∀ t ∈ ts, ht t ≤ b) → hts ts ≤ b
  | [], _, _ => Nat.zero_le _
  | t :: ts, b, h => by
    rw [hts]
    exact Nat.max_le.mpr ⟨h t (by simp), hts_le fun u hu => h u (by simp [hu])⟩
theorem sz_mem : ∀ {ts : List T} {t : T}, t ∈ ts → sz t ≤ szs ts
  | u :: ts, t, h => by
    rw [szs]
    rcases List.mem_cons.mp h with z | z
    · rw [z]; omega
    · have := sz_mem z; omega
theorem szs_le : ∀ {ts : List T} {b : Nat}, (∀ t ∈ ts, sz t ≤ b) → szs ts ≤ ts.length * b
  | [], _, _ => Nat.zero_le _
  | t :: ts, b, h => by
    rw [szs, List.length_cons, Nat.succ_mul]
    have := h t (by simp)
    have := szs_le (ts := ts) (b := b) fun u hu => h u (List.mem_cons_of_mem _ hu)
    omega
theorem sz_pos (t : T) : 1 ≤ sz t := by cases t <;> simp only [sz] <;> omega
theorem len_szs : ∀ ts : List T, ts.length ≤ szs ts
  | [] => Nat.le_refl _
  | t :: ts => by
    rw [szs, List.length_cons]
    have := len_szs ts
    have := sz_pos t
    omega
/-! what == may be asked of -/
def lay (b : Nat) (d : D) : Prop := PyData.canLay0 (toP d) = true ∧ PyData.depth (toP d) ≤ b
theorem lay_mono {b c : Nat} {d : D} (h : lay b d) (hb : b ≤ c) : lay c d := ⟨h.1, Nat.le_trans h.2 hb⟩
theorem lay_shaped {d : D} {b : Nat} (h : lay b d) (hb : b ≤ 64) : SeqAt.shaped (toP d) = true := by
  show (PyData.canLay0 (toP d) && decide (PyData.depth (toP d) ≤ 64)) = true
  rw [h.1, decide_eq_true (Nat.le_trans h.2 hb)]
  rfl
theorem lay_all : ∀ {xs : List D} {b : Nat}, (∀ x ∈ xs, lay b x) → PyData.canLayAll0 (toPs xs) = true ∧ PyData.depthAll (toPs xs) ≤ b
  | [], b, _ => ⟨rfl, Nat.zero_le _⟩
  | x :: xs, b, h => by
    obtain ⟨h1, h2⟩ := lay_all (xs := xs) (b := b) fun y hy => h y (by simp [hy])
    have hx := h x (by simp)
    constructor
    · show (PyData.canLay0 (toP x) && PyData.canLayAll0 (toPs xs)) = true
      rw [hx.1, h1]; rfl
    · show max (PyData.depth (toP x)) (PyData.depthAll (toPs xs)) ≤ b
      have := hx.2
      omega
theorem lay_tup {xs : List D} {b : Nat} (h : ∀ x ∈ xs, lay b x) : lay (b + 1) (.tup xs) := by
  obtain ⟨h1, h2⟩ := lay_all h
  exact ⟨h1, by show PyData.depthAll (toPs xs) + 1 ≤ b + 1; omega⟩
theorem lay_lst {xs : List D} {b : Nat} (h : ∀ x ∈ xs, lay b x) : lay (b + 1) (.lst xs) := by
  obtain ⟨h1, h2⟩ := lay_all h
  exact ⟨h1, by show PyData.depthAll (toPs xs) + 1 ≤ b + 1; omega⟩
theorem lay_int (i : Int) : lay 0 (.int i) := ⟨rfl, Nat.le_refl _⟩
theorem lay_str {x : Str} (h : PyData.canLay0 (.str x) = true) : lay 0 (.str x) := ⟨h, Nat.le_refl _⟩
mutual
theorem enc_lay : ∀ t : T, ok t → lay (ht t) (enc t)
  | .v i, _ => ⟨rfl, Nat.le_refl _⟩
  | .f x ts, h => by
    rw [ok] at h
    obtain ⟨h1, h2⟩ := encs_lay ts h.2.2.2
    constructor
    · show (PyData.canLay0 (.str x) && PyData.canLayAll0 (toPs (encs ts))) = true
      rw [h.1, h1]; rfl
    · show max (PyData.depth (.str x)) (PyData.depthAll (toPs (encs ts))) + 1 ≤ 1 + hts ts
      have : PyData.depth (.str x) = 0 := rfl
      omega
theorem encs_lay : ∀ ts : List T, oks ts → PyData.canLayAll0 (toPs (encs ts)) = true ∧ PyData.depthAll (toPs (encs ts)) ≤ hts ts
  | [], _ => ⟨rfl, Nat.le_refl _⟩
  | t :: ts, h => by
    rw [oks] at h
    have h0 := enc_lay t h.1
    obtain ⟨h1, h2⟩ := encs_lay ts h.2
    constructor
    · show (PyData.canLay0 (toP (enc t)) && PyData.canLayAll0 (toPs (encs ts))) = true
      rw [h0.1, h1]; rfl
    · show max (PyData.depth (toP (enc t))) (PyData.depthAll (toPs (encs ts))) ≤ max (ht t) (hts ts)
      have := h0.2
      omega
end
mutual
theorem deq_enc : ∀ s t : T, PyData.eqv (toP (enc s)) (toP (enc t)) = true ↔ s = t
  | .v i, .v j => by
    show PyData.eqv (.int i) (.int j) = true ↔ _
    simp [PyData.eqv]
    omega
  | .v i, .f x ts => by
    show PyData.eqv (.int i) (.tuple _) = true ↔ _
    simp [PyData.eqv]
  | .f x ts, .v i => by
    show PyData.eqv (.tuple _) (.int i) = true ↔ _
    simp [PyData.eqv]
  | .f x ts, .f y us => by
    show (PyData.eqv (.str x) (.str y) && PyData.eqvAll (toPs (encs ts)) (toPs (encs us))) = true ↔ _
    rw [Bool.and_eq_true, deqs_enc ts us]
    simp [PyData.eqv]
theorem deqs_enc : ∀ ss ts : List T, PyData.eqvAll (toPs (encs ss)) (toPs (encs ts)) = true ↔ ss = ts
  | [], [] => by simp [encs, toPs, PyData.eqvAll]
  | [], _ :: _ => by simp [encs, toPs, PyData.eqvAll]
  | _ :: _, [] => by simp [encs, toPs, PyData.eqvAll]
  | s :: ss, t :: ts => by
    show (PyData.eqv (toP (enc s)) (toP (enc t)) && PyData.eqvAll (toPs (encs ss)) (toPs (encs ts))) = true ↔ _
    rw [Bool.and_eq_true, deq_enc s t, deqs_enc ss ts]
    simp
end
instance : DecidableEq T := fun s t => decidable_of_iff _ (deq_enc s t)
theorem deq_dec (s t : T) : deq (enc s) (enc t) = decide (s = t) := by
  show PyData.eqv (toP (enc s)) (toP (enc t)) = _
  cases h : PyData.eqv (toP (enc s)) (toP (enc t)) with
  | true => rw [(deq_enc s t).mp h]; simp
  | false =>
    symm
    refine decide_eq_false fun e => ?_
    rw [(deq_enc s t).mpr e] at h
    cases h
theorem eqop_enc {s t : T} (hs : ok s) (ht' : ok t) (h1 : ht s ≤ 64) (h2 : ht t ≤ 64) : eqop (enc s) (enc t) = some (decide (s = t)) := by
  have g : (if eqOk (enc s) (enc t) = true then some (deq (enc s) (enc t)) else none) = some (decide (s = t)) := by
    unfold eqOk
    rw [lay_shaped (enc_lay s hs) h1, lay_shaped (enc_lay t ht') h2, deq_dec]
    rfl
  cases s with
  | v i => cases t with
    | v j =>
      show some (decide ((i : Int) = j)) = _
      congr 1
      by_cases h : i = j
      · subst h; simp
      · rw [decide_eq_false (by omega), decide_eq_false (by intro e; cases e; exact h rfl)]
    | f y us => exact g
  | f x ts => cases t with
    | v j => exact g
    | f y us => exact g
theorem eq_enc {s t : T} (hs : ok s) (ht' : ok t) (h1 : ht s ≤ 64) (h2 : ht t ≤ 64) : cmpop .eq (enc s) (enc t) = some (decide (s = t)) := eqop_enc hs ht' h1 h2
theorem ne_enc {s t : T} (hs : ok s) (ht' : ok t) (h1 : ht s ≤ 64) (h2 : ht t ≤ 64) : cmpop .ne (enc s) (enc t) = some (!decide (s = t)) := by
  show (eqop (enc s) (enc t)).map not = _
  rw [eqop_enc hs ht' h1 h2]
  rfl
mutual
theorem eqv_refl : ∀ (d : PyData), PyData.canLay0 d = true → PyData.eqv d d = true
  | .none, _ => rfl
  | .bool b, _ => by simp [PyData.eqv]
  | .int i, _ => by simp [PyData.eqv]
  | .str x, _ => by simp [PyData.eqv]
  | .list xs, h => by
    show PyData.eqvAll xs xs = true
    exact eqvAll_refl xs h
  | .tuple xs, h => by
    show PyData.eqvAll xs xs = true
    exact eqvAll_refl xs h
  | .dict _, h => by cases h
theorem eqvAll_refl : ∀ (ds : List PyData), PyData.canLayAll0 ds = true → PyData.eqvAll ds ds = true
  | [], _ => rfl
  | d :: ds, h => by
    have h' : (PyData.canLay0 d && PyData.canLayAll0 ds) = true := h
    rw [Bool.and_eq_true] at h'
    show (PyData.eqv d d && PyData.eqvAll ds ds) = true
    rw [eqv_refl d h'.1, eqvAll_refl ds h'.2]
    rfl
end
theorem eqop_self {d : D} {b : Nat} (h : lay b d) (hb : b ≤ 64) : eqop d d = some true := by
  have g : (if eqOk d d = true then some (deq d d) else none) = some true := by
    unfold eqOk
    rw [lay_shaped h hb]
    show some (PyData.eqv (toP d) (toP d)) = _
    rw [eqv_refl _ h.1]
  cases d <;> first | exact g | (simp [eqop]; done)
theorem ne_self {d : D} {b : Nat} (h : lay b d) (hb : b ≤ 64) : cmpop .ne d d = some false := by
  show (eqop d d).map not = _
  rw [eqop_self h hb]
  rfl
/-! putting in -/
mutual
def psub (F : Nat → T) : T → T
  | .v i => F i
  | .f x ts => .f x (psubs F ts)
def psubs (F : Nat → T) : List T → List T
  | [] => []
  | t :: ts => psub F t :: psubs F ts
end
theorem psubs_map (F : Nat → T) : ∀ ts : List T, psubs F ts = ts.map (psub F)
  | [] => rfl
  | t :: ts => by rw [psubs, psubs_map F ts]; rfl
mutual
theorem psub_comp (F G K : Nat → T) (h : ∀ i, K i = psub G (F i)) : ∀ t, psub K t = psub G (psub F t)
  | .v i => h i
  | .f x ts => by
    show T.f x (psubs K ts) = T.f x (psubs G (psubs F ts))
    rw [psubs_comp F G K h ts]
theorem psubs_comp (F G K : Nat → T) (h : ∀ i, K i = psub G (F i)) : ∀ ts, psubs K ts = psubs G (psubs F ts)
  | [] => rfl
  | t :: ts => by
    show psub K t :: psubs K ts = psub G (psub F t) :: psubs G (psubs F ts)
    rw [psub_comp F G K h t, psubs_comp F G K h ts]
end
mutual
theorem psub_ok (F : Nat → T) (hF : ∀ i, i < 100000 → ok (F i)) : ∀ t, ok t → ok (psub F t)
  | .v i, h => hF i h
  | .f x ts, h => by
    rw [ok] at h
    show ok (T.f x (psubs F ts))
    rw [ok]
    refine ⟨h.1, h.2.1, by rw [psubs_map, List.length_map]; exact h.2.2.1, psubs_ok F hF ts h.2.2.2⟩
theorem psubs_ok (F : Nat → T) (hF : ∀ i, i < 100000 → ok (F i)) : ∀ ts, oks ts → oks (psubs F ts)
  | [], _ => trivial
  | t :: ts, h => ⟨psub_ok F hF t h.1, psubs_ok F hF ts h.2⟩
end
mutual
theorem psub_ht (F : Nat → T) (b : Nat) (hF : ∀ i, ht (F i) ≤ b) : ∀ t, ht (psub F t) ≤ ht t + b
  | .v i => by rw [psub, ht, Nat.zero_add]; exact hF i
  | .f x ts => by
    rw [psub, ht, ht]
    have := psubs_ht F b hF ts
    omega
theorem psubs_ht (F : Nat → T) (b : Nat) (hF : ∀ i, ht (F i) ≤ b) : ∀ ts, hts (psubs F ts) ≤ hts ts + b
  | [] => by rw [psubs, hts]; exact Nat.zero_le _
  | t :: ts => by
    rw [psubs, hts, hts]
    have := psub_ht F b hF t
    have := psubs_ht F b hF ts
    omega
end
mutual
theorem psub_sz (F : Nat → T) (b : Nat) (h1 : 1 ≤ b) (hF : ∀ i, sz (F i) ≤ b) : ∀ t, sz (psub F t) ≤ sz t * b
  | .v i => by rw [psub, sz, Nat.one_mul]; exact hF i
  | .f x ts => by
    rw [psub, sz, sz, Nat.add_mul, Nat.one_mul]
    have := psubs_sz F b h1 hF ts
    omega
theorem psubs_sz (F : Nat → T) (b : Nat) (h1 : 1 ≤ b) (hF : ∀ i, sz (F i) ≤ b) : ∀ ts, szs (psubs F ts) ≤ szs ts * b
  | [] => by rw [psubs, szs]; omega
  | t :: ts => by
    rw [psubs, szs, szs, Nat.add_mul]
    have := psub_sz F b h1 hF t
    have := psubs_sz F b h1 hF ts
    omega
end
/-! tables of terms -/
abbrev KT := List (Nat × T)
def lk : KT → Nat → Option T
  | [], _ => none
  | (k, t) :: r, i => if k = i then some t else lk r i
def asF (kvs : KT) (i : Nat) : T := (lk kvs i).getD (.v i)
def encK (kvs : KT) : List (L2.Key × D) := kvs.map fun p => (.inl ((p.1 : Nat) : Int), enc p.2)
theorem inl_iff {a b : Nat} : ((Sum.inl ((a : Nat) : Int) : L2.Key) = Sum.inl ((b : Nat) : Int)) ↔ a = b := by
  constructor
  · intro h; injection h with h; omega
  · intro h; rw [h]
theorem getK_enc (i : Nat) : ∀ kvs : KT, getK (encK kvs) (.inl ((i : Nat) : Int)) = (lk kvs i).map enc
  | [] => rfl
  | (k, t) :: r => by
    show (if (Sum.inl ((k : Nat) : Int) : L2.Key) = .inl ((i : Nat) : Int) then some (enc t) else getK (encK r) _) = (if k = i then some t else lk r i).map enc
    by_cases h : k = i
    · rw [if_pos (inl_iff.mpr h), if_pos h]; rfl
    · rw [if_neg (fun z => h (inl_iff.mp z)), if_neg h, getK_enc i r]
def ins (kvs : KT) (k : Nat) (t : T) : KT := match kvs.any fun p => decide (p.1 = k) with
  | true => kvs.map fun p => if p.1 = k then (p.1, t) else p
  | false => kvs ++ [(k, t)]
theorem any_enc (k : Nat) : ∀ kvs : KT, ((encK kvs).any fun p => decide (p.1 = .inl ((k : Nat) : Int))) = kvs.any fun p => decide (p.1 = k)
  | [] => rfl
  | (j, t) :: r => by
    show (decide ((Sum.inl ((j : Nat) : Int) : L2.Key) = .inl ((k : Nat) : Int)) || (encK r).any _) = (decide (j = k) || r.any _)
    rw [any_enc k r]
    congr 1
    by_cases h : j = k
    · rw [decide_eq_true (inl_iff.mpr h), decide_eq_true h]
    · rw [decide_eq_false (fun z => h (inl_iff.mp z)), decide_eq_false h]
theorem map_enc (k : Nat) (t : T) : ∀ kvs : KT, ((encK kvs).map fun p => if p.1 = .inl ((k : Nat) : Int) then (p.1, enc t) else p) = encK (kvs.map fun p => if p.1 = k then (p.1, t) else p)
  | [] => rfl
  | (j, u) :: r => by
    show (if (Sum.inl ((j : Nat) : Int) : L2.Key) = .inl ((k : Nat) : Int) then _ else _) :: (encK r).map _ = encK ((if j = k then (j, t) else (j, u)) :: r.map _)
    rw [map_enc k t r]
    by_cases h : j = k
    · rw [if_pos (inl_iff.mpr h), if_pos h]; rfl
    · rw [if_neg (fun z => h (inl_iff.mp z)), if_neg h]; rfl
theorem putK_enc (kvs : KT) (k : Nat) (t : T) : putK (encK kvs) (.inl ((k : Nat) : Int)) (enc t) = encK (ins kvs k t) := by
  unfold putK ins
  rw [any_enc]
  cases kvs.any fun p => decide (p.1 = k) with
  | true => exact map_enc k t kvs
  | false =>
    show encK kvs ++ [_] = encK (kvs ++ [(k, t)])
    unfold encK
    rw [List.map_append]
    rfl
theorem lk_app (k : Nat) (t : T) (j : Nat) : ∀ kvs : KT, (kvs.any fun p => decide (p.1 = k)) = false → lk (kvs ++ [(k, t)]) j = if k = j then some t else lk kvs j
  | [], _ => rfl
  | (a, u) :: r, h => by
    simp only [List.any_cons, Bool.or_eq_false_iff, decide_eq_false_iff_not] at h
    show (if a = j then some u else lk (r ++ [(k, t)]) j) = if k = j then some t else if a = j then some u else lk r j
    rw [lk_app k t j r (by simpa using h.2)]
    by_cases h1 : a = j
    · rw [if_pos h1, if_pos h1, if_neg (fun z => h.1 (by omega))]
    · rw [if_neg h1, if_neg h1]
theorem lk_map (k : Nat) (t : T) (j : Nat) : ∀ kvs : KT, (kvs.any fun p => decide (p.1 = k)) = true → lk (kvs.map fun p => if p.1 = k then (p.1, t) else p) j = if k = j then some t else lk kvs j
  | [], h => by cases h
  | (a, u) :: r, h => by
    have hm : lk (r.map fun p => if p.1 = k then (p.1, t) else p) j = if (r.any fun p => decide (p.1 = k)) = true then (if k = j then some t else lk r j) else lk r j := by
      cases hr : r.any fun p => decide (p.1 = k) with
      | true => rw [lk_map k t j r hr]; rfl
      | false =>
        have : (r.map fun p => if p.1 = k then (p.1, t) else p) = r := by
          refine (List.map_congr_left fun p hp => ?_).trans (List.map_id r)
          have := List.any_eq_false.mp hr p hp
          rw [if_neg (by simpa using this)]
          rfl
        rw [this]; rfl
    show lk ((if a = k then (a, t) else (a, u)) :: r.map _) j = if k = j then some t else if a = j then some u else lk r j
    by_cases h1 : a = k
    · subst h1
      rw [if_pos rfl]
      show (if a = j then some t else lk (r.map _) j) = _
      by_cases h2 : a = j
      · rw [if_pos h2, if_pos h2]
      · rw [if_neg h2, if_neg h2, if_neg h2, hm, if_neg h2]
        split <;> rfl
    · rw [if_neg h1]
      show (if a = j then some u else lk (r.map _) j) = _
      have hr : (r.any fun p => decide (p.1 = k)) = true := by
        rw [List.any_cons, decide_eq_false h1, Bool.false_or] at h
        exact h
      by_cases h2 : a = j
      · rw [if_pos h2, if_pos h2, if_neg (by omega)]
      · rw [if_neg h2, if_neg h2, hm, if_pos hr]
theorem lk_ins (kvs : KT) (k : Nat) (t : T) (j : Nat) : lk (ins kvs k t) j = if k = j then some t else lk kvs j := by
  unfold ins
  cases h : kvs.any fun p => decide (p.1 = k) with
  | true => exact lk_map k t j kvs h
  | false => exact lk_app k t j kvs h
theorem ins_mem {kvs : KT} {k : Nat} {t : T} {p : Nat × T} (h : p ∈ ins kvs k t) : p ∈ kvs ∨ p = (k, t) := by
  unfold ins at h
  split at h
  · obtain ⟨q, hq, e⟩ := List.mem_map.mp h
    split at e
    · rename_i hk
      rw [← e, hk]; exact .inr rfl
    · rw [← e]; exact .inl hq
  · rcases List.mem_append.mp h with z | z
    · exact .inl z
    · exact .inr (List.mem_singleton.mp z)
theorem ins_len (kvs : KT) (k : Nat) (t : T) : (ins kvs k t).length ≤ kvs.length + 1 := by
  unfold ins
  split
  · rw [List.length_map]; omega
  · rw [List.length_append]; simp
/-- the table of pairs: later ones win -/
def merge : KT → KT → KT
  | acc, [] => acc
  | acc, (k, t) :: r => merge (ins acc k t) r
theorem mergeD_enc : ∀ (ps acc : KT), mergeD (encK acc) (encK ps) = encK (merge acc ps)
  | [], acc => rfl
  | (k, t) :: r, acc => by
    show mergeD (putK (encK acc) (.inl ((k : Nat) : Int)) (enc t)) (encK r) = _
    rw [putK_enc, mergeD_enc r]
    rfl
theorem merge_len : ∀ (ps acc : KT), (merge acc ps).length ≤ acc.length + ps.length
  | [], acc => Nat.le_refl _
  | (k, t) :: r, acc => by
    have h1 := merge_len r (ins acc k t)
    have h2 := ins_len acc k t
    show (merge (ins acc k t) r).length ≤ _
    rw [List.length_cons]
    omega
theorem merge_mem : ∀ (ps acc : KT) {p : Nat × T}, p ∈ merge acc ps → p ∈ acc ∨ p ∈ ps
  | [], acc, p, h => .inl h
  | (k, t) :: r, acc, p, h => by
    rcases merge_mem r (ins acc k t) h with z | z
    · rcases ins_mem z with w | w
      · exact .inl w
      · exact .inr (by simp [w])
    · exact .inr (by simp [z])
theorem lk_mem : ∀ {kvs : KT} {i : Nat} {t : T}, lk kvs i = some t → (i, t) ∈ kvs
  | (k, u) :: r, i, t, h => by
    unfold lk at h
    split at h
    · rename_i hk
      cases h; rw [hk]; simp
    · exact List.mem_cons_of_mem _ (lk_mem h)
theorem mem_lk : ∀ {kvs : KT} {i : Nat} {t : T}, (i, t) ∈ kvs → ∃ u, lk kvs i = some u
  | (k, u) :: r, i, t, h => by
    unfold lk
    split
    · exact ⟨_, rfl⟩
    · rename_i hk
      rcases List.mem_cons.mp h with z | z
      · cases z; exact absurd rfl hk
      · exact mem_lk z
theorem merge_some : ∀ (ps acc : KT) (i : Nat) (t : T), lk (merge acc ps) i = some t → (i, t) ∈ ps ∨ (lk acc i = some t ∧ ∀ u, (i, u) ∉ ps)
  | [], acc, i, t, h => .inr ⟨h, fun _ z => by cases z⟩
  | (k, u) :: r, acc, i, t, h => by
    rcases merge_some r (ins acc k u) i t h with z | ⟨z, n⟩
    · exact .inl (by simp [z])
    · rw [lk_ins] at z
      split at z
      · rename_i hk
        cases z
        exact .inl (by simp [hk])
      · rename_i hk
        exact .inr ⟨z, fun w hw => by
          rcases List.mem_cons.mp hw with q | q
          · cases q; exact hk rfl
          · exact n w q⟩
theorem merge_none : ∀ (ps acc : KT) (i : Nat), lk (merge acc ps) i = none → lk acc i = none ∧ ∀ u, (i, u) ∉ ps
  | [], acc, i, h => ⟨h, fun _ z => by cases z⟩
  | (k, u) :: r, acc, i, h => by
    obtain ⟨z, n⟩ := merge_none r (ins acc k u) i h
    rw [lk_ins] at z
    split at z
    · cases z
    · rename_i hk
      exact ⟨z, fun w hw => by
        rcases List.mem_cons.mp hw with q | q
        · cases q; exact hk rfl
        · exact n w q⟩
/-- a row of pairs as data -/
def kvD (p : Nat × T) : D := .tup [.int ((p.1 : Nat) : Int), enc p.2]
def encP (ps : KT) : D := .tup (ps.map kvD)
theorem pairsK_enc : ∀ ps : KT, pairsK (ps.map kvD) = some (encK ps)
  | [] => rfl
  | (k, t) :: r => by
    show ((keyOf (.int ((k : Nat) : Int))).bind fun k => (pairsK (r.map kvD)).map ((k, enc t) :: ·)) = _
    rw [pairsK_enc r]
    rfl
theorem dict_enc (ps : KT) : bltop .dict [encP ps] = some (true, .dct (encK (merge [] ps))) := by
  show (pairsK (ps.map kvD)).map _ = _
  rw [pairsK_enc]
  show some (true, D.dct (mergeD (encK []) (encK ps))) = _
  rw [mergeD_enc]
theorem keysI_enc : ∀ kvs : KT, keysI (encK kvs) = some (kvs.map fun p => ((p.1 : Nat) : Int))
  | [] => rfl
  | (k, t) :: r => by
    show (keysI (encK r)).map _ = _
    rw [keysI_enc r]
    rfl
theorem insI_mem {i x : Int} : ∀ {l : List Int}, x ∈ insI i l ↔ x = i ∨ x ∈ l
  | [] => by simp [insI]
  | j :: r => by
    unfold insI
    split
    · simp
    · rw [List.mem_cons, insI_mem, List.mem_cons]
      constructor <;> rintro (h | h | h) <;> simp [h]
theorem sortI_mem {x : Int} : ∀ {l : List Int}, x ∈ sortI l ↔ x ∈ l
  | [] => by simp [sortI]
  | i :: r => by rw [sortI, insI_mem, sortI_mem, List.mem_cons]
theorem insI_len {i : Int} : ∀ {l : List Int}, (insI i l).length = l.length + 1
  | [] => rfl
  | j :: r => by
    unfold insI
    split
    · rfl
    · rw [List.length_cons, insI_len, List.length_cons]
theorem sortI_len : ∀ {l : List Int}, (sortI l).length = l.length
  | [] => rfl
  | i :: r => by rw [sortI, insI_len, sortI_len, List.length_cons]
/-- the substitution that a table tells: its keys in order, but those that stay -/
def prs (kvs : KT) : KT := ((sortI (kvs.map fun p => ((p.1 : Nat) : Int))).filter fun i => decide (asF kvs i.toNat ≠ .v i.toNat)).map fun i => (i.toNat, asF kvs i.toNat)
theorem prs_mem {kvs : KT} {p : Nat × T} : p ∈ prs kvs ↔ lk kvs p.1 = some p.2 ∧ p.2 ≠ .v p.1 := by
  unfold prs
  rw [List.mem_map]
  constructor
  · rintro ⟨i, hi, rfl⟩
    obtain ⟨h1, h2⟩ := List.mem_filter.mp hi
    rw [sortI_mem, List.mem_map] at h1
    obtain ⟨q, hq, rfl⟩ := h1
    obtain ⟨u, hu⟩ := mem_lk (show (q.1, q.2) ∈ kvs from hq)
    have e : asF kvs q.1 = u := by unfold asF; rw [hu]; rfl
    simp only [Int.toNat_natCast, e] at h2 ⊢
    exact ⟨hu, by simpa using h2⟩
  · rintro ⟨h1, h2⟩
    have e : asF kvs p.1 = p.2 := by unfold asF; rw [h1]; rfl
    refine ⟨((p.1 : Nat) : Int), List.mem_filter.mpr ⟨?_, ?_⟩, ?_⟩
    · rw [sortI_mem, List.mem_map]
      exact ⟨(p.1, p.2), lk_mem h1, rfl⟩
    · simp only [Int.toNat_natCast, e]
      simpa using h2
    · simp only [Int.toNat_natCast, e]
theorem prs_len (kvs : KT) : (prs kvs).length ≤ kvs.length := by
  unfold prs
  rw [List.length_map]
  refine Nat.le_trans (List.length_filter_le _ _) ?_
  rw [sortI_len, List.length_map]
  exact Nat.le_refl _
theorem prs_asF (kvs : KT) (i : Nat) : asF (merge [] (prs kvs)) i = asF kvs i := by
  unfold asF
  cases h : lk (merge [] (prs kvs)) i with
  | some t =>
    rcases merge_some _ _ _ _ h with z | ⟨z, _⟩
    · rw [(prs_mem.mp z).1]
    · cases z
  | none =>
    obtain ⟨_, n⟩ := merge_none _ _ _ h
    cases g : lk kvs i with
    | none => rfl
    | some t =>
      by_cases e : t = .v i
      · rw [e]; rfl
      · exact absurd (prs_mem.mpr ⟨g, e⟩) (n t)
/-- first one, then other: the table -/
def after (F : Nat → T) : KT → KT → KT
  | acc, [] => acc
  | acc, (k, t) :: r => after F (ins acc k (psub F t)) r
theorem after_lk (F : Nat → T) (base : KT) : ∀ (one acc m : KT), (∀ i, lk acc i = match lk m i with | some t => some (psub F t) | none => lk base i) →
    ∀ i, lk (after F acc one) i = match lk (merge m one) i with | some t => some (psub F t) | none => lk base i
  | [], acc, m, h, i => h i
  | (k, t) :: r, acc, m, h, i => by
    show lk (after F (ins acc k (psub F t)) r) i = match lk (merge (ins m k t) r) i with | some t => some (psub F t) | none => lk base i
    refine after_lk F base r _ _ (fun j => ?_) i
    rw [lk_ins, lk_ins]
    split
    · rfl
    · exact h j
theorem after_psub (one base : KT) (t : T) : psub (asF (after (asF base) base one)) t = psub (asF base) (psub (asF (merge [] one)) t) := by
  refine psub_comp (asF (merge [] one)) (asF base) _ (fun i => ?_) t
  have h := after_lk (asF base) base one base [] (fun j => rfl) i
  unfold asF at h ⊢
  rw [h]
  cases g : lk (merge [] one) i with
  | some u => rfl
  | none => rfl
theorem after_mem (F : Nat → T) : ∀ (one acc : KT) {p : Nat × T}, p ∈ after F acc one → p ∈ acc ∨ ∃ q ∈ one, p = (q.1, psub F q.2)
  | [], acc, p, h => .inl h
  | (k, t) :: r, acc, p, h => by
    rcases after_mem F r _ h with z | ⟨q, hq, e⟩
    · rcases ins_mem z with w | w
      · exact .inl w
      · exact .inr ⟨(k, t), by simp, w⟩
    · exact .inr ⟨q, by simp [hq], e⟩
theorem after_len (F : Nat → T) : ∀ (one acc : KT), (after F acc one).length ≤ acc.length + one.length
  | [], acc => Nat.le_refl _
  | (k, t) :: r, acc => by
    have h1 := after_len F r (ins acc k (psub F t))
    have h2 := ins_len acc k (psub F t)
    show (after F (ins acc k (psub F t)) r).length ≤ _
    rw [List.length_cons]
    omega
/-! the variables of a term, from the left -/
mutual
def vars : T → List Nat
  | .v i => [i]
  | .f _ ts => varss ts
def varss : List T → List Nat
  | [] => []
  | t :: ts => vars t ++ varss ts
end
mutual
theorem vars_len : ∀ t : T, (vars t).length ≤ sz t
  | .v i => Nat.le_refl _
  | .f x ts => by
    rw [vars, sz]
    have := varss_len ts
    omega
theorem varss_len : ∀ ts : List T, (varss ts).length ≤ szs ts
  | [] => Nat.le_refl _
  | t :: ts => by
    rw [varss, szs, List.length_append]
    have := vars_len t
    have := varss_len ts
    omega
end
theorem varss_app : ∀ (ts : List T) (t : T), varss (ts ++ [t]) = varss ts ++ vars t
  | [], t => by simp [varss]
  | u :: ts, t => by
    rw [List.cons_append, varss, varss, varss_app ts t, List.append_assoc]
end Tm
/-! TmS: how long a term is when it is shown. -/
namespace Tm
open PySem Iv
def Sh (d : PyData) (n : Nat) : Prop := d.showable = true ∧ d.shown.length ≤ n
def Shs (ds : List PyData) (n : Nat) : Prop := PyData.showableAll ds = true ∧ piled (PyData.shownAll ds) ≤ n
theorem tupleText_le (ts : List Str) : (tupleText ts).length ≤ piled ts + 3 := by
  unfold tupleText
  rw [strLen_append, strLen_append]
  have e1 : ((("(" : String) : Str)).length = 1 := rfl
  have e3 : (((if ts.length == 1 then ",)" else ")" : String) : Str)).length ≤ 2 := by split <;> decide
  rw [e1]
  by_cases h : ts = []
  · subst h
    have : (Str.join ", " []).length = 0 := rfl
    omega
  · have := join_length_add ts h
    omega
theorem Sh_tup {ds : List PyData} {n : Nat} (h : Shs ds n) : Sh (.tuple ds) (n + 3) := by
  refine ⟨by simpa only [PyData.showable] using h.1, ?_⟩
  simp only [PyData.shown]
  have := tupleText_le (PyData.shownAll ds)
  have := h.2
  omega
theorem Shs_nil : Shs [] 0 := ⟨by simp only [PyData.showableAll], Nat.le_refl _⟩
theorem Shs_cons {d : PyData} {ds : List PyData} {m n : Nat} (h : Sh d m) (hs : Shs ds n) : Shs (d :: ds) (m + 2 + n) := by
  refine ⟨by simp only [PyData.showableAll, h.1, hs.1, Bool.and_self], ?_⟩
  simp only [PyData.shownAll]
  rw [piled_cons]
  have := h.2
  have := hs.2
  omega
theorem Sh_int {i : Nat} (h : i < 1000000000) : Sh (.int ((i : Nat) : Int)) 9 := by
  constructor
  · simp only [PyData.showable, decide_eq_true_eq, Int.natAbs_natCast]
    by_cases h0 : i = 0
    · subst h0; decide
    · have := (Nat.log2_lt h0 (k := 1920)).mpr (Nat.lt_of_lt_of_le h (Nat.le_trans (by decide : 1000000000 ≤ 2 ^ 30) (Nat.pow_le_pow_right (by decide) (by decide))))
      exact this
  · simp only [PyData.shown]
    exact PyProof.Rows.toString_length_le (Int.natCast_nonneg i) (by decide) (by omega)
theorem Sh_str {x : Str} (h : PyData.canLay0 (.str x) = true) (hl : x.length ≤ 4) : Sh (.str x) 42 := by
  refine ⟨by simp only [PyData.showable], ?_⟩
  simp only [PyData.shown]
  have hc : ∀ c ∈ x.cps.toList, c < 16 ^ 8 := fun c hc => by
    have h' : PyData.strOk x = true := by simpa only [PyData.canLay0] using h
    unfold PyData.strOk at h'
    have := Array.all_eq_true_iff_forall_mem.mp h' c (Array.mem_toList_iff.mp hc)
    have : c < 0x110000 := by simpa using this
    omega
  have := StrLaws.reprText_len x hc
  omega
mutual
theorem Sh_enc : ∀ t : T, ok t → (toP (enc t)).showable = true ∧ (toP (enc t)).shown.length + 2 ≤ 60 * sz t
  | .v i, h => by
    have h := Sh_int (i := i) (by rw [ok] at h; omega)
    refine ⟨h.1, ?_⟩
    have := h.2
    show _ + 2 ≤ 60 * 1
    have e : toP (enc (.v i)) = .int ((i : Nat) : Int) := rfl
    rw [e]
    omega
  | .f x ts, h => by
    rw [ok] at h
    have h1 := Shs_enc ts h.2.2.2
    have h2 := Sh_tup (Shs_cons (Sh_str h.1 h.2.1) h1)
    have e : toP (enc (.f x ts)) = .tuple (.str x :: toPs (encs ts)) := rfl
    rw [e, sz]
    refine ⟨h2.1, ?_⟩
    have := h2.2
    omega
theorem Shs_enc : ∀ ts : List T, oks ts → Shs (toPs (encs ts)) (60 * szs ts)
  | [], _ => Shs_nil
  | t :: ts, h => by
    obtain ⟨h1, h2⟩ := Sh_enc t h.1
    have h3 := Shs_enc ts h.2
    refine ⟨?_, ?_⟩
    · show (PyData.showable (toP (enc t)) && PyData.showableAll (toPs (encs ts))) = true
      rw [h1, h3.1]; rfl
    · show piled ((toP (enc t)).shown :: PyData.shownAll (toPs (encs ts))) ≤ _
      rw [piled_cons, szs]
      have := h3.2
      omega
end
theorem Shs_kv {b : Nat} : ∀ ps : KT, (∀ p ∈ ps, p.1 < 100000 ∧ ok p.2 ∧ sz p.2 ≤ b) → Shs (toPs (ps.map kvD)) (ps.length * (60 * b + 20))
  | [], _ => by rw [List.length_nil, Nat.zero_mul]; exact Shs_nil
  | p :: ps, h => by
    obtain ⟨h1, h2, h3⟩ := h p (by simp)
    have hs := Shs_kv ps fun q hq => h q (by simp [hq])
    obtain ⟨g1, g2⟩ := Sh_enc p.2 h2
    have gi := Sh_int (i := p.1) (by omega)
    have gp : Sh (toP (kvD p)) (60 * b + 18) := by
      have : toP (kvD p) = .tuple [.int ((p.1 : Nat) : Int), toP (enc p.2)] := rfl
      rw [this]
      have q := Sh_tup (Shs_cons gi (Shs_cons ⟨g1, Nat.le_refl _⟩ Shs_nil))
      refine ⟨q.1, Nat.le_trans q.2 ?_⟩
      have : 60 * sz p.2 ≤ 60 * b := Nat.mul_le_mul_left _ h3
      omega
    have := Shs_cons gp hs
    rw [List.length_cons, Nat.succ_mul]
    refine ⟨this.1, Nat.le_trans this.2 (by omega)⟩
/-- a row of pairs may be shown -/
theorem show_kv {ps : KT} {b : Nat} (h : ∀ p ∈ ps, p.1 < 100000 ∧ ok p.2 ∧ sz p.2 ≤ b ∧ ht p.2 ≤ 60) (hl : ps.length ≤ 100) (hb : b ≤ 1000) : showOk (encP ps) = true := by
  have h1 := Sh_tup (Shs_kv (b := b) ps fun p hp => ⟨(h p hp).1, (h p hp).2.1, (h p hp).2.2.1⟩)
  have h2 : lay 62 (encP ps) := lay_tup (b := 61) fun x hx => by
    obtain ⟨p, hp, rfl⟩ := List.mem_map.mp hx
    refine lay_tup (b := 60) fun y hy => ?_
    simp only [List.mem_cons, List.not_mem_nil, or_false] at hy
    rcases hy with rfl | rfl
    · exact lay_mono (lay_int _) (by decide)
    · exact lay_mono (enc_lay p.2 (h p hp).2.1) (h p hp).2.2.2
  have e : toP (encP ps) = .tuple (toPs (ps.map kvD)) := rfl
  have h3 : ps.length * (60 * b + 20) ≤ 100 * (60 * 1000 + 20) := Nat.mul_le_mul hl (by omega)
  unfold showOk
  rw [lay_shaped h2 (by decide), e, h1.1]
  show (true && true && true && decide _) = true
  rw [decide_eq_true (Nat.le_trans h1.2 (Nat.le_trans (Nat.add_le_add_right h3 3) (by decide)))]
  rfl

end Tm
/-! TmP: paths of terms, what stands there, what is put there. No program here. -/
namespace Tm
open PySem Iv
def natD (k : Nat) : D := .int ((k : Nat) : Int)
def pathD (ks : List Nat) : D := .tup (ks.map natD)
def atT : List Nat → T → Option T
  | [], t => some t
  | _ :: _, .v _ => none
  | k :: ks, .f _ ts => match ts[k]? with
    | some t => atT ks t
    | none => none
def putT : List Nat → T → T → T
  | [], _, n => n
  | _ :: _, .v i, _ => .v i
  | k :: ks, .f x ts, n => match ts[k]? with
    | some t => .f x (ts.set k (putT ks t n))
    | none => .f x ts
theorem at_cons {t r : T} {k : Nat} {ks : List Nat} (h : atT (k :: ks) t = some r) : ∃ x ts u, t = .f x ts ∧ ts[k]? = some u ∧ atT ks u = some r := by
  cases t with
  | v i => cases h
  | f x ts =>
    simp only [atT] at h
    split at h
    · exact ⟨x, ts, _, rfl, ‹_›, h⟩
    · cases h
theorem at_app : ∀ (ks : List Nat) (t r : T) (js : List Nat), atT (ks ++ js) t = some r → ∃ m, atT ks t = some m ∧ atT js m = some r
  | [], t, r, js, h => ⟨t, rfl, h⟩
  | k :: ks, t, r, js, h => by
    obtain ⟨x, ts, u, rfl, hu, hs⟩ := at_cons (show atT (k :: (ks ++ js)) t = some r from h)
    obtain ⟨m, h1, h2⟩ := at_app ks u r js hs
    exact ⟨m, by simp only [atT, hu, h1], h2⟩
mutual
def pths : T → List (List Nat)
  | .v _ => [[]]
  | .f _ ts => [] :: pthss 0 ts
def pthss : Nat → List T → List (List Nat)
  | _, [] => []
  | k, t :: ts => (pths t).map (k :: ·) ++ pthss (k + 1) ts
end
mutual
theorem len_pths : ∀ t : T, (pths t).length = sz t
  | .v _ => rfl
  | .f _ ts => by
    simp only [pths, sz, List.length_cons, len_pthss 0 ts]
    omega
theorem len_pthss : ∀ (k : Nat) (ts : List T), (pthss k ts).length = szs ts
  | _, [] => rfl
  | k, t :: ts => by simp only [pthss, szs, List.length_append, List.length_map, len_pths t, len_pthss (k + 1) ts]
end
theorem pthss_snoc : ∀ (k : Nat) (ts : List T) (t : T), pthss k (ts ++ [t]) = pthss k ts ++ (pths t).map ((k + ts.length) :: ·)
  | k, [], t => by simp [pthss]
  | k, e :: ts, t => by
    simp only [List.cons_append, pthss, pthss_snoc (k + 1) ts t, List.append_assoc, List.length_cons]
    rw [show k + 1 + ts.length = k + (ts.length + 1) by omega]
mutual
theorem mem_pths : ∀ (t : T) (ks : List Nat), ks ∈ pths t → ∃ r, atT ks t = some r ∧ ks.length ≤ ht t
  | .v _, ks, h => by
    simp only [pths, List.mem_singleton] at h
    subst h
    exact ⟨_, rfl, Nat.le_refl _⟩
  | .f x ts, ks, h => by
    simp only [pths, List.mem_cons] at h
    rcases h with rfl | h
    · exact ⟨_, rfl, Nat.zero_le _⟩
    · obtain ⟨k, js, t, rfl, hk, q⟩ := mem_pthss 0 ts ks h
      obtain ⟨r, q1, q2⟩ := q
      rw [Nat.zero_add]
      refine ⟨r, by simp only [atT, hk, q1], ?_⟩
      rw [ht, List.length_cons]
      omega
theorem mem_pthss : ∀ (k : Nat) (ts : List T) (ks : List Nat), ks ∈ pthss k ts → ∃ j js t, ks = (k + j) :: js ∧ ts[j]? = some t ∧ ∃ r, atT js t = some r ∧ js.length ≤ hts ts
  | _, [], _, h => by simp [pthss] at h
  | k, t :: ts, ks, h => by
    simp only [pthss, List.mem_append, List.mem_map] at h
    rcases h with ⟨js, hj, rfl⟩ | h
    · obtain ⟨r, q1, q2⟩ := mem_pths t js hj
      exact ⟨0, js, t, rfl, rfl, r, q1, by rw [hts]; omega⟩
    · obtain ⟨j, js, u, rfl, hu, r, q1, q2⟩ := mem_pthss (k + 1) ts ks h
      exact ⟨j + 1, js, u, by rw [show k + 1 + j = k + (j + 1) by omega], hu, r, q1, by rw [hts]; omega⟩
end
theorem at_put : ∀ (ks : List Nat) (t r n : T), atT ks t = some r → atT ks (putT ks t n) = some n
  | [], _, _, _, _ => rfl
  | k :: ks, t, r, n, h => by
    obtain ⟨x, ts, u, rfl, hu, hs⟩ := at_cons h
    have hk := (List.getElem?_eq_some_iff.mp hu).1
    simp only [putT, hu, atT, List.getElem?_set_self hk]
    exact at_put ks u r n hs
theorem put_back : ∀ (ks : List Nat) (t r n : T), atT ks t = some r → putT ks (putT ks t n) r = t
  | [], _, _, _, h => by cases h; rfl
  | k :: ks, t, r, n, h => by
    obtain ⟨x, ts, u, rfl, hu, hs⟩ := at_cons h
    obtain ⟨hk, he⟩ := List.getElem?_eq_some_iff.mp hu
    simp only [putT, hu, List.getElem?_set_self hk, List.set_set, put_back ks u r n hs]
    rw [← he, List.set_getElem_self]
theorem ok_at : ∀ (ks : List Nat) (t r : T), ok t → atT ks t = some r → ok r ∧ ht r ≤ ht t ∧ sz r ≤ sz t
  | [], t, r, h, e => by cases e; exact ⟨h, Nat.le_refl _, Nat.le_refl _⟩
  | k :: ks, t, r, h, e => by
    obtain ⟨x, ts, u, rfl, hu, hs⟩ := at_cons e
    rw [ok] at h
    have hm := List.mem_of_getElem? hu
    obtain ⟨q1, q2, q3⟩ := ok_at ks u r (oks_iff.mp h.2.2.2 u hm) hs
    have := ht_mem hm
    have := sz_mem hm
    rw [ht, sz]
    exact ⟨q1, by omega, by omega⟩
mutual
theorem ht_sz : ∀ t : T, ht t ≤ sz t
  | .v _ => by show 0 ≤ 1; omega
  | .f _ ts => by
    have := hts_szs ts
    rw [ht, sz]; omega
theorem hts_szs : ∀ ts : List T, hts ts ≤ szs ts
  | [] => Nat.le_refl _
  | t :: ts => by
    have := ht_sz t
    have := hts_szs ts
    rw [hts, szs]; omega
end
theorem szs_set : ∀ (ts : List T) (k : Nat) (u v : T), ts[k]? = some u → szs (ts.set k v) + sz u = szs ts + sz v
  | [], _, _, _, h => by simp at h
  | t :: ts, 0, u, v, h => by
    cases h
    simp only [List.set_cons_zero, szs]
    omega
  | t :: ts, k + 1, u, v, h => by
    have := szs_set ts k u v h
    simp only [List.set_cons_succ, szs]
    omega
theorem ok_put : ∀ (ks : List Nat) (t r n : T), ok t → atT ks t = some r → ok n → ok (putT ks t n) ∧ ht (putT ks t n) ≤ ht t + ht n ∧ sz (putT ks t n) + sz r = sz t + sz n
  | [], t, r, n, h, e, hn => by cases e; exact ⟨hn, by show ht n ≤ _; omega, by show sz n + _ = _; omega⟩
  | k :: ks, t, r, n, h, e, hn => by
    obtain ⟨x, ts, u, rfl, hu, hs⟩ := at_cons e
    rw [ok] at h
    have hm := List.mem_of_getElem? hu
    obtain ⟨q1, q2, q3⟩ := ok_put ks u r n (oks_iff.mp h.2.2.2 u hm) hs hn
    have h1 := ht_mem hm
    have h2 := szs_set ts k u (putT ks u n) hu
    simp only [putT, hu]
    rw [ok, ht, ht, sz, sz]
    refine ⟨⟨h.1, h.2.1, by rw [List.length_set]; exact h.2.2.1, oks_iff.mpr fun t ht' => ?_⟩, ?_, by omega⟩
    · rcases List.mem_or_eq_of_mem_set ht' with z | z
      · exact oks_iff.mp h.2.2.2 t z
      · rw [z]; exact q1
    · have : hts (ts.set k (putT ks u n)) ≤ hts ts + ht n := hts_le fun t ht' => by
        rcases List.mem_or_eq_of_mem_set ht' with z | z
        · have := ht_mem z; omega
        · rw [z]; omega
      omega
/-! paths are asked for by == -/
theorem toPs_path : ∀ (ks : List Nat), PyData.canLayAll0 (toPs (ks.map natD)) = true ∧ PyData.depthAll (toPs (ks.map natD)) = 0
  | [] => ⟨rfl, rfl⟩
  | k :: ks => by
    obtain ⟨h1, h2⟩ := toPs_path ks
    constructor
    · show (true && PyData.canLayAll0 (toPs (ks.map natD))) = true
      rw [h1]; rfl
    · show max 0 (PyData.depthAll (toPs (ks.map natD))) = 0
      rw [h2]; rfl
theorem path_shaped (ks : List Nat) : SeqAt.shaped (toP (pathD ks)) = true := by
  obtain ⟨h1, h2⟩ := toPs_path ks
  show (PyData.canLayAll0 (toPs (ks.map natD)) && decide (PyData.depthAll (toPs (ks.map natD)) + 1 ≤ 64)) = true
  rw [h1, h2]; rfl
theorem intsD_map : ∀ (ns : List Int), intsD (ns.map .int) = some ns
  | [] => rfl
  | n :: ns => by simp only [List.map_cons, intsD, intsD_map ns, Option.map_some]
theorem szs_take : ∀ (ts : List T) (j : Nat), szs (ts.take j) ≤ szs ts
  | [], j => by simp
  | t :: ts, 0 => Nat.zero_le _
  | t :: ts, j + 1 => by
    rw [List.take_succ_cons, szs, szs]
    have := szs_take ts j
    omega
theorem sum_sz : ∀ (ts : List T), (ts.map fun t => ((sz t : Nat) : Int)).sum = ((szs ts : Nat) : Int)
  | [] => rfl
  | t :: ts => by
    rw [List.map_cons, List.sum_cons, sum_sz ts, szs]
    omega
theorem sum_run (ts : List T) : bltop .sum [.lst (ts.map fun t => D.int ((sz t : Nat) : Int))] = some (false, .int ((szs ts : Nat) : Int)) := by
  have e : (ts.map fun t => D.int ((sz t : Nat) : Int)) = (ts.map fun t => ((sz t : Nat) : Int)).map .int := by rw [List.map_map]; rfl
  show (intsD _).map _ = _
  rw [e, intsD_map, Option.map_some, sum_sz]
theorem take_snoc {α : Type} {l : List α} {j : Nat} {x : α} (h : l[j]? = some x) : l.take (j + 1) = l.take j ++ [x] := by
  rw [List.take_add_one, h]; rfl
theorem rng_get {a j : Nat} {y : D} (h : (rngD 0 (a : Int))[j]? = some y) : j < a ∧ y = .int ((j : Nat) : Int) := by
  unfold rngD at h
  rw [List.getElem?_map] at h
  obtain ⟨k, hk, rfl⟩ := Option.map_eq_some_iff.mp h
  obtain ⟨hj, e⟩ := List.getElem?_eq_some_iff.mp hk
  rw [List.length_range] at hj
  rw [List.getElem_range] at e
  subst e
  exact ⟨by omega, by rw [Int.zero_add]⟩
theorem enum_get : ∀ (ds : List D) (n j : Nat) (x : D), (enumD n ds)[j]? = some x → ∃ d, ds[j]? = some d ∧ x = .prt [.int ((n + j : Nat) : Int), d]
  | [], _, _, _, h => by simp [enumD] at h
  | d :: ds, n, 0, x, h => by
    simp only [enumD, List.getElem?_cons_zero, Option.some.injEq] at h
    exact ⟨d, rfl, by rw [← h]; rfl⟩
  | d :: ds, n, j + 1, x, h => by
    simp only [enumD, List.getElem?_cons_succ] at h
    obtain ⟨e, h1, h2⟩ := enum_get ds (n + 1) j x h
    refine ⟨e, h1, ?_⟩
    rw [h2, show n + 1 + j = n + (j + 1) by omega]
theorem enum_len : ∀ (ds : List D) (n : Nat), (enumD n ds).length = ds.length
  | [], _ => rfl
  | d :: ds, n => by rw [enumD, List.length_cons, List.length_cons, enum_len ds]
theorem eq_unit (ks : List Nat) : cmpop .eq (pathD ks) (.tup []) = some (decide (ks = [])) := by
  have h1 := path_shaped ks
  have h2 : SeqAt.shaped (toP (.tup [])) = true := rfl
  show (if (SeqAt.shaped (toP (pathD ks)) && SeqAt.shaped (toP (.tup []))) = true then some (deq (pathD ks) (.tup [])) else none) = _
  rw [h1, h2]
  cases ks with
  | nil => rfl
  | cons k ks => rfl
theorem nats_shaped (ks : List Nat) : SeqAt.shaped (toP (.lst (ks.map natD))) = true := by
  obtain ⟨h1, h2⟩ := toPs_path ks
  show (PyData.canLayAll0 (toPs (ks.map natD)) && decide (PyData.depthAll (toPs (ks.map natD)) + 1 ≤ 64)) = true
  rw [h1, h2]; rfl
theorem notin_nats (v : Nat) (l : List Nat) : cmpop .notin (natD v) (.lst (l.map natD)) = some (!decide (v ∈ l)) := by
  have e : inop (natD v) (.lst (l.map natD)) (l.map natD) = some ((l.map natD).any fun z => deq z (natD v)) := by
    unfold inop
    rw [if_pos ⟨rfl, nats_shaped l⟩]
  show (inop _ _ _).map not = _
  rw [e, Option.map_some, List.any_map]
  congr 2
  rw [Bool.eq_iff_iff, List.any_eq_true, decide_eq_true_eq]
  constructor
  · rintro ⟨k, hk, h⟩
    have h' : (((k : Nat) : Int) == ((v : Nat) : Int)) = true := h
    have : k = v := by have := eq_of_beq h'; omega
    rw [← this]; exact hk
  · intro h
    exact ⟨v, h, by show (((v : Nat) : Int) == ((v : Nat) : Int)) = true; exact beq_self_eq_true _⟩
/-- the numbers of a row, each once, as they come first -/
def once : List Nat → List Nat → List Nat
  | acc, [] => acc
  | acc, v :: vs => once (if v ∈ acc then acc else acc ++ [v]) vs
theorem once_snoc : ∀ (vs acc : List Nat) (v : Nat), once acc (vs ++ [v]) = if v ∈ once acc vs then once acc vs else once acc vs ++ [v]
  | [], acc, v => rfl
  | u :: vs, acc, v => once_snoc vs _ v
theorem once_mem : ∀ (vs acc : List Nat) (k : Nat), k ∈ once acc vs ↔ k ∈ acc ∨ k ∈ vs
  | [], acc, k => by simp [once]
  | v :: vs, acc, k => by
    rw [once, once_mem vs]
    split
    · rename_i h
      rw [List.mem_cons]
      refine ⟨fun q => q.elim .inl fun q => .inr (.inr q), fun q => q.elim .inl fun q => q.elim (fun q => .inl (by rw [q]; exact h)) .inr⟩
    · rw [List.mem_append, List.mem_singleton, List.mem_cons, or_assoc]
theorem once_nodup : ∀ (vs acc : List Nat), acc.Nodup → (once acc vs).Nodup
  | [], _, h => h
  | v :: vs, acc, h => by
    rw [once]
    refine once_nodup vs _ ?_
    split
    · exact h
    · rename_i n
      rw [List.nodup_append]
      exact ⟨h, by simp, fun a ha b hb => by rw [List.mem_singleton] at hb; rw [hb]; exact fun z => n (z ▸ ha)⟩
theorem once_len : ∀ (vs acc : List Nat), (once acc vs).length ≤ acc.length + vs.length
  | [], _ => Nat.le_refl _
  | v :: vs, acc => by
    rw [once, List.length_cons]
    have := once_len vs (if v ∈ acc then acc else acc ++ [v])
    split at this
    · rw [if_pos ‹_›]; omega
    · rw [if_neg ‹_›]; rw [List.length_append, List.length_singleton] at this; omega
theorem nat_inj (l : List Nat) : (l.map fun k => ((k : Nat) : Int)).Nodup ↔ l.Nodup := by
  constructor
  · exact fun h => List.Pairwise.of_map _ (fun a b e z => e (by rw [z])) h
  · exact fun h => List.Pairwise.map _ (fun a b e z => e (by omega)) h
/-- in order, each once: by whatever way -/
theorem once_set (vs : List Nat) : sortI ((once [] vs).map fun k => ((k : Nat) : Int)) = setI (vs.map fun k => ((k : Nat) : Int)) := by
  refine set_one ((sortI_perm _).nodup_iff.mpr ((nat_inj _).mpr (once_nodup vs [] .nil))) (setI_nodup _) (sortI_sorted _) (setI_sorted _) fun k => ?_
  rw [(sortI_perm _).mem_iff, setI_mem, List.mem_map, List.mem_map]
  simp only [once_mem, List.not_mem_nil, false_or]
theorem set_cut {α : Type} {l : List α} {k : Nat} {x : α} (h : k < l.length) : l.take k ++ [x] ++ l.drop (k + 1) = l.set k x := by
  rw [List.set_eq_take_append_cons_drop, if_pos h, List.append_assoc]
  rfl
theorem encs_get {ts : List T} {k : Nat} {t : T} (h : ts[k]? = some t) : (encs ts)[k]? = some (enc t) := by
  rw [encs_map, List.getElem?_map, h]; rfl
theorem encs_set (ts : List T) (k : Nat) (t : T) : (encs ts).set k (enc t) = encs (ts.set k t) := by
  rw [encs_map, encs_map, List.map_set]
end Tm
/-! TmPS: paths are shown; rows of numbers. -/
namespace Tm
open PySem Iv
theorem at_small : ∀ (ks : List Nat) (t r : T), ok t → atT ks t = some r → ∀ k ∈ ks, k < 100
  | [], _, _, _, _, k, hk => by cases hk
  | j :: ks, t, r, h, e, k, hk => by
    obtain ⟨x, ts, u, rfl, hu, hs⟩ := at_cons e
    rw [ok] at h
    rcases List.mem_cons.mp hk with z | z
    · have := (List.getElem?_eq_some_iff.mp hu).1
      have := h.2.2.1
      omega
    · exact at_small ks u r (oks_iff.mp h.2.2.2 u (List.mem_of_getElem? hu)) hs k z
theorem Shs_nats : ∀ ks : List Nat, (∀ k ∈ ks, k < 1000000000) → Shs (toPs (ks.map natD)) (ks.length * 11)
  | [], _ => Shs_nil
  | k :: ks, h => by
    have h1 := Sh_int (h k (by simp))
    have h2 := Shs_nats ks fun j hj => h j (by simp [hj])
    have := Shs_cons h1 h2
    rw [List.length_cons, Nat.succ_mul]
    exact ⟨this.1, Nat.le_trans this.2 (by omega)⟩
theorem Shs_paths {b : Nat} : ∀ ps : List (List Nat), (∀ ks ∈ ps, ks.length ≤ b ∧ ∀ k ∈ ks, k < 1000000000) → Shs (toPs (ps.map pathD)) (ps.length * (11 * b + 5))
  | [], _ => by rw [List.length_nil, Nat.zero_mul]; exact Shs_nil
  | p :: ps, h => by
    obtain ⟨h1, h2⟩ := h p (by simp)
    have q := Sh_tup (Shs_nats p h2)
    have := Shs_cons q (Shs_paths ps fun k hk => h k (by simp [hk]))
    have hm : p.length * 11 ≤ 11 * b := by rw [Nat.mul_comm]; exact Nat.mul_le_mul_left _ h1
    rw [List.length_cons, Nat.succ_mul]
    exact ⟨this.1, Nat.le_trans this.2 (by omega)⟩
theorem lay_path (ks : List Nat) : lay 1 (pathD ks) := lay_tup (b := 0) fun y hy => by
  obtain ⟨k, _, rfl⟩ := List.mem_map.mp hy
  exact lay_int _
theorem show_paths {ps : List (List Nat)} {b : Nat} (h : ∀ ks ∈ ps, ks.length ≤ b ∧ ∀ k ∈ ks, k < 1000000000) (hl : ps.length ≤ 1000) (hb : b ≤ 100) : showOk (.tup (ps.map pathD)) = true := by
  have h1 := Sh_tup (Shs_paths ps h)
  have h2 : lay 2 (.tup (ps.map pathD)) := lay_tup (b := 1) fun x hx => by
    obtain ⟨p, _, rfl⟩ := List.mem_map.mp hx
    exact lay_path p
  have e : toP (.tup (ps.map pathD)) = .tuple (toPs (ps.map pathD)) := rfl
  have h3 : ps.length * (11 * b + 5) ≤ 1000 * (11 * 100 + 5) := Nat.mul_le_mul hl (by omega)
  unfold showOk
  rw [lay_shaped h2 (by decide), e, h1.1]
  show (true && true && true && decide _) = true
  rw [decide_eq_true (Nat.le_trans h1.2 (Nat.le_trans (Nat.add_le_add_right h3 3) (by decide)))]
  rfl
theorem lay_intt (ns : List Int) : lay 1 (.tup (ns.map .int)) := lay_tup (b := 0) fun y hy => by
  obtain ⟨k, _, rfl⟩ := List.mem_map.mp hy
  exact lay_int _
theorem nubI_len : ∀ ns : List Int, (nubI ns).length ≤ ns.length
  | [] => Nat.le_refl _
  | i :: r => by
    have := nubI_len r
    simp only [nubI]
    split
    · rw [List.length_cons]; omega
    · rw [List.length_cons, List.length_cons]; omega
theorem setI_len (ns : List Int) : (setI ns).length ≤ ns.length := by
  unfold setI
  rw [sortI_len]
  exact nubI_len ns
def nI (vs : List Nat) : List Int := vs.map fun k => ((k : Nat) : Int)
theorem nats_ints (vs : List Nat) : vs.map natD = (nI vs).map .int := by
  unfold nI
  rw [List.map_map]; rfl
theorem sset_run (vs : List Nat) (h : vs.length < 64) : bltop .sset [.lst (vs.map natD)] = some (true, .lst ((setI (nI vs)).map .int)) := by
  have l := setI_len (nI vs)
  have e : (nI vs).length = vs.length := List.length_map ..
  show (intsD (vs.map natD)).bind _ = _
  rw [nats_ints, intsD_map, Option.bind_some, if_pos ⟨by omega, by omega⟩]
theorem sort_once (vs : List Nat) : bltop .sorted [.lst ((once [] vs).map natD)] = some (true, .lst ((setI (nI vs)).map .int)) := by
  show (intsD ((once [] vs).map natD)).map _ = _
  rw [nats_ints, intsD_map, Option.map_some]
  unfold nI
  rw [once_set]
theorem app_nat (l : List Nat) (v : Nat) (h : l.length < 1000000) : mutop .append (.lst (l.map natD)) [natD v] = some (.non, .lst ((l ++ [v]).map natD)) := by
  show (if (l.map natD).length < sizeLine then _ else _) = _
  rw [if_pos (by rw [List.length_map]; exact Nat.lt_of_lt_of_le h (by decide)), List.map_append]; rfl
end Tm
/-! TmK: tables of terms, read and written. -/
namespace Tm
open PySem Iv
theorem get2_enc (kvs : KT) (i : Nat) : mthop .get2 (.dct (encK kvs)) [enc (.v i), enc (.v i)] = some (enc (asF kvs i)) := by
  show some ((getK (encK kvs) (.inl ((i : Nat) : Int))).getD (.int ((i : Nat) : Int))) = _
  rw [getK_enc]
  unfold asF
  cases lk kvs i <;> rfl
theorem get2_any (kvs : KT) (i : Nat) (t : T) : mthop .get2 (.dct (encK kvs)) [.int ((i : Nat) : Int), enc t] = some (enc ((lk kvs i).getD t)) := by
  show some ((getK (encK kvs) (.inl ((i : Nat) : Int))).getD (enc t)) = _
  rw [getK_enc]
  cases lk kvs i <;> rfl
theorem set_enc (kvs : KT) (k : Nat) (t : T) (h : kvs.length < 1000000) : setop (.dct (encK kvs)) (.int ((k : Nat) : Int)) (enc t) = some (.dct (encK (ins kvs k t))) := by
  have hl : (encK kvs).length < sizeLine := by
    unfold encK
    rw [List.length_map]
    exact Nat.lt_of_lt_of_le h (by decide)
  show (if (encK kvs).length < sizeLine then some (D.dct (putK (encK kvs) (.inl ((k : Nat) : Int)) (enc t))) else none) = _
  rw [if_pos hl, putK_enc]
theorem encK_len (kvs : KT) : (encK kvs).length = kvs.length := List.length_map _
theorem setd_enc (kvs : KT) (k : Nat) (t : T) (h : kvs.length < 1000000) :
    mutop .setdefault (.dct (encK kvs)) [.int ((k : Nat) : Int), enc t] = some (enc ((lk kvs k).getD t), .dct (encK (if (lk kvs k).isSome then kvs else ins kvs k t))) := by
  have hl : (encK kvs).length < sizeLine := by
    rw [encK_len]
    exact Nat.lt_of_lt_of_le h (by decide)
  show (match getK (encK kvs) (.inl ((k : Nat) : Int)) with
    | some e => if (encK kvs).length < sizeLine then some (e, D.dct (encK kvs)) else none
    | none => if (encK kvs).length < sizeLine then some (enc t, D.dct (putK (encK kvs) (.inl ((k : Nat) : Int)) (enc t))) else none) = _
  rw [getK_enc]
  cases lk kvs k with
  | none => simp only [Option.map_none, if_pos hl, putK_enc, Option.getD_none, Option.isSome_none, Bool.false_eq_true, if_false]
  | some c => simp only [Option.map_some, if_pos hl, Option.getD_some, Option.isSome_some, if_true]
theorem asF_good {kvs : KT} {b : Nat} (h : ∀ p ∈ kvs, p.1 < 100000 ∧ ok p.2 ∧ ht p.2 ≤ b) : (∀ i, i < 100000 → ok (asF kvs i)) ∧ ∀ i, ht (asF kvs i) ≤ b := by
  constructor
  · intro i hi
    unfold asF
    cases e : lk kvs i with
    | none => exact hi
    | some t => exact (h _ (lk_mem e)).2.1
  · intro i
    unfold asF
    cases e : lk kvs i with
    | none => exact Nat.zero_le _
    | some t => exact (h _ (lk_mem e)).2.2
theorem merge_good {ps : KT} {P : Nat × T → Prop} (h : ∀ p ∈ ps, P p) : ∀ p ∈ merge [] ps, P p := fun p hp => by
  rcases merge_mem ps [] hp with z | z
  · cases z
  · exact h p z
theorem merge_sz {ps : KT} {b : Nat} (h1 : 1 ≤ b) (h : ∀ p ∈ ps, sz p.2 ≤ b) (i : Nat) : sz (asF (merge [] ps) i) ≤ b := by
  have S := merge_good (P := fun q => sz q.2 ≤ b) h
  unfold asF
  cases e : lk (merge [] ps) i with
  | none => exact h1
  | some t => exact S _ (lk_mem e)
/-! matching -/
/-- a table that says one thing of each number -/
def Con (kn : KT) : Prop := ∀ p ∈ kn, lk kn p.1 = some p.2
theorem lk_none_any : ∀ {kn : KT} {i : Nat}, lk kn i = none → (kn.any fun p => decide (p.1 = i)) = false
  | [], _, _ => rfl
  | p :: kn, i, h => by
    rw [Bool.eq_false_iff]
    intro hc
    rw [List.any_eq_true] at hc
    obtain ⟨q, hq, e⟩ := hc
    obtain ⟨u, hu⟩ := mem_lk (show (q.1, q.2) ∈ p :: kn from hq)
    rw [of_decide_eq_true e, h] at hu
    cases hu
theorem ins_new {kn : KT} {i : Nat} {t : T} (h : lk kn i = none) : ins kn i t = kn ++ [(i, t)] := by
  unfold ins
  rw [lk_none_any h]
theorem Con_nil : Con [] := fun _ h => by cases h
theorem Con_new {kn : KT} {i : Nat} {t : T} (c : Con kn) (h : lk kn i = none) : Con (ins kn i t) := fun p hp => by
  rw [lk_ins]
  rcases ins_mem hp with z | rfl
  · have := c p z
    by_cases e : i = p.1
    · rw [← e, h] at this; cases this
    · rw [if_neg e]; exact this
  · rw [if_pos rfl]
theorem ins_same {kn : KT} {i : Nat} {t : T} (c : Con kn) (h : lk kn i = some t) : ins kn i t = kn := by
  unfold ins
  split
  · conv => rhs; rw [← List.map_id kn]
    refine List.map_congr_left fun p hp => ?_
    by_cases e : p.1 = i
    · have := c p hp
      rw [e, h] at this
      rw [if_pos e]
      cases this
      rfl
    · rw [if_neg e]; rfl
  · rename_i q
    exact absurd (lk_mem h) (fun m => by
      have : (kn.any fun p => decide (p.1 = i)) = true := List.any_eq_true.mpr ⟨_, m, decide_eq_true rfl⟩
      rw [q] at this; cases this)
def mt : Nat → KT → List (T × T) → Option KT
  | _, kn, [] => some kn
  | 0, _, _ :: _ => none
  | n + 1, kn, (.v i, b) :: st => if (lk kn i).getD b = b then mt n (ins kn i b) st else none
  | _ + 1, _, (.f _ _, .v _) :: _ => none
  | n + 1, kn, (.f x ts, .f y us) :: st => if x = y ∧ ts.length = us.length then mt n kn ((ts.zip us).reverse ++ st) else none
def mu : List (T × T) → Nat
  | [] => 0
  | p :: r => sz p.1 + mu r
theorem mu_app : ∀ a b, mu (a ++ b) = mu a + mu b
  | [], b => by rw [List.nil_append]; show _ = 0 + _; omega
  | p :: a, b => by
    rw [List.cons_append, mu, mu, mu_app a b]; omega
theorem mu_rev : ∀ a, mu a.reverse = mu a
  | [] => rfl
  | p :: a => by
    rw [List.reverse_cons, mu_app, mu_rev a, mu, mu, mu]; omega
theorem mu_zip : ∀ (ts us : List T), mu (ts.zip us) ≤ szs ts
  | [], _ => by rw [List.zip_nil_left]; exact Nat.zero_le _
  | _ :: _, [] => by rw [List.zip_nil_right]; exact Nat.zero_le _
  | t :: ts, u :: us => by
    have := mu_zip ts us
    rw [List.zip_cons_cons, mu, szs]
    show sz t + _ ≤ _
    omega
theorem mu_len : ∀ st, st.length ≤ mu st
  | [] => Nat.le_refl _
  | p :: st => by
    have := mu_len st
    have := sz_pos p.1
    rw [List.length_cons, mu]; omega
def prD (p : T × T) : D := .tup [enc p.1, enc p.2]
/-- the row as the program has it: its top at the end -/
def stD (st : List (T × T)) : List D := st.reverse.map prD
theorem stD_len (st : List (T × T)) : (stD st).length = st.length := by unfold stD; rw [List.length_map, List.length_reverse]
theorem stD_cons (p : T × T) (st : List (T × T)) : stD (p :: st) = stD st ++ [prD p] := by
  unfold stD
  rw [List.reverse_cons, List.map_append]; rfl
theorem stD_pop (p : T × T) (st : List (T × T)) : mutop .pop (.lst (stD (p :: st))) [] = some (prD p, .lst (stD st)) := by
  rw [stD_cons]
  show ((stD st ++ [prD p])[(stD st ++ [prD p]).length - 1]?).map _ = _
  have e : (stD st ++ [prD p])[(stD st ++ [prD p]).length - 1]? = some (prD p) := by
    rw [List.length_append, List.length_singleton, Nat.add_sub_cancel, List.getElem?_append_right (Nat.le_refl _), Nat.sub_self]; rfl
  rw [e, Option.map_some, List.dropLast_concat]
theorem zip_encs : ∀ (ts us : List T), zipP (encs ts) (encs us) = (ts.zip us).map prD
  | [], us => by cases us <;> rfl
  | _ :: _, [] => rfl
  | t :: ts, u :: us => by
    rw [List.zip_cons_cons, List.map_cons, ← zip_encs ts us]; rfl
theorem stD_push (ts us : List T) (st : List (T × T)) : stD st ++ zipP (encs ts) (encs us) = stD ((ts.zip us).reverse ++ st) := by
  rw [zip_encs]
  unfold stD
  rw [List.reverse_append, List.reverse_reverse, List.map_append]
/-- what may stand in the row, what is known -/
structure Good (b N : Nat) (kn : KT) (st : List (T × T)) : Prop where
  con : Con kn
  row : ∀ p ∈ st, ok p.1 ∧ ht p.1 ≤ 60 ∧ ok p.2 ∧ ht p.2 ≤ 60 ∧ sz p.2 ≤ b
  tbl : ∀ p ∈ kn, p.1 < 100000 ∧ ok p.2 ∧ ht p.2 ≤ 60 ∧ sz p.2 ≤ b
  len : kn.length + mu st ≤ N
theorem Good.var {b N : Nat} {kn : KT} {i : Nat} {t : T} {st : List (T × T)} (g : Good b N kn ((.v i, t) :: st)) (h : (lk kn i).getD t = t) : Good b N (ins kn i t) st := by
  obtain ⟨q1, q2, q3, q4, q5⟩ := g.row (.v i, t) (by simp)
  refine ⟨?_, fun p hp => g.row p (List.mem_cons_of_mem _ hp), fun p hp => ?_, ?_⟩
  · cases e : lk kn i with
    | none => exact Con_new g.con e
    | some c =>
      rw [e] at h
      have hc : c = t := h
      subst hc
      rw [ins_same g.con e]
      exact g.con
  · rcases ins_mem hp with z | rfl
    · exact g.tbl p z
    · exact ⟨q1, q3, q4, q5⟩
  · have := ins_len kn i t
    have := g.len
    rw [mu] at this
    have : sz (T.v i) = 1 := rfl
    simp only at *
    omega
theorem Good.fun {b N : Nat} {kn : KT} {x y : Str} {ts us : List T} {st : List (T × T)} (g : Good b N kn ((.f x ts, .f y us) :: st)) : Good b N kn ((ts.zip us).reverse ++ st) := by
  obtain ⟨q1, q2, q3, q4, q5⟩ := g.row (.f x ts, .f y us) (by simp)
  simp only at q1 q2 q3 q4 q5
  rw [ok] at q1 q3
  rw [ht] at q2 q4
  rw [sz] at q5
  refine ⟨g.con, fun p hp => ?_, g.tbl, ?_⟩
  · rcases List.mem_append.mp hp with z | z
    · rw [List.mem_reverse] at z
      have m1 := (List.of_mem_zip z).1
      have m2 := (List.of_mem_zip z).2
      have := ht_mem m1
      have := ht_mem m2
      have := sz_mem m2
      exact ⟨oks_iff.mp q1.2.2.2 _ m1, by omega, oks_iff.mp q3.2.2.2 _ m2, by omega, by omega⟩
    · exact g.row p (List.mem_cons_of_mem _ z)
  · have := g.len
    rw [mu] at this
    rw [mu_app, mu_rev]
    have := mu_zip ts us
    have e : sz (T.f x ts) = 1 + szs ts := by rw [sz]
    simp only at *
    omega
theorem mt_good {b N : Nat} : ∀ (n : Nat) (kn : KT) (st : List (T × T)) (kn' : KT), Good b N kn st → mt n kn st = some kn' → Good b N kn' []
  | n, kn, [], kn', g, h => by
    have : kn = kn' := by cases n <;> exact Option.some.inj h
    subst this
    exact g
  | 0, _, _ :: _, _, _, h => by cases h
  | n + 1, kn, (.v i, t) :: st, kn', g, h => by
    rw [mt] at h
    split at h
    · exact mt_good n _ st kn' (g.var ‹_›) h
    · cases h
  | _ + 1, _, (.f _ _, .v _) :: _, _, _, h => by cases h
  | n + 1, kn, (.f x ts, .f y us) :: st, kn', g, h => by
    rw [mt] at h
    split at h
    · exact mt_good n _ _ kn' g.fun h
    · cases h
end Tm
namespace K07
open PySem Iv Tm

theorem p_is_variable_run (n : Nat) (t : T) : run tab (n + 1) f_p_is_variable [.val (enc t)] = some (false, .bl (match t with | .v _ => true | .f _ _ => false), [.val (enc t)]) := by
  refine run_ret (F := p_is_variable_f) rfl rfl (ρ' := [.val (enc t)]) ?_
  show exs 1 whileFuel (run tab n) p_is_variable_s [.val (enc t)] = _
  rw [exs_K]
  cases t with
  | v i => simp -implicitDefEqProofs only [↓Iv.k_var, ↓Iv.k_int, ↓Iv.k_str, ↓Iv.k_bl, ↓Iv.k_non, ↓Iv.k_tup, ↓Iv.k_lst, ↓Iv.k_dct, ↓Iv.z_bin, ↓Iv.k_neg, ↓Iv.z_cmp, ↓Iv.z_cmp2, ↓Iv.z_rev, ↓Iv.z_and, ↓Iv.z_or, ↓Iv.k_not, ↓Iv.z_ite, ↓Iv.z_idx, ↓Iv.z_slc, ↓Iv.z_slf, ↓Iv.z_slt, ↓Iv.z_call, ↓Iv.z_blt, ↓Iv.z_isi, ↓Iv.z_comp, ↓Iv.k_nil, ↓Iv.k_cons, ↓Iv.z_seq, ↓Iv.z_rng1, ↓Iv.k_expr, ↓Iv.z_aite, ↓Iv.z_for, ↓Iv.z_whl, ↓Iv.k_retN, ↓Iv.k_pass, ↓Iv.k_brk, ↓Iv.k_cont, ↓Iv.k_frz, ↓Iv.z_mth, ↓Iv.z_mut, ↓Iv.k_scons, ↓Iv.k_snil, ↓Iv.k_asg, ↓Iv.k_par, ↓Iv.z_set, ↓Iv.k_ret, ↓Iv.z_aug, ↓Iv.z_enm, ↓Iv.z_rng2, ↓Iv.look_0, ↓Iv.look_s, ↓Iv.onS_v, ↓Iv.onS_o, ↓Iv.ownK_o, ↓Iv.valK_v, ↓Iv.asV_i, ↓Iv.asB_i, ↓Iv.asN_i, ↓Iv.dsK_v, ↓Iv.dsK_o, ↓Iv.drK_i, ↓Iv.drK_s, ↓Iv.immsK_0, ↓Iv.immsK_i, ↓Iv.dersK_0, ↓Iv.dersK_c, ↓Iv.argsK_0, ↓Iv.argsK_i, ↓Iv.argsK_s, ↓Iv.getO_0, ↓Iv.getO_s, ↓Iv.outK_go, ↓Iv.goO_0, ↓Iv.goO_i, ↓Iv.goO_s, ↓Iv.putS_0, ↓Iv.putS_s, ↓Iv.setK_z, ↓Iv.setK_v, ↓Iv.setK_n, ↓Iv.setK_ss, ↓Iv.setK_0s, ↓Iv.frK_v, ↓Iv.frK_o, ↓Iv.frK_ss, ↓Iv.frK_0s, ↓Iv.setsK_0, ↓Iv.setsK_c, ↓Iv.tgK_v, ↓Iv.tgK_w, ↓Iv.tgK_t, ↓Iv.tgK_2, ↓Iv.tgK_p, ↓Iv.tgK_2p, ↓Iv.asgK_f, ↓Iv.asgK_v, ↓Iv.asgK_w, ↓Iv.asgK_t, ↓Iv.asgK_2, ↓Iv.retK_i, ↓Iv.retK_s, ↓Iv.bkz_some, ↓Iv.cnd_t, ↓Iv.cnd_f, ↓Iv.endK_ret, ↓Iv.endK_next, ↓Iv.za_i, ↓Iv.zs_i, ↓Iv.zeq_i, ↓Iv.zne_i, ↓Iv.zlt_i, ↓Iv.zle_i, ↓Iv.zgt_i, ↓Iv.zge_i, ↓Iv.zeq_s, ↓Iv.zne_s, ↓Iv.zeq_b, ↓Iv.zne_b, ↓Iv.zlen_t, ↓Iv.zlen_l, ↓Iv.zlen_r, ↓Iv.zlen_d, ↓Iv.ztup_l, ↓Iv.ztup_t, ↓Iv.zlst_l, ↓Iv.zlst_t, ↓Iv.zlst_r, ↓Iv.zzip_t, ↓Iv.zzip_l, ↓Iv.zint_i, ↓Iv.zint_b, ↓Iv.zit_t, ↓Iv.zit_l, ↓Iv.zit_r, ↓Iv.zslc_t, ↓Iv.zslc_l, ↓Iv.zrev_t, ↓Iv.zrev_l, ↓Iv.zaug_a, ↓Iv.zaug_s, ↓Iv.zisn, ↓Iv.znotn, ↓Iv.zadd_l, ↓Iv.zadd_t, ↓Iv.zapp_l, ↓Iv.ty_ll, ↓Iv.ty_dd, ↓Iv.zfor_nil, ↓Iv.zty_i, ↓Iv.zty_ib, ↓Iv.zty_is, ↓Iv.zty_it, ↓Iv.zty_il, ↓Iv.zty_bi, ↓Iv.zty_bb, ↓Iv.zty_bs, ↓Iv.zty_bt, ↓Iv.zty_bl, ↓Iv.zty_si, ↓Iv.zty_sb, ↓Iv.zty_ss, ↓Iv.zty_st, ↓Iv.zty_sl, ↓Iv.zty_ti, ↓Iv.zty_tb, ↓Iv.zty_ts, ↓Iv.zty_tt, ↓Iv.zty_tl, ↓Iv.zty_li, ↓Iv.zty_lb, ↓Iv.zty_ls, ↓Iv.zty_lt, ↓Iv.zty_ll, ↓Iv.zty_ni, ↓Iv.zty_nb, ↓Iv.zty_ns, ↓Iv.zty_nt, ↓Iv.zty_nl, ↓Iv.zty_di, ↓Iv.zty_db, ↓Iv.zty_ds, ↓Iv.zty_dt, ↓Iv.zty_dl, ↓Iv.quiet_0, ↓Iv.quiet_s, ↓Iv.qS_v, ↓Iv.qS_n, ↓Iv.qS_s, ↓reduceIte, Bool.false_eq_true, Nat.reduceLeDiff, Nat.zero_le, Iv.slotsOf, Iv.nodupN, List.contains_nil, Bool.not_false, Bool.not_true, Bool.and_true, Bool.true_and, Bool.and_false, Bool.false_and, decide_true, decide_false, List.replicate, List.cons_append, List.nil_append, List.length_cons, List.length_nil, Nat.reduceAdd, Nat.reduceSub, List.contains_cons, Nat.reduceBeqDiff, Nat.reduceEqDiff, Bool.or_false, Bool.false_or, Bool.or_true, Bool.true_or, List.take_succ_cons, List.take_zero, p_is_variable_s, enc]
  | f x ts => simp -implicitDefEqProofs only [↓Iv.k_var, ↓Iv.k_int, ↓Iv.k_str, ↓Iv.k_bl, ↓Iv.k_non, ↓Iv.k_tup, ↓Iv.k_lst, ↓Iv.k_dct, ↓Iv.z_bin, ↓Iv.k_neg, ↓Iv.z_cmp, ↓Iv.z_cmp2, ↓Iv.z_rev, ↓Iv.z_and, ↓Iv.z_or, ↓Iv.k_not, ↓Iv.z_ite, ↓Iv.z_idx, ↓Iv.z_slc, ↓Iv.z_slf, ↓Iv.z_slt, ↓Iv.z_call, ↓Iv.z_blt, ↓Iv.z_isi, ↓Iv.z_comp, ↓Iv.k_nil, ↓Iv.k_cons, ↓Iv.z_seq, ↓Iv.z_rng1, ↓Iv.k_expr, ↓Iv.z_aite, ↓Iv.z_for, ↓Iv.z_whl, ↓Iv.k_retN, ↓Iv.k_pass, ↓Iv.k_brk, ↓Iv.k_cont, ↓Iv.k_frz, ↓Iv.z_mth, ↓Iv.z_mut, ↓Iv.k_scons, ↓Iv.k_snil, ↓Iv.k_asg, ↓Iv.k_par, ↓Iv.z_set, ↓Iv.k_ret, ↓Iv.z_aug, ↓Iv.z_enm, ↓Iv.z_rng2, ↓Iv.look_0, ↓Iv.look_s, ↓Iv.onS_v, ↓Iv.onS_o, ↓Iv.ownK_o, ↓Iv.valK_v, ↓Iv.asV_i, ↓Iv.asB_i, ↓Iv.asN_i, ↓Iv.dsK_v, ↓Iv.dsK_o, ↓Iv.drK_i, ↓Iv.drK_s, ↓Iv.immsK_0, ↓Iv.immsK_i, ↓Iv.dersK_0, ↓Iv.dersK_c, ↓Iv.argsK_0, ↓Iv.argsK_i, ↓Iv.argsK_s, ↓Iv.getO_0, ↓Iv.getO_s, ↓Iv.outK_go, ↓Iv.goO_0, ↓Iv.goO_i, ↓Iv.goO_s, ↓Iv.putS_0, ↓Iv.putS_s, ↓Iv.setK_z, ↓Iv.setK_v, ↓Iv.setK_n, ↓Iv.setK_ss, ↓Iv.setK_0s, ↓Iv.frK_v, ↓Iv.frK_o, ↓Iv.frK_ss, ↓Iv.frK_0s, ↓Iv.setsK_0, ↓Iv.setsK_c, ↓Iv.tgK_v, ↓Iv.tgK_w, ↓Iv.tgK_t, ↓Iv.tgK_2, ↓Iv.tgK_p, ↓Iv.tgK_2p, ↓Iv.asgK_f, ↓Iv.asgK_v, ↓Iv.asgK_w, ↓Iv.asgK_t, ↓Iv.asgK_2, ↓Iv.retK_i, ↓Iv.retK_s, ↓Iv.bkz_some, ↓Iv.cnd_t, ↓Iv.cnd_f, ↓Iv.endK_ret, ↓Iv.endK_next, ↓Iv.za_i, ↓Iv.zs_i, ↓Iv.zeq_i, ↓Iv.zne_i, ↓Iv.zlt_i, ↓Iv.zle_i, ↓Iv.zgt_i, ↓Iv.zge_i, ↓Iv.zeq_s, ↓Iv.zne_s, ↓Iv.zeq_b, ↓Iv.zne_b, ↓Iv.zlen_t, ↓Iv.zlen_l, ↓Iv.zlen_r, ↓Iv.zlen_d, ↓Iv.ztup_l, ↓Iv.ztup_t, ↓Iv.zlst_l, ↓Iv.zlst_t, ↓Iv.zlst_r, ↓Iv.zzip_t, ↓Iv.zzip_l, ↓Iv.zint_i, ↓Iv.zint_b, ↓Iv.zit_t, ↓Iv.zit_l, ↓Iv.zit_r, ↓Iv.zslc_t, ↓Iv.zslc_l, ↓Iv.zrev_t, ↓Iv.zrev_l, ↓Iv.zaug_a, ↓Iv.zaug_s, ↓Iv.zisn, ↓Iv.znotn, ↓Iv.zadd_l, ↓Iv.zadd_t, ↓Iv.zapp_l, ↓Iv.ty_ll, ↓Iv.ty_dd, ↓Iv.zfor_nil, ↓Iv.zty_i, ↓Iv.zty_ib, ↓Iv.zty_is, ↓Iv.zty_it, ↓Iv.zty_il, ↓Iv.zty_bi, ↓Iv.zty_bb, ↓Iv.zty_bs, ↓Iv.zty_bt, ↓Iv.zty_bl, ↓Iv.zty_si, ↓Iv.zty_sb, ↓Iv.zty_ss, ↓Iv.zty_st, ↓Iv.zty_sl, ↓Iv.zty_ti, ↓Iv.zty_tb, ↓Iv.zty_ts, ↓Iv.zty_tt, ↓Iv.zty_tl, ↓Iv.zty_li, ↓Iv.zty_lb, ↓Iv.zty_ls, ↓Iv.zty_lt, ↓Iv.zty_ll, ↓Iv.zty_ni, ↓Iv.zty_nb, ↓Iv.zty_ns, ↓Iv.zty_nt, ↓Iv.zty_nl, ↓Iv.zty_di, ↓Iv.zty_db, ↓Iv.zty_ds, ↓Iv.zty_dt, ↓Iv.zty_dl, ↓Iv.quiet_0, ↓Iv.quiet_s, ↓Iv.qS_v, ↓Iv.qS_n, ↓Iv.qS_s, ↓reduceIte, Bool.false_eq_true, Nat.reduceLeDiff, Nat.zero_le, Iv.slotsOf, Iv.nodupN, List.contains_nil, Bool.not_false, Bool.not_true, Bool.and_true, Bool.true_and, Bool.and_false, Bool.false_and, decide_true, decide_false, List.replicate, List.cons_append, List.nil_append, List.length_cons, List.length_nil, Nat.reduceAdd, Nat.reduceSub, List.contains_cons, Nat.reduceBeqDiff, Nat.reduceEqDiff, Bool.or_false, Bool.false_or, Bool.or_true, Bool.true_or, List.take_succ_cons, List.take_zero, p_is_variable_s, enc]

theorem l_is_var_run (n : Nat) (t : T) : run tab (n + 1) f_l_is_var [.val (enc t)] = some (false, .bl (match t with | .v _ => true | .f _ _ => false), [.val (enc t)]) := by
  refine run_ret (F := l_is_var_f) rfl rfl (ρ' := [.val (enc t)]) ?_
  show exs 1 whileFuel (run tab n) l_is_var_s [.val (enc t)] = _
  rw [exs_K]
  cases t with
  | v i => simp -implicitDefEqProofs only [↓Iv.k_var, ↓Iv.k_int, ↓Iv.k_str, ↓Iv.k_bl, ↓Iv.k_non, ↓Iv.k_tup, ↓Iv.k_lst, ↓Iv.k_dct, ↓Iv.z_bin, ↓Iv.k_neg, ↓Iv.z_cmp, ↓Iv.z_cmp2, ↓Iv.z_rev, ↓Iv.z_and, ↓Iv.z_or, ↓Iv.k_not, ↓Iv.z_ite, ↓Iv.z_idx, ↓Iv.z_slc, ↓Iv.z_slf, ↓Iv.z_slt, ↓Iv.z_call, ↓Iv.z_blt, ↓Iv.z_isi, ↓Iv.z_comp, ↓Iv.k_nil, ↓Iv.k_cons, ↓Iv.z_seq, ↓Iv.z_rng1, ↓Iv.k_expr, ↓Iv.z_aite, ↓Iv.z_for, ↓Iv.z_whl, ↓Iv.k_retN, ↓Iv.k_pass, ↓Iv.k_brk, ↓Iv.k_cont, ↓Iv.k_frz, ↓Iv.z_mth, ↓Iv.z_mut, ↓Iv.k_scons, ↓Iv.k_snil, ↓Iv.k_asg, ↓Iv.k_par, ↓Iv.z_set, ↓Iv.k_ret, ↓Iv.z_aug, ↓Iv.z_enm, ↓Iv.z_rng2, ↓Iv.look_0, ↓Iv.look_s, ↓Iv.onS_v, ↓Iv.onS_o, ↓Iv.ownK_o, ↓Iv.valK_v, ↓Iv.asV_i, ↓Iv.asB_i, ↓Iv.asN_i, ↓Iv.dsK_v, ↓Iv.dsK_o, ↓Iv.drK_i, ↓Iv.drK_s, ↓Iv.immsK_0, ↓Iv.immsK_i, ↓Iv.dersK_0, ↓Iv.dersK_c, ↓Iv.argsK_0, ↓Iv.argsK_i, ↓Iv.argsK_s, ↓Iv.getO_0, ↓Iv.getO_s, ↓Iv.outK_go, ↓Iv.goO_0, ↓Iv.goO_i, ↓Iv.goO_s, ↓Iv.putS_0, ↓Iv.putS_s, ↓Iv.setK_z, ↓Iv.setK_v, ↓Iv.setK_n, ↓Iv.setK_ss, ↓Iv.setK_0s, ↓Iv.frK_v, ↓Iv.frK_o, ↓Iv.frK_ss, ↓Iv.frK_0s, ↓Iv.setsK_0, ↓Iv.setsK_c, ↓Iv.tgK_v, ↓Iv.tgK_w, ↓Iv.tgK_t, ↓Iv.tgK_2, ↓Iv.tgK_p, ↓Iv.tgK_2p, ↓Iv.asgK_f, ↓Iv.asgK_v, ↓Iv.asgK_w, ↓Iv.asgK_t, ↓Iv.asgK_2, ↓Iv.retK_i, ↓Iv.retK_s, ↓Iv.bkz_some, ↓Iv.cnd_t, ↓Iv.cnd_f, ↓Iv.endK_ret, ↓Iv.endK_next, ↓Iv.za_i, ↓Iv.zs_i, ↓Iv.zeq_i, ↓Iv.zne_i, ↓Iv.zlt_i, ↓Iv.zle_i, ↓Iv.zgt_i, ↓Iv.zge_i, ↓Iv.zeq_s, ↓Iv.zne_s, ↓Iv.zeq_b, ↓Iv.zne_b, ↓Iv.zlen_t, ↓Iv.zlen_l, ↓Iv.zlen_r, ↓Iv.zlen_d, ↓Iv.ztup_l, ↓Iv.ztup_t, ↓Iv.zlst_l, ↓Iv.zlst_t, ↓Iv.zlst_r, ↓Iv.zzip_t, ↓Iv.zzip_l, ↓Iv.zint_i, ↓Iv.zint_b, ↓Iv.zit_t, ↓Iv.zit_l, ↓Iv.zit_r, ↓Iv.zslc_t, ↓Iv.zslc_l, ↓Iv.zrev_t, ↓Iv.zrev_l, ↓Iv.zaug_a, ↓Iv.zaug_s, ↓Iv.zisn, ↓Iv.znotn, ↓Iv.zadd_l, ↓Iv.zadd_t, ↓Iv.zapp_l, ↓Iv.ty_ll, ↓Iv.ty_dd, ↓Iv.zfor_nil, ↓Iv.zty_i, ↓Iv.zty_ib, ↓Iv.zty_is, ↓Iv.zty_it, ↓Iv.zty_il, ↓Iv.zty_bi, ↓Iv.zty_bb, ↓Iv.zty_bs, ↓Iv.zty_bt, ↓Iv.zty_bl, ↓Iv.zty_si, ↓Iv.zty_sb, ↓Iv.zty_ss, ↓Iv.zty_st, ↓Iv.zty_sl, ↓Iv.zty_ti, ↓Iv.zty_tb, ↓Iv.zty_ts, ↓Iv.zty_tt, ↓Iv.zty_tl, ↓Iv.zty_li, ↓Iv.zty_lb, ↓Iv.zty_ls, ↓Iv.zty_lt, ↓Iv.zty_ll, ↓Iv.zty_ni, ↓Iv.zty_nb, ↓Iv.zty_ns, ↓Iv.zty_nt, ↓Iv.zty_nl, ↓Iv.zty_di, ↓Iv.zty_db, ↓Iv.zty_ds, ↓Iv.zty_dt, ↓Iv.zty_dl, ↓Iv.quiet_0, ↓Iv.quiet_s, ↓Iv.qS_v, ↓Iv.qS_n, ↓Iv.qS_s, ↓reduceIte, Bool.false_eq_true, Nat.reduceLeDiff, Nat.zero_le, Iv.slotsOf, Iv.nodupN, List.contains_nil, Bool.not_false, Bool.not_true, Bool.and_true, Bool.true_and, Bool.and_false, Bool.false_and, decide_true, decide_false, List.replicate, List.cons_append, List.nil_append, List.length_cons, List.length_nil, Nat.reduceAdd, Nat.reduceSub, List.contains_cons, Nat.reduceBeqDiff, Nat.reduceEqDiff, Bool.or_false, Bool.false_or, Bool.or_true, Bool.true_or, List.take_succ_cons, List.take_zero, l_is_var_s, enc]
  | f x ts => simp -implicitDefEqProofs only [↓Iv.k_var, ↓Iv.k_int, ↓Iv.k_str, ↓Iv.k_bl, ↓Iv.k_non, ↓Iv.k_tup, ↓Iv.k_lst, ↓Iv.k_dct, ↓Iv.z_bin, ↓Iv.k_neg, ↓Iv.z_cmp, ↓Iv.z_cmp2, ↓Iv.z_rev, ↓Iv.z_and, ↓Iv.z_or, ↓Iv.k_not, ↓Iv.z_ite, ↓Iv.z_idx, ↓Iv.z_slc, ↓Iv.z_slf, ↓Iv.z_slt, ↓Iv.z_call, ↓Iv.z_blt, ↓Iv.z_isi, ↓Iv.z_comp, ↓Iv.k_nil, ↓Iv.k_cons, ↓Iv.z_seq, ↓Iv.z_rng1, ↓Iv.k_expr, ↓Iv.z_aite, ↓Iv.z_for, ↓Iv.z_whl, ↓Iv.k_retN, ↓Iv.k_pass, ↓Iv.k_brk, ↓Iv.k_cont, ↓Iv.k_frz, ↓Iv.z_mth, ↓Iv.z_mut, ↓Iv.k_scons, ↓Iv.k_snil, ↓Iv.k_asg, ↓Iv.k_par, ↓Iv.z_set, ↓Iv.k_ret, ↓Iv.z_aug, ↓Iv.z_enm, ↓Iv.z_rng2, ↓Iv.look_0, ↓Iv.look_s, ↓Iv.onS_v, ↓Iv.onS_o, ↓Iv.ownK_o, ↓Iv.valK_v, ↓Iv.asV_i, ↓Iv.asB_i, ↓Iv.asN_i, ↓Iv.dsK_v, ↓Iv.dsK_o, ↓Iv.drK_i, ↓Iv.drK_s, ↓Iv.immsK_0, ↓Iv.immsK_i, ↓Iv.dersK_0, ↓Iv.dersK_c, ↓Iv.argsK_0, ↓Iv.argsK_i, ↓Iv.argsK_s, ↓Iv.getO_0, ↓Iv.getO_s, ↓Iv.outK_go, ↓Iv.goO_0, ↓Iv.goO_i, ↓Iv.goO_s, ↓Iv.putS_0, ↓Iv.putS_s, ↓Iv.setK_z, ↓Iv.setK_v, ↓Iv.setK_n, ↓Iv.setK_ss, ↓Iv.setK_0s, ↓Iv.frK_v, ↓Iv.frK_o, ↓Iv.frK_ss, ↓Iv.frK_0s, ↓Iv.setsK_0, ↓Iv.setsK_c, ↓Iv.tgK_v, ↓Iv.tgK_w, ↓Iv.tgK_t, ↓Iv.tgK_2, ↓Iv.tgK_p, ↓Iv.tgK_2p, ↓Iv.asgK_f, ↓Iv.asgK_v, ↓Iv.asgK_w, ↓Iv.asgK_t, ↓Iv.asgK_2, ↓Iv.retK_i, ↓Iv.retK_s, ↓Iv.bkz_some, ↓Iv.cnd_t, ↓Iv.cnd_f, ↓Iv.endK_ret, ↓Iv.endK_next, ↓Iv.za_i, ↓Iv.zs_i, ↓Iv.zeq_i, ↓Iv.zne_i, ↓Iv.zlt_i, ↓Iv.zle_i, ↓Iv.zgt_i, ↓Iv.zge_i, ↓Iv.zeq_s, ↓Iv.zne_s, ↓Iv.zeq_b, ↓Iv.zne_b, ↓Iv.zlen_t, ↓Iv.zlen_l, ↓Iv.zlen_r, ↓Iv.zlen_d, ↓Iv.ztup_l, ↓Iv.ztup_t, ↓Iv.zlst_l, ↓Iv.zlst_t, ↓Iv.zlst_r, ↓Iv.zzip_t, ↓Iv.zzip_l, ↓Iv.zint_i, ↓Iv.zint_b, ↓Iv.zit_t, ↓Iv.zit_l, ↓Iv.zit_r, ↓Iv.zslc_t, ↓Iv.zslc_l, ↓Iv.zrev_t, ↓Iv.zrev_l, ↓Iv.zaug_a, ↓Iv.zaug_s, ↓Iv.zisn, ↓Iv.znotn, ↓Iv.zadd_l, ↓Iv.zadd_t, ↓Iv.zapp_l, ↓Iv.ty_ll, ↓Iv.ty_dd, ↓Iv.zfor_nil, ↓Iv.zty_i, ↓Iv.zty_ib, ↓Iv.zty_is, ↓Iv.zty_it, ↓Iv.zty_il, ↓Iv.zty_bi, ↓Iv.zty_bb, ↓Iv.zty_bs, ↓Iv.zty_bt, ↓Iv.zty_bl, ↓Iv.zty_si, ↓Iv.zty_sb, ↓Iv.zty_ss, ↓Iv.zty_st, ↓Iv.zty_sl, ↓Iv.zty_ti, ↓Iv.zty_tb, ↓Iv.zty_ts, ↓Iv.zty_tt, ↓Iv.zty_tl, ↓Iv.zty_li, ↓Iv.zty_lb, ↓Iv.zty_ls, ↓Iv.zty_lt, ↓Iv.zty_ll, ↓Iv.zty_ni, ↓Iv.zty_nb, ↓Iv.zty_ns, ↓Iv.zty_nt, ↓Iv.zty_nl, ↓Iv.zty_di, ↓Iv.zty_db, ↓Iv.zty_ds, ↓Iv.zty_dt, ↓Iv.zty_dl, ↓Iv.quiet_0, ↓Iv.quiet_s, ↓Iv.qS_v, ↓Iv.qS_n, ↓Iv.qS_s, ↓reduceIte, Bool.false_eq_true, Nat.reduceLeDiff, Nat.zero_le, Iv.slotsOf, Iv.nodupN, List.contains_nil, Bool.not_false, Bool.not_true, Bool.and_true, Bool.true_and, Bool.and_false, Bool.false_and, decide_true, decide_false, List.replicate, List.cons_append, List.nil_append, List.length_cons, List.length_nil, Nat.reduceAdd, Nat.reduceSub, List.contains_cons, Nat.reduceBeqDiff, Nat.reduceEqDiff, Bool.or_false, Bool.false_or, Bool.or_true, Bool.true_or, List.take_succ_cons, List.take_zero, l_is_var_s, enc]

theorem l_put_there_run : ∀ (ks : List Nat) (t r new : T) (n : Nat), ok t → sz t ≤ 100000 → atT ks t = some r → ks.length < n →
    run tab n f_l_put_there [.val (enc t), .val (pathD ks), .val (enc new)] = some (false, enc (putT ks t new), [.val (enc t), .val (pathD ks), .val (enc new)])
  | [], t, r, new, n + 1, ht, hb, h, _ => by
    refine run_ret (F := l_put_there_f) rfl rfl (ρ' := [.val (enc t), .val (pathD []), .val (enc new), .none]) ?_
    show exs 3 whileFuel (run tab n) l_put_there_s [.val (enc t), .val (.tup []), .val (enc new), .none] = _
    rw [exs_K]
    have u : cmpop .eq (.tup []) (.tup []) = some true := eq_unit []
    simp -implicitDefEqProofs only [↓Iv.k_var, ↓Iv.k_int, ↓Iv.k_str, ↓Iv.k_bl, ↓Iv.k_non, ↓Iv.k_tup, ↓Iv.k_lst, ↓Iv.k_dct, ↓Iv.z_bin, ↓Iv.k_neg, ↓Iv.z_cmp, ↓Iv.z_cmp2, ↓Iv.z_rev, ↓Iv.z_and, ↓Iv.z_or, ↓Iv.k_not, ↓Iv.z_ite, ↓Iv.z_idx, ↓Iv.z_slc, ↓Iv.z_slf, ↓Iv.z_slt, ↓Iv.z_call, ↓Iv.z_blt, ↓Iv.z_isi, ↓Iv.z_comp, ↓Iv.k_nil, ↓Iv.k_cons, ↓Iv.z_seq, ↓Iv.z_rng1, ↓Iv.k_expr, ↓Iv.z_aite, ↓Iv.z_for, ↓Iv.z_whl, ↓Iv.k_retN, ↓Iv.k_pass, ↓Iv.k_brk, ↓Iv.k_cont, ↓Iv.k_frz, ↓Iv.z_mth, ↓Iv.z_mut, ↓Iv.k_scons, ↓Iv.k_snil, ↓Iv.k_asg, ↓Iv.k_par, ↓Iv.z_set, ↓Iv.k_ret, ↓Iv.z_aug, ↓Iv.z_enm, ↓Iv.z_rng2, ↓Iv.look_0, ↓Iv.look_s, ↓Iv.onS_v, ↓Iv.onS_o, ↓Iv.ownK_o, ↓Iv.valK_v, ↓Iv.asV_i, ↓Iv.asB_i, ↓Iv.asN_i, ↓Iv.dsK_v, ↓Iv.dsK_o, ↓Iv.drK_i, ↓Iv.drK_s, ↓Iv.immsK_0, ↓Iv.immsK_i, ↓Iv.dersK_0, ↓Iv.dersK_c, ↓Iv.argsK_0, ↓Iv.argsK_i, ↓Iv.argsK_s, ↓Iv.getO_0, ↓Iv.getO_s, ↓Iv.outK_go, ↓Iv.goO_0, ↓Iv.goO_i, ↓Iv.goO_s, ↓Iv.putS_0, ↓Iv.putS_s, ↓Iv.setK_z, ↓Iv.setK_v, ↓Iv.setK_n, ↓Iv.setK_ss, ↓Iv.setK_0s, ↓Iv.frK_v, ↓Iv.frK_o, ↓Iv.frK_ss, ↓Iv.frK_0s, ↓Iv.setsK_0, ↓Iv.setsK_c, ↓Iv.tgK_v, ↓Iv.tgK_w, ↓Iv.tgK_t, ↓Iv.tgK_2, ↓Iv.tgK_p, ↓Iv.tgK_2p, ↓Iv.asgK_f, ↓Iv.asgK_v, ↓Iv.asgK_w, ↓Iv.asgK_t, ↓Iv.asgK_2, ↓Iv.retK_i, ↓Iv.retK_s, ↓Iv.bkz_some, ↓Iv.cnd_t, ↓Iv.cnd_f, ↓Iv.endK_ret, ↓Iv.endK_next, ↓Iv.za_i, ↓Iv.zs_i, ↓Iv.zeq_i, ↓Iv.zne_i, ↓Iv.zlt_i, ↓Iv.zle_i, ↓Iv.zgt_i, ↓Iv.zge_i, ↓Iv.zeq_s, ↓Iv.zne_s, ↓Iv.zeq_b, ↓Iv.zne_b, ↓Iv.zlen_t, ↓Iv.zlen_l, ↓Iv.zlen_r, ↓Iv.zlen_d, ↓Iv.ztup_l, ↓Iv.ztup_t, ↓Iv.zlst_l, ↓Iv.zlst_t, ↓Iv.zlst_r, ↓Iv.zzip_t, ↓Iv.zzip_l, ↓Iv.zint_i, ↓Iv.zint_b, ↓Iv.zit_t, ↓Iv.zit_l, ↓Iv.zit_r, ↓Iv.zslc_t, ↓Iv.zslc_l, ↓Iv.zrev_t, ↓Iv.zrev_l, ↓Iv.zaug_a, ↓Iv.zaug_s, ↓Iv.zisn, ↓Iv.znotn, ↓Iv.zadd_l, ↓Iv.zadd_t, ↓Iv.zapp_l, ↓Iv.ty_ll, ↓Iv.ty_dd, ↓Iv.zfor_nil, ↓Iv.zty_i, ↓Iv.zty_ib, ↓Iv.zty_is, ↓Iv.zty_it, ↓Iv.zty_il, ↓Iv.zty_bi, ↓Iv.zty_bb, ↓Iv.zty_bs, ↓Iv.zty_bt, ↓Iv.zty_bl, ↓Iv.zty_si, ↓Iv.zty_sb, ↓Iv.zty_ss, ↓Iv.zty_st, ↓Iv.zty_sl, ↓Iv.zty_ti, ↓Iv.zty_tb, ↓Iv.zty_ts, ↓Iv.zty_tt, ↓Iv.zty_tl, ↓Iv.zty_li, ↓Iv.zty_lb, ↓Iv.zty_ls, ↓Iv.zty_lt, ↓Iv.zty_ll, ↓Iv.zty_ni, ↓Iv.zty_nb, ↓Iv.zty_ns, ↓Iv.zty_nt, ↓Iv.zty_nl, ↓Iv.zty_di, ↓Iv.zty_db, ↓Iv.zty_ds, ↓Iv.zty_dt, ↓Iv.zty_dl, ↓Iv.quiet_0, ↓Iv.quiet_s, ↓Iv.qS_v, ↓Iv.qS_n, ↓Iv.qS_s, ↓reduceIte, Bool.false_eq_true, Nat.reduceLeDiff, Nat.zero_le, Iv.slotsOf, Iv.nodupN, List.contains_nil, Bool.not_false, Bool.not_true, Bool.and_true, Bool.true_and, Bool.and_false, Bool.false_and, decide_true, decide_false, List.replicate, List.cons_append, List.nil_append, List.length_cons, List.length_nil, Nat.reduceAdd, Nat.reduceSub, List.contains_cons, Nat.reduceBeqDiff, Nat.reduceEqDiff, Bool.or_false, Bool.false_or, Bool.or_true, Bool.true_or, List.take_succ_cons, List.take_zero, l_put_there_s, ↓bkz u]
    rfl
  | k :: ks, t, r, new, n + 1, ht, hb, h, hn => by
    obtain ⟨x, ts, u, rfl, hu, hs⟩ := at_cons h
    rw [ok] at ht
    rw [sz] at hb
    have hm := List.mem_of_getElem? hu
    have hd1 := sz_mem hm
    have hl := len_szs ts
    have hk := (List.getElem?_eq_some_iff.mp hu).1
    have ih := l_put_there_run ks u r new n (oks_iff.mp ht.2.2.2 u hm) (by omega) hs (by simp at hn; omega)
    refine run_ret (F := l_put_there_f) rfl rfl (ρ' := [.val (enc (.f x ts)), .val (pathD (k :: ks)), .val (enc new), .val (.int (1 + (k : Nat)))]) ?_
    show exs 3 whileFuel (run tab n) l_put_there_s [.val (.tup (.str x :: encs ts)), .val (.tup (natD k :: ks.map natD)), .val (enc new), .none] = _
    have c0 : cmpop .eq (.tup (natD k :: ks.map natD)) (.tup []) = some false := eq_unit (k :: ks)
    have i1 : idxop (.tup (natD k :: ks.map natD)) (.int 0) = some (.int ((k : Nat) : Int)) := idx_t (k := 0) rfl rfl
    have i2 : idxop (.tup (.str x :: encs ts)) (.int (1 + (k : Int))) = some (enc u) := idx_t (k := k + 1) (by omega) (encs_get hu)
    have i3 : cutD (natD k :: ks.map natD) (some 1) none = ks.map natD := cut_from _ (k := 1) rfl
    have i4 : cutD (.str x :: encs ts) none (some (1 + (k : Int))) = .str x :: (encs ts).take k := cut_to (k := k + 1) _ (by omega)
    have i5 : cutD (.str x :: encs ts) (some (1 + (k : Int) + 1)) none = (encs ts).drop (k + 1) := cut_from (k := k + 2) _ (by omega)
    have a1 : binop .add (.tup (D.str x :: (encs ts).take k)) (.tup [enc (putT ks u new)]) = some (false, .tup (D.str x :: ((encs ts).take k ++ [enc (putT ks u new)]))) := add_t (xs := D.str x :: (encs ts).take k) (by
      simp only [List.length_take, List.length_cons, List.length_nil, encs_len]; omega)
    have a2 : binop .add (.tup (D.str x :: ((encs ts).take k ++ [enc (putT ks u new)]))) (.tup ((encs ts).drop (k + 1))) = some (false, enc (putT (k :: ks) (.f x ts) new)) := by
      have q := add_t (xs := D.str x :: ((encs ts).take k ++ [enc (putT ks u new)])) (ys := (encs ts).drop (k + 1)) (by simp only [List.length_append, List.length_take, List.length_drop, List.length_cons, List.length_nil, encs_len]; omega)
      rw [List.cons_append, set_cut (by rw [encs_len]; exact hk), encs_set] at q
      rw [q]
      simp only [putT, hu, enc]
    unfold pathD at ih
    rw [exs_K]
    simp -implicitDefEqProofs only [↓Iv.k_var, ↓Iv.k_int, ↓Iv.k_str, ↓Iv.k_bl, ↓Iv.k_non, ↓Iv.k_tup, ↓Iv.k_lst, ↓Iv.k_dct, ↓Iv.z_bin, ↓Iv.k_neg, ↓Iv.z_cmp, ↓Iv.z_cmp2, ↓Iv.z_rev, ↓Iv.z_and, ↓Iv.z_or, ↓Iv.k_not, ↓Iv.z_ite, ↓Iv.z_idx, ↓Iv.z_slc, ↓Iv.z_slf, ↓Iv.z_slt, ↓Iv.z_call, ↓Iv.z_blt, ↓Iv.z_isi, ↓Iv.z_comp, ↓Iv.k_nil, ↓Iv.k_cons, ↓Iv.z_seq, ↓Iv.z_rng1, ↓Iv.k_expr, ↓Iv.z_aite, ↓Iv.z_for, ↓Iv.z_whl, ↓Iv.k_retN, ↓Iv.k_pass, ↓Iv.k_brk, ↓Iv.k_cont, ↓Iv.k_frz, ↓Iv.z_mth, ↓Iv.z_mut, ↓Iv.k_scons, ↓Iv.k_snil, ↓Iv.k_asg, ↓Iv.k_par, ↓Iv.z_set, ↓Iv.k_ret, ↓Iv.z_aug, ↓Iv.z_enm, ↓Iv.z_rng2, ↓Iv.look_0, ↓Iv.look_s, ↓Iv.onS_v, ↓Iv.onS_o, ↓Iv.ownK_o, ↓Iv.valK_v, ↓Iv.asV_i, ↓Iv.asB_i, ↓Iv.asN_i, ↓Iv.dsK_v, ↓Iv.dsK_o, ↓Iv.drK_i, ↓Iv.drK_s, ↓Iv.immsK_0, ↓Iv.immsK_i, ↓Iv.dersK_0, ↓Iv.dersK_c, ↓Iv.argsK_0, ↓Iv.argsK_i, ↓Iv.argsK_s, ↓Iv.getO_0, ↓Iv.getO_s, ↓Iv.outK_go, ↓Iv.goO_0, ↓Iv.goO_i, ↓Iv.goO_s, ↓Iv.putS_0, ↓Iv.putS_s, ↓Iv.setK_z, ↓Iv.setK_v, ↓Iv.setK_n, ↓Iv.setK_ss, ↓Iv.setK_0s, ↓Iv.frK_v, ↓Iv.frK_o, ↓Iv.frK_ss, ↓Iv.frK_0s, ↓Iv.setsK_0, ↓Iv.setsK_c, ↓Iv.tgK_v, ↓Iv.tgK_w, ↓Iv.tgK_t, ↓Iv.tgK_2, ↓Iv.tgK_p, ↓Iv.tgK_2p, ↓Iv.asgK_f, ↓Iv.asgK_v, ↓Iv.asgK_w, ↓Iv.asgK_t, ↓Iv.asgK_2, ↓Iv.retK_i, ↓Iv.retK_s, ↓Iv.bkz_some, ↓Iv.cnd_t, ↓Iv.cnd_f, ↓Iv.endK_ret, ↓Iv.endK_next, ↓Iv.za_i, ↓Iv.zs_i, ↓Iv.zeq_i, ↓Iv.zne_i, ↓Iv.zlt_i, ↓Iv.zle_i, ↓Iv.zgt_i, ↓Iv.zge_i, ↓Iv.zeq_s, ↓Iv.zne_s, ↓Iv.zeq_b, ↓Iv.zne_b, ↓Iv.zlen_t, ↓Iv.zlen_l, ↓Iv.zlen_r, ↓Iv.zlen_d, ↓Iv.ztup_l, ↓Iv.ztup_t, ↓Iv.zlst_l, ↓Iv.zlst_t, ↓Iv.zlst_r, ↓Iv.zzip_t, ↓Iv.zzip_l, ↓Iv.zint_i, ↓Iv.zint_b, ↓Iv.zit_t, ↓Iv.zit_l, ↓Iv.zit_r, ↓Iv.zslc_t, ↓Iv.zslc_l, ↓Iv.zrev_t, ↓Iv.zrev_l, ↓Iv.zaug_a, ↓Iv.zaug_s, ↓Iv.zisn, ↓Iv.znotn, ↓Iv.zadd_l, ↓Iv.zadd_t, ↓Iv.zapp_l, ↓Iv.ty_ll, ↓Iv.ty_dd, ↓Iv.zfor_nil, ↓Iv.zty_i, ↓Iv.zty_ib, ↓Iv.zty_is, ↓Iv.zty_it, ↓Iv.zty_il, ↓Iv.zty_bi, ↓Iv.zty_bb, ↓Iv.zty_bs, ↓Iv.zty_bt, ↓Iv.zty_bl, ↓Iv.zty_si, ↓Iv.zty_sb, ↓Iv.zty_ss, ↓Iv.zty_st, ↓Iv.zty_sl, ↓Iv.zty_ti, ↓Iv.zty_tb, ↓Iv.zty_ts, ↓Iv.zty_tt, ↓Iv.zty_tl, ↓Iv.zty_li, ↓Iv.zty_lb, ↓Iv.zty_ls, ↓Iv.zty_lt, ↓Iv.zty_ll, ↓Iv.zty_ni, ↓Iv.zty_nb, ↓Iv.zty_ns, ↓Iv.zty_nt, ↓Iv.zty_nl, ↓Iv.zty_di, ↓Iv.zty_db, ↓Iv.zty_ds, ↓Iv.zty_dt, ↓Iv.zty_dl, ↓Iv.quiet_0, ↓Iv.quiet_s, ↓Iv.qS_v, ↓Iv.qS_n, ↓Iv.qS_s, ↓reduceIte, Bool.false_eq_true, Nat.reduceLeDiff, Nat.zero_le, Iv.slotsOf, Iv.nodupN, List.contains_nil, Bool.not_false, Bool.not_true, Bool.and_true, Bool.true_and, Bool.and_false, Bool.false_and, decide_true, decide_false, List.replicate, List.cons_append, List.nil_append, List.length_cons, List.length_nil, Nat.reduceAdd, Nat.reduceSub, List.contains_cons, Nat.reduceBeqDiff, Nat.reduceEqDiff, Bool.or_false, Bool.false_or, Bool.or_true, Bool.true_or, List.take_succ_cons, List.take_zero, l_put_there_s, ↓bkz c0, ↓bkz i1, ↓bkz i2, i3, i4, i5, ↓bkz ih, ↓bkz a1, ↓bkz a2]
    rfl

theorem l_paths_run : ∀ (n : Nat) (t : T), ok t → ht t + 2 ≤ n → sz t ≤ 100000 → ∃ o, run tab n f_l_paths [.val (enc t)] = some (false, .lst ((pths t).map pathD), o)
  | n + 1, .v i, h, hn, hz => by
    obtain ⟨m, rfl⟩ : ∃ m, n = m + 1 := ⟨n - 1, by omega⟩
    have v1 := l_is_var_run m (.v i)
    refine ⟨_, run_ret (F := l_paths_f) rfl rfl (ρ' := [.val (enc (.v i)), .val (.lst [.tup []]), .none, .none]) ?_⟩
    show exs 1 whileFuel (run tab (m + 1)) l_paths_s [.val (enc (.v i)), .none, .none, .none] = _
    rw [exs_K]
    simp -implicitDefEqProofs only [↓Iv.k_var, ↓Iv.k_int, ↓Iv.k_str, ↓Iv.k_bl, ↓Iv.k_non, ↓Iv.k_tup, ↓Iv.k_lst, ↓Iv.k_dct, ↓Iv.z_bin, ↓Iv.k_neg, ↓Iv.z_cmp, ↓Iv.z_cmp2, ↓Iv.z_rev, ↓Iv.z_and, ↓Iv.z_or, ↓Iv.k_not, ↓Iv.z_ite, ↓Iv.z_idx, ↓Iv.z_slc, ↓Iv.z_slf, ↓Iv.z_slt, ↓Iv.z_call, ↓Iv.z_blt, ↓Iv.z_isi, ↓Iv.z_comp, ↓Iv.k_nil, ↓Iv.k_cons, ↓Iv.z_seq, ↓Iv.z_rng1, ↓Iv.k_expr, ↓Iv.z_aite, ↓Iv.z_for, ↓Iv.z_whl, ↓Iv.k_retN, ↓Iv.k_pass, ↓Iv.k_brk, ↓Iv.k_cont, ↓Iv.k_frz, ↓Iv.z_mth, ↓Iv.z_mut, ↓Iv.k_scons, ↓Iv.k_snil, ↓Iv.k_asg, ↓Iv.k_par, ↓Iv.z_set, ↓Iv.k_ret, ↓Iv.z_aug, ↓Iv.z_enm, ↓Iv.z_rng2, ↓Iv.look_0, ↓Iv.look_s, ↓Iv.onS_v, ↓Iv.onS_o, ↓Iv.ownK_o, ↓Iv.valK_v, ↓Iv.asV_i, ↓Iv.asB_i, ↓Iv.asN_i, ↓Iv.dsK_v, ↓Iv.dsK_o, ↓Iv.drK_i, ↓Iv.drK_s, ↓Iv.immsK_0, ↓Iv.immsK_i, ↓Iv.dersK_0, ↓Iv.dersK_c, ↓Iv.argsK_0, ↓Iv.argsK_i, ↓Iv.argsK_s, ↓Iv.getO_0, ↓Iv.getO_s, ↓Iv.outK_go, ↓Iv.goO_0, ↓Iv.goO_i, ↓Iv.goO_s, ↓Iv.putS_0, ↓Iv.putS_s, ↓Iv.setK_z, ↓Iv.setK_v, ↓Iv.setK_n, ↓Iv.setK_ss, ↓Iv.setK_0s, ↓Iv.frK_v, ↓Iv.frK_o, ↓Iv.frK_ss, ↓Iv.frK_0s, ↓Iv.setsK_0, ↓Iv.setsK_c, ↓Iv.tgK_v, ↓Iv.tgK_w, ↓Iv.tgK_t, ↓Iv.tgK_2, ↓Iv.tgK_p, ↓Iv.tgK_2p, ↓Iv.asgK_f, ↓Iv.asgK_v, ↓Iv.asgK_w, ↓Iv.asgK_t, ↓Iv.asgK_2, ↓Iv.retK_i, ↓Iv.retK_s, ↓Iv.bkz_some, ↓Iv.cnd_t, ↓Iv.cnd_f, ↓Iv.endK_ret, ↓Iv.endK_next, ↓Iv.za_i, ↓Iv.zs_i, ↓Iv.zeq_i, ↓Iv.zne_i, ↓Iv.zlt_i, ↓Iv.zle_i, ↓Iv.zgt_i, ↓Iv.zge_i, ↓Iv.zeq_s, ↓Iv.zne_s, ↓Iv.zeq_b, ↓Iv.zne_b, ↓Iv.zlen_t, ↓Iv.zlen_l, ↓Iv.zlen_r, ↓Iv.zlen_d, ↓Iv.ztup_l, ↓Iv.ztup_t, ↓Iv.zlst_l, ↓Iv.zlst_t, ↓Iv.zlst_r, ↓Iv.zzip_t, ↓Iv.zzip_l, ↓Iv.zint_i, ↓Iv.zint_b, ↓Iv.zit_t, ↓Iv.zit_l, ↓Iv.zit_r, ↓Iv.zslc_t, ↓Iv.zslc_l, ↓Iv.zrev_t, ↓Iv.zrev_l, ↓Iv.zaug_a, ↓Iv.zaug_s, ↓Iv.zisn, ↓Iv.znotn, ↓Iv.zadd_l, ↓Iv.zadd_t, ↓Iv.zapp_l, ↓Iv.ty_ll, ↓Iv.ty_dd, ↓Iv.zfor_nil, ↓Iv.zty_i, ↓Iv.zty_ib, ↓Iv.zty_is, ↓Iv.zty_it, ↓Iv.zty_il, ↓Iv.zty_bi, ↓Iv.zty_bb, ↓Iv.zty_bs, ↓Iv.zty_bt, ↓Iv.zty_bl, ↓Iv.zty_si, ↓Iv.zty_sb, ↓Iv.zty_ss, ↓Iv.zty_st, ↓Iv.zty_sl, ↓Iv.zty_ti, ↓Iv.zty_tb, ↓Iv.zty_ts, ↓Iv.zty_tt, ↓Iv.zty_tl, ↓Iv.zty_li, ↓Iv.zty_lb, ↓Iv.zty_ls, ↓Iv.zty_lt, ↓Iv.zty_ll, ↓Iv.zty_ni, ↓Iv.zty_nb, ↓Iv.zty_ns, ↓Iv.zty_nt, ↓Iv.zty_nl, ↓Iv.zty_di, ↓Iv.zty_db, ↓Iv.zty_ds, ↓Iv.zty_dt, ↓Iv.zty_dl, ↓Iv.quiet_0, ↓Iv.quiet_s, ↓Iv.qS_v, ↓Iv.qS_n, ↓Iv.qS_s, ↓reduceIte, Bool.false_eq_true, Nat.reduceLeDiff, Nat.zero_le, Iv.slotsOf, Iv.nodupN, List.contains_nil, Bool.not_false, Bool.not_true, Bool.and_true, Bool.true_and, Bool.and_false, Bool.false_and, decide_true, decide_false, List.replicate, List.cons_append, List.nil_append, List.length_cons, List.length_nil, Nat.reduceAdd, Nat.reduceSub, List.contains_cons, Nat.reduceBeqDiff, Nat.reduceEqDiff, Bool.or_false, Bool.false_or, Bool.or_true, Bool.true_or, List.take_succ_cons, List.take_zero, l_paths_s, ↓bkz v1]
    rfl
  | n + 1, .f x ts, h, hn, hz => by
    rw [ok] at h
    rw [ht] at hn
    rw [sz] at hz
    obtain ⟨m, rfl⟩ : ∃ m, n = m + 1 := ⟨n - 1, by omega⟩
    have v2 : run tab (m + 1) f_l_is_var [.val (.tup (.str x :: encs ts))] = some (false, .bl false, [.val (.tup (.str x :: encs ts))]) := l_is_var_run m (.f x ts)
    have i3 : cutD (.str x :: encs ts) (some 1) none = encs ts := cut_from _ (k := 1) rfl
    have main : Tot (run tab (m + 1 + 1) f_l_paths [.val (.tup (.str x :: encs ts))]) fun z => ∃ o, z = (false, .lst (([] :: pthss 0 ts).map pathD), o) := by
      refine run_tot (F := l_paths_f) rfl rfl ?_
      show Tot (exsK 1 whileFuel (run tab (m + 1)) l_paths_s [.val (.tup (.str x :: encs ts)), .none, .none, .none] (endK 1)) _
      have e1 : (((encs ts).length + 1 : Nat) : Int) - 1 = ((ts.length : Nat) : Int) := by rw [encs_len]; omega
      have c2 : (-(2 ^ 62) ≤ (ts.length : Int) ∧ (ts.length : Int) < 2 ^ 62) = True := eq_true (by omega)
      simp -implicitDefEqProofs only [↓Iv.k_var, ↓Iv.k_int, ↓Iv.k_str, ↓Iv.k_bl, ↓Iv.k_non, ↓Iv.k_tup, ↓Iv.k_lst, ↓Iv.k_dct, ↓Iv.z_bin, ↓Iv.k_neg, ↓Iv.z_cmp, ↓Iv.z_cmp2, ↓Iv.z_rev, ↓Iv.z_and, ↓Iv.z_or, ↓Iv.k_not, ↓Iv.z_ite, ↓Iv.z_idx, ↓Iv.z_slc, ↓Iv.z_slf, ↓Iv.z_slt, ↓Iv.z_call, ↓Iv.z_blt, ↓Iv.z_isi, ↓Iv.z_comp, ↓Iv.k_nil, ↓Iv.k_cons, ↓Iv.z_seq, ↓Iv.z_rng1, ↓Iv.k_expr, ↓Iv.z_aite, ↓Iv.z_for, ↓Iv.z_whl, ↓Iv.k_retN, ↓Iv.k_pass, ↓Iv.k_brk, ↓Iv.k_cont, ↓Iv.k_frz, ↓Iv.z_mth, ↓Iv.z_mut, ↓Iv.k_scons, ↓Iv.k_snil, ↓Iv.k_asg, ↓Iv.k_par, ↓Iv.z_set, ↓Iv.k_ret, ↓Iv.z_aug, ↓Iv.z_enm, ↓Iv.z_rng2, ↓Iv.look_0, ↓Iv.look_s, ↓Iv.onS_v, ↓Iv.onS_o, ↓Iv.ownK_o, ↓Iv.valK_v, ↓Iv.asV_i, ↓Iv.asB_i, ↓Iv.asN_i, ↓Iv.dsK_v, ↓Iv.dsK_o, ↓Iv.drK_i, ↓Iv.drK_s, ↓Iv.immsK_0, ↓Iv.immsK_i, ↓Iv.dersK_0, ↓Iv.dersK_c, ↓Iv.argsK_0, ↓Iv.argsK_i, ↓Iv.argsK_s, ↓Iv.getO_0, ↓Iv.getO_s, ↓Iv.outK_go, ↓Iv.goO_0, ↓Iv.goO_i, ↓Iv.goO_s, ↓Iv.putS_0, ↓Iv.putS_s, ↓Iv.setK_z, ↓Iv.setK_v, ↓Iv.setK_n, ↓Iv.setK_ss, ↓Iv.setK_0s, ↓Iv.frK_v, ↓Iv.frK_o, ↓Iv.frK_ss, ↓Iv.frK_0s, ↓Iv.setsK_0, ↓Iv.setsK_c, ↓Iv.tgK_v, ↓Iv.tgK_w, ↓Iv.tgK_t, ↓Iv.tgK_2, ↓Iv.tgK_p, ↓Iv.tgK_2p, ↓Iv.asgK_f, ↓Iv.asgK_v, ↓Iv.asgK_w, ↓Iv.asgK_t, ↓Iv.asgK_2, ↓Iv.retK_i, ↓Iv.retK_s, ↓Iv.bkz_some, ↓Iv.cnd_t, ↓Iv.cnd_f, ↓Iv.endK_ret, ↓Iv.endK_next, ↓Iv.za_i, ↓Iv.zs_i, ↓Iv.zeq_i, ↓Iv.zne_i, ↓Iv.zlt_i, ↓Iv.zle_i, ↓Iv.zgt_i, ↓Iv.zge_i, ↓Iv.zeq_s, ↓Iv.zne_s, ↓Iv.zeq_b, ↓Iv.zne_b, ↓Iv.zlen_t, ↓Iv.zlen_l, ↓Iv.zlen_r, ↓Iv.zlen_d, ↓Iv.ztup_l, ↓Iv.ztup_t, ↓Iv.zlst_l, ↓Iv.zlst_t, ↓Iv.zlst_r, ↓Iv.zzip_t, ↓Iv.zzip_l, ↓Iv.zint_i, ↓Iv.zint_b, ↓Iv.zit_t, ↓Iv.zit_l, ↓Iv.zit_r, ↓Iv.zslc_t, ↓Iv.zslc_l, ↓Iv.zrev_t, ↓Iv.zrev_l, ↓Iv.zaug_a, ↓Iv.zaug_s, ↓Iv.zisn, ↓Iv.znotn, ↓Iv.zadd_l, ↓Iv.zadd_t, ↓Iv.zapp_l, ↓Iv.ty_ll, ↓Iv.ty_dd, ↓Iv.zfor_nil, ↓Iv.zty_i, ↓Iv.zty_ib, ↓Iv.zty_is, ↓Iv.zty_it, ↓Iv.zty_il, ↓Iv.zty_bi, ↓Iv.zty_bb, ↓Iv.zty_bs, ↓Iv.zty_bt, ↓Iv.zty_bl, ↓Iv.zty_si, ↓Iv.zty_sb, ↓Iv.zty_ss, ↓Iv.zty_st, ↓Iv.zty_sl, ↓Iv.zty_ti, ↓Iv.zty_tb, ↓Iv.zty_ts, ↓Iv.zty_tt, ↓Iv.zty_tl, ↓Iv.zty_li, ↓Iv.zty_lb, ↓Iv.zty_ls, ↓Iv.zty_lt, ↓Iv.zty_ll, ↓Iv.zty_ni, ↓Iv.zty_nb, ↓Iv.zty_ns, ↓Iv.zty_nt, ↓Iv.zty_nl, ↓Iv.zty_di, ↓Iv.zty_db, ↓Iv.zty_ds, ↓Iv.zty_dt, ↓Iv.zty_dl, ↓Iv.quiet_0, ↓Iv.quiet_s, ↓Iv.qS_v, ↓Iv.qS_n, ↓Iv.qS_s, ↓reduceIte, Bool.false_eq_true, Nat.reduceLeDiff, Nat.zero_le, Iv.slotsOf, Iv.nodupN, List.contains_nil, Bool.not_false, Bool.not_true, Bool.and_true, Bool.true_and, Bool.and_false, Bool.false_and, decide_true, decide_false, List.replicate, List.cons_append, List.nil_append, List.length_cons, List.length_nil, Nat.reduceAdd, Nat.reduceSub, List.contains_cons, Nat.reduceBeqDiff, Nat.reduceEqDiff, Bool.or_false, Bool.false_or, Bool.or_true, Bool.true_or, List.take_succ_cons, List.take_zero, l_paths_s, ↓bkz v2, e1, c2]
      refine Tot.bnd (forS_tot (fun i r => ∃ a : Slot, r = [.val (.tup (.str x :: encs ts)), .val (.lst (([] :: pthss 0 (ts.take i)).map pathD)), a, .none]) (fun z => ∃ a : Slot, z = (.next, [.val (.tup (.str x :: encs ts)), .val (.lst (([] :: pthss 0 ts).map pathD)), a, .none])) _ 0 _ ⟨_, rfl⟩ ?_ ?_) ?_
      · rintro j y _ hj ⟨a, rfl⟩
        rw [Nat.zero_add]
        obtain ⟨hjl, rfl⟩ := rng_get hj
        obtain ⟨t, htj⟩ : ∃ t, ts[j]? = some t := ⟨_, List.getElem?_eq_getElem hjl⟩
        have i2 : idxop (.tup (.str x :: encs ts)) (.int (1 + (j : Int))) = some (enc t) := idx_t (k := j + 1) (by omega) (encs_get htj)
        have htm := List.mem_of_getElem? htj
        have hs := sz_mem htm
        obtain ⟨o, ih⟩ := l_paths_run (m + 1) t (oks_iff.mp h.2.2.2 t htm) (by have := ht_mem htm; omega) (by omega)
        have snoc : pthss 0 (ts.take j) ++ (pths t).map (j :: ·) = pthss 0 (ts.take (j + 1)) := by
          rw [take_snoc htj, pthss_snoc, List.length_take, Nat.min_eq_left (Nat.le_of_lt (List.getElem?_eq_some_iff.mp htj).1), Nat.zero_add]
        have l0 := len_pths t
        have l1 := len_pthss 0 (ts.take j)
        have l2 := szs_take ts j
        have a1 := add_l (xs := ([] :: pthss 0 (ts.take j)).map pathD) (ys := ((pths t).map (j :: ·)).map pathD) (by rw [List.length_map, List.length_cons, List.length_map, List.length_map]; omega)
        rw [← List.map_append, List.cons_append, snoc] at a1
        have c1 := size_ok (n := ((pths t).map pathD).length) (by rw [List.length_map]; omega)
        have hc : ∀ s2 : Sl, (s2 = [.val (.tup (.str x :: encs ts)), .val (.lst (([] :: pthss 0 (ts.take j)).map pathD)), .val (.int ((j : Nat) : Int)), .none]) → cmpS 1 (run tab (m + 1)) [3] (.v 3) .nil l_paths_e0 ((pths t).map pathD) s2 = some (((pths t).map (j :: ·)).map pathD, s2) := by
          rintro _ rfl
          have e2 : (pths t).map (fun ks => pathD (j :: ks)) = ((pths t).map (j :: ·)).map pathD := by rw [List.map_map]; rfl
          rw [← e2]
          refine cmpS_mapOf pathD _ (pths t) _ fun ks hks => ?_
          obtain ⟨r, _, hk⟩ := mem_pths t ks hks
          have hh := ht_sz t
          have a3 : binop .add (.tup [.int ((j : Nat) : Int)]) (.tup (ks.map natD)) = some (false, .tup ([.int ((j : Nat) : Int)] ++ ks.map natD)) := add_t (by simp only [List.length_cons, List.length_nil, List.length_map]; omega)
          show Tot (tgK 1 (.v 3) (.tup (ks.map natD)) [.val (.tup (.str x :: encs ts)), .val (.lst (([] :: pthss 0 (ts.take j)).map pathD)), .val (.int ((j : Nat) : Int)), .none] _) _
          simp -implicitDefEqProofs only [↓Iv.k_var, ↓Iv.k_int, ↓Iv.k_str, ↓Iv.k_bl, ↓Iv.k_non, ↓Iv.k_tup, ↓Iv.k_lst, ↓Iv.k_dct, ↓Iv.z_bin, ↓Iv.k_neg, ↓Iv.z_cmp, ↓Iv.z_cmp2, ↓Iv.z_rev, ↓Iv.z_and, ↓Iv.z_or, ↓Iv.k_not, ↓Iv.z_ite, ↓Iv.z_idx, ↓Iv.z_slc, ↓Iv.z_slf, ↓Iv.z_slt, ↓Iv.z_call, ↓Iv.z_blt, ↓Iv.z_isi, ↓Iv.z_comp, ↓Iv.k_nil, ↓Iv.k_cons, ↓Iv.z_seq, ↓Iv.z_rng1, ↓Iv.k_expr, ↓Iv.z_aite, ↓Iv.z_for, ↓Iv.z_whl, ↓Iv.k_retN, ↓Iv.k_pass, ↓Iv.k_brk, ↓Iv.k_cont, ↓Iv.k_frz, ↓Iv.z_mth, ↓Iv.z_mut, ↓Iv.k_scons, ↓Iv.k_snil, ↓Iv.k_asg, ↓Iv.k_par, ↓Iv.z_set, ↓Iv.k_ret, ↓Iv.z_aug, ↓Iv.z_enm, ↓Iv.z_rng2, ↓Iv.look_0, ↓Iv.look_s, ↓Iv.onS_v, ↓Iv.onS_o, ↓Iv.ownK_o, ↓Iv.valK_v, ↓Iv.asV_i, ↓Iv.asB_i, ↓Iv.asN_i, ↓Iv.dsK_v, ↓Iv.dsK_o, ↓Iv.drK_i, ↓Iv.drK_s, ↓Iv.immsK_0, ↓Iv.immsK_i, ↓Iv.dersK_0, ↓Iv.dersK_c, ↓Iv.argsK_0, ↓Iv.argsK_i, ↓Iv.argsK_s, ↓Iv.getO_0, ↓Iv.getO_s, ↓Iv.outK_go, ↓Iv.goO_0, ↓Iv.goO_i, ↓Iv.goO_s, ↓Iv.putS_0, ↓Iv.putS_s, ↓Iv.setK_z, ↓Iv.setK_v, ↓Iv.setK_n, ↓Iv.setK_ss, ↓Iv.setK_0s, ↓Iv.frK_v, ↓Iv.frK_o, ↓Iv.frK_ss, ↓Iv.frK_0s, ↓Iv.setsK_0, ↓Iv.setsK_c, ↓Iv.tgK_v, ↓Iv.tgK_w, ↓Iv.tgK_t, ↓Iv.tgK_2, ↓Iv.tgK_p, ↓Iv.tgK_2p, ↓Iv.asgK_f, ↓Iv.asgK_v, ↓Iv.asgK_w, ↓Iv.asgK_t, ↓Iv.asgK_2, ↓Iv.retK_i, ↓Iv.retK_s, ↓Iv.bkz_some, ↓Iv.cnd_t, ↓Iv.cnd_f, ↓Iv.endK_ret, ↓Iv.endK_next, ↓Iv.za_i, ↓Iv.zs_i, ↓Iv.zeq_i, ↓Iv.zne_i, ↓Iv.zlt_i, ↓Iv.zle_i, ↓Iv.zgt_i, ↓Iv.zge_i, ↓Iv.zeq_s, ↓Iv.zne_s, ↓Iv.zeq_b, ↓Iv.zne_b, ↓Iv.zlen_t, ↓Iv.zlen_l, ↓Iv.zlen_r, ↓Iv.zlen_d, ↓Iv.ztup_l, ↓Iv.ztup_t, ↓Iv.zlst_l, ↓Iv.zlst_t, ↓Iv.zlst_r, ↓Iv.zzip_t, ↓Iv.zzip_l, ↓Iv.zint_i, ↓Iv.zint_b, ↓Iv.zit_t, ↓Iv.zit_l, ↓Iv.zit_r, ↓Iv.zslc_t, ↓Iv.zslc_l, ↓Iv.zrev_t, ↓Iv.zrev_l, ↓Iv.zaug_a, ↓Iv.zaug_s, ↓Iv.zisn, ↓Iv.znotn, ↓Iv.zadd_l, ↓Iv.zadd_t, ↓Iv.zapp_l, ↓Iv.ty_ll, ↓Iv.ty_dd, ↓Iv.zfor_nil, ↓Iv.zty_i, ↓Iv.zty_ib, ↓Iv.zty_is, ↓Iv.zty_it, ↓Iv.zty_il, ↓Iv.zty_bi, ↓Iv.zty_bb, ↓Iv.zty_bs, ↓Iv.zty_bt, ↓Iv.zty_bl, ↓Iv.zty_si, ↓Iv.zty_sb, ↓Iv.zty_ss, ↓Iv.zty_st, ↓Iv.zty_sl, ↓Iv.zty_ti, ↓Iv.zty_tb, ↓Iv.zty_ts, ↓Iv.zty_tt, ↓Iv.zty_tl, ↓Iv.zty_li, ↓Iv.zty_lb, ↓Iv.zty_ls, ↓Iv.zty_lt, ↓Iv.zty_ll, ↓Iv.zty_ni, ↓Iv.zty_nb, ↓Iv.zty_ns, ↓Iv.zty_nt, ↓Iv.zty_nl, ↓Iv.zty_di, ↓Iv.zty_db, ↓Iv.zty_ds, ↓Iv.zty_dt, ↓Iv.zty_dl, ↓Iv.quiet_0, ↓Iv.quiet_s, ↓Iv.qS_v, ↓Iv.qS_n, ↓Iv.qS_s, ↓reduceIte, Bool.false_eq_true, Nat.reduceLeDiff, Nat.zero_le, Iv.slotsOf, Iv.nodupN, List.contains_nil, Bool.not_false, Bool.not_true, Bool.and_true, Bool.true_and, Bool.and_false, Bool.false_and, decide_true, decide_false, List.replicate, List.cons_append, List.nil_append, List.length_cons, List.length_nil, Nat.reduceAdd, Nat.reduceSub, List.contains_cons, Nat.reduceBeqDiff, Nat.reduceEqDiff, Bool.or_false, Bool.false_or, Bool.or_true, Bool.true_or, List.take_succ_cons, List.take_zero, l_paths_e0, ↓bkz a3]
          exact Tot.ret ⟨rfl, rfl⟩
        show Tot (tgK 1 (.w 2) (.int ((j : Nat) : Int)) [.val (.tup (.str x :: encs ts)), .val (.lst (([] :: pthss 0 (ts.take j)).map pathD)), a, .none] _) _
        simp -implicitDefEqProofs only [↓Iv.k_var, ↓Iv.k_int, ↓Iv.k_str, ↓Iv.k_bl, ↓Iv.k_non, ↓Iv.k_tup, ↓Iv.k_lst, ↓Iv.k_dct, ↓Iv.z_bin, ↓Iv.k_neg, ↓Iv.z_cmp, ↓Iv.z_cmp2, ↓Iv.z_rev, ↓Iv.z_and, ↓Iv.z_or, ↓Iv.k_not, ↓Iv.z_ite, ↓Iv.z_idx, ↓Iv.z_slc, ↓Iv.z_slf, ↓Iv.z_slt, ↓Iv.z_call, ↓Iv.z_blt, ↓Iv.z_isi, ↓Iv.z_comp, ↓Iv.k_nil, ↓Iv.k_cons, ↓Iv.z_seq, ↓Iv.z_rng1, ↓Iv.k_expr, ↓Iv.z_aite, ↓Iv.z_for, ↓Iv.z_whl, ↓Iv.k_retN, ↓Iv.k_pass, ↓Iv.k_brk, ↓Iv.k_cont, ↓Iv.k_frz, ↓Iv.z_mth, ↓Iv.z_mut, ↓Iv.k_scons, ↓Iv.k_snil, ↓Iv.k_asg, ↓Iv.k_par, ↓Iv.z_set, ↓Iv.k_ret, ↓Iv.z_aug, ↓Iv.z_enm, ↓Iv.z_rng2, ↓Iv.look_0, ↓Iv.look_s, ↓Iv.onS_v, ↓Iv.onS_o, ↓Iv.ownK_o, ↓Iv.valK_v, ↓Iv.asV_i, ↓Iv.asB_i, ↓Iv.asN_i, ↓Iv.dsK_v, ↓Iv.dsK_o, ↓Iv.drK_i, ↓Iv.drK_s, ↓Iv.immsK_0, ↓Iv.immsK_i, ↓Iv.dersK_0, ↓Iv.dersK_c, ↓Iv.argsK_0, ↓Iv.argsK_i, ↓Iv.argsK_s, ↓Iv.getO_0, ↓Iv.getO_s, ↓Iv.outK_go, ↓Iv.goO_0, ↓Iv.goO_i, ↓Iv.goO_s, ↓Iv.putS_0, ↓Iv.putS_s, ↓Iv.setK_z, ↓Iv.setK_v, ↓Iv.setK_n, ↓Iv.setK_ss, ↓Iv.setK_0s, ↓Iv.frK_v, ↓Iv.frK_o, ↓Iv.frK_ss, ↓Iv.frK_0s, ↓Iv.setsK_0, ↓Iv.setsK_c, ↓Iv.tgK_v, ↓Iv.tgK_w, ↓Iv.tgK_t, ↓Iv.tgK_2, ↓Iv.tgK_p, ↓Iv.tgK_2p, ↓Iv.asgK_f, ↓Iv.asgK_v, ↓Iv.asgK_w, ↓Iv.asgK_t, ↓Iv.asgK_2, ↓Iv.retK_i, ↓Iv.retK_s, ↓Iv.bkz_some, ↓Iv.cnd_t, ↓Iv.cnd_f, ↓Iv.endK_ret, ↓Iv.endK_next, ↓Iv.za_i, ↓Iv.zs_i, ↓Iv.zeq_i, ↓Iv.zne_i, ↓Iv.zlt_i, ↓Iv.zle_i, ↓Iv.zgt_i, ↓Iv.zge_i, ↓Iv.zeq_s, ↓Iv.zne_s, ↓Iv.zeq_b, ↓Iv.zne_b, ↓Iv.zlen_t, ↓Iv.zlen_l, ↓Iv.zlen_r, ↓Iv.zlen_d, ↓Iv.ztup_l, ↓Iv.ztup_t, ↓Iv.zlst_l, ↓Iv.zlst_t, ↓Iv.zlst_r, ↓Iv.zzip_t, ↓Iv.zzip_l, ↓Iv.zint_i, ↓Iv.zint_b, ↓Iv.zit_t, ↓Iv.zit_l, ↓Iv.zit_r, ↓Iv.zslc_t, ↓Iv.zslc_l, ↓Iv.zrev_t, ↓Iv.zrev_l, ↓Iv.zaug_a, ↓Iv.zaug_s, ↓Iv.zisn, ↓Iv.znotn, ↓Iv.zadd_l, ↓Iv.zadd_t, ↓Iv.zapp_l, ↓Iv.ty_ll, ↓Iv.ty_dd, ↓Iv.zfor_nil, ↓Iv.zty_i, ↓Iv.zty_ib, ↓Iv.zty_is, ↓Iv.zty_it, ↓Iv.zty_il, ↓Iv.zty_bi, ↓Iv.zty_bb, ↓Iv.zty_bs, ↓Iv.zty_bt, ↓Iv.zty_bl, ↓Iv.zty_si, ↓Iv.zty_sb, ↓Iv.zty_ss, ↓Iv.zty_st, ↓Iv.zty_sl, ↓Iv.zty_ti, ↓Iv.zty_tb, ↓Iv.zty_ts, ↓Iv.zty_tt, ↓Iv.zty_tl, ↓Iv.zty_li, ↓Iv.zty_lb, ↓Iv.zty_ls, ↓Iv.zty_lt, ↓Iv.zty_ll, ↓Iv.zty_ni, ↓Iv.zty_nb, ↓Iv.zty_ns, ↓Iv.zty_nt, ↓Iv.zty_nl, ↓Iv.zty_di, ↓Iv.zty_db, ↓Iv.zty_ds, ↓Iv.zty_dt, ↓Iv.zty_dl, ↓Iv.quiet_0, ↓Iv.quiet_s, ↓Iv.qS_v, ↓Iv.qS_n, ↓Iv.qS_s, ↓reduceIte, Bool.false_eq_true, Nat.reduceLeDiff, Nat.zero_le, Iv.slotsOf, Iv.nodupN, List.contains_nil, Bool.not_false, Bool.not_true, Bool.and_true, Bool.true_and, Bool.and_false, Bool.false_and, decide_true, decide_false, List.replicate, List.cons_append, List.nil_append, List.length_cons, List.length_nil, Nat.reduceAdd, Nat.reduceSub, List.contains_cons, Nat.reduceBeqDiff, Nat.reduceEqDiff, Bool.or_false, Bool.false_or, Bool.or_true, Bool.true_or, List.take_succ_cons, List.take_zero, l_paths_b0, ↓bkz i2, ↓bkz ih, c1, ↓bkz (hc _ rfl), ↓bkz a1]
        exact Tot.ret ⟨_, rfl⟩
      · rintro _ ⟨a, rfl⟩
        rw [rng_len, Nat.zero_add, List.take_length]
        exact ⟨_, rfl⟩
      · rintro _ ⟨a, rfl⟩
        simp -implicitDefEqProofs only [↓Iv.k_var, ↓Iv.k_int, ↓Iv.k_str, ↓Iv.k_bl, ↓Iv.k_non, ↓Iv.k_tup, ↓Iv.k_lst, ↓Iv.k_dct, ↓Iv.z_bin, ↓Iv.k_neg, ↓Iv.z_cmp, ↓Iv.z_cmp2, ↓Iv.z_rev, ↓Iv.z_and, ↓Iv.z_or, ↓Iv.k_not, ↓Iv.z_ite, ↓Iv.z_idx, ↓Iv.z_slc, ↓Iv.z_slf, ↓Iv.z_slt, ↓Iv.z_call, ↓Iv.z_blt, ↓Iv.z_isi, ↓Iv.z_comp, ↓Iv.k_nil, ↓Iv.k_cons, ↓Iv.z_seq, ↓Iv.z_rng1, ↓Iv.k_expr, ↓Iv.z_aite, ↓Iv.z_for, ↓Iv.z_whl, ↓Iv.k_retN, ↓Iv.k_pass, ↓Iv.k_brk, ↓Iv.k_cont, ↓Iv.k_frz, ↓Iv.z_mth, ↓Iv.z_mut, ↓Iv.k_scons, ↓Iv.k_snil, ↓Iv.k_asg, ↓Iv.k_par, ↓Iv.z_set, ↓Iv.k_ret, ↓Iv.z_aug, ↓Iv.z_enm, ↓Iv.z_rng2, ↓Iv.look_0, ↓Iv.look_s, ↓Iv.onS_v, ↓Iv.onS_o, ↓Iv.ownK_o, ↓Iv.valK_v, ↓Iv.asV_i, ↓Iv.asB_i, ↓Iv.asN_i, ↓Iv.dsK_v, ↓Iv.dsK_o, ↓Iv.drK_i, ↓Iv.drK_s, ↓Iv.immsK_0, ↓Iv.immsK_i, ↓Iv.dersK_0, ↓Iv.dersK_c, ↓Iv.argsK_0, ↓Iv.argsK_i, ↓Iv.argsK_s, ↓Iv.getO_0, ↓Iv.getO_s, ↓Iv.outK_go, ↓Iv.goO_0, ↓Iv.goO_i, ↓Iv.goO_s, ↓Iv.putS_0, ↓Iv.putS_s, ↓Iv.setK_z, ↓Iv.setK_v, ↓Iv.setK_n, ↓Iv.setK_ss, ↓Iv.setK_0s, ↓Iv.frK_v, ↓Iv.frK_o, ↓Iv.frK_ss, ↓Iv.frK_0s, ↓Iv.setsK_0, ↓Iv.setsK_c, ↓Iv.tgK_v, ↓Iv.tgK_w, ↓Iv.tgK_t, ↓Iv.tgK_2, ↓Iv.tgK_p, ↓Iv.tgK_2p, ↓Iv.asgK_f, ↓Iv.asgK_v, ↓Iv.asgK_w, ↓Iv.asgK_t, ↓Iv.asgK_2, ↓Iv.retK_i, ↓Iv.retK_s, ↓Iv.bkz_some, ↓Iv.cnd_t, ↓Iv.cnd_f, ↓Iv.endK_ret, ↓Iv.endK_next, ↓Iv.za_i, ↓Iv.zs_i, ↓Iv.zeq_i, ↓Iv.zne_i, ↓Iv.zlt_i, ↓Iv.zle_i, ↓Iv.zgt_i, ↓Iv.zge_i, ↓Iv.zeq_s, ↓Iv.zne_s, ↓Iv.zeq_b, ↓Iv.zne_b, ↓Iv.zlen_t, ↓Iv.zlen_l, ↓Iv.zlen_r, ↓Iv.zlen_d, ↓Iv.ztup_l, ↓Iv.ztup_t, ↓Iv.zlst_l, ↓Iv.zlst_t, ↓Iv.zlst_r, ↓Iv.zzip_t, ↓Iv.zzip_l, ↓Iv.zint_i, ↓Iv.zint_b, ↓Iv.zit_t, ↓Iv.zit_l, ↓Iv.zit_r, ↓Iv.zslc_t, ↓Iv.zslc_l, ↓Iv.zrev_t, ↓Iv.zrev_l, ↓Iv.zaug_a, ↓Iv.zaug_s, ↓Iv.zisn, ↓Iv.znotn, ↓Iv.zadd_l, ↓Iv.zadd_t, ↓Iv.zapp_l, ↓Iv.ty_ll, ↓Iv.ty_dd, ↓Iv.zfor_nil, ↓Iv.zty_i, ↓Iv.zty_ib, ↓Iv.zty_is, ↓Iv.zty_it, ↓Iv.zty_il, ↓Iv.zty_bi, ↓Iv.zty_bb, ↓Iv.zty_bs, ↓Iv.zty_bt, ↓Iv.zty_bl, ↓Iv.zty_si, ↓Iv.zty_sb, ↓Iv.zty_ss, ↓Iv.zty_st, ↓Iv.zty_sl, ↓Iv.zty_ti, ↓Iv.zty_tb, ↓Iv.zty_ts, ↓Iv.zty_tt, ↓Iv.zty_tl, ↓Iv.zty_li, ↓Iv.zty_lb, ↓Iv.zty_ls, ↓Iv.zty_lt, ↓Iv.zty_ll, ↓Iv.zty_ni, ↓Iv.zty_nb, ↓Iv.zty_ns, ↓Iv.zty_nt, ↓Iv.zty_nl, ↓Iv.zty_di, ↓Iv.zty_db, ↓Iv.zty_ds, ↓Iv.zty_dt, ↓Iv.zty_dl, ↓Iv.quiet_0, ↓Iv.quiet_s, ↓Iv.qS_v, ↓Iv.qS_n, ↓Iv.qS_s, ↓reduceIte, Bool.false_eq_true, Nat.reduceLeDiff, Nat.zero_le, Iv.slotsOf, Iv.nodupN, List.contains_nil, Bool.not_false, Bool.not_true, Bool.and_true, Bool.true_and, Bool.and_false, Bool.false_and, decide_true, decide_false, List.replicate, List.cons_append, List.nil_append, List.length_cons, List.length_nil, Nat.reduceAdd, Nat.reduceSub, List.contains_cons, Nat.reduceBeqDiff, Nat.reduceEqDiff, Bool.or_false, Bool.false_or, Bool.or_true, Bool.true_or, List.take_succ_cons, List.take_zero]
        exact Tot.ret ⟨_, rfl⟩
    obtain ⟨_, e, o, rfl⟩ := main
    exact ⟨o, e⟩
theorem l_put_run (kvs : KT) (s : Slot) (hs : s = .val (.dct (encK kvs)) ∨ s = .own (.dct (encK kvs))) : ∀ (n : Nat) (t : T), ok t → ht t + 2 ≤ n → run tab n f_l_put [.val (enc t), s] = some (false, enc (psub (asF kvs) t), [.val (enc t), s])
  | n + 1, .v i, h, hn => by
    obtain ⟨m, rfl⟩ : ∃ m, n = m + 1 := ⟨n - 1, by omega⟩
    have v1 := l_is_var_run m (.v i)
    have g := get2_enc kvs i
    refine run_ret (F := l_put_f) rfl rfl (ρ' := [.val (enc (.v i)), s, .none]) ?_
    show exs 2 whileFuel (run tab (m + 1)) l_put_s [.val (enc (.v i)), s, .none] = _
    rw [exs_K]
    rcases hs with rfl | rfl <;> simp -implicitDefEqProofs only [↓Iv.k_var, ↓Iv.k_int, ↓Iv.k_str, ↓Iv.k_bl, ↓Iv.k_non, ↓Iv.k_tup, ↓Iv.k_lst, ↓Iv.k_dct, ↓Iv.z_bin, ↓Iv.k_neg, ↓Iv.z_cmp, ↓Iv.z_cmp2, ↓Iv.z_rev, ↓Iv.z_and, ↓Iv.z_or, ↓Iv.k_not, ↓Iv.z_ite, ↓Iv.z_idx, ↓Iv.z_slc, ↓Iv.z_slf, ↓Iv.z_slt, ↓Iv.z_call, ↓Iv.z_blt, ↓Iv.z_isi, ↓Iv.z_comp, ↓Iv.k_nil, ↓Iv.k_cons, ↓Iv.z_seq, ↓Iv.z_rng1, ↓Iv.k_expr, ↓Iv.z_aite, ↓Iv.z_for, ↓Iv.z_whl, ↓Iv.k_retN, ↓Iv.k_pass, ↓Iv.k_brk, ↓Iv.k_cont, ↓Iv.k_frz, ↓Iv.z_mth, ↓Iv.z_mut, ↓Iv.k_scons, ↓Iv.k_snil, ↓Iv.k_asg, ↓Iv.k_par, ↓Iv.z_set, ↓Iv.k_ret, ↓Iv.z_aug, ↓Iv.z_enm, ↓Iv.z_rng2, ↓Iv.look_0, ↓Iv.look_s, ↓Iv.onS_v, ↓Iv.onS_o, ↓Iv.ownK_o, ↓Iv.valK_v, ↓Iv.asV_i, ↓Iv.asB_i, ↓Iv.asN_i, ↓Iv.dsK_v, ↓Iv.dsK_o, ↓Iv.drK_i, ↓Iv.drK_s, ↓Iv.immsK_0, ↓Iv.immsK_i, ↓Iv.dersK_0, ↓Iv.dersK_c, ↓Iv.argsK_0, ↓Iv.argsK_i, ↓Iv.argsK_s, ↓Iv.getO_0, ↓Iv.getO_s, ↓Iv.outK_go, ↓Iv.goO_0, ↓Iv.goO_i, ↓Iv.goO_s, ↓Iv.putS_0, ↓Iv.putS_s, ↓Iv.setK_z, ↓Iv.setK_v, ↓Iv.setK_n, ↓Iv.setK_ss, ↓Iv.setK_0s, ↓Iv.frK_v, ↓Iv.frK_o, ↓Iv.frK_ss, ↓Iv.frK_0s, ↓Iv.setsK_0, ↓Iv.setsK_c, ↓Iv.tgK_v, ↓Iv.tgK_w, ↓Iv.tgK_t, ↓Iv.tgK_2, ↓Iv.tgK_p, ↓Iv.tgK_2p, ↓Iv.asgK_f, ↓Iv.asgK_v, ↓Iv.asgK_w, ↓Iv.asgK_t, ↓Iv.asgK_2, ↓Iv.retK_i, ↓Iv.retK_s, ↓Iv.bkz_some, ↓Iv.cnd_t, ↓Iv.cnd_f, ↓Iv.endK_ret, ↓Iv.endK_next, ↓Iv.za_i, ↓Iv.zs_i, ↓Iv.zeq_i, ↓Iv.zne_i, ↓Iv.zlt_i, ↓Iv.zle_i, ↓Iv.zgt_i, ↓Iv.zge_i, ↓Iv.zeq_s, ↓Iv.zne_s, ↓Iv.zeq_b, ↓Iv.zne_b, ↓Iv.zlen_t, ↓Iv.zlen_l, ↓Iv.zlen_r, ↓Iv.zlen_d, ↓Iv.ztup_l, ↓Iv.ztup_t, ↓Iv.zlst_l, ↓Iv.zlst_t, ↓Iv.zlst_r, ↓Iv.zzip_t, ↓Iv.zzip_l, ↓Iv.zint_i, ↓Iv.zint_b, ↓Iv.zit_t, ↓Iv.zit_l, ↓Iv.zit_r, ↓Iv.zslc_t, ↓Iv.zslc_l, ↓Iv.zrev_t, ↓Iv.zrev_l, ↓Iv.zaug_a, ↓Iv.zaug_s, ↓Iv.zisn, ↓Iv.znotn, ↓Iv.zadd_l, ↓Iv.zadd_t, ↓Iv.zapp_l, ↓Iv.ty_ll, ↓Iv.ty_dd, ↓Iv.zfor_nil, ↓Iv.zty_i, ↓Iv.zty_ib, ↓Iv.zty_is, ↓Iv.zty_it, ↓Iv.zty_il, ↓Iv.zty_bi, ↓Iv.zty_bb, ↓Iv.zty_bs, ↓Iv.zty_bt, ↓Iv.zty_bl, ↓Iv.zty_si, ↓Iv.zty_sb, ↓Iv.zty_ss, ↓Iv.zty_st, ↓Iv.zty_sl, ↓Iv.zty_ti, ↓Iv.zty_tb, ↓Iv.zty_ts, ↓Iv.zty_tt, ↓Iv.zty_tl, ↓Iv.zty_li, ↓Iv.zty_lb, ↓Iv.zty_ls, ↓Iv.zty_lt, ↓Iv.zty_ll, ↓Iv.zty_ni, ↓Iv.zty_nb, ↓Iv.zty_ns, ↓Iv.zty_nt, ↓Iv.zty_nl, ↓Iv.zty_di, ↓Iv.zty_db, ↓Iv.zty_ds, ↓Iv.zty_dt, ↓Iv.zty_dl, ↓Iv.quiet_0, ↓Iv.quiet_s, ↓Iv.qS_v, ↓Iv.qS_n, ↓Iv.qS_s, ↓reduceIte, Bool.false_eq_true, Nat.reduceLeDiff, Nat.zero_le, Iv.slotsOf, Iv.nodupN, List.contains_nil, Bool.not_false, Bool.not_true, Bool.and_true, Bool.true_and, Bool.and_false, Bool.false_and, decide_true, decide_false, List.replicate, List.cons_append, List.nil_append, List.length_cons, List.length_nil, Nat.reduceAdd, Nat.reduceSub, List.contains_cons, Nat.reduceBeqDiff, Nat.reduceEqDiff, Bool.or_false, Bool.false_or, Bool.or_true, Bool.true_or, List.take_succ_cons, List.take_zero, l_put_s, ↓bkz v1, ↓bkz g, psub]
  | n + 1, .f x ts, h, hn => by
    rw [ok] at h
    rw [ht] at hn
    obtain ⟨m, rfl⟩ : ∃ m, n = m + 1 := ⟨n - 1, by omega⟩
    have v1 := l_is_var_run m (.f x ts)
    have i0 : idxop (.tup (.str x :: encs ts)) (.int 0) = some (.str x) := idx_t (k := 0) rfl rfl
    have i3 : cutD (.str x :: encs ts) (some 1) none = encs ts := cut_from _ (k := 1) rfl
    have c1 := size_ok (n := (encs ts).length) (by rw [encs_len]; omega)
    have em := encs_map ts
    have a1 := add_t (xs := [.str x]) (ys := encs (psubs (asF kvs) ts)) (by rw [encs_len, psubs_map, List.length_map]; simp only [List.length_cons, List.length_nil]; omega)
    have e2 : ts.map (fun t => enc (psub (asF kvs) t)) = encs (psubs (asF kvs) ts) := by rw [encs_map, psubs_map, List.map_map]; rfl
    have hc : cmpS 2 (run tab (m + 1)) [2] (.v 2) .nil l_put_e0 (encs ts) [.val (.tup (.str x :: encs ts)), s, .none] = some (encs (psubs (asF kvs) ts), [.val (.tup (.str x :: encs ts)), s, .none]) := by
      rw [← e2]
      refine (congrArg (fun z => cmpS 2 (run tab (m + 1)) [2] (.v 2) .nil l_put_e0 z _) em).trans (cmpS_mapOf enc _ ts _ fun t htm => ?_)
      have ih := l_put_run kvs s hs (m + 1) t (oks_iff.mp h.2.2.2 t htm) (by have := ht_mem htm; omega)
      show Tot (tgK 2 (.v 2) (enc t) [.val (.tup (.str x :: encs ts)), s, .none] _) _
      rcases hs with rfl | rfl
      · simp -implicitDefEqProofs only [↓Iv.k_var, ↓Iv.k_int, ↓Iv.k_str, ↓Iv.k_bl, ↓Iv.k_non, ↓Iv.k_tup, ↓Iv.k_lst, ↓Iv.k_dct, ↓Iv.z_bin, ↓Iv.k_neg, ↓Iv.z_cmp, ↓Iv.z_cmp2, ↓Iv.z_rev, ↓Iv.z_and, ↓Iv.z_or, ↓Iv.k_not, ↓Iv.z_ite, ↓Iv.z_idx, ↓Iv.z_slc, ↓Iv.z_slf, ↓Iv.z_slt, ↓Iv.z_call, ↓Iv.z_blt, ↓Iv.z_isi, ↓Iv.z_comp, ↓Iv.k_nil, ↓Iv.k_cons, ↓Iv.z_seq, ↓Iv.z_rng1, ↓Iv.k_expr, ↓Iv.z_aite, ↓Iv.z_for, ↓Iv.z_whl, ↓Iv.k_retN, ↓Iv.k_pass, ↓Iv.k_brk, ↓Iv.k_cont, ↓Iv.k_frz, ↓Iv.z_mth, ↓Iv.z_mut, ↓Iv.k_scons, ↓Iv.k_snil, ↓Iv.k_asg, ↓Iv.k_par, ↓Iv.z_set, ↓Iv.k_ret, ↓Iv.z_aug, ↓Iv.z_enm, ↓Iv.z_rng2, ↓Iv.look_0, ↓Iv.look_s, ↓Iv.onS_v, ↓Iv.onS_o, ↓Iv.ownK_o, ↓Iv.valK_v, ↓Iv.asV_i, ↓Iv.asB_i, ↓Iv.asN_i, ↓Iv.dsK_v, ↓Iv.dsK_o, ↓Iv.drK_i, ↓Iv.drK_s, ↓Iv.immsK_0, ↓Iv.immsK_i, ↓Iv.dersK_0, ↓Iv.dersK_c, ↓Iv.argsK_0, ↓Iv.argsK_i, ↓Iv.argsK_s, ↓Iv.getO_0, ↓Iv.getO_s, ↓Iv.outK_go, ↓Iv.goO_0, ↓Iv.goO_i, ↓Iv.goO_s, ↓Iv.putS_0, ↓Iv.putS_s, ↓Iv.setK_z, ↓Iv.setK_v, ↓Iv.setK_n, ↓Iv.setK_ss, ↓Iv.setK_0s, ↓Iv.frK_v, ↓Iv.frK_o, ↓Iv.frK_ss, ↓Iv.frK_0s, ↓Iv.setsK_0, ↓Iv.setsK_c, ↓Iv.tgK_v, ↓Iv.tgK_w, ↓Iv.tgK_t, ↓Iv.tgK_2, ↓Iv.tgK_p, ↓Iv.tgK_2p, ↓Iv.asgK_f, ↓Iv.asgK_v, ↓Iv.asgK_w, ↓Iv.asgK_t, ↓Iv.asgK_2, ↓Iv.retK_i, ↓Iv.retK_s, ↓Iv.bkz_some, ↓Iv.cnd_t, ↓Iv.cnd_f, ↓Iv.endK_ret, ↓Iv.endK_next, ↓Iv.za_i, ↓Iv.zs_i, ↓Iv.zeq_i, ↓Iv.zne_i, ↓Iv.zlt_i, ↓Iv.zle_i, ↓Iv.zgt_i, ↓Iv.zge_i, ↓Iv.zeq_s, ↓Iv.zne_s, ↓Iv.zeq_b, ↓Iv.zne_b, ↓Iv.zlen_t, ↓Iv.zlen_l, ↓Iv.zlen_r, ↓Iv.zlen_d, ↓Iv.ztup_l, ↓Iv.ztup_t, ↓Iv.zlst_l, ↓Iv.zlst_t, ↓Iv.zlst_r, ↓Iv.zzip_t, ↓Iv.zzip_l, ↓Iv.zint_i, ↓Iv.zint_b, ↓Iv.zit_t, ↓Iv.zit_l, ↓Iv.zit_r, ↓Iv.zslc_t, ↓Iv.zslc_l, ↓Iv.zrev_t, ↓Iv.zrev_l, ↓Iv.zaug_a, ↓Iv.zaug_s, ↓Iv.zisn, ↓Iv.znotn, ↓Iv.zadd_l, ↓Iv.zadd_t, ↓Iv.zapp_l, ↓Iv.ty_ll, ↓Iv.ty_dd, ↓Iv.zfor_nil, ↓Iv.zty_i, ↓Iv.zty_ib, ↓Iv.zty_is, ↓Iv.zty_it, ↓Iv.zty_il, ↓Iv.zty_bi, ↓Iv.zty_bb, ↓Iv.zty_bs, ↓Iv.zty_bt, ↓Iv.zty_bl, ↓Iv.zty_si, ↓Iv.zty_sb, ↓Iv.zty_ss, ↓Iv.zty_st, ↓Iv.zty_sl, ↓Iv.zty_ti, ↓Iv.zty_tb, ↓Iv.zty_ts, ↓Iv.zty_tt, ↓Iv.zty_tl, ↓Iv.zty_li, ↓Iv.zty_lb, ↓Iv.zty_ls, ↓Iv.zty_lt, ↓Iv.zty_ll, ↓Iv.zty_ni, ↓Iv.zty_nb, ↓Iv.zty_ns, ↓Iv.zty_nt, ↓Iv.zty_nl, ↓Iv.zty_di, ↓Iv.zty_db, ↓Iv.zty_ds, ↓Iv.zty_dt, ↓Iv.zty_dl, ↓Iv.quiet_0, ↓Iv.quiet_s, ↓Iv.qS_v, ↓Iv.qS_n, ↓Iv.qS_s, ↓reduceIte, Bool.false_eq_true, Nat.reduceLeDiff, Nat.zero_le, Iv.slotsOf, Iv.nodupN, List.contains_nil, Bool.not_false, Bool.not_true, Bool.and_true, Bool.true_and, Bool.and_false, Bool.false_and, decide_true, decide_false, List.replicate, List.cons_append, List.nil_append, List.length_cons, List.length_nil, Nat.reduceAdd, Nat.reduceSub, List.contains_cons, Nat.reduceBeqDiff, Nat.reduceEqDiff, Bool.or_false, Bool.false_or, Bool.or_true, Bool.true_or, List.take_succ_cons, List.take_zero, l_put_e0, ↓bkz ih]
        exact Tot.ret ⟨rfl, rfl⟩
      · simp -implicitDefEqProofs only [↓Iv.k_var, ↓Iv.k_int, ↓Iv.k_str, ↓Iv.k_bl, ↓Iv.k_non, ↓Iv.k_tup, ↓Iv.k_lst, ↓Iv.k_dct, ↓Iv.z_bin, ↓Iv.k_neg, ↓Iv.z_cmp, ↓Iv.z_cmp2, ↓Iv.z_rev, ↓Iv.z_and, ↓Iv.z_or, ↓Iv.k_not, ↓Iv.z_ite, ↓Iv.z_idx, ↓Iv.z_slc, ↓Iv.z_slf, ↓Iv.z_slt, ↓Iv.z_call, ↓Iv.z_blt, ↓Iv.z_isi, ↓Iv.z_comp, ↓Iv.k_nil, ↓Iv.k_cons, ↓Iv.z_seq, ↓Iv.z_rng1, ↓Iv.k_expr, ↓Iv.z_aite, ↓Iv.z_for, ↓Iv.z_whl, ↓Iv.k_retN, ↓Iv.k_pass, ↓Iv.k_brk, ↓Iv.k_cont, ↓Iv.k_frz, ↓Iv.z_mth, ↓Iv.z_mut, ↓Iv.k_scons, ↓Iv.k_snil, ↓Iv.k_asg, ↓Iv.k_par, ↓Iv.z_set, ↓Iv.k_ret, ↓Iv.z_aug, ↓Iv.z_enm, ↓Iv.z_rng2, ↓Iv.look_0, ↓Iv.look_s, ↓Iv.onS_v, ↓Iv.onS_o, ↓Iv.ownK_o, ↓Iv.valK_v, ↓Iv.asV_i, ↓Iv.asB_i, ↓Iv.asN_i, ↓Iv.dsK_v, ↓Iv.dsK_o, ↓Iv.drK_i, ↓Iv.drK_s, ↓Iv.immsK_0, ↓Iv.immsK_i, ↓Iv.dersK_0, ↓Iv.dersK_c, ↓Iv.argsK_0, ↓Iv.argsK_i, ↓Iv.argsK_s, ↓Iv.getO_0, ↓Iv.getO_s, ↓Iv.outK_go, ↓Iv.goO_0, ↓Iv.goO_i, ↓Iv.goO_s, ↓Iv.putS_0, ↓Iv.putS_s, ↓Iv.setK_z, ↓Iv.setK_v, ↓Iv.setK_n, ↓Iv.setK_ss, ↓Iv.setK_0s, ↓Iv.frK_v, ↓Iv.frK_o, ↓Iv.frK_ss, ↓Iv.frK_0s, ↓Iv.setsK_0, ↓Iv.setsK_c, ↓Iv.tgK_v, ↓Iv.tgK_w, ↓Iv.tgK_t, ↓Iv.tgK_2, ↓Iv.tgK_p, ↓Iv.tgK_2p, ↓Iv.asgK_f, ↓Iv.asgK_v, ↓Iv.asgK_w, ↓Iv.asgK_t, ↓Iv.asgK_2, ↓Iv.retK_i, ↓Iv.retK_s, ↓Iv.bkz_some, ↓Iv.cnd_t, ↓Iv.cnd_f, ↓Iv.endK_ret, ↓Iv.endK_next, ↓Iv.za_i, ↓Iv.zs_i, ↓Iv.zeq_i, ↓Iv.zne_i, ↓Iv.zlt_i, ↓Iv.zle_i, ↓Iv.zgt_i, ↓Iv.zge_i, ↓Iv.zeq_s, ↓Iv.zne_s, ↓Iv.zeq_b, ↓Iv.zne_b, ↓Iv.zlen_t, ↓Iv.zlen_l, ↓Iv.zlen_r, ↓Iv.zlen_d, ↓Iv.ztup_l, ↓Iv.ztup_t, ↓Iv.zlst_l, ↓Iv.zlst_t, ↓Iv.zlst_r, ↓Iv.zzip_t, ↓Iv.zzip_l, ↓Iv.zint_i, ↓Iv.zint_b, ↓Iv.zit_t, ↓Iv.zit_l, ↓Iv.zit_r, ↓Iv.zslc_t, ↓Iv.zslc_l, ↓Iv.zrev_t, ↓Iv.zrev_l, ↓Iv.zaug_a, ↓Iv.zaug_s, ↓Iv.zisn, ↓Iv.znotn, ↓Iv.zadd_l, ↓Iv.zadd_t, ↓Iv.zapp_l, ↓Iv.ty_ll, ↓Iv.ty_dd, ↓Iv.zfor_nil, ↓Iv.zty_i, ↓Iv.zty_ib, ↓Iv.zty_is, ↓Iv.zty_it, ↓Iv.zty_il, ↓Iv.zty_bi, ↓Iv.zty_bb, ↓Iv.zty_bs, ↓Iv.zty_bt, ↓Iv.zty_bl, ↓Iv.zty_si, ↓Iv.zty_sb, ↓Iv.zty_ss, ↓Iv.zty_st, ↓Iv.zty_sl, ↓Iv.zty_ti, ↓Iv.zty_tb, ↓Iv.zty_ts, ↓Iv.zty_tt, ↓Iv.zty_tl, ↓Iv.zty_li, ↓Iv.zty_lb, ↓Iv.zty_ls, ↓Iv.zty_lt, ↓Iv.zty_ll, ↓Iv.zty_ni, ↓Iv.zty_nb, ↓Iv.zty_ns, ↓Iv.zty_nt, ↓Iv.zty_nl, ↓Iv.zty_di, ↓Iv.zty_db, ↓Iv.zty_ds, ↓Iv.zty_dt, ↓Iv.zty_dl, ↓Iv.quiet_0, ↓Iv.quiet_s, ↓Iv.qS_v, ↓Iv.qS_n, ↓Iv.qS_s, ↓reduceIte, Bool.false_eq_true, Nat.reduceLeDiff, Nat.zero_le, Iv.slotsOf, Iv.nodupN, List.contains_nil, Bool.not_false, Bool.not_true, Bool.and_true, Bool.true_and, Bool.and_false, Bool.false_and, decide_true, decide_false, List.replicate, List.cons_append, List.nil_append, List.length_cons, List.length_nil, Nat.reduceAdd, Nat.reduceSub, List.contains_cons, Nat.reduceBeqDiff, Nat.reduceEqDiff, Bool.or_false, Bool.false_or, Bool.or_true, Bool.true_or, List.take_succ_cons, List.take_zero, l_put_e0, ↓bkz ih]
        exact Tot.ret ⟨rfl, rfl⟩
    refine run_ret (F := l_put_f) rfl rfl (ρ' := [.val (enc (.f x ts)), s, .none]) ?_
    show exs 2 whileFuel (run tab (m + 1)) l_put_s [.val (enc (.f x ts)), s, .none] = _
    rw [exs_K]
    have v2 : run tab (m + 1) f_l_is_var [.val (.tup (.str x :: encs ts))] = some (false, .bl false, [.val (.tup (.str x :: encs ts))]) := v1
    rcases hs with rfl | rfl
    · simp -implicitDefEqProofs only [↓Iv.k_var, ↓Iv.k_int, ↓Iv.k_str, ↓Iv.k_bl, ↓Iv.k_non, ↓Iv.k_tup, ↓Iv.k_lst, ↓Iv.k_dct, ↓Iv.z_bin, ↓Iv.k_neg, ↓Iv.z_cmp, ↓Iv.z_cmp2, ↓Iv.z_rev, ↓Iv.z_and, ↓Iv.z_or, ↓Iv.k_not, ↓Iv.z_ite, ↓Iv.z_idx, ↓Iv.z_slc, ↓Iv.z_slf, ↓Iv.z_slt, ↓Iv.z_call, ↓Iv.z_blt, ↓Iv.z_isi, ↓Iv.z_comp, ↓Iv.k_nil, ↓Iv.k_cons, ↓Iv.z_seq, ↓Iv.z_rng1, ↓Iv.k_expr, ↓Iv.z_aite, ↓Iv.z_for, ↓Iv.z_whl, ↓Iv.k_retN, ↓Iv.k_pass, ↓Iv.k_brk, ↓Iv.k_cont, ↓Iv.k_frz, ↓Iv.z_mth, ↓Iv.z_mut, ↓Iv.k_scons, ↓Iv.k_snil, ↓Iv.k_asg, ↓Iv.k_par, ↓Iv.z_set, ↓Iv.k_ret, ↓Iv.z_aug, ↓Iv.z_enm, ↓Iv.z_rng2, ↓Iv.look_0, ↓Iv.look_s, ↓Iv.onS_v, ↓Iv.onS_o, ↓Iv.ownK_o, ↓Iv.valK_v, ↓Iv.asV_i, ↓Iv.asB_i, ↓Iv.asN_i, ↓Iv.dsK_v, ↓Iv.dsK_o, ↓Iv.drK_i, ↓Iv.drK_s, ↓Iv.immsK_0, ↓Iv.immsK_i, ↓Iv.dersK_0, ↓Iv.dersK_c, ↓Iv.argsK_0, ↓Iv.argsK_i, ↓Iv.argsK_s, ↓Iv.getO_0, ↓Iv.getO_s, ↓Iv.outK_go, ↓Iv.goO_0, ↓Iv.goO_i, ↓Iv.goO_s, ↓Iv.putS_0, ↓Iv.putS_s, ↓Iv.setK_z, ↓Iv.setK_v, ↓Iv.setK_n, ↓Iv.setK_ss, ↓Iv.setK_0s, ↓Iv.frK_v, ↓Iv.frK_o, ↓Iv.frK_ss, ↓Iv.frK_0s, ↓Iv.setsK_0, ↓Iv.setsK_c, ↓Iv.tgK_v, ↓Iv.tgK_w, ↓Iv.tgK_t, ↓Iv.tgK_2, ↓Iv.tgK_p, ↓Iv.tgK_2p, ↓Iv.asgK_f, ↓Iv.asgK_v, ↓Iv.asgK_w, ↓Iv.asgK_t, ↓Iv.asgK_2, ↓Iv.retK_i, ↓Iv.retK_s, ↓Iv.bkz_some, ↓Iv.cnd_t, ↓Iv.cnd_f, ↓Iv.endK_ret, ↓Iv.endK_next, ↓Iv.za_i, ↓Iv.zs_i, ↓Iv.zeq_i, ↓Iv.zne_i, ↓Iv.zlt_i, ↓Iv.zle_i, ↓Iv.zgt_i, ↓Iv.zge_i, ↓Iv.zeq_s, ↓Iv.zne_s, ↓Iv.zeq_b, ↓Iv.zne_b, ↓Iv.zlen_t, ↓Iv.zlen_l, ↓Iv.zlen_r, ↓Iv.zlen_d, ↓Iv.ztup_l, ↓Iv.ztup_t, ↓Iv.zlst_l, ↓Iv.zlst_t, ↓Iv.zlst_r, ↓Iv.zzip_t, ↓Iv.zzip_l, ↓Iv.zint_i, ↓Iv.zint_b, ↓Iv.zit_t, ↓Iv.zit_l, ↓Iv.zit_r, ↓Iv.zslc_t, ↓Iv.zslc_l, ↓Iv.zrev_t, ↓Iv.zrev_l, ↓Iv.zaug_a, ↓Iv.zaug_s, ↓Iv.zisn, ↓Iv.znotn, ↓Iv.zadd_l, ↓Iv.zadd_t, ↓Iv.zapp_l, ↓Iv.ty_ll, ↓Iv.ty_dd, ↓Iv.zfor_nil, ↓Iv.zty_i, ↓Iv.zty_ib, ↓Iv.zty_is, ↓Iv.zty_it, ↓Iv.zty_il, ↓Iv.zty_bi, ↓Iv.zty_bb, ↓Iv.zty_bs, ↓Iv.zty_bt, ↓Iv.zty_bl, ↓Iv.zty_si, ↓Iv.zty_sb, ↓Iv.zty_ss, ↓Iv.zty_st, ↓Iv.zty_sl, ↓Iv.zty_ti, ↓Iv.zty_tb, ↓Iv.zty_ts, ↓Iv.zty_tt, ↓Iv.zty_tl, ↓Iv.zty_li, ↓Iv.zty_lb, ↓Iv.zty_ls, ↓Iv.zty_lt, ↓Iv.zty_ll, ↓Iv.zty_ni, ↓Iv.zty_nb, ↓Iv.zty_ns, ↓Iv.zty_nt, ↓Iv.zty_nl, ↓Iv.zty_di, ↓Iv.zty_db, ↓Iv.zty_ds, ↓Iv.zty_dt, ↓Iv.zty_dl, ↓Iv.quiet_0, ↓Iv.quiet_s, ↓Iv.qS_v, ↓Iv.qS_n, ↓Iv.qS_s, ↓reduceIte, Bool.false_eq_true, Nat.reduceLeDiff, Nat.zero_le, Iv.slotsOf, Iv.nodupN, List.contains_nil, Bool.not_false, Bool.not_true, Bool.and_true, Bool.true_and, Bool.and_false, Bool.false_and, decide_true, decide_false, List.replicate, List.cons_append, List.nil_append, List.length_cons, List.length_nil, Nat.reduceAdd, Nat.reduceSub, List.contains_cons, Nat.reduceBeqDiff, Nat.reduceEqDiff, Bool.or_false, Bool.false_or, Bool.or_true, Bool.true_or, List.take_succ_cons, List.take_zero, l_put_s, enc, ↓bkz v2, ↓bkz i0, i3, c1, ↓bkz hc, ↓bkz a1, psub]
    · simp -implicitDefEqProofs only [↓Iv.k_var, ↓Iv.k_int, ↓Iv.k_str, ↓Iv.k_bl, ↓Iv.k_non, ↓Iv.k_tup, ↓Iv.k_lst, ↓Iv.k_dct, ↓Iv.z_bin, ↓Iv.k_neg, ↓Iv.z_cmp, ↓Iv.z_cmp2, ↓Iv.z_rev, ↓Iv.z_and, ↓Iv.z_or, ↓Iv.k_not, ↓Iv.z_ite, ↓Iv.z_idx, ↓Iv.z_slc, ↓Iv.z_slf, ↓Iv.z_slt, ↓Iv.z_call, ↓Iv.z_blt, ↓Iv.z_isi, ↓Iv.z_comp, ↓Iv.k_nil, ↓Iv.k_cons, ↓Iv.z_seq, ↓Iv.z_rng1, ↓Iv.k_expr, ↓Iv.z_aite, ↓Iv.z_for, ↓Iv.z_whl, ↓Iv.k_retN, ↓Iv.k_pass, ↓Iv.k_brk, ↓Iv.k_cont, ↓Iv.k_frz, ↓Iv.z_mth, ↓Iv.z_mut, ↓Iv.k_scons, ↓Iv.k_snil, ↓Iv.k_asg, ↓Iv.k_par, ↓Iv.z_set, ↓Iv.k_ret, ↓Iv.z_aug, ↓Iv.z_enm, ↓Iv.z_rng2, ↓Iv.look_0, ↓Iv.look_s, ↓Iv.onS_v, ↓Iv.onS_o, ↓Iv.ownK_o, ↓Iv.valK_v, ↓Iv.asV_i, ↓Iv.asB_i, ↓Iv.asN_i, ↓Iv.dsK_v, ↓Iv.dsK_o, ↓Iv.drK_i, ↓Iv.drK_s, ↓Iv.immsK_0, ↓Iv.immsK_i, ↓Iv.dersK_0, ↓Iv.dersK_c, ↓Iv.argsK_0, ↓Iv.argsK_i, ↓Iv.argsK_s, ↓Iv.getO_0, ↓Iv.getO_s, ↓Iv.outK_go, ↓Iv.goO_0, ↓Iv.goO_i, ↓Iv.goO_s, ↓Iv.putS_0, ↓Iv.putS_s, ↓Iv.setK_z, ↓Iv.setK_v, ↓Iv.setK_n, ↓Iv.setK_ss, ↓Iv.setK_0s, ↓Iv.frK_v, ↓Iv.frK_o, ↓Iv.frK_ss, ↓Iv.frK_0s, ↓Iv.setsK_0, ↓Iv.setsK_c, ↓Iv.tgK_v, ↓Iv.tgK_w, ↓Iv.tgK_t, ↓Iv.tgK_2, ↓Iv.tgK_p, ↓Iv.tgK_2p, ↓Iv.asgK_f, ↓Iv.asgK_v, ↓Iv.asgK_w, ↓Iv.asgK_t, ↓Iv.asgK_2, ↓Iv.retK_i, ↓Iv.retK_s, ↓Iv.bkz_some, ↓Iv.cnd_t, ↓Iv.cnd_f, ↓Iv.endK_ret, ↓Iv.endK_next, ↓Iv.za_i, ↓Iv.zs_i, ↓Iv.zeq_i, ↓Iv.zne_i, ↓Iv.zlt_i, ↓Iv.zle_i, ↓Iv.zgt_i, ↓Iv.zge_i, ↓Iv.zeq_s, ↓Iv.zne_s, ↓Iv.zeq_b, ↓Iv.zne_b, ↓Iv.zlen_t, ↓Iv.zlen_l, ↓Iv.zlen_r, ↓Iv.zlen_d, ↓Iv.ztup_l, ↓Iv.ztup_t, ↓Iv.zlst_l, ↓Iv.zlst_t, ↓Iv.zlst_r, ↓Iv.zzip_t, ↓Iv.zzip_l, ↓Iv.zint_i, ↓Iv.zint_b, ↓Iv.zit_t, ↓Iv.zit_l, ↓Iv.zit_r, ↓Iv.zslc_t, ↓Iv.zslc_l, ↓Iv.zrev_t, ↓Iv.zrev_l, ↓Iv.zaug_a, ↓Iv.zaug_s, ↓Iv.zisn, ↓Iv.znotn, ↓Iv.zadd_l, ↓Iv.zadd_t, ↓Iv.zapp_l, ↓Iv.ty_ll, ↓Iv.ty_dd, ↓Iv.zfor_nil, ↓Iv.zty_i, ↓Iv.zty_ib, ↓Iv.zty_is, ↓Iv.zty_it, ↓Iv.zty_il, ↓Iv.zty_bi, ↓Iv.zty_bb, ↓Iv.zty_bs, ↓Iv.zty_bt, ↓Iv.zty_bl, ↓Iv.zty_si, ↓Iv.zty_sb, ↓Iv.zty_ss, ↓Iv.zty_st, ↓Iv.zty_sl, ↓Iv.zty_ti, ↓Iv.zty_tb, ↓Iv.zty_ts, ↓Iv.zty_tt, ↓Iv.zty_tl, ↓Iv.zty_li, ↓Iv.zty_lb, ↓Iv.zty_ls, ↓Iv.zty_lt, ↓Iv.zty_ll, ↓Iv.zty_ni, ↓Iv.zty_nb, ↓Iv.zty_ns, ↓Iv.zty_nt, ↓Iv.zty_nl, ↓Iv.zty_di, ↓Iv.zty_db, ↓Iv.zty_ds, ↓Iv.zty_dt, ↓Iv.zty_dl, ↓Iv.quiet_0, ↓Iv.quiet_s, ↓Iv.qS_v, ↓Iv.qS_n, ↓Iv.qS_s, ↓reduceIte, Bool.false_eq_true, Nat.reduceLeDiff, Nat.zero_le, Iv.slotsOf, Iv.nodupN, List.contains_nil, Bool.not_false, Bool.not_true, Bool.and_true, Bool.true_and, Bool.and_false, Bool.false_and, decide_true, decide_false, List.replicate, List.cons_append, List.nil_append, List.length_cons, List.length_nil, Nat.reduceAdd, Nat.reduceSub, List.contains_cons, Nat.reduceBeqDiff, Nat.reduceEqDiff, Bool.or_false, Bool.false_or, Bool.or_true, Bool.true_or, List.take_succ_cons, List.take_zero, l_put_s, enc, ↓bkz v2, ↓bkz i0, i3, c1, ↓bkz hc, ↓bkz a1, psub]

theorem p_pairs_of_run (n : Nat) (kvs : KT) (hl : kvs.length < 64) (hk : ∀ p ∈ kvs, p.1 < 100000 ∧ ok p.2 ∧ ht p.2 ≤ 60) (s : Slot) (hs : s = .val (.dct (encK kvs)) ∨ s = .own (.dct (encK kvs))) :
    run tab (n + 1) f_p_pairs_of [s] = some (false, encP (prs kvs), [s]) := by
  have hm : ∀ i ∈ sortI (kvs.map fun p => ((p.1 : Nat) : Int)), ∃ k u, i = ((k : Nat) : Int) ∧ (k, u) ∈ kvs ∧ lk kvs k = some u := fun i hi => by
    rw [sortI_mem, List.mem_map] at hi
    obtain ⟨p, hp, rfl⟩ := hi
    obtain ⟨u, hu⟩ := mem_lk (show (p.1, p.2) ∈ kvs from hp)
    exact ⟨p.1, u, rfl, lk_mem hu, hu⟩
  have hlen : (sortI (kvs.map fun p => ((p.1 : Nat) : Int))).length < 64 := by rw [sortI_len, List.length_map]; exact hl
  have srt : bltop .sorted [.dct (encK kvs)] = some (true, .lst ((sortI (kvs.map fun p => ((p.1 : Nat) : Int))).map .int)) := by
    show (keysI (encK kvs)).bind _ = _
    rw [keysI_enc]
    show (if (kvs.map fun p => ((p.1 : Nat) : Int)).length < 64 then _ else _) = _
    rw [if_pos (by rw [List.length_map]; exact hl)]
  have c1 := size_ok (n := ((sortI (kvs.map fun p => ((p.1 : Nat) : Int))).map D.int).length) (by rw [List.length_map]; omega)
  have hc : cmpS 1 (run tab n) [1] (.v 1) p_pairs_of_i0 p_pairs_of_e0 ((sortI (kvs.map fun p => ((p.1 : Nat) : Int))).map D.int) [s, .none] = some ((prs kvs).map kvD, [s, .none]) := by
    have h := cmpS_fm (np := 1) (call := run tab n) (vs := [1]) (tg := .v 1) (elt := p_pairs_of_e0) (c := .cmp .ne (.idx (.var 0) (.var 1)) (.var 1)) (cs := .nil) (fun d => match d with | .int i => decide (asF kvs i.toNat ≠ .v i.toNat) | _ => false)
      (fun d => match d with | .int i => kvD (i.toNat, asF kvs i.toNat) | d => d) ((sortI (kvs.map fun p => ((p.1 : Nat) : Int))).map D.int) [s, .none] fun d hd => by
        obtain ⟨i, hi, rfl⟩ := List.mem_map.mp hd
        obtain ⟨k, u, rfl, hku, hlk⟩ := hm i hi
        obtain ⟨k1, k2, k3⟩ := hk _ hku
        simp only at k1 k2 k3
        have e1 : asF kvs k = u := by unfold asF; rw [hlk]; rfl
        have g : idxop (.dct (encK kvs)) (.int ((k : Nat) : Int)) = some (enc u) := by
          show getK (encK kvs) (.inl ((k : Nat) : Int)) = _
          rw [getK_enc, hlk]; rfl
        have hne : cmpop .ne (enc u) (.int ((k : Nat) : Int)) = some (!decide (u = .v k)) := ne_enc (t := .v k) k2 k1 (by omega) (Nat.zero_le _)
        have e2 : decide (asF kvs k ≠ .v k) = !decide (u = .v k) := by rw [e1]; simp
        show Tot (tgK 1 (.v 1) (.int ((k : Nat) : Int)) [s, .none] _) _
        rcases hs with rfl | rfl
        · simp -implicitDefEqProofs only [↓Iv.k_var, ↓Iv.k_int, ↓Iv.k_str, ↓Iv.k_bl, ↓Iv.k_non, ↓Iv.k_tup, ↓Iv.k_lst, ↓Iv.k_dct, ↓Iv.z_bin, ↓Iv.k_neg, ↓Iv.z_cmp, ↓Iv.z_cmp2, ↓Iv.z_rev, ↓Iv.z_and, ↓Iv.z_or, ↓Iv.k_not, ↓Iv.z_ite, ↓Iv.z_idx, ↓Iv.z_slc, ↓Iv.z_slf, ↓Iv.z_slt, ↓Iv.z_call, ↓Iv.z_blt, ↓Iv.z_isi, ↓Iv.z_comp, ↓Iv.k_nil, ↓Iv.k_cons, ↓Iv.z_seq, ↓Iv.z_rng1, ↓Iv.k_expr, ↓Iv.z_aite, ↓Iv.z_for, ↓Iv.z_whl, ↓Iv.k_retN, ↓Iv.k_pass, ↓Iv.k_brk, ↓Iv.k_cont, ↓Iv.k_frz, ↓Iv.z_mth, ↓Iv.z_mut, ↓Iv.k_scons, ↓Iv.k_snil, ↓Iv.k_asg, ↓Iv.k_par, ↓Iv.z_set, ↓Iv.k_ret, ↓Iv.z_aug, ↓Iv.z_enm, ↓Iv.z_rng2, ↓Iv.look_0, ↓Iv.look_s, ↓Iv.onS_v, ↓Iv.onS_o, ↓Iv.ownK_o, ↓Iv.valK_v, ↓Iv.asV_i, ↓Iv.asB_i, ↓Iv.asN_i, ↓Iv.dsK_v, ↓Iv.dsK_o, ↓Iv.drK_i, ↓Iv.drK_s, ↓Iv.immsK_0, ↓Iv.immsK_i, ↓Iv.dersK_0, ↓Iv.dersK_c, ↓Iv.argsK_0, ↓Iv.argsK_i, ↓Iv.argsK_s, ↓Iv.getO_0, ↓Iv.getO_s, ↓Iv.outK_go, ↓Iv.goO_0, ↓Iv.goO_i, ↓Iv.goO_s, ↓Iv.putS_0, ↓Iv.putS_s, ↓Iv.setK_z, ↓Iv.setK_v, ↓Iv.setK_n, ↓Iv.setK_ss, ↓Iv.setK_0s, ↓Iv.frK_v, ↓Iv.frK_o, ↓Iv.frK_ss, ↓Iv.frK_0s, ↓Iv.setsK_0, ↓Iv.setsK_c, ↓Iv.tgK_v, ↓Iv.tgK_w, ↓Iv.tgK_t, ↓Iv.tgK_2, ↓Iv.tgK_p, ↓Iv.tgK_2p, ↓Iv.asgK_f, ↓Iv.asgK_v, ↓Iv.asgK_w, ↓Iv.asgK_t, ↓Iv.asgK_2, ↓Iv.retK_i, ↓Iv.retK_s, ↓Iv.bkz_some, ↓Iv.cnd_t, ↓Iv.cnd_f, ↓Iv.endK_ret, ↓Iv.endK_next, ↓Iv.za_i, ↓Iv.zs_i, ↓Iv.zeq_i, ↓Iv.zne_i, ↓Iv.zlt_i, ↓Iv.zle_i, ↓Iv.zgt_i, ↓Iv.zge_i, ↓Iv.zeq_s, ↓Iv.zne_s, ↓Iv.zeq_b, ↓Iv.zne_b, ↓Iv.zlen_t, ↓Iv.zlen_l, ↓Iv.zlen_r, ↓Iv.zlen_d, ↓Iv.ztup_l, ↓Iv.ztup_t, ↓Iv.zlst_l, ↓Iv.zlst_t, ↓Iv.zlst_r, ↓Iv.zzip_t, ↓Iv.zzip_l, ↓Iv.zint_i, ↓Iv.zint_b, ↓Iv.zit_t, ↓Iv.zit_l, ↓Iv.zit_r, ↓Iv.zslc_t, ↓Iv.zslc_l, ↓Iv.zrev_t, ↓Iv.zrev_l, ↓Iv.zaug_a, ↓Iv.zaug_s, ↓Iv.zisn, ↓Iv.znotn, ↓Iv.zadd_l, ↓Iv.zadd_t, ↓Iv.zapp_l, ↓Iv.ty_ll, ↓Iv.ty_dd, ↓Iv.zfor_nil, ↓Iv.zty_i, ↓Iv.zty_ib, ↓Iv.zty_is, ↓Iv.zty_it, ↓Iv.zty_il, ↓Iv.zty_bi, ↓Iv.zty_bb, ↓Iv.zty_bs, ↓Iv.zty_bt, ↓Iv.zty_bl, ↓Iv.zty_si, ↓Iv.zty_sb, ↓Iv.zty_ss, ↓Iv.zty_st, ↓Iv.zty_sl, ↓Iv.zty_ti, ↓Iv.zty_tb, ↓Iv.zty_ts, ↓Iv.zty_tt, ↓Iv.zty_tl, ↓Iv.zty_li, ↓Iv.zty_lb, ↓Iv.zty_ls, ↓Iv.zty_lt, ↓Iv.zty_ll, ↓Iv.zty_ni, ↓Iv.zty_nb, ↓Iv.zty_ns, ↓Iv.zty_nt, ↓Iv.zty_nl, ↓Iv.zty_di, ↓Iv.zty_db, ↓Iv.zty_ds, ↓Iv.zty_dt, ↓Iv.zty_dl, ↓Iv.quiet_0, ↓Iv.quiet_s, ↓Iv.qS_v, ↓Iv.qS_n, ↓Iv.qS_s, ↓reduceIte, Bool.false_eq_true, Nat.reduceLeDiff, Nat.zero_le, Iv.slotsOf, Iv.nodupN, List.contains_nil, Bool.not_false, Bool.not_true, Bool.and_true, Bool.true_and, Bool.and_false, Bool.false_and, decide_true, decide_false, List.replicate, List.cons_append, List.nil_append, List.length_cons, List.length_nil, Nat.reduceAdd, Nat.reduceSub, List.contains_cons, Nat.reduceBeqDiff, Nat.reduceEqDiff, Bool.or_false, Bool.false_or, Bool.or_true, Bool.true_or, List.take_succ_cons, List.take_zero, ↓bkz g, ↓bkz hne]
          refine Tot.ret ⟨?_, rfl, fun _ => ?_⟩
          · simp only [Int.toNat_natCast]; exact e2.symm
          · simp -implicitDefEqProofs only [↓Iv.k_var, ↓Iv.k_int, ↓Iv.k_str, ↓Iv.k_bl, ↓Iv.k_non, ↓Iv.k_tup, ↓Iv.k_lst, ↓Iv.k_dct, ↓Iv.z_bin, ↓Iv.k_neg, ↓Iv.z_cmp, ↓Iv.z_cmp2, ↓Iv.z_rev, ↓Iv.z_and, ↓Iv.z_or, ↓Iv.k_not, ↓Iv.z_ite, ↓Iv.z_idx, ↓Iv.z_slc, ↓Iv.z_slf, ↓Iv.z_slt, ↓Iv.z_call, ↓Iv.z_blt, ↓Iv.z_isi, ↓Iv.z_comp, ↓Iv.k_nil, ↓Iv.k_cons, ↓Iv.z_seq, ↓Iv.z_rng1, ↓Iv.k_expr, ↓Iv.z_aite, ↓Iv.z_for, ↓Iv.z_whl, ↓Iv.k_retN, ↓Iv.k_pass, ↓Iv.k_brk, ↓Iv.k_cont, ↓Iv.k_frz, ↓Iv.z_mth, ↓Iv.z_mut, ↓Iv.k_scons, ↓Iv.k_snil, ↓Iv.k_asg, ↓Iv.k_par, ↓Iv.z_set, ↓Iv.k_ret, ↓Iv.z_aug, ↓Iv.z_enm, ↓Iv.z_rng2, ↓Iv.look_0, ↓Iv.look_s, ↓Iv.onS_v, ↓Iv.onS_o, ↓Iv.ownK_o, ↓Iv.valK_v, ↓Iv.asV_i, ↓Iv.asB_i, ↓Iv.asN_i, ↓Iv.dsK_v, ↓Iv.dsK_o, ↓Iv.drK_i, ↓Iv.drK_s, ↓Iv.immsK_0, ↓Iv.immsK_i, ↓Iv.dersK_0, ↓Iv.dersK_c, ↓Iv.argsK_0, ↓Iv.argsK_i, ↓Iv.argsK_s, ↓Iv.getO_0, ↓Iv.getO_s, ↓Iv.outK_go, ↓Iv.goO_0, ↓Iv.goO_i, ↓Iv.goO_s, ↓Iv.putS_0, ↓Iv.putS_s, ↓Iv.setK_z, ↓Iv.setK_v, ↓Iv.setK_n, ↓Iv.setK_ss, ↓Iv.setK_0s, ↓Iv.frK_v, ↓Iv.frK_o, ↓Iv.frK_ss, ↓Iv.frK_0s, ↓Iv.setsK_0, ↓Iv.setsK_c, ↓Iv.tgK_v, ↓Iv.tgK_w, ↓Iv.tgK_t, ↓Iv.tgK_2, ↓Iv.tgK_p, ↓Iv.tgK_2p, ↓Iv.asgK_f, ↓Iv.asgK_v, ↓Iv.asgK_w, ↓Iv.asgK_t, ↓Iv.asgK_2, ↓Iv.retK_i, ↓Iv.retK_s, ↓Iv.bkz_some, ↓Iv.cnd_t, ↓Iv.cnd_f, ↓Iv.endK_ret, ↓Iv.endK_next, ↓Iv.za_i, ↓Iv.zs_i, ↓Iv.zeq_i, ↓Iv.zne_i, ↓Iv.zlt_i, ↓Iv.zle_i, ↓Iv.zgt_i, ↓Iv.zge_i, ↓Iv.zeq_s, ↓Iv.zne_s, ↓Iv.zeq_b, ↓Iv.zne_b, ↓Iv.zlen_t, ↓Iv.zlen_l, ↓Iv.zlen_r, ↓Iv.zlen_d, ↓Iv.ztup_l, ↓Iv.ztup_t, ↓Iv.zlst_l, ↓Iv.zlst_t, ↓Iv.zlst_r, ↓Iv.zzip_t, ↓Iv.zzip_l, ↓Iv.zint_i, ↓Iv.zint_b, ↓Iv.zit_t, ↓Iv.zit_l, ↓Iv.zit_r, ↓Iv.zslc_t, ↓Iv.zslc_l, ↓Iv.zrev_t, ↓Iv.zrev_l, ↓Iv.zaug_a, ↓Iv.zaug_s, ↓Iv.zisn, ↓Iv.znotn, ↓Iv.zadd_l, ↓Iv.zadd_t, ↓Iv.zapp_l, ↓Iv.ty_ll, ↓Iv.ty_dd, ↓Iv.zfor_nil, ↓Iv.zty_i, ↓Iv.zty_ib, ↓Iv.zty_is, ↓Iv.zty_it, ↓Iv.zty_il, ↓Iv.zty_bi, ↓Iv.zty_bb, ↓Iv.zty_bs, ↓Iv.zty_bt, ↓Iv.zty_bl, ↓Iv.zty_si, ↓Iv.zty_sb, ↓Iv.zty_ss, ↓Iv.zty_st, ↓Iv.zty_sl, ↓Iv.zty_ti, ↓Iv.zty_tb, ↓Iv.zty_ts, ↓Iv.zty_tt, ↓Iv.zty_tl, ↓Iv.zty_li, ↓Iv.zty_lb, ↓Iv.zty_ls, ↓Iv.zty_lt, ↓Iv.zty_ll, ↓Iv.zty_ni, ↓Iv.zty_nb, ↓Iv.zty_ns, ↓Iv.zty_nt, ↓Iv.zty_nl, ↓Iv.zty_di, ↓Iv.zty_db, ↓Iv.zty_ds, ↓Iv.zty_dt, ↓Iv.zty_dl, ↓Iv.quiet_0, ↓Iv.quiet_s, ↓Iv.qS_v, ↓Iv.qS_n, ↓Iv.qS_s, ↓reduceIte, Bool.false_eq_true, Nat.reduceLeDiff, Nat.zero_le, Iv.slotsOf, Iv.nodupN, List.contains_nil, Bool.not_false, Bool.not_true, Bool.and_true, Bool.true_and, Bool.and_false, Bool.false_and, decide_true, decide_false, List.replicate, List.cons_append, List.nil_append, List.length_cons, List.length_nil, Nat.reduceAdd, Nat.reduceSub, List.contains_cons, Nat.reduceBeqDiff, Nat.reduceEqDiff, Bool.or_false, Bool.false_or, Bool.or_true, Bool.true_or, List.take_succ_cons, List.take_zero, p_pairs_of_e0, ↓bkz g]
            refine Tot.ret ⟨?_, rfl⟩
            simp only [Int.toNat_natCast, kvD, e1]
        · simp -implicitDefEqProofs only [↓Iv.k_var, ↓Iv.k_int, ↓Iv.k_str, ↓Iv.k_bl, ↓Iv.k_non, ↓Iv.k_tup, ↓Iv.k_lst, ↓Iv.k_dct, ↓Iv.z_bin, ↓Iv.k_neg, ↓Iv.z_cmp, ↓Iv.z_cmp2, ↓Iv.z_rev, ↓Iv.z_and, ↓Iv.z_or, ↓Iv.k_not, ↓Iv.z_ite, ↓Iv.z_idx, ↓Iv.z_slc, ↓Iv.z_slf, ↓Iv.z_slt, ↓Iv.z_call, ↓Iv.z_blt, ↓Iv.z_isi, ↓Iv.z_comp, ↓Iv.k_nil, ↓Iv.k_cons, ↓Iv.z_seq, ↓Iv.z_rng1, ↓Iv.k_expr, ↓Iv.z_aite, ↓Iv.z_for, ↓Iv.z_whl, ↓Iv.k_retN, ↓Iv.k_pass, ↓Iv.k_brk, ↓Iv.k_cont, ↓Iv.k_frz, ↓Iv.z_mth, ↓Iv.z_mut, ↓Iv.k_scons, ↓Iv.k_snil, ↓Iv.k_asg, ↓Iv.k_par, ↓Iv.z_set, ↓Iv.k_ret, ↓Iv.z_aug, ↓Iv.z_enm, ↓Iv.z_rng2, ↓Iv.look_0, ↓Iv.look_s, ↓Iv.onS_v, ↓Iv.onS_o, ↓Iv.ownK_o, ↓Iv.valK_v, ↓Iv.asV_i, ↓Iv.asB_i, ↓Iv.asN_i, ↓Iv.dsK_v, ↓Iv.dsK_o, ↓Iv.drK_i, ↓Iv.drK_s, ↓Iv.immsK_0, ↓Iv.immsK_i, ↓Iv.dersK_0, ↓Iv.dersK_c, ↓Iv.argsK_0, ↓Iv.argsK_i, ↓Iv.argsK_s, ↓Iv.getO_0, ↓Iv.getO_s, ↓Iv.outK_go, ↓Iv.goO_0, ↓Iv.goO_i, ↓Iv.goO_s, ↓Iv.putS_0, ↓Iv.putS_s, ↓Iv.setK_z, ↓Iv.setK_v, ↓Iv.setK_n, ↓Iv.setK_ss, ↓Iv.setK_0s, ↓Iv.frK_v, ↓Iv.frK_o, ↓Iv.frK_ss, ↓Iv.frK_0s, ↓Iv.setsK_0, ↓Iv.setsK_c, ↓Iv.tgK_v, ↓Iv.tgK_w, ↓Iv.tgK_t, ↓Iv.tgK_2, ↓Iv.tgK_p, ↓Iv.tgK_2p, ↓Iv.asgK_f, ↓Iv.asgK_v, ↓Iv.asgK_w, ↓Iv.asgK_t, ↓Iv.asgK_2, ↓Iv.retK_i, ↓Iv.retK_s, ↓Iv.bkz_some, ↓Iv.cnd_t, ↓Iv.cnd_f, ↓Iv.endK_ret, ↓Iv.endK_next, ↓Iv.za_i, ↓Iv.zs_i, ↓Iv.zeq_i, ↓Iv.zne_i, ↓Iv.zlt_i, ↓Iv.zle_i, ↓Iv.zgt_i, ↓Iv.zge_i, ↓Iv.zeq_s, ↓Iv.zne_s, ↓Iv.zeq_b, ↓Iv.zne_b, ↓Iv.zlen_t, ↓Iv.zlen_l, ↓Iv.zlen_r, ↓Iv.zlen_d, ↓Iv.ztup_l, ↓Iv.ztup_t, ↓Iv.zlst_l, ↓Iv.zlst_t, ↓Iv.zlst_r, ↓Iv.zzip_t, ↓Iv.zzip_l, ↓Iv.zint_i, ↓Iv.zint_b, ↓Iv.zit_t, ↓Iv.zit_l, ↓Iv.zit_r, ↓Iv.zslc_t, ↓Iv.zslc_l, ↓Iv.zrev_t, ↓Iv.zrev_l, ↓Iv.zaug_a, ↓Iv.zaug_s, ↓Iv.zisn, ↓Iv.znotn, ↓Iv.zadd_l, ↓Iv.zadd_t, ↓Iv.zapp_l, ↓Iv.ty_ll, ↓Iv.ty_dd, ↓Iv.zfor_nil, ↓Iv.zty_i, ↓Iv.zty_ib, ↓Iv.zty_is, ↓Iv.zty_it, ↓Iv.zty_il, ↓Iv.zty_bi, ↓Iv.zty_bb, ↓Iv.zty_bs, ↓Iv.zty_bt, ↓Iv.zty_bl, ↓Iv.zty_si, ↓Iv.zty_sb, ↓Iv.zty_ss, ↓Iv.zty_st, ↓Iv.zty_sl, ↓Iv.zty_ti, ↓Iv.zty_tb, ↓Iv.zty_ts, ↓Iv.zty_tt, ↓Iv.zty_tl, ↓Iv.zty_li, ↓Iv.zty_lb, ↓Iv.zty_ls, ↓Iv.zty_lt, ↓Iv.zty_ll, ↓Iv.zty_ni, ↓Iv.zty_nb, ↓Iv.zty_ns, ↓Iv.zty_nt, ↓Iv.zty_nl, ↓Iv.zty_di, ↓Iv.zty_db, ↓Iv.zty_ds, ↓Iv.zty_dt, ↓Iv.zty_dl, ↓Iv.quiet_0, ↓Iv.quiet_s, ↓Iv.qS_v, ↓Iv.qS_n, ↓Iv.qS_s, ↓reduceIte, Bool.false_eq_true, Nat.reduceLeDiff, Nat.zero_le, Iv.slotsOf, Iv.nodupN, List.contains_nil, Bool.not_false, Bool.not_true, Bool.and_true, Bool.true_and, Bool.and_false, Bool.false_and, decide_true, decide_false, List.replicate, List.cons_append, List.nil_append, List.length_cons, List.length_nil, Nat.reduceAdd, Nat.reduceSub, List.contains_cons, Nat.reduceBeqDiff, Nat.reduceEqDiff, Bool.or_false, Bool.false_or, Bool.or_true, Bool.true_or, List.take_succ_cons, List.take_zero, ↓bkz g, ↓bkz hne]
          refine Tot.ret ⟨?_, rfl, fun _ => ?_⟩
          · simp only [Int.toNat_natCast]; exact e2.symm
          · simp -implicitDefEqProofs only [↓Iv.k_var, ↓Iv.k_int, ↓Iv.k_str, ↓Iv.k_bl, ↓Iv.k_non, ↓Iv.k_tup, ↓Iv.k_lst, ↓Iv.k_dct, ↓Iv.z_bin, ↓Iv.k_neg, ↓Iv.z_cmp, ↓Iv.z_cmp2, ↓Iv.z_rev, ↓Iv.z_and, ↓Iv.z_or, ↓Iv.k_not, ↓Iv.z_ite, ↓Iv.z_idx, ↓Iv.z_slc, ↓Iv.z_slf, ↓Iv.z_slt, ↓Iv.z_call, ↓Iv.z_blt, ↓Iv.z_isi, ↓Iv.z_comp, ↓Iv.k_nil, ↓Iv.k_cons, ↓Iv.z_seq, ↓Iv.z_rng1, ↓Iv.k_expr, ↓Iv.z_aite, ↓Iv.z_for, ↓Iv.z_whl, ↓Iv.k_retN, ↓Iv.k_pass, ↓Iv.k_brk, ↓Iv.k_cont, ↓Iv.k_frz, ↓Iv.z_mth, ↓Iv.z_mut, ↓Iv.k_scons, ↓Iv.k_snil, ↓Iv.k_asg, ↓Iv.k_par, ↓Iv.z_set, ↓Iv.k_ret, ↓Iv.z_aug, ↓Iv.z_enm, ↓Iv.z_rng2, ↓Iv.look_0, ↓Iv.look_s, ↓Iv.onS_v, ↓Iv.onS_o, ↓Iv.ownK_o, ↓Iv.valK_v, ↓Iv.asV_i, ↓Iv.asB_i, ↓Iv.asN_i, ↓Iv.dsK_v, ↓Iv.dsK_o, ↓Iv.drK_i, ↓Iv.drK_s, ↓Iv.immsK_0, ↓Iv.immsK_i, ↓Iv.dersK_0, ↓Iv.dersK_c, ↓Iv.argsK_0, ↓Iv.argsK_i, ↓Iv.argsK_s, ↓Iv.getO_0, ↓Iv.getO_s, ↓Iv.outK_go, ↓Iv.goO_0, ↓Iv.goO_i, ↓Iv.goO_s, ↓Iv.putS_0, ↓Iv.putS_s, ↓Iv.setK_z, ↓Iv.setK_v, ↓Iv.setK_n, ↓Iv.setK_ss, ↓Iv.setK_0s, ↓Iv.frK_v, ↓Iv.frK_o, ↓Iv.frK_ss, ↓Iv.frK_0s, ↓Iv.setsK_0, ↓Iv.setsK_c, ↓Iv.tgK_v, ↓Iv.tgK_w, ↓Iv.tgK_t, ↓Iv.tgK_2, ↓Iv.tgK_p, ↓Iv.tgK_2p, ↓Iv.asgK_f, ↓Iv.asgK_v, ↓Iv.asgK_w, ↓Iv.asgK_t, ↓Iv.asgK_2, ↓Iv.retK_i, ↓Iv.retK_s, ↓Iv.bkz_some, ↓Iv.cnd_t, ↓Iv.cnd_f, ↓Iv.endK_ret, ↓Iv.endK_next, ↓Iv.za_i, ↓Iv.zs_i, ↓Iv.zeq_i, ↓Iv.zne_i, ↓Iv.zlt_i, ↓Iv.zle_i, ↓Iv.zgt_i, ↓Iv.zge_i, ↓Iv.zeq_s, ↓Iv.zne_s, ↓Iv.zeq_b, ↓Iv.zne_b, ↓Iv.zlen_t, ↓Iv.zlen_l, ↓Iv.zlen_r, ↓Iv.zlen_d, ↓Iv.ztup_l, ↓Iv.ztup_t, ↓Iv.zlst_l, ↓Iv.zlst_t, ↓Iv.zlst_r, ↓Iv.zzip_t, ↓Iv.zzip_l, ↓Iv.zint_i, ↓Iv.zint_b, ↓Iv.zit_t, ↓Iv.zit_l, ↓Iv.zit_r, ↓Iv.zslc_t, ↓Iv.zslc_l, ↓Iv.zrev_t, ↓Iv.zrev_l, ↓Iv.zaug_a, ↓Iv.zaug_s, ↓Iv.zisn, ↓Iv.znotn, ↓Iv.zadd_l, ↓Iv.zadd_t, ↓Iv.zapp_l, ↓Iv.ty_ll, ↓Iv.ty_dd, ↓Iv.zfor_nil, ↓Iv.zty_i, ↓Iv.zty_ib, ↓Iv.zty_is, ↓Iv.zty_it, ↓Iv.zty_il, ↓Iv.zty_bi, ↓Iv.zty_bb, ↓Iv.zty_bs, ↓Iv.zty_bt, ↓Iv.zty_bl, ↓Iv.zty_si, ↓Iv.zty_sb, ↓Iv.zty_ss, ↓Iv.zty_st, ↓Iv.zty_sl, ↓Iv.zty_ti, ↓Iv.zty_tb, ↓Iv.zty_ts, ↓Iv.zty_tt, ↓Iv.zty_tl, ↓Iv.zty_li, ↓Iv.zty_lb, ↓Iv.zty_ls, ↓Iv.zty_lt, ↓Iv.zty_ll, ↓Iv.zty_ni, ↓Iv.zty_nb, ↓Iv.zty_ns, ↓Iv.zty_nt, ↓Iv.zty_nl, ↓Iv.zty_di, ↓Iv.zty_db, ↓Iv.zty_ds, ↓Iv.zty_dt, ↓Iv.zty_dl, ↓Iv.quiet_0, ↓Iv.quiet_s, ↓Iv.qS_v, ↓Iv.qS_n, ↓Iv.qS_s, ↓reduceIte, Bool.false_eq_true, Nat.reduceLeDiff, Nat.zero_le, Iv.slotsOf, Iv.nodupN, List.contains_nil, Bool.not_false, Bool.not_true, Bool.and_true, Bool.true_and, Bool.and_false, Bool.false_and, decide_true, decide_false, List.replicate, List.cons_append, List.nil_append, List.length_cons, List.length_nil, Nat.reduceAdd, Nat.reduceSub, List.contains_cons, Nat.reduceBeqDiff, Nat.reduceEqDiff, Bool.or_false, Bool.false_or, Bool.or_true, Bool.true_or, List.take_succ_cons, List.take_zero, p_pairs_of_e0, ↓bkz g]
            refine Tot.ret ⟨?_, rfl⟩
            simp only [Int.toNat_natCast, kvD, e1]
    refine h.trans ?_
    congr 2
    unfold prs
    rw [List.filter_map, List.map_map, List.map_map]
    rfl
  refine run_ret (F := p_pairs_of_f) rfl rfl (ρ' := [s, .none]) ?_
  show exs 1 whileFuel (run tab n) p_pairs_of_s [s, .none] = _
  rw [exs_K]
  rcases hs with rfl | rfl
  · simp -implicitDefEqProofs only [↓Iv.k_var, ↓Iv.k_int, ↓Iv.k_str, ↓Iv.k_bl, ↓Iv.k_non, ↓Iv.k_tup, ↓Iv.k_lst, ↓Iv.k_dct, ↓Iv.z_bin, ↓Iv.k_neg, ↓Iv.z_cmp, ↓Iv.z_cmp2, ↓Iv.z_rev, ↓Iv.z_and, ↓Iv.z_or, ↓Iv.k_not, ↓Iv.z_ite, ↓Iv.z_idx, ↓Iv.z_slc, ↓Iv.z_slf, ↓Iv.z_slt, ↓Iv.z_call, ↓Iv.z_blt, ↓Iv.z_isi, ↓Iv.z_comp, ↓Iv.k_nil, ↓Iv.k_cons, ↓Iv.z_seq, ↓Iv.z_rng1, ↓Iv.k_expr, ↓Iv.z_aite, ↓Iv.z_for, ↓Iv.z_whl, ↓Iv.k_retN, ↓Iv.k_pass, ↓Iv.k_brk, ↓Iv.k_cont, ↓Iv.k_frz, ↓Iv.z_mth, ↓Iv.z_mut, ↓Iv.k_scons, ↓Iv.k_snil, ↓Iv.k_asg, ↓Iv.k_par, ↓Iv.z_set, ↓Iv.k_ret, ↓Iv.z_aug, ↓Iv.z_enm, ↓Iv.z_rng2, ↓Iv.look_0, ↓Iv.look_s, ↓Iv.onS_v, ↓Iv.onS_o, ↓Iv.ownK_o, ↓Iv.valK_v, ↓Iv.asV_i, ↓Iv.asB_i, ↓Iv.asN_i, ↓Iv.dsK_v, ↓Iv.dsK_o, ↓Iv.drK_i, ↓Iv.drK_s, ↓Iv.immsK_0, ↓Iv.immsK_i, ↓Iv.dersK_0, ↓Iv.dersK_c, ↓Iv.argsK_0, ↓Iv.argsK_i, ↓Iv.argsK_s, ↓Iv.getO_0, ↓Iv.getO_s, ↓Iv.outK_go, ↓Iv.goO_0, ↓Iv.goO_i, ↓Iv.goO_s, ↓Iv.putS_0, ↓Iv.putS_s, ↓Iv.setK_z, ↓Iv.setK_v, ↓Iv.setK_n, ↓Iv.setK_ss, ↓Iv.setK_0s, ↓Iv.frK_v, ↓Iv.frK_o, ↓Iv.frK_ss, ↓Iv.frK_0s, ↓Iv.setsK_0, ↓Iv.setsK_c, ↓Iv.tgK_v, ↓Iv.tgK_w, ↓Iv.tgK_t, ↓Iv.tgK_2, ↓Iv.tgK_p, ↓Iv.tgK_2p, ↓Iv.asgK_f, ↓Iv.asgK_v, ↓Iv.asgK_w, ↓Iv.asgK_t, ↓Iv.asgK_2, ↓Iv.retK_i, ↓Iv.retK_s, ↓Iv.bkz_some, ↓Iv.cnd_t, ↓Iv.cnd_f, ↓Iv.endK_ret, ↓Iv.endK_next, ↓Iv.za_i, ↓Iv.zs_i, ↓Iv.zeq_i, ↓Iv.zne_i, ↓Iv.zlt_i, ↓Iv.zle_i, ↓Iv.zgt_i, ↓Iv.zge_i, ↓Iv.zeq_s, ↓Iv.zne_s, ↓Iv.zeq_b, ↓Iv.zne_b, ↓Iv.zlen_t, ↓Iv.zlen_l, ↓Iv.zlen_r, ↓Iv.zlen_d, ↓Iv.ztup_l, ↓Iv.ztup_t, ↓Iv.zlst_l, ↓Iv.zlst_t, ↓Iv.zlst_r, ↓Iv.zzip_t, ↓Iv.zzip_l, ↓Iv.zint_i, ↓Iv.zint_b, ↓Iv.zit_t, ↓Iv.zit_l, ↓Iv.zit_r, ↓Iv.zslc_t, ↓Iv.zslc_l, ↓Iv.zrev_t, ↓Iv.zrev_l, ↓Iv.zaug_a, ↓Iv.zaug_s, ↓Iv.zisn, ↓Iv.znotn, ↓Iv.zadd_l, ↓Iv.zadd_t, ↓Iv.zapp_l, ↓Iv.ty_ll, ↓Iv.ty_dd, ↓Iv.zfor_nil, ↓Iv.zty_i, ↓Iv.zty_ib, ↓Iv.zty_is, ↓Iv.zty_it, ↓Iv.zty_il, ↓Iv.zty_bi, ↓Iv.zty_bb, ↓Iv.zty_bs, ↓Iv.zty_bt, ↓Iv.zty_bl, ↓Iv.zty_si, ↓Iv.zty_sb, ↓Iv.zty_ss, ↓Iv.zty_st, ↓Iv.zty_sl, ↓Iv.zty_ti, ↓Iv.zty_tb, ↓Iv.zty_ts, ↓Iv.zty_tt, ↓Iv.zty_tl, ↓Iv.zty_li, ↓Iv.zty_lb, ↓Iv.zty_ls, ↓Iv.zty_lt, ↓Iv.zty_ll, ↓Iv.zty_ni, ↓Iv.zty_nb, ↓Iv.zty_ns, ↓Iv.zty_nt, ↓Iv.zty_nl, ↓Iv.zty_di, ↓Iv.zty_db, ↓Iv.zty_ds, ↓Iv.zty_dt, ↓Iv.zty_dl, ↓Iv.quiet_0, ↓Iv.quiet_s, ↓Iv.qS_v, ↓Iv.qS_n, ↓Iv.qS_s, ↓reduceIte, Bool.false_eq_true, Nat.reduceLeDiff, Nat.zero_le, Iv.slotsOf, Iv.nodupN, List.contains_nil, Bool.not_false, Bool.not_true, Bool.and_true, Bool.true_and, Bool.and_false, Bool.false_and, decide_true, decide_false, List.replicate, List.cons_append, List.nil_append, List.length_cons, List.length_nil, Nat.reduceAdd, Nat.reduceSub, List.contains_cons, Nat.reduceBeqDiff, Nat.reduceEqDiff, Bool.or_false, Bool.false_or, Bool.or_true, Bool.true_or, List.take_succ_cons, List.take_zero, p_pairs_of_s, ↓bkz srt, c1, ↓bkz hc, encP]
  · simp -implicitDefEqProofs only [↓Iv.k_var, ↓Iv.k_int, ↓Iv.k_str, ↓Iv.k_bl, ↓Iv.k_non, ↓Iv.k_tup, ↓Iv.k_lst, ↓Iv.k_dct, ↓Iv.z_bin, ↓Iv.k_neg, ↓Iv.z_cmp, ↓Iv.z_cmp2, ↓Iv.z_rev, ↓Iv.z_and, ↓Iv.z_or, ↓Iv.k_not, ↓Iv.z_ite, ↓Iv.z_idx, ↓Iv.z_slc, ↓Iv.z_slf, ↓Iv.z_slt, ↓Iv.z_call, ↓Iv.z_blt, ↓Iv.z_isi, ↓Iv.z_comp, ↓Iv.k_nil, ↓Iv.k_cons, ↓Iv.z_seq, ↓Iv.z_rng1, ↓Iv.k_expr, ↓Iv.z_aite, ↓Iv.z_for, ↓Iv.z_whl, ↓Iv.k_retN, ↓Iv.k_pass, ↓Iv.k_brk, ↓Iv.k_cont, ↓Iv.k_frz, ↓Iv.z_mth, ↓Iv.z_mut, ↓Iv.k_scons, ↓Iv.k_snil, ↓Iv.k_asg, ↓Iv.k_par, ↓Iv.z_set, ↓Iv.k_ret, ↓Iv.z_aug, ↓Iv.z_enm, ↓Iv.z_rng2, ↓Iv.look_0, ↓Iv.look_s, ↓Iv.onS_v, ↓Iv.onS_o, ↓Iv.ownK_o, ↓Iv.valK_v, ↓Iv.asV_i, ↓Iv.asB_i, ↓Iv.asN_i, ↓Iv.dsK_v, ↓Iv.dsK_o, ↓Iv.drK_i, ↓Iv.drK_s, ↓Iv.immsK_0, ↓Iv.immsK_i, ↓Iv.dersK_0, ↓Iv.dersK_c, ↓Iv.argsK_0, ↓Iv.argsK_i, ↓Iv.argsK_s, ↓Iv.getO_0, ↓Iv.getO_s, ↓Iv.outK_go, ↓Iv.goO_0, ↓Iv.goO_i, ↓Iv.goO_s, ↓Iv.putS_0, ↓Iv.putS_s, ↓Iv.setK_z, ↓Iv.setK_v, ↓Iv.setK_n, ↓Iv.setK_ss, ↓Iv.setK_0s, ↓Iv.frK_v, ↓Iv.frK_o, ↓Iv.frK_ss, ↓Iv.frK_0s, ↓Iv.setsK_0, ↓Iv.setsK_c, ↓Iv.tgK_v, ↓Iv.tgK_w, ↓Iv.tgK_t, ↓Iv.tgK_2, ↓Iv.tgK_p, ↓Iv.tgK_2p, ↓Iv.asgK_f, ↓Iv.asgK_v, ↓Iv.asgK_w, ↓Iv.asgK_t, ↓Iv.asgK_2, ↓Iv.retK_i, ↓Iv.retK_s, ↓Iv.bkz_some, ↓Iv.cnd_t, ↓Iv.cnd_f, ↓Iv.endK_ret, ↓Iv.endK_next, ↓Iv.za_i, ↓Iv.zs_i, ↓Iv.zeq_i, ↓Iv.zne_i, ↓Iv.zlt_i, ↓Iv.zle_i, ↓Iv.zgt_i, ↓Iv.zge_i, ↓Iv.zeq_s, ↓Iv.zne_s, ↓Iv.zeq_b, ↓Iv.zne_b, ↓Iv.zlen_t, ↓Iv.zlen_l, ↓Iv.zlen_r, ↓Iv.zlen_d, ↓Iv.ztup_l, ↓Iv.ztup_t, ↓Iv.zlst_l, ↓Iv.zlst_t, ↓Iv.zlst_r, ↓Iv.zzip_t, ↓Iv.zzip_l, ↓Iv.zint_i, ↓Iv.zint_b, ↓Iv.zit_t, ↓Iv.zit_l, ↓Iv.zit_r, ↓Iv.zslc_t, ↓Iv.zslc_l, ↓Iv.zrev_t, ↓Iv.zrev_l, ↓Iv.zaug_a, ↓Iv.zaug_s, ↓Iv.zisn, ↓Iv.znotn, ↓Iv.zadd_l, ↓Iv.zadd_t, ↓Iv.zapp_l, ↓Iv.ty_ll, ↓Iv.ty_dd, ↓Iv.zfor_nil, ↓Iv.zty_i, ↓Iv.zty_ib, ↓Iv.zty_is, ↓Iv.zty_it, ↓Iv.zty_il, ↓Iv.zty_bi, ↓Iv.zty_bb, ↓Iv.zty_bs, ↓Iv.zty_bt, ↓Iv.zty_bl, ↓Iv.zty_si, ↓Iv.zty_sb, ↓Iv.zty_ss, ↓Iv.zty_st, ↓Iv.zty_sl, ↓Iv.zty_ti, ↓Iv.zty_tb, ↓Iv.zty_ts, ↓Iv.zty_tt, ↓Iv.zty_tl, ↓Iv.zty_li, ↓Iv.zty_lb, ↓Iv.zty_ls, ↓Iv.zty_lt, ↓Iv.zty_ll, ↓Iv.zty_ni, ↓Iv.zty_nb, ↓Iv.zty_ns, ↓Iv.zty_nt, ↓Iv.zty_nl, ↓Iv.zty_di, ↓Iv.zty_db, ↓Iv.zty_ds, ↓Iv.zty_dt, ↓Iv.zty_dl, ↓Iv.quiet_0, ↓Iv.quiet_s, ↓Iv.qS_v, ↓Iv.qS_n, ↓Iv.qS_s, ↓reduceIte, Bool.false_eq_true, Nat.reduceLeDiff, Nat.zero_le, Iv.slotsOf, Iv.nodupN, List.contains_nil, Bool.not_false, Bool.not_true, Bool.and_true, Bool.true_and, Bool.and_false, Bool.false_and, decide_true, decide_false, List.replicate, List.cons_append, List.nil_append, List.length_cons, List.length_nil, Nat.reduceAdd, Nat.reduceSub, List.contains_cons, Nat.reduceBeqDiff, Nat.reduceEqDiff, Bool.or_false, Bool.false_or, Bool.or_true, Bool.true_or, List.take_succ_cons, List.take_zero, p_pairs_of_s, ↓bkz srt, c1, ↓bkz hc, encP]

theorem l_pairs_run (n : Nat) (kvs : KT) (hl : kvs.length < 64) (hk : ∀ p ∈ kvs, p.1 < 100000 ∧ ok p.2 ∧ ht p.2 ≤ 60) (s : Slot) (hs : s = .val (.dct (encK kvs)) ∨ s = .own (.dct (encK kvs))) :
    run tab (n + 1) f_l_pairs [s] = some (false, encP (prs kvs), [s]) := by
  have hm : ∀ i ∈ sortI (kvs.map fun p => ((p.1 : Nat) : Int)), ∃ k u, i = ((k : Nat) : Int) ∧ (k, u) ∈ kvs ∧ lk kvs k = some u := fun i hi => by
    rw [sortI_mem, List.mem_map] at hi
    obtain ⟨p, hp, rfl⟩ := hi
    obtain ⟨u, hu⟩ := mem_lk (show (p.1, p.2) ∈ kvs from hp)
    exact ⟨p.1, u, rfl, lk_mem hu, hu⟩
  have hlen : (sortI (kvs.map fun p => ((p.1 : Nat) : Int))).length < 64 := by rw [sortI_len, List.length_map]; exact hl
  have lst : bltop .list [.dct (encK kvs)] = some (true, .lst ((kvs.map fun p => ((p.1 : Nat) : Int)).map .int)) := by
    show some (true, D.lst ((encK kvs).map fun p => keyD p.1)) = _
    unfold encK
    rw [List.map_map, List.map_map]
    rfl
  have srt : bltop .sorted [.lst ((kvs.map fun p => ((p.1 : Nat) : Int)).map .int)] = some (true, .lst ((sortI (kvs.map fun p => ((p.1 : Nat) : Int))).map .int)) := by
    show (intsD _).map _ = _
    rw [intsD_map]
    rfl
  have c1 := size_ok (n := ((sortI (kvs.map fun p => ((p.1 : Nat) : Int))).map D.int).length) (by rw [List.length_map]; omega)
  have hc : cmpS 1 (run tab n) [1] (.v 1) l_pairs_i0 l_pairs_e0 ((sortI (kvs.map fun p => ((p.1 : Nat) : Int))).map D.int) [s, .none] = some ((prs kvs).map kvD, [s, .none]) := by
    have h := cmpS_fm (np := 1) (call := run tab n) (vs := [1]) (tg := .v 1) (elt := l_pairs_e0) (c := .cmp .ne (.idx (.var 0) (.var 1)) (.var 1)) (cs := .nil) (fun d => match d with | .int i => decide (asF kvs i.toNat ≠ .v i.toNat) | _ => false)
      (fun d => match d with | .int i => kvD (i.toNat, asF kvs i.toNat) | d => d) ((sortI (kvs.map fun p => ((p.1 : Nat) : Int))).map D.int) [s, .none] fun d hd => by
        obtain ⟨i, hi, rfl⟩ := List.mem_map.mp hd
        obtain ⟨k, u, rfl, hku, hlk⟩ := hm i hi
        obtain ⟨k1, k2, k3⟩ := hk _ hku
        simp only at k1 k2 k3
        have e1 : asF kvs k = u := by unfold asF; rw [hlk]; rfl
        have g : idxop (.dct (encK kvs)) (.int ((k : Nat) : Int)) = some (enc u) := by
          show getK (encK kvs) (.inl ((k : Nat) : Int)) = _
          rw [getK_enc, hlk]; rfl
        have hne : cmpop .ne (enc u) (.int ((k : Nat) : Int)) = some (!decide (u = .v k)) := ne_enc (t := .v k) k2 k1 (by omega) (Nat.zero_le _)
        have e2 : decide (asF kvs k ≠ .v k) = !decide (u = .v k) := by rw [e1]; simp
        show Tot (tgK 1 (.v 1) (.int ((k : Nat) : Int)) [s, .none] _) _
        rcases hs with rfl | rfl
        · simp -implicitDefEqProofs only [↓Iv.k_var, ↓Iv.k_int, ↓Iv.k_str, ↓Iv.k_bl, ↓Iv.k_non, ↓Iv.k_tup, ↓Iv.k_lst, ↓Iv.k_dct, ↓Iv.z_bin, ↓Iv.k_neg, ↓Iv.z_cmp, ↓Iv.z_cmp2, ↓Iv.z_rev, ↓Iv.z_and, ↓Iv.z_or, ↓Iv.k_not, ↓Iv.z_ite, ↓Iv.z_idx, ↓Iv.z_slc, ↓Iv.z_slf, ↓Iv.z_slt, ↓Iv.z_call, ↓Iv.z_blt, ↓Iv.z_isi, ↓Iv.z_comp, ↓Iv.k_nil, ↓Iv.k_cons, ↓Iv.z_seq, ↓Iv.z_rng1, ↓Iv.k_expr, ↓Iv.z_aite, ↓Iv.z_for, ↓Iv.z_whl, ↓Iv.k_retN, ↓Iv.k_pass, ↓Iv.k_brk, ↓Iv.k_cont, ↓Iv.k_frz, ↓Iv.z_mth, ↓Iv.z_mut, ↓Iv.k_scons, ↓Iv.k_snil, ↓Iv.k_asg, ↓Iv.k_par, ↓Iv.z_set, ↓Iv.k_ret, ↓Iv.z_aug, ↓Iv.z_enm, ↓Iv.z_rng2, ↓Iv.look_0, ↓Iv.look_s, ↓Iv.onS_v, ↓Iv.onS_o, ↓Iv.ownK_o, ↓Iv.valK_v, ↓Iv.asV_i, ↓Iv.asB_i, ↓Iv.asN_i, ↓Iv.dsK_v, ↓Iv.dsK_o, ↓Iv.drK_i, ↓Iv.drK_s, ↓Iv.immsK_0, ↓Iv.immsK_i, ↓Iv.dersK_0, ↓Iv.dersK_c, ↓Iv.argsK_0, ↓Iv.argsK_i, ↓Iv.argsK_s, ↓Iv.getO_0, ↓Iv.getO_s, ↓Iv.outK_go, ↓Iv.goO_0, ↓Iv.goO_i, ↓Iv.goO_s, ↓Iv.putS_0, ↓Iv.putS_s, ↓Iv.setK_z, ↓Iv.setK_v, ↓Iv.setK_n, ↓Iv.setK_ss, ↓Iv.setK_0s, ↓Iv.frK_v, ↓Iv.frK_o, ↓Iv.frK_ss, ↓Iv.frK_0s, ↓Iv.setsK_0, ↓Iv.setsK_c, ↓Iv.tgK_v, ↓Iv.tgK_w, ↓Iv.tgK_t, ↓Iv.tgK_2, ↓Iv.tgK_p, ↓Iv.tgK_2p, ↓Iv.asgK_f, ↓Iv.asgK_v, ↓Iv.asgK_w, ↓Iv.asgK_t, ↓Iv.asgK_2, ↓Iv.retK_i, ↓Iv.retK_s, ↓Iv.bkz_some, ↓Iv.cnd_t, ↓Iv.cnd_f, ↓Iv.endK_ret, ↓Iv.endK_next, ↓Iv.za_i, ↓Iv.zs_i, ↓Iv.zeq_i, ↓Iv.zne_i, ↓Iv.zlt_i, ↓Iv.zle_i, ↓Iv.zgt_i, ↓Iv.zge_i, ↓Iv.zeq_s, ↓Iv.zne_s, ↓Iv.zeq_b, ↓Iv.zne_b, ↓Iv.zlen_t, ↓Iv.zlen_l, ↓Iv.zlen_r, ↓Iv.zlen_d, ↓Iv.ztup_l, ↓Iv.ztup_t, ↓Iv.zlst_l, ↓Iv.zlst_t, ↓Iv.zlst_r, ↓Iv.zzip_t, ↓Iv.zzip_l, ↓Iv.zint_i, ↓Iv.zint_b, ↓Iv.zit_t, ↓Iv.zit_l, ↓Iv.zit_r, ↓Iv.zslc_t, ↓Iv.zslc_l, ↓Iv.zrev_t, ↓Iv.zrev_l, ↓Iv.zaug_a, ↓Iv.zaug_s, ↓Iv.zisn, ↓Iv.znotn, ↓Iv.zadd_l, ↓Iv.zadd_t, ↓Iv.zapp_l, ↓Iv.ty_ll, ↓Iv.ty_dd, ↓Iv.zfor_nil, ↓Iv.zty_i, ↓Iv.zty_ib, ↓Iv.zty_is, ↓Iv.zty_it, ↓Iv.zty_il, ↓Iv.zty_bi, ↓Iv.zty_bb, ↓Iv.zty_bs, ↓Iv.zty_bt, ↓Iv.zty_bl, ↓Iv.zty_si, ↓Iv.zty_sb, ↓Iv.zty_ss, ↓Iv.zty_st, ↓Iv.zty_sl, ↓Iv.zty_ti, ↓Iv.zty_tb, ↓Iv.zty_ts, ↓Iv.zty_tt, ↓Iv.zty_tl, ↓Iv.zty_li, ↓Iv.zty_lb, ↓Iv.zty_ls, ↓Iv.zty_lt, ↓Iv.zty_ll, ↓Iv.zty_ni, ↓Iv.zty_nb, ↓Iv.zty_ns, ↓Iv.zty_nt, ↓Iv.zty_nl, ↓Iv.zty_di, ↓Iv.zty_db, ↓Iv.zty_ds, ↓Iv.zty_dt, ↓Iv.zty_dl, ↓Iv.quiet_0, ↓Iv.quiet_s, ↓Iv.qS_v, ↓Iv.qS_n, ↓Iv.qS_s, ↓reduceIte, Bool.false_eq_true, Nat.reduceLeDiff, Nat.zero_le, Iv.slotsOf, Iv.nodupN, List.contains_nil, Bool.not_false, Bool.not_true, Bool.and_true, Bool.true_and, Bool.and_false, Bool.false_and, decide_true, decide_false, List.replicate, List.cons_append, List.nil_append, List.length_cons, List.length_nil, Nat.reduceAdd, Nat.reduceSub, List.contains_cons, Nat.reduceBeqDiff, Nat.reduceEqDiff, Bool.or_false, Bool.false_or, Bool.or_true, Bool.true_or, List.take_succ_cons, List.take_zero, ↓bkz g, ↓bkz hne]
          refine Tot.ret ⟨?_, rfl, fun _ => ?_⟩
          · simp only [Int.toNat_natCast]; exact e2.symm
          · simp -implicitDefEqProofs only [↓Iv.k_var, ↓Iv.k_int, ↓Iv.k_str, ↓Iv.k_bl, ↓Iv.k_non, ↓Iv.k_tup, ↓Iv.k_lst, ↓Iv.k_dct, ↓Iv.z_bin, ↓Iv.k_neg, ↓Iv.z_cmp, ↓Iv.z_cmp2, ↓Iv.z_rev, ↓Iv.z_and, ↓Iv.z_or, ↓Iv.k_not, ↓Iv.z_ite, ↓Iv.z_idx, ↓Iv.z_slc, ↓Iv.z_slf, ↓Iv.z_slt, ↓Iv.z_call, ↓Iv.z_blt, ↓Iv.z_isi, ↓Iv.z_comp, ↓Iv.k_nil, ↓Iv.k_cons, ↓Iv.z_seq, ↓Iv.z_rng1, ↓Iv.k_expr, ↓Iv.z_aite, ↓Iv.z_for, ↓Iv.z_whl, ↓Iv.k_retN, ↓Iv.k_pass, ↓Iv.k_brk, ↓Iv.k_cont, ↓Iv.k_frz, ↓Iv.z_mth, ↓Iv.z_mut, ↓Iv.k_scons, ↓Iv.k_snil, ↓Iv.k_asg, ↓Iv.k_par, ↓Iv.z_set, ↓Iv.k_ret, ↓Iv.z_aug, ↓Iv.z_enm, ↓Iv.z_rng2, ↓Iv.look_0, ↓Iv.look_s, ↓Iv.onS_v, ↓Iv.onS_o, ↓Iv.ownK_o, ↓Iv.valK_v, ↓Iv.asV_i, ↓Iv.asB_i, ↓Iv.asN_i, ↓Iv.dsK_v, ↓Iv.dsK_o, ↓Iv.drK_i, ↓Iv.drK_s, ↓Iv.immsK_0, ↓Iv.immsK_i, ↓Iv.dersK_0, ↓Iv.dersK_c, ↓Iv.argsK_0, ↓Iv.argsK_i, ↓Iv.argsK_s, ↓Iv.getO_0, ↓Iv.getO_s, ↓Iv.outK_go, ↓Iv.goO_0, ↓Iv.goO_i, ↓Iv.goO_s, ↓Iv.putS_0, ↓Iv.putS_s, ↓Iv.setK_z, ↓Iv.setK_v, ↓Iv.setK_n, ↓Iv.setK_ss, ↓Iv.setK_0s, ↓Iv.frK_v, ↓Iv.frK_o, ↓Iv.frK_ss, ↓Iv.frK_0s, ↓Iv.setsK_0, ↓Iv.setsK_c, ↓Iv.tgK_v, ↓Iv.tgK_w, ↓Iv.tgK_t, ↓Iv.tgK_2, ↓Iv.tgK_p, ↓Iv.tgK_2p, ↓Iv.asgK_f, ↓Iv.asgK_v, ↓Iv.asgK_w, ↓Iv.asgK_t, ↓Iv.asgK_2, ↓Iv.retK_i, ↓Iv.retK_s, ↓Iv.bkz_some, ↓Iv.cnd_t, ↓Iv.cnd_f, ↓Iv.endK_ret, ↓Iv.endK_next, ↓Iv.za_i, ↓Iv.zs_i, ↓Iv.zeq_i, ↓Iv.zne_i, ↓Iv.zlt_i, ↓Iv.zle_i, ↓Iv.zgt_i, ↓Iv.zge_i, ↓Iv.zeq_s, ↓Iv.zne_s, ↓Iv.zeq_b, ↓Iv.zne_b, ↓Iv.zlen_t, ↓Iv.zlen_l, ↓Iv.zlen_r, ↓Iv.zlen_d, ↓Iv.ztup_l, ↓Iv.ztup_t, ↓Iv.zlst_l, ↓Iv.zlst_t, ↓Iv.zlst_r, ↓Iv.zzip_t, ↓Iv.zzip_l, ↓Iv.zint_i, ↓Iv.zint_b, ↓Iv.zit_t, ↓Iv.zit_l, ↓Iv.zit_r, ↓Iv.zslc_t, ↓Iv.zslc_l, ↓Iv.zrev_t, ↓Iv.zrev_l, ↓Iv.zaug_a, ↓Iv.zaug_s, ↓Iv.zisn, ↓Iv.znotn, ↓Iv.zadd_l, ↓Iv.zadd_t, ↓Iv.zapp_l, ↓Iv.ty_ll, ↓Iv.ty_dd, ↓Iv.zfor_nil, ↓Iv.zty_i, ↓Iv.zty_ib, ↓Iv.zty_is, ↓Iv.zty_it, ↓Iv.zty_il, ↓Iv.zty_bi, ↓Iv.zty_bb, ↓Iv.zty_bs, ↓Iv.zty_bt, ↓Iv.zty_bl, ↓Iv.zty_si, ↓Iv.zty_sb, ↓Iv.zty_ss, ↓Iv.zty_st, ↓Iv.zty_sl, ↓Iv.zty_ti, ↓Iv.zty_tb, ↓Iv.zty_ts, ↓Iv.zty_tt, ↓Iv.zty_tl, ↓Iv.zty_li, ↓Iv.zty_lb, ↓Iv.zty_ls, ↓Iv.zty_lt, ↓Iv.zty_ll, ↓Iv.zty_ni, ↓Iv.zty_nb, ↓Iv.zty_ns, ↓Iv.zty_nt, ↓Iv.zty_nl, ↓Iv.zty_di, ↓Iv.zty_db, ↓Iv.zty_ds, ↓Iv.zty_dt, ↓Iv.zty_dl, ↓Iv.quiet_0, ↓Iv.quiet_s, ↓Iv.qS_v, ↓Iv.qS_n, ↓Iv.qS_s, ↓reduceIte, Bool.false_eq_true, Nat.reduceLeDiff, Nat.zero_le, Iv.slotsOf, Iv.nodupN, List.contains_nil, Bool.not_false, Bool.not_true, Bool.and_true, Bool.true_and, Bool.and_false, Bool.false_and, decide_true, decide_false, List.replicate, List.cons_append, List.nil_append, List.length_cons, List.length_nil, Nat.reduceAdd, Nat.reduceSub, List.contains_cons, Nat.reduceBeqDiff, Nat.reduceEqDiff, Bool.or_false, Bool.false_or, Bool.or_true, Bool.true_or, List.take_succ_cons, List.take_zero, l_pairs_e0, ↓bkz g]
            refine Tot.ret ⟨?_, rfl⟩
            simp only [Int.toNat_natCast, kvD, e1]
        · simp -implicitDefEqProofs only [↓Iv.k_var, ↓Iv.k_int, ↓Iv.k_str, ↓Iv.k_bl, ↓Iv.k_non, ↓Iv.k_tup, ↓Iv.k_lst, ↓Iv.k_dct, ↓Iv.z_bin, ↓Iv.k_neg, ↓Iv.z_cmp, ↓Iv.z_cmp2, ↓Iv.z_rev, ↓Iv.z_and, ↓Iv.z_or, ↓Iv.k_not, ↓Iv.z_ite, ↓Iv.z_idx, ↓Iv.z_slc, ↓Iv.z_slf, ↓Iv.z_slt, ↓Iv.z_call, ↓Iv.z_blt, ↓Iv.z_isi, ↓Iv.z_comp, ↓Iv.k_nil, ↓Iv.k_cons, ↓Iv.z_seq, ↓Iv.z_rng1, ↓Iv.k_expr, ↓Iv.z_aite, ↓Iv.z_for, ↓Iv.z_whl, ↓Iv.k_retN, ↓Iv.k_pass, ↓Iv.k_brk, ↓Iv.k_cont, ↓Iv.k_frz, ↓Iv.z_mth, ↓Iv.z_mut, ↓Iv.k_scons, ↓Iv.k_snil, ↓Iv.k_asg, ↓Iv.k_par, ↓Iv.z_set, ↓Iv.k_ret, ↓Iv.z_aug, ↓Iv.z_enm, ↓Iv.z_rng2, ↓Iv.look_0, ↓Iv.look_s, ↓Iv.onS_v, ↓Iv.onS_o, ↓Iv.ownK_o, ↓Iv.valK_v, ↓Iv.asV_i, ↓Iv.asB_i, ↓Iv.asN_i, ↓Iv.dsK_v, ↓Iv.dsK_o, ↓Iv.drK_i, ↓Iv.drK_s, ↓Iv.immsK_0, ↓Iv.immsK_i, ↓Iv.dersK_0, ↓Iv.dersK_c, ↓Iv.argsK_0, ↓Iv.argsK_i, ↓Iv.argsK_s, ↓Iv.getO_0, ↓Iv.getO_s, ↓Iv.outK_go, ↓Iv.goO_0, ↓Iv.goO_i, ↓Iv.goO_s, ↓Iv.putS_0, ↓Iv.putS_s, ↓Iv.setK_z, ↓Iv.setK_v, ↓Iv.setK_n, ↓Iv.setK_ss, ↓Iv.setK_0s, ↓Iv.frK_v, ↓Iv.frK_o, ↓Iv.frK_ss, ↓Iv.frK_0s, ↓Iv.setsK_0, ↓Iv.setsK_c, ↓Iv.tgK_v, ↓Iv.tgK_w, ↓Iv.tgK_t, ↓Iv.tgK_2, ↓Iv.tgK_p, ↓Iv.tgK_2p, ↓Iv.asgK_f, ↓Iv.asgK_v, ↓Iv.asgK_w, ↓Iv.asgK_t, ↓Iv.asgK_2, ↓Iv.retK_i, ↓Iv.retK_s, ↓Iv.bkz_some, ↓Iv.cnd_t, ↓Iv.cnd_f, ↓Iv.endK_ret, ↓Iv.endK_next, ↓Iv.za_i, ↓Iv.zs_i, ↓Iv.zeq_i, ↓Iv.zne_i, ↓Iv.zlt_i, ↓Iv.zle_i, ↓Iv.zgt_i, ↓Iv.zge_i, ↓Iv.zeq_s, ↓Iv.zne_s, ↓Iv.zeq_b, ↓Iv.zne_b, ↓Iv.zlen_t, ↓Iv.zlen_l, ↓Iv.zlen_r, ↓Iv.zlen_d, ↓Iv.ztup_l, ↓Iv.ztup_t, ↓Iv.zlst_l, ↓Iv.zlst_t, ↓Iv.zlst_r, ↓Iv.zzip_t, ↓Iv.zzip_l, ↓Iv.zint_i, ↓Iv.zint_b, ↓Iv.zit_t, ↓Iv.zit_l, ↓Iv.zit_r, ↓Iv.zslc_t, ↓Iv.zslc_l, ↓Iv.zrev_t, ↓Iv.zrev_l, ↓Iv.zaug_a, ↓Iv.zaug_s, ↓Iv.zisn, ↓Iv.znotn, ↓Iv.zadd_l, ↓Iv.zadd_t, ↓Iv.zapp_l, ↓Iv.ty_ll, ↓Iv.ty_dd, ↓Iv.zfor_nil, ↓Iv.zty_i, ↓Iv.zty_ib, ↓Iv.zty_is, ↓Iv.zty_it, ↓Iv.zty_il, ↓Iv.zty_bi, ↓Iv.zty_bb, ↓Iv.zty_bs, ↓Iv.zty_bt, ↓Iv.zty_bl, ↓Iv.zty_si, ↓Iv.zty_sb, ↓Iv.zty_ss, ↓Iv.zty_st, ↓Iv.zty_sl, ↓Iv.zty_ti, ↓Iv.zty_tb, ↓Iv.zty_ts, ↓Iv.zty_tt, ↓Iv.zty_tl, ↓Iv.zty_li, ↓Iv.zty_lb, ↓Iv.zty_ls, ↓Iv.zty_lt, ↓Iv.zty_ll, ↓Iv.zty_ni, ↓Iv.zty_nb, ↓Iv.zty_ns, ↓Iv.zty_nt, ↓Iv.zty_nl, ↓Iv.zty_di, ↓Iv.zty_db, ↓Iv.zty_ds, ↓Iv.zty_dt, ↓Iv.zty_dl, ↓Iv.quiet_0, ↓Iv.quiet_s, ↓Iv.qS_v, ↓Iv.qS_n, ↓Iv.qS_s, ↓reduceIte, Bool.false_eq_true, Nat.reduceLeDiff, Nat.zero_le, Iv.slotsOf, Iv.nodupN, List.contains_nil, Bool.not_false, Bool.not_true, Bool.and_true, Bool.true_and, Bool.and_false, Bool.false_and, decide_true, decide_false, List.replicate, List.cons_append, List.nil_append, List.length_cons, List.length_nil, Nat.reduceAdd, Nat.reduceSub, List.contains_cons, Nat.reduceBeqDiff, Nat.reduceEqDiff, Bool.or_false, Bool.false_or, Bool.or_true, Bool.true_or, List.take_succ_cons, List.take_zero, ↓bkz g, ↓bkz hne]
          refine Tot.ret ⟨?_, rfl, fun _ => ?_⟩
          · simp only [Int.toNat_natCast]; exact e2.symm
          · simp -implicitDefEqProofs only [↓Iv.k_var, ↓Iv.k_int, ↓Iv.k_str, ↓Iv.k_bl, ↓Iv.k_non, ↓Iv.k_tup, ↓Iv.k_lst, ↓Iv.k_dct, ↓Iv.z_bin, ↓Iv.k_neg, ↓Iv.z_cmp, ↓Iv.z_cmp2, ↓Iv.z_rev, ↓Iv.z_and, ↓Iv.z_or, ↓Iv.k_not, ↓Iv.z_ite, ↓Iv.z_idx, ↓Iv.z_slc, ↓Iv.z_slf, ↓Iv.z_slt, ↓Iv.z_call, ↓Iv.z_blt, ↓Iv.z_isi, ↓Iv.z_comp, ↓Iv.k_nil, ↓Iv.k_cons, ↓Iv.z_seq, ↓Iv.z_rng1, ↓Iv.k_expr, ↓Iv.z_aite, ↓Iv.z_for, ↓Iv.z_whl, ↓Iv.k_retN, ↓Iv.k_pass, ↓Iv.k_brk, ↓Iv.k_cont, ↓Iv.k_frz, ↓Iv.z_mth, ↓Iv.z_mut, ↓Iv.k_scons, ↓Iv.k_snil, ↓Iv.k_asg, ↓Iv.k_par, ↓Iv.z_set, ↓Iv.k_ret, ↓Iv.z_aug, ↓Iv.z_enm, ↓Iv.z_rng2, ↓Iv.look_0, ↓Iv.look_s, ↓Iv.onS_v, ↓Iv.onS_o, ↓Iv.ownK_o, ↓Iv.valK_v, ↓Iv.asV_i, ↓Iv.asB_i, ↓Iv.asN_i, ↓Iv.dsK_v, ↓Iv.dsK_o, ↓Iv.drK_i, ↓Iv.drK_s, ↓Iv.immsK_0, ↓Iv.immsK_i, ↓Iv.dersK_0, ↓Iv.dersK_c, ↓Iv.argsK_0, ↓Iv.argsK_i, ↓Iv.argsK_s, ↓Iv.getO_0, ↓Iv.getO_s, ↓Iv.outK_go, ↓Iv.goO_0, ↓Iv.goO_i, ↓Iv.goO_s, ↓Iv.putS_0, ↓Iv.putS_s, ↓Iv.setK_z, ↓Iv.setK_v, ↓Iv.setK_n, ↓Iv.setK_ss, ↓Iv.setK_0s, ↓Iv.frK_v, ↓Iv.frK_o, ↓Iv.frK_ss, ↓Iv.frK_0s, ↓Iv.setsK_0, ↓Iv.setsK_c, ↓Iv.tgK_v, ↓Iv.tgK_w, ↓Iv.tgK_t, ↓Iv.tgK_2, ↓Iv.tgK_p, ↓Iv.tgK_2p, ↓Iv.asgK_f, ↓Iv.asgK_v, ↓Iv.asgK_w, ↓Iv.asgK_t, ↓Iv.asgK_2, ↓Iv.retK_i, ↓Iv.retK_s, ↓Iv.bkz_some, ↓Iv.cnd_t, ↓Iv.cnd_f, ↓Iv.endK_ret, ↓Iv.endK_next, ↓Iv.za_i, ↓Iv.zs_i, ↓Iv.zeq_i, ↓Iv.zne_i, ↓Iv.zlt_i, ↓Iv.zle_i, ↓Iv.zgt_i, ↓Iv.zge_i, ↓Iv.zeq_s, ↓Iv.zne_s, ↓Iv.zeq_b, ↓Iv.zne_b, ↓Iv.zlen_t, ↓Iv.zlen_l, ↓Iv.zlen_r, ↓Iv.zlen_d, ↓Iv.ztup_l, ↓Iv.ztup_t, ↓Iv.zlst_l, ↓Iv.zlst_t, ↓Iv.zlst_r, ↓Iv.zzip_t, ↓Iv.zzip_l, ↓Iv.zint_i, ↓Iv.zint_b, ↓Iv.zit_t, ↓Iv.zit_l, ↓Iv.zit_r, ↓Iv.zslc_t, ↓Iv.zslc_l, ↓Iv.zrev_t, ↓Iv.zrev_l, ↓Iv.zaug_a, ↓Iv.zaug_s, ↓Iv.zisn, ↓Iv.znotn, ↓Iv.zadd_l, ↓Iv.zadd_t, ↓Iv.zapp_l, ↓Iv.ty_ll, ↓Iv.ty_dd, ↓Iv.zfor_nil, ↓Iv.zty_i, ↓Iv.zty_ib, ↓Iv.zty_is, ↓Iv.zty_it, ↓Iv.zty_il, ↓Iv.zty_bi, ↓Iv.zty_bb, ↓Iv.zty_bs, ↓Iv.zty_bt, ↓Iv.zty_bl, ↓Iv.zty_si, ↓Iv.zty_sb, ↓Iv.zty_ss, ↓Iv.zty_st, ↓Iv.zty_sl, ↓Iv.zty_ti, ↓Iv.zty_tb, ↓Iv.zty_ts, ↓Iv.zty_tt, ↓Iv.zty_tl, ↓Iv.zty_li, ↓Iv.zty_lb, ↓Iv.zty_ls, ↓Iv.zty_lt, ↓Iv.zty_ll, ↓Iv.zty_ni, ↓Iv.zty_nb, ↓Iv.zty_ns, ↓Iv.zty_nt, ↓Iv.zty_nl, ↓Iv.zty_di, ↓Iv.zty_db, ↓Iv.zty_ds, ↓Iv.zty_dt, ↓Iv.zty_dl, ↓Iv.quiet_0, ↓Iv.quiet_s, ↓Iv.qS_v, ↓Iv.qS_n, ↓Iv.qS_s, ↓reduceIte, Bool.false_eq_true, Nat.reduceLeDiff, Nat.zero_le, Iv.slotsOf, Iv.nodupN, List.contains_nil, Bool.not_false, Bool.not_true, Bool.and_true, Bool.true_and, Bool.and_false, Bool.false_and, decide_true, decide_false, List.replicate, List.cons_append, List.nil_append, List.length_cons, List.length_nil, Nat.reduceAdd, Nat.reduceSub, List.contains_cons, Nat.reduceBeqDiff, Nat.reduceEqDiff, Bool.or_false, Bool.false_or, Bool.or_true, Bool.true_or, List.take_succ_cons, List.take_zero, l_pairs_e0, ↓bkz g]
            refine Tot.ret ⟨?_, rfl⟩
            simp only [Int.toNat_natCast, kvD, e1]
    refine h.trans ?_
    congr 2
    unfold prs
    rw [List.filter_map, List.map_map, List.map_map]
    rfl
  refine run_ret (F := l_pairs_f) rfl rfl (ρ' := [s, .none]) ?_
  show exs 1 whileFuel (run tab n) l_pairs_s [s, .none] = _
  rw [exs_K]
  rcases hs with rfl | rfl
  · simp -implicitDefEqProofs only [↓Iv.k_var, ↓Iv.k_int, ↓Iv.k_str, ↓Iv.k_bl, ↓Iv.k_non, ↓Iv.k_tup, ↓Iv.k_lst, ↓Iv.k_dct, ↓Iv.z_bin, ↓Iv.k_neg, ↓Iv.z_cmp, ↓Iv.z_cmp2, ↓Iv.z_rev, ↓Iv.z_and, ↓Iv.z_or, ↓Iv.k_not, ↓Iv.z_ite, ↓Iv.z_idx, ↓Iv.z_slc, ↓Iv.z_slf, ↓Iv.z_slt, ↓Iv.z_call, ↓Iv.z_blt, ↓Iv.z_isi, ↓Iv.z_comp, ↓Iv.k_nil, ↓Iv.k_cons, ↓Iv.z_seq, ↓Iv.z_rng1, ↓Iv.k_expr, ↓Iv.z_aite, ↓Iv.z_for, ↓Iv.z_whl, ↓Iv.k_retN, ↓Iv.k_pass, ↓Iv.k_brk, ↓Iv.k_cont, ↓Iv.k_frz, ↓Iv.z_mth, ↓Iv.z_mut, ↓Iv.k_scons, ↓Iv.k_snil, ↓Iv.k_asg, ↓Iv.k_par, ↓Iv.z_set, ↓Iv.k_ret, ↓Iv.z_aug, ↓Iv.z_enm, ↓Iv.z_rng2, ↓Iv.look_0, ↓Iv.look_s, ↓Iv.onS_v, ↓Iv.onS_o, ↓Iv.ownK_o, ↓Iv.valK_v, ↓Iv.asV_i, ↓Iv.asB_i, ↓Iv.asN_i, ↓Iv.dsK_v, ↓Iv.dsK_o, ↓Iv.drK_i, ↓Iv.drK_s, ↓Iv.immsK_0, ↓Iv.immsK_i, ↓Iv.dersK_0, ↓Iv.dersK_c, ↓Iv.argsK_0, ↓Iv.argsK_i, ↓Iv.argsK_s, ↓Iv.getO_0, ↓Iv.getO_s, ↓Iv.outK_go, ↓Iv.goO_0, ↓Iv.goO_i, ↓Iv.goO_s, ↓Iv.putS_0, ↓Iv.putS_s, ↓Iv.setK_z, ↓Iv.setK_v, ↓Iv.setK_n, ↓Iv.setK_ss, ↓Iv.setK_0s, ↓Iv.frK_v, ↓Iv.frK_o, ↓Iv.frK_ss, ↓Iv.frK_0s, ↓Iv.setsK_0, ↓Iv.setsK_c, ↓Iv.tgK_v, ↓Iv.tgK_w, ↓Iv.tgK_t, ↓Iv.tgK_2, ↓Iv.tgK_p, ↓Iv.tgK_2p, ↓Iv.asgK_f, ↓Iv.asgK_v, ↓Iv.asgK_w, ↓Iv.asgK_t, ↓Iv.asgK_2, ↓Iv.retK_i, ↓Iv.retK_s, ↓Iv.bkz_some, ↓Iv.cnd_t, ↓Iv.cnd_f, ↓Iv.endK_ret, ↓Iv.endK_next, ↓Iv.za_i, ↓Iv.zs_i, ↓Iv.zeq_i, ↓Iv.zne_i, ↓Iv.zlt_i, ↓Iv.zle_i, ↓Iv.zgt_i, ↓Iv.zge_i, ↓Iv.zeq_s, ↓Iv.zne_s, ↓Iv.zeq_b, ↓Iv.zne_b, ↓Iv.zlen_t, ↓Iv.zlen_l, ↓Iv.zlen_r, ↓Iv.zlen_d, ↓Iv.ztup_l, ↓Iv.ztup_t, ↓Iv.zlst_l, ↓Iv.zlst_t, ↓Iv.zlst_r, ↓Iv.zzip_t, ↓Iv.zzip_l, ↓Iv.zint_i, ↓Iv.zint_b, ↓Iv.zit_t, ↓Iv.zit_l, ↓Iv.zit_r, ↓Iv.zslc_t, ↓Iv.zslc_l, ↓Iv.zrev_t, ↓Iv.zrev_l, ↓Iv.zaug_a, ↓Iv.zaug_s, ↓Iv.zisn, ↓Iv.znotn, ↓Iv.zadd_l, ↓Iv.zadd_t, ↓Iv.zapp_l, ↓Iv.ty_ll, ↓Iv.ty_dd, ↓Iv.zfor_nil, ↓Iv.zty_i, ↓Iv.zty_ib, ↓Iv.zty_is, ↓Iv.zty_it, ↓Iv.zty_il, ↓Iv.zty_bi, ↓Iv.zty_bb, ↓Iv.zty_bs, ↓Iv.zty_bt, ↓Iv.zty_bl, ↓Iv.zty_si, ↓Iv.zty_sb, ↓Iv.zty_ss, ↓Iv.zty_st, ↓Iv.zty_sl, ↓Iv.zty_ti, ↓Iv.zty_tb, ↓Iv.zty_ts, ↓Iv.zty_tt, ↓Iv.zty_tl, ↓Iv.zty_li, ↓Iv.zty_lb, ↓Iv.zty_ls, ↓Iv.zty_lt, ↓Iv.zty_ll, ↓Iv.zty_ni, ↓Iv.zty_nb, ↓Iv.zty_ns, ↓Iv.zty_nt, ↓Iv.zty_nl, ↓Iv.zty_di, ↓Iv.zty_db, ↓Iv.zty_ds, ↓Iv.zty_dt, ↓Iv.zty_dl, ↓Iv.quiet_0, ↓Iv.quiet_s, ↓Iv.qS_v, ↓Iv.qS_n, ↓Iv.qS_s, ↓reduceIte, Bool.false_eq_true, Nat.reduceLeDiff, Nat.zero_le, Iv.slotsOf, Iv.nodupN, List.contains_nil, Bool.not_false, Bool.not_true, Bool.and_true, Bool.true_and, Bool.and_false, Bool.false_and, decide_true, decide_false, List.replicate, List.cons_append, List.nil_append, List.length_cons, List.length_nil, Nat.reduceAdd, Nat.reduceSub, List.contains_cons, Nat.reduceBeqDiff, Nat.reduceEqDiff, Bool.or_false, Bool.false_or, Bool.or_true, Bool.true_or, List.take_succ_cons, List.take_zero, l_pairs_s, ↓bkz lst, ↓bkz srt, c1, ↓bkz hc, encP]
  · simp -implicitDefEqProofs only [↓Iv.k_var, ↓Iv.k_int, ↓Iv.k_str, ↓Iv.k_bl, ↓Iv.k_non, ↓Iv.k_tup, ↓Iv.k_lst, ↓Iv.k_dct, ↓Iv.z_bin, ↓Iv.k_neg, ↓Iv.z_cmp, ↓Iv.z_cmp2, ↓Iv.z_rev, ↓Iv.z_and, ↓Iv.z_or, ↓Iv.k_not, ↓Iv.z_ite, ↓Iv.z_idx, ↓Iv.z_slc, ↓Iv.z_slf, ↓Iv.z_slt, ↓Iv.z_call, ↓Iv.z_blt, ↓Iv.z_isi, ↓Iv.z_comp, ↓Iv.k_nil, ↓Iv.k_cons, ↓Iv.z_seq, ↓Iv.z_rng1, ↓Iv.k_expr, ↓Iv.z_aite, ↓Iv.z_for, ↓Iv.z_whl, ↓Iv.k_retN, ↓Iv.k_pass, ↓Iv.k_brk, ↓Iv.k_cont, ↓Iv.k_frz, ↓Iv.z_mth, ↓Iv.z_mut, ↓Iv.k_scons, ↓Iv.k_snil, ↓Iv.k_asg, ↓Iv.k_par, ↓Iv.z_set, ↓Iv.k_ret, ↓Iv.z_aug, ↓Iv.z_enm, ↓Iv.z_rng2, ↓Iv.look_0, ↓Iv.look_s, ↓Iv.onS_v, ↓Iv.onS_o, ↓Iv.ownK_o, ↓Iv.valK_v, ↓Iv.asV_i, ↓Iv.asB_i, ↓Iv.asN_i, ↓Iv.dsK_v, ↓Iv.dsK_o, ↓Iv.drK_i, ↓Iv.drK_s, ↓Iv.immsK_0, ↓Iv.immsK_i, ↓Iv.dersK_0, ↓Iv.dersK_c, ↓Iv.argsK_0, ↓Iv.argsK_i, ↓Iv.argsK_s, ↓Iv.getO_0, ↓Iv.getO_s, ↓Iv.outK_go, ↓Iv.goO_0, ↓Iv.goO_i, ↓Iv.goO_s, ↓Iv.putS_0, ↓Iv.putS_s, ↓Iv.setK_z, ↓Iv.setK_v, ↓Iv.setK_n, ↓Iv.setK_ss, ↓Iv.setK_0s, ↓Iv.frK_v, ↓Iv.frK_o, ↓Iv.frK_ss, ↓Iv.frK_0s, ↓Iv.setsK_0, ↓Iv.setsK_c, ↓Iv.tgK_v, ↓Iv.tgK_w, ↓Iv.tgK_t, ↓Iv.tgK_2, ↓Iv.tgK_p, ↓Iv.tgK_2p, ↓Iv.asgK_f, ↓Iv.asgK_v, ↓Iv.asgK_w, ↓Iv.asgK_t, ↓Iv.asgK_2, ↓Iv.retK_i, ↓Iv.retK_s, ↓Iv.bkz_some, ↓Iv.cnd_t, ↓Iv.cnd_f, ↓Iv.endK_ret, ↓Iv.endK_next, ↓Iv.za_i, ↓Iv.zs_i, ↓Iv.zeq_i, ↓Iv.zne_i, ↓Iv.zlt_i, ↓Iv.zle_i, ↓Iv.zgt_i, ↓Iv.zge_i, ↓Iv.zeq_s, ↓Iv.zne_s, ↓Iv.zeq_b, ↓Iv.zne_b, ↓Iv.zlen_t, ↓Iv.zlen_l, ↓Iv.zlen_r, ↓Iv.zlen_d, ↓Iv.ztup_l, ↓Iv.ztup_t, ↓Iv.zlst_l, ↓Iv.zlst_t, ↓Iv.zlst_r, ↓Iv.zzip_t, ↓Iv.zzip_l, ↓Iv.zint_i, ↓Iv.zint_b, ↓Iv.zit_t, ↓Iv.zit_l, ↓Iv.zit_r, ↓Iv.zslc_t, ↓Iv.zslc_l, ↓Iv.zrev_t, ↓Iv.zrev_l, ↓Iv.zaug_a, ↓Iv.zaug_s, ↓Iv.zisn, ↓Iv.znotn, ↓Iv.zadd_l, ↓Iv.zadd_t, ↓Iv.zapp_l, ↓Iv.ty_ll, ↓Iv.ty_dd, ↓Iv.zfor_nil, ↓Iv.zty_i, ↓Iv.zty_ib, ↓Iv.zty_is, ↓Iv.zty_it, ↓Iv.zty_il, ↓Iv.zty_bi, ↓Iv.zty_bb, ↓Iv.zty_bs, ↓Iv.zty_bt, ↓Iv.zty_bl, ↓Iv.zty_si, ↓Iv.zty_sb, ↓Iv.zty_ss, ↓Iv.zty_st, ↓Iv.zty_sl, ↓Iv.zty_ti, ↓Iv.zty_tb, ↓Iv.zty_ts, ↓Iv.zty_tt, ↓Iv.zty_tl, ↓Iv.zty_li, ↓Iv.zty_lb, ↓Iv.zty_ls, ↓Iv.zty_lt, ↓Iv.zty_ll, ↓Iv.zty_ni, ↓Iv.zty_nb, ↓Iv.zty_ns, ↓Iv.zty_nt, ↓Iv.zty_nl, ↓Iv.zty_di, ↓Iv.zty_db, ↓Iv.zty_ds, ↓Iv.zty_dt, ↓Iv.zty_dl, ↓Iv.quiet_0, ↓Iv.quiet_s, ↓Iv.qS_v, ↓Iv.qS_n, ↓Iv.qS_s, ↓reduceIte, Bool.false_eq_true, Nat.reduceLeDiff, Nat.zero_le, Iv.slotsOf, Iv.nodupN, List.contains_nil, Bool.not_false, Bool.not_true, Bool.and_true, Bool.true_and, Bool.and_false, Bool.false_and, decide_true, decide_false, List.replicate, List.cons_append, List.nil_append, List.length_cons, List.length_nil, Nat.reduceAdd, Nat.reduceSub, List.contains_cons, Nat.reduceBeqDiff, Nat.reduceEqDiff, Bool.or_false, Bool.false_or, Bool.or_true, Bool.true_or, List.take_succ_cons, List.take_zero, l_pairs_s, ↓bkz lst, ↓bkz srt, c1, ↓bkz hc, encP]
end K07
namespace K07
open PySem Iv Tm
theorem eqs_nil (l : List D) : PyData.eqvAll (toPs l) [] = decide (l = []) := by
  cases l <;> rfl
theorem eq_row {b N : Nat} {kn : KT} {st : List (T × T)} (g : Good b N kn st) : cmpop .eq (.lst (stD st)) (.lst []) = some (decide (st = [])) := by
  have h : lay 62 (.lst (stD st)) := lay_lst (b := 61) fun x hx => by
    unfold stD at hx
    obtain ⟨p, hp, rfl⟩ := List.mem_map.mp hx
    obtain ⟨q1, q2, q3, q4, q5⟩ := g.row p (List.mem_reverse.mp hp)
    refine lay_tup (b := 60) fun y hy => ?_
    simp only [List.mem_cons, List.not_mem_nil, or_false] at hy
    rcases hy with rfl | rfl
    · exact lay_mono (enc_lay _ q1) q2
    · exact lay_mono (enc_lay _ q3) q4
  have h2 : SeqAt.shaped (toP (.lst [])) = true := rfl
  show (if (SeqAt.shaped (toP (.lst (stD st))) && SeqAt.shaped (toP (.lst []))) = true then some (deq (.lst (stD st)) (.lst [])) else none) = _
  rw [lay_shaped h (by decide), h2]
  show some (PyData.eqvAll (toPs (stD st)) []) = _
  rw [eqs_nil]
  congr 1
  have e : (stD st = []) ↔ st = [] := by
    rw [← List.length_eq_zero_iff, stD_len, List.length_eq_zero_iff]
  simp only [e]
theorem ne_known {b N : Nat} {kn : KT} {i : Nat} {t : T} {st : List (T × T)} (g : Good b N kn ((.v i, t) :: st)) : cmpop .ne (enc ((lk kn i).getD t)) (enc t) = some (!decide ((lk kn i).getD t = t)) := by
  obtain ⟨q1, q2, q3, q4, q5⟩ := g.row (.v i, t) (by simp)
  simp only at q3 q4
  cases e : lk kn i with
  | none => exact ne_enc q3 q3 (show ht t ≤ 64 by omega) (by omega)
  | some c =>
    obtain ⟨w1, w2, w3, w4⟩ := g.tbl _ (lk_mem e)
    exact ne_enc w2 q3 (by simp only at w3; exact Nat.le_trans w3 (by decide)) (by omega)
theorem known_same {b N : Nat} {kn : KT} {i : Nat} {t : T} {st : List (T × T)} (g : Good b N kn ((.v i, t) :: st)) (h : (lk kn i).getD t = t) : (if (lk kn i).isSome then kn else ins kn i t) = ins kn i t := by
  cases e : lk kn i with
  | none => rfl
  | some c =>
    rw [e] at h
    have hc : c = t := h
    subst hc
    rw [ins_same g.con e]; rfl
theorem p_match_run (n b N : Nat) (hN : N ≤ 60) (a c : T) (g : Good b N [] [(a, c)]) (R : Option KT) (hR : mt N [] [(a, c)] = R) :
    ∃ o, run tab (n + 30) f_p_match [.val (enc a), .val (enc c)] = some (false, match R with | none => .non | some kn => encP (prs kn), o) := by
  have main : Tot (run tab (n + 29 + 1) f_p_match [.val (enc a), .val (enc c)]) fun z => ∃ o, z = (false, match R with | none => .non | some kn => encP (prs kn), o) := by
    refine run_tot (F := p_match_f) rfl rfl ?_
    show Tot (exsK 2 whileFuel (run tab (n + 29)) p_match_s [.val (enc a), .val (enc c), .none, .none, .none, .none] (endK 2)) _
    have g0 := g.len
    simp -implicitDefEqProofs only [↓Iv.k_var, ↓Iv.k_int, ↓Iv.k_str, ↓Iv.k_bl, ↓Iv.k_non, ↓Iv.k_tup, ↓Iv.k_lst, ↓Iv.k_dct, ↓Iv.z_bin, ↓Iv.k_neg, ↓Iv.z_cmp, ↓Iv.z_cmp2, ↓Iv.z_rev, ↓Iv.z_and, ↓Iv.z_or, ↓Iv.k_not, ↓Iv.z_ite, ↓Iv.z_idx, ↓Iv.z_slc, ↓Iv.z_slf, ↓Iv.z_slt, ↓Iv.z_call, ↓Iv.z_blt, ↓Iv.z_isi, ↓Iv.z_comp, ↓Iv.k_nil, ↓Iv.k_cons, ↓Iv.z_seq, ↓Iv.z_rng1, ↓Iv.k_expr, ↓Iv.z_aite, ↓Iv.z_for, ↓Iv.z_whl, ↓Iv.k_retN, ↓Iv.k_pass, ↓Iv.k_brk, ↓Iv.k_cont, ↓Iv.k_frz, ↓Iv.z_mth, ↓Iv.z_mut, ↓Iv.k_scons, ↓Iv.k_snil, ↓Iv.k_asg, ↓Iv.k_par, ↓Iv.z_set, ↓Iv.k_ret, ↓Iv.z_aug, ↓Iv.z_enm, ↓Iv.z_rng2, ↓Iv.look_0, ↓Iv.look_s, ↓Iv.onS_v, ↓Iv.onS_o, ↓Iv.ownK_o, ↓Iv.valK_v, ↓Iv.asV_i, ↓Iv.asB_i, ↓Iv.asN_i, ↓Iv.dsK_v, ↓Iv.dsK_o, ↓Iv.drK_i, ↓Iv.drK_s, ↓Iv.immsK_0, ↓Iv.immsK_i, ↓Iv.dersK_0, ↓Iv.dersK_c, ↓Iv.argsK_0, ↓Iv.argsK_i, ↓Iv.argsK_s, ↓Iv.getO_0, ↓Iv.getO_s, ↓Iv.outK_go, ↓Iv.goO_0, ↓Iv.goO_i, ↓Iv.goO_s, ↓Iv.putS_0, ↓Iv.putS_s, ↓Iv.setK_z, ↓Iv.setK_v, ↓Iv.setK_n, ↓Iv.setK_ss, ↓Iv.setK_0s, ↓Iv.frK_v, ↓Iv.frK_o, ↓Iv.frK_ss, ↓Iv.frK_0s, ↓Iv.setsK_0, ↓Iv.setsK_c, ↓Iv.tgK_v, ↓Iv.tgK_w, ↓Iv.tgK_t, ↓Iv.tgK_2, ↓Iv.tgK_p, ↓Iv.tgK_2p, ↓Iv.asgK_f, ↓Iv.asgK_v, ↓Iv.asgK_w, ↓Iv.asgK_t, ↓Iv.asgK_2, ↓Iv.retK_i, ↓Iv.retK_s, ↓Iv.bkz_some, ↓Iv.cnd_t, ↓Iv.cnd_f, ↓Iv.endK_ret, ↓Iv.endK_next, ↓Iv.za_i, ↓Iv.zs_i, ↓Iv.zeq_i, ↓Iv.zne_i, ↓Iv.zlt_i, ↓Iv.zle_i, ↓Iv.zgt_i, ↓Iv.zge_i, ↓Iv.zeq_s, ↓Iv.zne_s, ↓Iv.zeq_b, ↓Iv.zne_b, ↓Iv.zlen_t, ↓Iv.zlen_l, ↓Iv.zlen_r, ↓Iv.zlen_d, ↓Iv.ztup_l, ↓Iv.ztup_t, ↓Iv.zlst_l, ↓Iv.zlst_t, ↓Iv.zlst_r, ↓Iv.zzip_t, ↓Iv.zzip_l, ↓Iv.zint_i, ↓Iv.zint_b, ↓Iv.zit_t, ↓Iv.zit_l, ↓Iv.zit_r, ↓Iv.zslc_t, ↓Iv.zslc_l, ↓Iv.zrev_t, ↓Iv.zrev_l, ↓Iv.zaug_a, ↓Iv.zaug_s, ↓Iv.zisn, ↓Iv.znotn, ↓Iv.zadd_l, ↓Iv.zadd_t, ↓Iv.zapp_l, ↓Iv.ty_ll, ↓Iv.ty_dd, ↓Iv.zfor_nil, ↓Iv.zty_i, ↓Iv.zty_ib, ↓Iv.zty_is, ↓Iv.zty_it, ↓Iv.zty_il, ↓Iv.zty_bi, ↓Iv.zty_bb, ↓Iv.zty_bs, ↓Iv.zty_bt, ↓Iv.zty_bl, ↓Iv.zty_si, ↓Iv.zty_sb, ↓Iv.zty_ss, ↓Iv.zty_st, ↓Iv.zty_sl, ↓Iv.zty_ti, ↓Iv.zty_tb, ↓Iv.zty_ts, ↓Iv.zty_tt, ↓Iv.zty_tl, ↓Iv.zty_li, ↓Iv.zty_lb, ↓Iv.zty_ls, ↓Iv.zty_lt, ↓Iv.zty_ll, ↓Iv.zty_ni, ↓Iv.zty_nb, ↓Iv.zty_ns, ↓Iv.zty_nt, ↓Iv.zty_nl, ↓Iv.zty_di, ↓Iv.zty_db, ↓Iv.zty_ds, ↓Iv.zty_dt, ↓Iv.zty_dl, ↓Iv.quiet_0, ↓Iv.quiet_s, ↓Iv.qS_v, ↓Iv.qS_n, ↓Iv.qS_s, ↓reduceIte, Bool.false_eq_true, Nat.reduceLeDiff, Nat.zero_le, Iv.slotsOf, Iv.nodupN, List.contains_nil, Bool.not_false, Bool.not_true, Bool.and_true, Bool.true_and, Bool.and_false, Bool.false_and, decide_true, decide_false, List.replicate, List.cons_append, List.nil_append, List.length_cons, List.length_nil, Nat.reduceAdd, Nat.reduceSub, List.contains_cons, Nat.reduceBeqDiff, Nat.reduceEqDiff, Bool.or_false, Bool.false_or, Bool.or_true, Bool.true_or, List.take_succ_cons, List.take_zero, p_match_s]
    refine Tot.bnd (whlS_tot (fun m r => ∃ (kn : KT) (st : List (T × T)) (s4 s5 : Slot), mt m kn st = R ∧ mu st ≤ m ∧ Good b N kn st ∧ r = [.val (enc a), .val (enc c), .own (.dct (encK kn)), .own (.lst (stD st)), s4, s5])
      (fun z => (R = none ∧ ∃ r, z = (.ret false .non, r)) ∨ ∃ (kn : KT) (s4 s5 : Slot), R = some kn ∧ Good b N kn [] ∧ z = (.next, [.val (enc a), .val (enc c), .own (.dct (encK kn)), .own (.lst []), s4, s5])) ?_ _ N _ ⟨[], [(a, c)], _, _, hR, by simp only [List.length_nil] at g0; omega, g, rfl⟩ (Nat.lt_of_le_of_lt hN (by decide))) ?_
    · rintro m _ ⟨kn, st, s4, s5, hm, hmu, gs, rfl⟩
      cases st with
      | nil =>
        have e0 : stD [] = [] := rfl
        simp -implicitDefEqProofs only [↓Iv.k_var, ↓Iv.k_int, ↓Iv.k_str, ↓Iv.k_bl, ↓Iv.k_non, ↓Iv.k_tup, ↓Iv.k_lst, ↓Iv.k_dct, ↓Iv.z_bin, ↓Iv.k_neg, ↓Iv.z_cmp, ↓Iv.z_cmp2, ↓Iv.z_rev, ↓Iv.z_and, ↓Iv.z_or, ↓Iv.k_not, ↓Iv.z_ite, ↓Iv.z_idx, ↓Iv.z_slc, ↓Iv.z_slf, ↓Iv.z_slt, ↓Iv.z_call, ↓Iv.z_blt, ↓Iv.z_isi, ↓Iv.z_comp, ↓Iv.k_nil, ↓Iv.k_cons, ↓Iv.z_seq, ↓Iv.z_rng1, ↓Iv.k_expr, ↓Iv.z_aite, ↓Iv.z_for, ↓Iv.z_whl, ↓Iv.k_retN, ↓Iv.k_pass, ↓Iv.k_brk, ↓Iv.k_cont, ↓Iv.k_frz, ↓Iv.z_mth, ↓Iv.z_mut, ↓Iv.k_scons, ↓Iv.k_snil, ↓Iv.k_asg, ↓Iv.k_par, ↓Iv.z_set, ↓Iv.k_ret, ↓Iv.z_aug, ↓Iv.z_enm, ↓Iv.z_rng2, ↓Iv.look_0, ↓Iv.look_s, ↓Iv.onS_v, ↓Iv.onS_o, ↓Iv.ownK_o, ↓Iv.valK_v, ↓Iv.asV_i, ↓Iv.asB_i, ↓Iv.asN_i, ↓Iv.dsK_v, ↓Iv.dsK_o, ↓Iv.drK_i, ↓Iv.drK_s, ↓Iv.immsK_0, ↓Iv.immsK_i, ↓Iv.dersK_0, ↓Iv.dersK_c, ↓Iv.argsK_0, ↓Iv.argsK_i, ↓Iv.argsK_s, ↓Iv.getO_0, ↓Iv.getO_s, ↓Iv.outK_go, ↓Iv.goO_0, ↓Iv.goO_i, ↓Iv.goO_s, ↓Iv.putS_0, ↓Iv.putS_s, ↓Iv.setK_z, ↓Iv.setK_v, ↓Iv.setK_n, ↓Iv.setK_ss, ↓Iv.setK_0s, ↓Iv.frK_v, ↓Iv.frK_o, ↓Iv.frK_ss, ↓Iv.frK_0s, ↓Iv.setsK_0, ↓Iv.setsK_c, ↓Iv.tgK_v, ↓Iv.tgK_w, ↓Iv.tgK_t, ↓Iv.tgK_2, ↓Iv.tgK_p, ↓Iv.tgK_2p, ↓Iv.asgK_f, ↓Iv.asgK_v, ↓Iv.asgK_w, ↓Iv.asgK_t, ↓Iv.asgK_2, ↓Iv.retK_i, ↓Iv.retK_s, ↓Iv.bkz_some, ↓Iv.cnd_t, ↓Iv.cnd_f, ↓Iv.endK_ret, ↓Iv.endK_next, ↓Iv.za_i, ↓Iv.zs_i, ↓Iv.zeq_i, ↓Iv.zne_i, ↓Iv.zlt_i, ↓Iv.zle_i, ↓Iv.zgt_i, ↓Iv.zge_i, ↓Iv.zeq_s, ↓Iv.zne_s, ↓Iv.zeq_b, ↓Iv.zne_b, ↓Iv.zlen_t, ↓Iv.zlen_l, ↓Iv.zlen_r, ↓Iv.zlen_d, ↓Iv.ztup_l, ↓Iv.ztup_t, ↓Iv.zlst_l, ↓Iv.zlst_t, ↓Iv.zlst_r, ↓Iv.zzip_t, ↓Iv.zzip_l, ↓Iv.zint_i, ↓Iv.zint_b, ↓Iv.zit_t, ↓Iv.zit_l, ↓Iv.zit_r, ↓Iv.zslc_t, ↓Iv.zslc_l, ↓Iv.zrev_t, ↓Iv.zrev_l, ↓Iv.zaug_a, ↓Iv.zaug_s, ↓Iv.zisn, ↓Iv.znotn, ↓Iv.zadd_l, ↓Iv.zadd_t, ↓Iv.zapp_l, ↓Iv.ty_ll, ↓Iv.ty_dd, ↓Iv.zfor_nil, ↓Iv.zty_i, ↓Iv.zty_ib, ↓Iv.zty_is, ↓Iv.zty_it, ↓Iv.zty_il, ↓Iv.zty_bi, ↓Iv.zty_bb, ↓Iv.zty_bs, ↓Iv.zty_bt, ↓Iv.zty_bl, ↓Iv.zty_si, ↓Iv.zty_sb, ↓Iv.zty_ss, ↓Iv.zty_st, ↓Iv.zty_sl, ↓Iv.zty_ti, ↓Iv.zty_tb, ↓Iv.zty_ts, ↓Iv.zty_tt, ↓Iv.zty_tl, ↓Iv.zty_li, ↓Iv.zty_lb, ↓Iv.zty_ls, ↓Iv.zty_lt, ↓Iv.zty_ll, ↓Iv.zty_ni, ↓Iv.zty_nb, ↓Iv.zty_ns, ↓Iv.zty_nt, ↓Iv.zty_nl, ↓Iv.zty_di, ↓Iv.zty_db, ↓Iv.zty_ds, ↓Iv.zty_dt, ↓Iv.zty_dl, ↓Iv.quiet_0, ↓Iv.quiet_s, ↓Iv.qS_v, ↓Iv.qS_n, ↓Iv.qS_s, ↓reduceIte, Bool.false_eq_true, Nat.reduceLeDiff, Nat.zero_le, Iv.slotsOf, Iv.nodupN, List.contains_nil, Bool.not_false, Bool.not_true, Bool.and_true, Bool.true_and, Bool.and_false, Bool.false_and, decide_true, decide_false, List.replicate, List.cons_append, List.nil_append, List.length_cons, List.length_nil, Nat.reduceAdd, Nat.reduceSub, List.contains_cons, Nat.reduceBeqDiff, Nat.reduceEqDiff, Bool.or_false, Bool.false_or, Bool.or_true, Bool.true_or, List.take_succ_cons, List.take_zero, p_match_t0, e0]
        refine Tot.ret (.inr ⟨kn, _, _, ?_, gs, rfl⟩)
        cases m <;> exact hm.symm
      | cons p st =>
        obtain ⟨q, t⟩ := p
        have hpop := stD_pop (q, t) st
        have c0 : ((0 : Int) < ((st.length + 1 : Nat) : Int)) = True := eq_true (by omega)
        have hs := sz_pos q
        rw [mu] at hmu
        simp only at hmu
        obtain ⟨k, rfl⟩ : ∃ k, m = k + 1 := ⟨m - 1, by omega⟩
        cases q with
        | v i =>
          have gv := ne_known gs
          have sd := setd_enc kn i t (by have := gs.len; omega)
          have v1 : run tab (n + 29) f_p_is_variable [.val (.int ((i : Nat) : Int))] = some (false, .bl true, [.val (.int ((i : Nat) : Int))]) := p_is_variable_run (n + 28) (.v i)
          have hpop' : mutop .pop (.lst (stD ((.v i, t) :: st))) [] = some (.tup [.int ((i : Nat) : Int), enc t], .lst (stD st)) := hpop
          have sz1 : sz (T.v i) = 1 := rfl
          rw [Tm.mt] at hm
          by_cases h : (lk kn i).getD t = t
          · rw [if_pos h] at hm
            rw [decide_eq_true h] at gv
            rw [known_same gs h] at sd
            have gv' : cmpop .ne (enc ((lk kn i).getD t)) (enc t) = some false := gv
            simp -implicitDefEqProofs only [↓Iv.k_var, ↓Iv.k_int, ↓Iv.k_str, ↓Iv.k_bl, ↓Iv.k_non, ↓Iv.k_tup, ↓Iv.k_lst, ↓Iv.k_dct, ↓Iv.z_bin, ↓Iv.k_neg, ↓Iv.z_cmp, ↓Iv.z_cmp2, ↓Iv.z_rev, ↓Iv.z_and, ↓Iv.z_or, ↓Iv.k_not, ↓Iv.z_ite, ↓Iv.z_idx, ↓Iv.z_slc, ↓Iv.z_slf, ↓Iv.z_slt, ↓Iv.z_call, ↓Iv.z_blt, ↓Iv.z_isi, ↓Iv.z_comp, ↓Iv.k_nil, ↓Iv.k_cons, ↓Iv.z_seq, ↓Iv.z_rng1, ↓Iv.k_expr, ↓Iv.z_aite, ↓Iv.z_for, ↓Iv.z_whl, ↓Iv.k_retN, ↓Iv.k_pass, ↓Iv.k_brk, ↓Iv.k_cont, ↓Iv.k_frz, ↓Iv.z_mth, ↓Iv.z_mut, ↓Iv.k_scons, ↓Iv.k_snil, ↓Iv.k_asg, ↓Iv.k_par, ↓Iv.z_set, ↓Iv.k_ret, ↓Iv.z_aug, ↓Iv.z_enm, ↓Iv.z_rng2, ↓Iv.look_0, ↓Iv.look_s, ↓Iv.onS_v, ↓Iv.onS_o, ↓Iv.ownK_o, ↓Iv.valK_v, ↓Iv.asV_i, ↓Iv.asB_i, ↓Iv.asN_i, ↓Iv.dsK_v, ↓Iv.dsK_o, ↓Iv.drK_i, ↓Iv.drK_s, ↓Iv.immsK_0, ↓Iv.immsK_i, ↓Iv.dersK_0, ↓Iv.dersK_c, ↓Iv.argsK_0, ↓Iv.argsK_i, ↓Iv.argsK_s, ↓Iv.getO_0, ↓Iv.getO_s, ↓Iv.outK_go, ↓Iv.goO_0, ↓Iv.goO_i, ↓Iv.goO_s, ↓Iv.putS_0, ↓Iv.putS_s, ↓Iv.setK_z, ↓Iv.setK_v, ↓Iv.setK_n, ↓Iv.setK_ss, ↓Iv.setK_0s, ↓Iv.frK_v, ↓Iv.frK_o, ↓Iv.frK_ss, ↓Iv.frK_0s, ↓Iv.setsK_0, ↓Iv.setsK_c, ↓Iv.tgK_v, ↓Iv.tgK_w, ↓Iv.tgK_t, ↓Iv.tgK_2, ↓Iv.tgK_p, ↓Iv.tgK_2p, ↓Iv.asgK_f, ↓Iv.asgK_v, ↓Iv.asgK_w, ↓Iv.asgK_t, ↓Iv.asgK_2, ↓Iv.retK_i, ↓Iv.retK_s, ↓Iv.bkz_some, ↓Iv.cnd_t, ↓Iv.cnd_f, ↓Iv.endK_ret, ↓Iv.endK_next, ↓Iv.za_i, ↓Iv.zs_i, ↓Iv.zeq_i, ↓Iv.zne_i, ↓Iv.zlt_i, ↓Iv.zle_i, ↓Iv.zgt_i, ↓Iv.zge_i, ↓Iv.zeq_s, ↓Iv.zne_s, ↓Iv.zeq_b, ↓Iv.zne_b, ↓Iv.zlen_t, ↓Iv.zlen_l, ↓Iv.zlen_r, ↓Iv.zlen_d, ↓Iv.ztup_l, ↓Iv.ztup_t, ↓Iv.zlst_l, ↓Iv.zlst_t, ↓Iv.zlst_r, ↓Iv.zzip_t, ↓Iv.zzip_l, ↓Iv.zint_i, ↓Iv.zint_b, ↓Iv.zit_t, ↓Iv.zit_l, ↓Iv.zit_r, ↓Iv.zslc_t, ↓Iv.zslc_l, ↓Iv.zrev_t, ↓Iv.zrev_l, ↓Iv.zaug_a, ↓Iv.zaug_s, ↓Iv.zisn, ↓Iv.znotn, ↓Iv.zadd_l, ↓Iv.zadd_t, ↓Iv.zapp_l, ↓Iv.ty_ll, ↓Iv.ty_dd, ↓Iv.zfor_nil, ↓Iv.zty_i, ↓Iv.zty_ib, ↓Iv.zty_is, ↓Iv.zty_it, ↓Iv.zty_il, ↓Iv.zty_bi, ↓Iv.zty_bb, ↓Iv.zty_bs, ↓Iv.zty_bt, ↓Iv.zty_bl, ↓Iv.zty_si, ↓Iv.zty_sb, ↓Iv.zty_ss, ↓Iv.zty_st, ↓Iv.zty_sl, ↓Iv.zty_ti, ↓Iv.zty_tb, ↓Iv.zty_ts, ↓Iv.zty_tt, ↓Iv.zty_tl, ↓Iv.zty_li, ↓Iv.zty_lb, ↓Iv.zty_ls, ↓Iv.zty_lt, ↓Iv.zty_ll, ↓Iv.zty_ni, ↓Iv.zty_nb, ↓Iv.zty_ns, ↓Iv.zty_nt, ↓Iv.zty_nl, ↓Iv.zty_di, ↓Iv.zty_db, ↓Iv.zty_ds, ↓Iv.zty_dt, ↓Iv.zty_dl, ↓Iv.quiet_0, ↓Iv.quiet_s, ↓Iv.qS_v, ↓Iv.qS_n, ↓Iv.qS_s, ↓reduceIte, Bool.false_eq_true, Nat.reduceLeDiff, Nat.zero_le, Iv.slotsOf, Iv.nodupN, List.contains_nil, Bool.not_false, Bool.not_true, Bool.and_true, Bool.true_and, Bool.and_false, Bool.false_and, decide_true, decide_false, List.replicate, List.cons_append, List.nil_append, List.length_cons, List.length_nil, Nat.reduceAdd, Nat.reduceSub, List.contains_cons, Nat.reduceBeqDiff, Nat.reduceEqDiff, Bool.or_false, Bool.false_or, Bool.or_true, Bool.true_or, List.take_succ_cons, List.take_zero, p_match_t0, stD_len, List.length_cons, c0, p_match_w0, ↓bkz hpop', ↓bkz v1, ↓bkz sd, ↓bkz gv']
            exact Tot.ret ⟨k, Nat.lt_succ_self _, ins kn i t, st, _, _, hm, by omega, gs.var h, rfl⟩
          · rw [if_neg h] at hm
            rw [decide_eq_false h] at gv
            have gv' : cmpop .ne (enc ((lk kn i).getD t)) (enc t) = some true := gv
            simp -implicitDefEqProofs only [↓Iv.k_var, ↓Iv.k_int, ↓Iv.k_str, ↓Iv.k_bl, ↓Iv.k_non, ↓Iv.k_tup, ↓Iv.k_lst, ↓Iv.k_dct, ↓Iv.z_bin, ↓Iv.k_neg, ↓Iv.z_cmp, ↓Iv.z_cmp2, ↓Iv.z_rev, ↓Iv.z_and, ↓Iv.z_or, ↓Iv.k_not, ↓Iv.z_ite, ↓Iv.z_idx, ↓Iv.z_slc, ↓Iv.z_slf, ↓Iv.z_slt, ↓Iv.z_call, ↓Iv.z_blt, ↓Iv.z_isi, ↓Iv.z_comp, ↓Iv.k_nil, ↓Iv.k_cons, ↓Iv.z_seq, ↓Iv.z_rng1, ↓Iv.k_expr, ↓Iv.z_aite, ↓Iv.z_for, ↓Iv.z_whl, ↓Iv.k_retN, ↓Iv.k_pass, ↓Iv.k_brk, ↓Iv.k_cont, ↓Iv.k_frz, ↓Iv.z_mth, ↓Iv.z_mut, ↓Iv.k_scons, ↓Iv.k_snil, ↓Iv.k_asg, ↓Iv.k_par, ↓Iv.z_set, ↓Iv.k_ret, ↓Iv.z_aug, ↓Iv.z_enm, ↓Iv.z_rng2, ↓Iv.look_0, ↓Iv.look_s, ↓Iv.onS_v, ↓Iv.onS_o, ↓Iv.ownK_o, ↓Iv.valK_v, ↓Iv.asV_i, ↓Iv.asB_i, ↓Iv.asN_i, ↓Iv.dsK_v, ↓Iv.dsK_o, ↓Iv.drK_i, ↓Iv.drK_s, ↓Iv.immsK_0, ↓Iv.immsK_i, ↓Iv.dersK_0, ↓Iv.dersK_c, ↓Iv.argsK_0, ↓Iv.argsK_i, ↓Iv.argsK_s, ↓Iv.getO_0, ↓Iv.getO_s, ↓Iv.outK_go, ↓Iv.goO_0, ↓Iv.goO_i, ↓Iv.goO_s, ↓Iv.putS_0, ↓Iv.putS_s, ↓Iv.setK_z, ↓Iv.setK_v, ↓Iv.setK_n, ↓Iv.setK_ss, ↓Iv.setK_0s, ↓Iv.frK_v, ↓Iv.frK_o, ↓Iv.frK_ss, ↓Iv.frK_0s, ↓Iv.setsK_0, ↓Iv.setsK_c, ↓Iv.tgK_v, ↓Iv.tgK_w, ↓Iv.tgK_t, ↓Iv.tgK_2, ↓Iv.tgK_p, ↓Iv.tgK_2p, ↓Iv.asgK_f, ↓Iv.asgK_v, ↓Iv.asgK_w, ↓Iv.asgK_t, ↓Iv.asgK_2, ↓Iv.retK_i, ↓Iv.retK_s, ↓Iv.bkz_some, ↓Iv.cnd_t, ↓Iv.cnd_f, ↓Iv.endK_ret, ↓Iv.endK_next, ↓Iv.za_i, ↓Iv.zs_i, ↓Iv.zeq_i, ↓Iv.zne_i, ↓Iv.zlt_i, ↓Iv.zle_i, ↓Iv.zgt_i, ↓Iv.zge_i, ↓Iv.zeq_s, ↓Iv.zne_s, ↓Iv.zeq_b, ↓Iv.zne_b, ↓Iv.zlen_t, ↓Iv.zlen_l, ↓Iv.zlen_r, ↓Iv.zlen_d, ↓Iv.ztup_l, ↓Iv.ztup_t, ↓Iv.zlst_l, ↓Iv.zlst_t, ↓Iv.zlst_r, ↓Iv.zzip_t, ↓Iv.zzip_l, ↓Iv.zint_i, ↓Iv.zint_b, ↓Iv.zit_t, ↓Iv.zit_l, ↓Iv.zit_r, ↓Iv.zslc_t, ↓Iv.zslc_l, ↓Iv.zrev_t, ↓Iv.zrev_l, ↓Iv.zaug_a, ↓Iv.zaug_s, ↓Iv.zisn, ↓Iv.znotn, ↓Iv.zadd_l, ↓Iv.zadd_t, ↓Iv.zapp_l, ↓Iv.ty_ll, ↓Iv.ty_dd, ↓Iv.zfor_nil, ↓Iv.zty_i, ↓Iv.zty_ib, ↓Iv.zty_is, ↓Iv.zty_it, ↓Iv.zty_il, ↓Iv.zty_bi, ↓Iv.zty_bb, ↓Iv.zty_bs, ↓Iv.zty_bt, ↓Iv.zty_bl, ↓Iv.zty_si, ↓Iv.zty_sb, ↓Iv.zty_ss, ↓Iv.zty_st, ↓Iv.zty_sl, ↓Iv.zty_ti, ↓Iv.zty_tb, ↓Iv.zty_ts, ↓Iv.zty_tt, ↓Iv.zty_tl, ↓Iv.zty_li, ↓Iv.zty_lb, ↓Iv.zty_ls, ↓Iv.zty_lt, ↓Iv.zty_ll, ↓Iv.zty_ni, ↓Iv.zty_nb, ↓Iv.zty_ns, ↓Iv.zty_nt, ↓Iv.zty_nl, ↓Iv.zty_di, ↓Iv.zty_db, ↓Iv.zty_ds, ↓Iv.zty_dt, ↓Iv.zty_dl, ↓Iv.quiet_0, ↓Iv.quiet_s, ↓Iv.qS_v, ↓Iv.qS_n, ↓Iv.qS_s, ↓reduceIte, Bool.false_eq_true, Nat.reduceLeDiff, Nat.zero_le, Iv.slotsOf, Iv.nodupN, List.contains_nil, Bool.not_false, Bool.not_true, Bool.and_true, Bool.true_and, Bool.and_false, Bool.false_and, decide_true, decide_false, List.replicate, List.cons_append, List.nil_append, List.length_cons, List.length_nil, Nat.reduceAdd, Nat.reduceSub, List.contains_cons, Nat.reduceBeqDiff, Nat.reduceEqDiff, Bool.or_false, Bool.false_or, Bool.or_true, Bool.true_or, List.take_succ_cons, List.take_zero, p_match_t0, stD_len, List.length_cons, c0, p_match_w0, ↓bkz hpop', ↓bkz v1, ↓bkz sd, ↓bkz gv']
            exact Tot.ret (.inl ⟨hm.symm, _, rfl⟩)
        | f x ts =>
          have v1 : run tab (n + 29) f_p_is_variable [.val (.tup (.str x :: encs ts))] = some (false, .bl false, [.val (.tup (.str x :: encs ts))]) := p_is_variable_run (n + 28) (.f x ts)
          cases t with
          | v j =>
            have hpop' : mutop .pop (.lst (stD ((.f x ts, .v j) :: st))) [] = some (.tup [.tup (.str x :: encs ts), .int ((j : Nat) : Int)], .lst (stD st)) := hpop
            have v2 : run tab (n + 29) f_p_is_variable [.val (.int ((j : Nat) : Int))] = some (false, .bl true, [.val (.int ((j : Nat) : Int))]) := p_is_variable_run (n + 28) (.v j)
            simp -implicitDefEqProofs only [↓Iv.k_var, ↓Iv.k_int, ↓Iv.k_str, ↓Iv.k_bl, ↓Iv.k_non, ↓Iv.k_tup, ↓Iv.k_lst, ↓Iv.k_dct, ↓Iv.z_bin, ↓Iv.k_neg, ↓Iv.z_cmp, ↓Iv.z_cmp2, ↓Iv.z_rev, ↓Iv.z_and, ↓Iv.z_or, ↓Iv.k_not, ↓Iv.z_ite, ↓Iv.z_idx, ↓Iv.z_slc, ↓Iv.z_slf, ↓Iv.z_slt, ↓Iv.z_call, ↓Iv.z_blt, ↓Iv.z_isi, ↓Iv.z_comp, ↓Iv.k_nil, ↓Iv.k_cons, ↓Iv.z_seq, ↓Iv.z_rng1, ↓Iv.k_expr, ↓Iv.z_aite, ↓Iv.z_for, ↓Iv.z_whl, ↓Iv.k_retN, ↓Iv.k_pass, ↓Iv.k_brk, ↓Iv.k_cont, ↓Iv.k_frz, ↓Iv.z_mth, ↓Iv.z_mut, ↓Iv.k_scons, ↓Iv.k_snil, ↓Iv.k_asg, ↓Iv.k_par, ↓Iv.z_set, ↓Iv.k_ret, ↓Iv.z_aug, ↓Iv.z_enm, ↓Iv.z_rng2, ↓Iv.look_0, ↓Iv.look_s, ↓Iv.onS_v, ↓Iv.onS_o, ↓Iv.ownK_o, ↓Iv.valK_v, ↓Iv.asV_i, ↓Iv.asB_i, ↓Iv.asN_i, ↓Iv.dsK_v, ↓Iv.dsK_o, ↓Iv.drK_i, ↓Iv.drK_s, ↓Iv.immsK_0, ↓Iv.immsK_i, ↓Iv.dersK_0, ↓Iv.dersK_c, ↓Iv.argsK_0, ↓Iv.argsK_i, ↓Iv.argsK_s, ↓Iv.getO_0, ↓Iv.getO_s, ↓Iv.outK_go, ↓Iv.goO_0, ↓Iv.goO_i, ↓Iv.goO_s, ↓Iv.putS_0, ↓Iv.putS_s, ↓Iv.setK_z, ↓Iv.setK_v, ↓Iv.setK_n, ↓Iv.setK_ss, ↓Iv.setK_0s, ↓Iv.frK_v, ↓Iv.frK_o, ↓Iv.frK_ss, ↓Iv.frK_0s, ↓Iv.setsK_0, ↓Iv.setsK_c, ↓Iv.tgK_v, ↓Iv.tgK_w, ↓Iv.tgK_t, ↓Iv.tgK_2, ↓Iv.tgK_p, ↓Iv.tgK_2p, ↓Iv.asgK_f, ↓Iv.asgK_v, ↓Iv.asgK_w, ↓Iv.asgK_t, ↓Iv.asgK_2, ↓Iv.retK_i, ↓Iv.retK_s, ↓Iv.bkz_some, ↓Iv.cnd_t, ↓Iv.cnd_f, ↓Iv.endK_ret, ↓Iv.endK_next, ↓Iv.za_i, ↓Iv.zs_i, ↓Iv.zeq_i, ↓Iv.zne_i, ↓Iv.zlt_i, ↓Iv.zle_i, ↓Iv.zgt_i, ↓Iv.zge_i, ↓Iv.zeq_s, ↓Iv.zne_s, ↓Iv.zeq_b, ↓Iv.zne_b, ↓Iv.zlen_t, ↓Iv.zlen_l, ↓Iv.zlen_r, ↓Iv.zlen_d, ↓Iv.ztup_l, ↓Iv.ztup_t, ↓Iv.zlst_l, ↓Iv.zlst_t, ↓Iv.zlst_r, ↓Iv.zzip_t, ↓Iv.zzip_l, ↓Iv.zint_i, ↓Iv.zint_b, ↓Iv.zit_t, ↓Iv.zit_l, ↓Iv.zit_r, ↓Iv.zslc_t, ↓Iv.zslc_l, ↓Iv.zrev_t, ↓Iv.zrev_l, ↓Iv.zaug_a, ↓Iv.zaug_s, ↓Iv.zisn, ↓Iv.znotn, ↓Iv.zadd_l, ↓Iv.zadd_t, ↓Iv.zapp_l, ↓Iv.ty_ll, ↓Iv.ty_dd, ↓Iv.zfor_nil, ↓Iv.zty_i, ↓Iv.zty_ib, ↓Iv.zty_is, ↓Iv.zty_it, ↓Iv.zty_il, ↓Iv.zty_bi, ↓Iv.zty_bb, ↓Iv.zty_bs, ↓Iv.zty_bt, ↓Iv.zty_bl, ↓Iv.zty_si, ↓Iv.zty_sb, ↓Iv.zty_ss, ↓Iv.zty_st, ↓Iv.zty_sl, ↓Iv.zty_ti, ↓Iv.zty_tb, ↓Iv.zty_ts, ↓Iv.zty_tt, ↓Iv.zty_tl, ↓Iv.zty_li, ↓Iv.zty_lb, ↓Iv.zty_ls, ↓Iv.zty_lt, ↓Iv.zty_ll, ↓Iv.zty_ni, ↓Iv.zty_nb, ↓Iv.zty_ns, ↓Iv.zty_nt, ↓Iv.zty_nl, ↓Iv.zty_di, ↓Iv.zty_db, ↓Iv.zty_ds, ↓Iv.zty_dt, ↓Iv.zty_dl, ↓Iv.quiet_0, ↓Iv.quiet_s, ↓Iv.qS_v, ↓Iv.qS_n, ↓Iv.qS_s, ↓reduceIte, Bool.false_eq_true, Nat.reduceLeDiff, Nat.zero_le, Iv.slotsOf, Iv.nodupN, List.contains_nil, Bool.not_false, Bool.not_true, Bool.and_true, Bool.true_and, Bool.and_false, Bool.false_and, decide_true, decide_false, List.replicate, List.cons_append, List.nil_append, List.length_cons, List.length_nil, Nat.reduceAdd, Nat.reduceSub, List.contains_cons, Nat.reduceBeqDiff, Nat.reduceEqDiff, Bool.or_false, Bool.false_or, Bool.or_true, Bool.true_or, List.take_succ_cons, List.take_zero, p_match_t0, stD_len, List.length_cons, c0, p_match_w0, ↓bkz hpop', ↓bkz v1, ↓bkz v2]
            exact Tot.ret (.inl ⟨hm.symm, _, rfl⟩)
          | f y us =>
            have hpop' : mutop .pop (.lst (stD ((.f x ts, .f y us) :: st))) [] = some (.tup [.tup (.str x :: encs ts), .tup (.str y :: encs us)], .lst (stD st)) := hpop
            have v2 : run tab (n + 29) f_p_is_variable [.val (.tup (.str y :: encs us))] = some (false, .bl false, [.val (.tup (.str y :: encs us))]) := p_is_variable_run (n + 28) (.f y us)
            have i1 : idxop (.tup (.str x :: encs ts)) (.int 0) = some (.str x) := idx_t (k := 0) rfl rfl
            have i2 : idxop (.tup (.str y :: encs us)) (.int 0) = some (.str y) := idx_t (k := 0) rfl rfl
            rw [Tm.mt] at hm
            by_cases hx : x = y
            · subst hx
              by_cases hl : ts.length = us.length
              · rw [if_pos ⟨rfl, hl⟩] at hm
                have i3 : cutD (.str x :: encs ts) (some 1) none = encs ts := cut_from _ (k := 1) rfl
                have i4 : cutD (.str x :: encs us) (some 1) none = encs us := cut_from _ (k := 1) rfl
                have m1 := mu_zip ts us
                have m2 := mu_len st
                have m3 := mu_len (ts.zip us)
                have m4 := gs.len
                have m5 : sz (T.f x ts) = 1 + szs ts := by rw [sz]
                rw [mu] at m4
                simp only at m4
                have a1 := add_l (xs := stD st) (ys := zipP (encs ts) (encs us)) (by rw [stD_len, zip_encs, List.length_map]; omega)
                rw [stD_push] at a1
                simp -implicitDefEqProofs only [↓Iv.k_var, ↓Iv.k_int, ↓Iv.k_str, ↓Iv.k_bl, ↓Iv.k_non, ↓Iv.k_tup, ↓Iv.k_lst, ↓Iv.k_dct, ↓Iv.z_bin, ↓Iv.k_neg, ↓Iv.z_cmp, ↓Iv.z_cmp2, ↓Iv.z_rev, ↓Iv.z_and, ↓Iv.z_or, ↓Iv.k_not, ↓Iv.z_ite, ↓Iv.z_idx, ↓Iv.z_slc, ↓Iv.z_slf, ↓Iv.z_slt, ↓Iv.z_call, ↓Iv.z_blt, ↓Iv.z_isi, ↓Iv.z_comp, ↓Iv.k_nil, ↓Iv.k_cons, ↓Iv.z_seq, ↓Iv.z_rng1, ↓Iv.k_expr, ↓Iv.z_aite, ↓Iv.z_for, ↓Iv.z_whl, ↓Iv.k_retN, ↓Iv.k_pass, ↓Iv.k_brk, ↓Iv.k_cont, ↓Iv.k_frz, ↓Iv.z_mth, ↓Iv.z_mut, ↓Iv.k_scons, ↓Iv.k_snil, ↓Iv.k_asg, ↓Iv.k_par, ↓Iv.z_set, ↓Iv.k_ret, ↓Iv.z_aug, ↓Iv.z_enm, ↓Iv.z_rng2, ↓Iv.look_0, ↓Iv.look_s, ↓Iv.onS_v, ↓Iv.onS_o, ↓Iv.ownK_o, ↓Iv.valK_v, ↓Iv.asV_i, ↓Iv.asB_i, ↓Iv.asN_i, ↓Iv.dsK_v, ↓Iv.dsK_o, ↓Iv.drK_i, ↓Iv.drK_s, ↓Iv.immsK_0, ↓Iv.immsK_i, ↓Iv.dersK_0, ↓Iv.dersK_c, ↓Iv.argsK_0, ↓Iv.argsK_i, ↓Iv.argsK_s, ↓Iv.getO_0, ↓Iv.getO_s, ↓Iv.outK_go, ↓Iv.goO_0, ↓Iv.goO_i, ↓Iv.goO_s, ↓Iv.putS_0, ↓Iv.putS_s, ↓Iv.setK_z, ↓Iv.setK_v, ↓Iv.setK_n, ↓Iv.setK_ss, ↓Iv.setK_0s, ↓Iv.frK_v, ↓Iv.frK_o, ↓Iv.frK_ss, ↓Iv.frK_0s, ↓Iv.setsK_0, ↓Iv.setsK_c, ↓Iv.tgK_v, ↓Iv.tgK_w, ↓Iv.tgK_t, ↓Iv.tgK_2, ↓Iv.tgK_p, ↓Iv.tgK_2p, ↓Iv.asgK_f, ↓Iv.asgK_v, ↓Iv.asgK_w, ↓Iv.asgK_t, ↓Iv.asgK_2, ↓Iv.retK_i, ↓Iv.retK_s, ↓Iv.bkz_some, ↓Iv.cnd_t, ↓Iv.cnd_f, ↓Iv.endK_ret, ↓Iv.endK_next, ↓Iv.za_i, ↓Iv.zs_i, ↓Iv.zeq_i, ↓Iv.zne_i, ↓Iv.zlt_i, ↓Iv.zle_i, ↓Iv.zgt_i, ↓Iv.zge_i, ↓Iv.zeq_s, ↓Iv.zne_s, ↓Iv.zeq_b, ↓Iv.zne_b, ↓Iv.zlen_t, ↓Iv.zlen_l, ↓Iv.zlen_r, ↓Iv.zlen_d, ↓Iv.ztup_l, ↓Iv.ztup_t, ↓Iv.zlst_l, ↓Iv.zlst_t, ↓Iv.zlst_r, ↓Iv.zzip_t, ↓Iv.zzip_l, ↓Iv.zint_i, ↓Iv.zint_b, ↓Iv.zit_t, ↓Iv.zit_l, ↓Iv.zit_r, ↓Iv.zslc_t, ↓Iv.zslc_l, ↓Iv.zrev_t, ↓Iv.zrev_l, ↓Iv.zaug_a, ↓Iv.zaug_s, ↓Iv.zisn, ↓Iv.znotn, ↓Iv.zadd_l, ↓Iv.zadd_t, ↓Iv.zapp_l, ↓Iv.ty_ll, ↓Iv.ty_dd, ↓Iv.zfor_nil, ↓Iv.zty_i, ↓Iv.zty_ib, ↓Iv.zty_is, ↓Iv.zty_it, ↓Iv.zty_il, ↓Iv.zty_bi, ↓Iv.zty_bb, ↓Iv.zty_bs, ↓Iv.zty_bt, ↓Iv.zty_bl, ↓Iv.zty_si, ↓Iv.zty_sb, ↓Iv.zty_ss, ↓Iv.zty_st, ↓Iv.zty_sl, ↓Iv.zty_ti, ↓Iv.zty_tb, ↓Iv.zty_ts, ↓Iv.zty_tt, ↓Iv.zty_tl, ↓Iv.zty_li, ↓Iv.zty_lb, ↓Iv.zty_ls, ↓Iv.zty_lt, ↓Iv.zty_ll, ↓Iv.zty_ni, ↓Iv.zty_nb, ↓Iv.zty_ns, ↓Iv.zty_nt, ↓Iv.zty_nl, ↓Iv.zty_di, ↓Iv.zty_db, ↓Iv.zty_ds, ↓Iv.zty_dt, ↓Iv.zty_dl, ↓Iv.quiet_0, ↓Iv.quiet_s, ↓Iv.qS_v, ↓Iv.qS_n, ↓Iv.qS_s, ↓reduceIte, Bool.false_eq_true, Nat.reduceLeDiff, Nat.zero_le, Iv.slotsOf, Iv.nodupN, List.contains_nil, Bool.not_false, Bool.not_true, Bool.and_true, Bool.true_and, Bool.and_false, Bool.false_and, decide_true, decide_false, List.replicate, List.cons_append, List.nil_append, List.length_cons, List.length_nil, Nat.reduceAdd, Nat.reduceSub, List.contains_cons, Nat.reduceBeqDiff, Nat.reduceEqDiff, Bool.or_false, Bool.false_or, Bool.or_true, Bool.true_or, List.take_succ_cons, List.take_zero, p_match_t0, stD_len, List.length_cons, c0, p_match_w0, ↓bkz hpop', ↓bkz v1, ↓bkz v2, ↓bkz i1, ↓bkz i2, encs_len, hl, i3, i4, ↓bkz a1]
                exact Tot.ret ⟨k, Nat.lt_succ_self _, kn, _, _, _, hm, by rw [mu_app, mu_rev]; omega, gs.fun, rfl⟩
              · rw [if_neg fun h => hl h.2] at hm
                have c1 : (((ts.length + 1 : Nat) : Int) = ((us.length + 1 : Nat) : Int)) = False := eq_false (by omega)
                simp -implicitDefEqProofs only [↓Iv.k_var, ↓Iv.k_int, ↓Iv.k_str, ↓Iv.k_bl, ↓Iv.k_non, ↓Iv.k_tup, ↓Iv.k_lst, ↓Iv.k_dct, ↓Iv.z_bin, ↓Iv.k_neg, ↓Iv.z_cmp, ↓Iv.z_cmp2, ↓Iv.z_rev, ↓Iv.z_and, ↓Iv.z_or, ↓Iv.k_not, ↓Iv.z_ite, ↓Iv.z_idx, ↓Iv.z_slc, ↓Iv.z_slf, ↓Iv.z_slt, ↓Iv.z_call, ↓Iv.z_blt, ↓Iv.z_isi, ↓Iv.z_comp, ↓Iv.k_nil, ↓Iv.k_cons, ↓Iv.z_seq, ↓Iv.z_rng1, ↓Iv.k_expr, ↓Iv.z_aite, ↓Iv.z_for, ↓Iv.z_whl, ↓Iv.k_retN, ↓Iv.k_pass, ↓Iv.k_brk, ↓Iv.k_cont, ↓Iv.k_frz, ↓Iv.z_mth, ↓Iv.z_mut, ↓Iv.k_scons, ↓Iv.k_snil, ↓Iv.k_asg, ↓Iv.k_par, ↓Iv.z_set, ↓Iv.k_ret, ↓Iv.z_aug, ↓Iv.z_enm, ↓Iv.z_rng2, ↓Iv.look_0, ↓Iv.look_s, ↓Iv.onS_v, ↓Iv.onS_o, ↓Iv.ownK_o, ↓Iv.valK_v, ↓Iv.asV_i, ↓Iv.asB_i, ↓Iv.asN_i, ↓Iv.dsK_v, ↓Iv.dsK_o, ↓Iv.drK_i, ↓Iv.drK_s, ↓Iv.immsK_0, ↓Iv.immsK_i, ↓Iv.dersK_0, ↓Iv.dersK_c, ↓Iv.argsK_0, ↓Iv.argsK_i, ↓Iv.argsK_s, ↓Iv.getO_0, ↓Iv.getO_s, ↓Iv.outK_go, ↓Iv.goO_0, ↓Iv.goO_i, ↓Iv.goO_s, ↓Iv.putS_0, ↓Iv.putS_s, ↓Iv.setK_z, ↓Iv.setK_v, ↓Iv.setK_n, ↓Iv.setK_ss, ↓Iv.setK_0s, ↓Iv.frK_v, ↓Iv.frK_o, ↓Iv.frK_ss, ↓Iv.frK_0s, ↓Iv.setsK_0, ↓Iv.setsK_c, ↓Iv.tgK_v, ↓Iv.tgK_w, ↓Iv.tgK_t, ↓Iv.tgK_2, ↓Iv.tgK_p, ↓Iv.tgK_2p, ↓Iv.asgK_f, ↓Iv.asgK_v, ↓Iv.asgK_w, ↓Iv.asgK_t, ↓Iv.asgK_2, ↓Iv.retK_i, ↓Iv.retK_s, ↓Iv.bkz_some, ↓Iv.cnd_t, ↓Iv.cnd_f, ↓Iv.endK_ret, ↓Iv.endK_next, ↓Iv.za_i, ↓Iv.zs_i, ↓Iv.zeq_i, ↓Iv.zne_i, ↓Iv.zlt_i, ↓Iv.zle_i, ↓Iv.zgt_i, ↓Iv.zge_i, ↓Iv.zeq_s, ↓Iv.zne_s, ↓Iv.zeq_b, ↓Iv.zne_b, ↓Iv.zlen_t, ↓Iv.zlen_l, ↓Iv.zlen_r, ↓Iv.zlen_d, ↓Iv.ztup_l, ↓Iv.ztup_t, ↓Iv.zlst_l, ↓Iv.zlst_t, ↓Iv.zlst_r, ↓Iv.zzip_t, ↓Iv.zzip_l, ↓Iv.zint_i, ↓Iv.zint_b, ↓Iv.zit_t, ↓Iv.zit_l, ↓Iv.zit_r, ↓Iv.zslc_t, ↓Iv.zslc_l, ↓Iv.zrev_t, ↓Iv.zrev_l, ↓Iv.zaug_a, ↓Iv.zaug_s, ↓Iv.zisn, ↓Iv.znotn, ↓Iv.zadd_l, ↓Iv.zadd_t, ↓Iv.zapp_l, ↓Iv.ty_ll, ↓Iv.ty_dd, ↓Iv.zfor_nil, ↓Iv.zty_i, ↓Iv.zty_ib, ↓Iv.zty_is, ↓Iv.zty_it, ↓Iv.zty_il, ↓Iv.zty_bi, ↓Iv.zty_bb, ↓Iv.zty_bs, ↓Iv.zty_bt, ↓Iv.zty_bl, ↓Iv.zty_si, ↓Iv.zty_sb, ↓Iv.zty_ss, ↓Iv.zty_st, ↓Iv.zty_sl, ↓Iv.zty_ti, ↓Iv.zty_tb, ↓Iv.zty_ts, ↓Iv.zty_tt, ↓Iv.zty_tl, ↓Iv.zty_li, ↓Iv.zty_lb, ↓Iv.zty_ls, ↓Iv.zty_lt, ↓Iv.zty_ll, ↓Iv.zty_ni, ↓Iv.zty_nb, ↓Iv.zty_ns, ↓Iv.zty_nt, ↓Iv.zty_nl, ↓Iv.zty_di, ↓Iv.zty_db, ↓Iv.zty_ds, ↓Iv.zty_dt, ↓Iv.zty_dl, ↓Iv.quiet_0, ↓Iv.quiet_s, ↓Iv.qS_v, ↓Iv.qS_n, ↓Iv.qS_s, ↓reduceIte, Bool.false_eq_true, Nat.reduceLeDiff, Nat.zero_le, Iv.slotsOf, Iv.nodupN, List.contains_nil, Bool.not_false, Bool.not_true, Bool.and_true, Bool.true_and, Bool.and_false, Bool.false_and, decide_true, decide_false, List.replicate, List.cons_append, List.nil_append, List.length_cons, List.length_nil, Nat.reduceAdd, Nat.reduceSub, List.contains_cons, Nat.reduceBeqDiff, Nat.reduceEqDiff, Bool.or_false, Bool.false_or, Bool.or_true, Bool.true_or, List.take_succ_cons, List.take_zero, p_match_t0, stD_len, List.length_cons, c0, p_match_w0, ↓bkz hpop', ↓bkz v1, ↓bkz v2, ↓bkz i1, ↓bkz i2, encs_len, c1]
                exact Tot.ret (.inl ⟨hm.symm, _, rfl⟩)
            · rw [if_neg fun h => hx h.1] at hm
              have c1 : (x = y) = False := eq_false hx
              simp -implicitDefEqProofs only [↓Iv.k_var, ↓Iv.k_int, ↓Iv.k_str, ↓Iv.k_bl, ↓Iv.k_non, ↓Iv.k_tup, ↓Iv.k_lst, ↓Iv.k_dct, ↓Iv.z_bin, ↓Iv.k_neg, ↓Iv.z_cmp, ↓Iv.z_cmp2, ↓Iv.z_rev, ↓Iv.z_and, ↓Iv.z_or, ↓Iv.k_not, ↓Iv.z_ite, ↓Iv.z_idx, ↓Iv.z_slc, ↓Iv.z_slf, ↓Iv.z_slt, ↓Iv.z_call, ↓Iv.z_blt, ↓Iv.z_isi, ↓Iv.z_comp, ↓Iv.k_nil, ↓Iv.k_cons, ↓Iv.z_seq, ↓Iv.z_rng1, ↓Iv.k_expr, ↓Iv.z_aite, ↓Iv.z_for, ↓Iv.z_whl, ↓Iv.k_retN, ↓Iv.k_pass, ↓Iv.k_brk, ↓Iv.k_cont, ↓Iv.k_frz, ↓Iv.z_mth, ↓Iv.z_mut, ↓Iv.k_scons, ↓Iv.k_snil, ↓Iv.k_asg, ↓Iv.k_par, ↓Iv.z_set, ↓Iv.k_ret, ↓Iv.z_aug, ↓Iv.z_enm, ↓Iv.z_rng2, ↓Iv.look_0, ↓Iv.look_s, ↓Iv.onS_v, ↓Iv.onS_o, ↓Iv.ownK_o, ↓Iv.valK_v, ↓Iv.asV_i, ↓Iv.asB_i, ↓Iv.asN_i, ↓Iv.dsK_v, ↓Iv.dsK_o, ↓Iv.drK_i, ↓Iv.drK_s, ↓Iv.immsK_0, ↓Iv.immsK_i, ↓Iv.dersK_0, ↓Iv.dersK_c, ↓Iv.argsK_0, ↓Iv.argsK_i, ↓Iv.argsK_s, ↓Iv.getO_0, ↓Iv.getO_s, ↓Iv.outK_go, ↓Iv.goO_0, ↓Iv.goO_i, ↓Iv.goO_s, ↓Iv.putS_0, ↓Iv.putS_s, ↓Iv.setK_z, ↓Iv.setK_v, ↓Iv.setK_n, ↓Iv.setK_ss, ↓Iv.setK_0s, ↓Iv.frK_v, ↓Iv.frK_o, ↓Iv.frK_ss, ↓Iv.frK_0s, ↓Iv.setsK_0, ↓Iv.setsK_c, ↓Iv.tgK_v, ↓Iv.tgK_w, ↓Iv.tgK_t, ↓Iv.tgK_2, ↓Iv.tgK_p, ↓Iv.tgK_2p, ↓Iv.asgK_f, ↓Iv.asgK_v, ↓Iv.asgK_w, ↓Iv.asgK_t, ↓Iv.asgK_2, ↓Iv.retK_i, ↓Iv.retK_s, ↓Iv.bkz_some, ↓Iv.cnd_t, ↓Iv.cnd_f, ↓Iv.endK_ret, ↓Iv.endK_next, ↓Iv.za_i, ↓Iv.zs_i, ↓Iv.zeq_i, ↓Iv.zne_i, ↓Iv.zlt_i, ↓Iv.zle_i, ↓Iv.zgt_i, ↓Iv.zge_i, ↓Iv.zeq_s, ↓Iv.zne_s, ↓Iv.zeq_b, ↓Iv.zne_b, ↓Iv.zlen_t, ↓Iv.zlen_l, ↓Iv.zlen_r, ↓Iv.zlen_d, ↓Iv.ztup_l, ↓Iv.ztup_t, ↓Iv.zlst_l, ↓Iv.zlst_t, ↓Iv.zlst_r, ↓Iv.zzip_t, ↓Iv.zzip_l, ↓Iv.zint_i, ↓Iv.zint_b, ↓Iv.zit_t, ↓Iv.zit_l, ↓Iv.zit_r, ↓Iv.zslc_t, ↓Iv.zslc_l, ↓Iv.zrev_t, ↓Iv.zrev_l, ↓Iv.zaug_a, ↓Iv.zaug_s, ↓Iv.zisn, ↓Iv.znotn, ↓Iv.zadd_l, ↓Iv.zadd_t, ↓Iv.zapp_l, ↓Iv.ty_ll, ↓Iv.ty_dd, ↓Iv.zfor_nil, ↓Iv.zty_i, ↓Iv.zty_ib, ↓Iv.zty_is, ↓Iv.zty_it, ↓Iv.zty_il, ↓Iv.zty_bi, ↓Iv.zty_bb, ↓Iv.zty_bs, ↓Iv.zty_bt, ↓Iv.zty_bl, ↓Iv.zty_si, ↓Iv.zty_sb, ↓Iv.zty_ss, ↓Iv.zty_st, ↓Iv.zty_sl, ↓Iv.zty_ti, ↓Iv.zty_tb, ↓Iv.zty_ts, ↓Iv.zty_tt, ↓Iv.zty_tl, ↓Iv.zty_li, ↓Iv.zty_lb, ↓Iv.zty_ls, ↓Iv.zty_lt, ↓Iv.zty_ll, ↓Iv.zty_ni, ↓Iv.zty_nb, ↓Iv.zty_ns, ↓Iv.zty_nt, ↓Iv.zty_nl, ↓Iv.zty_di, ↓Iv.zty_db, ↓Iv.zty_ds, ↓Iv.zty_dt, ↓Iv.zty_dl, ↓Iv.quiet_0, ↓Iv.quiet_s, ↓Iv.qS_v, ↓Iv.qS_n, ↓Iv.qS_s, ↓reduceIte, Bool.false_eq_true, Nat.reduceLeDiff, Nat.zero_le, Iv.slotsOf, Iv.nodupN, List.contains_nil, Bool.not_false, Bool.not_true, Bool.and_true, Bool.true_and, Bool.and_false, Bool.false_and, decide_true, decide_false, List.replicate, List.cons_append, List.nil_append, List.length_cons, List.length_nil, Nat.reduceAdd, Nat.reduceSub, List.contains_cons, Nat.reduceBeqDiff, Nat.reduceEqDiff, Bool.or_false, Bool.false_or, Bool.or_true, Bool.true_or, List.take_succ_cons, List.take_zero, p_match_t0, stD_len, List.length_cons, c0, p_match_w0, ↓bkz hpop', ↓bkz v1, ↓bkz v2, ↓bkz i1, ↓bkz i2, c1]
              exact Tot.ret (.inl ⟨hm.symm, _, rfl⟩)
    · rintro ⟨fl, r⟩ (⟨h, r', e⟩ | ⟨kn, s4, s5, h, gk, e⟩)
      · cases e
        subst h
        simp -implicitDefEqProofs only [↓Iv.k_var, ↓Iv.k_int, ↓Iv.k_str, ↓Iv.k_bl, ↓Iv.k_non, ↓Iv.k_tup, ↓Iv.k_lst, ↓Iv.k_dct, ↓Iv.z_bin, ↓Iv.k_neg, ↓Iv.z_cmp, ↓Iv.z_cmp2, ↓Iv.z_rev, ↓Iv.z_and, ↓Iv.z_or, ↓Iv.k_not, ↓Iv.z_ite, ↓Iv.z_idx, ↓Iv.z_slc, ↓Iv.z_slf, ↓Iv.z_slt, ↓Iv.z_call, ↓Iv.z_blt, ↓Iv.z_isi, ↓Iv.z_comp, ↓Iv.k_nil, ↓Iv.k_cons, ↓Iv.z_seq, ↓Iv.z_rng1, ↓Iv.k_expr, ↓Iv.z_aite, ↓Iv.z_for, ↓Iv.z_whl, ↓Iv.k_retN, ↓Iv.k_pass, ↓Iv.k_brk, ↓Iv.k_cont, ↓Iv.k_frz, ↓Iv.z_mth, ↓Iv.z_mut, ↓Iv.k_scons, ↓Iv.k_snil, ↓Iv.k_asg, ↓Iv.k_par, ↓Iv.z_set, ↓Iv.k_ret, ↓Iv.z_aug, ↓Iv.z_enm, ↓Iv.z_rng2, ↓Iv.look_0, ↓Iv.look_s, ↓Iv.onS_v, ↓Iv.onS_o, ↓Iv.ownK_o, ↓Iv.valK_v, ↓Iv.asV_i, ↓Iv.asB_i, ↓Iv.asN_i, ↓Iv.dsK_v, ↓Iv.dsK_o, ↓Iv.drK_i, ↓Iv.drK_s, ↓Iv.immsK_0, ↓Iv.immsK_i, ↓Iv.dersK_0, ↓Iv.dersK_c, ↓Iv.argsK_0, ↓Iv.argsK_i, ↓Iv.argsK_s, ↓Iv.getO_0, ↓Iv.getO_s, ↓Iv.outK_go, ↓Iv.goO_0, ↓Iv.goO_i, ↓Iv.goO_s, ↓Iv.putS_0, ↓Iv.putS_s, ↓Iv.setK_z, ↓Iv.setK_v, ↓Iv.setK_n, ↓Iv.setK_ss, ↓Iv.setK_0s, ↓Iv.frK_v, ↓Iv.frK_o, ↓Iv.frK_ss, ↓Iv.frK_0s, ↓Iv.setsK_0, ↓Iv.setsK_c, ↓Iv.tgK_v, ↓Iv.tgK_w, ↓Iv.tgK_t, ↓Iv.tgK_2, ↓Iv.tgK_p, ↓Iv.tgK_2p, ↓Iv.asgK_f, ↓Iv.asgK_v, ↓Iv.asgK_w, ↓Iv.asgK_t, ↓Iv.asgK_2, ↓Iv.retK_i, ↓Iv.retK_s, ↓Iv.bkz_some, ↓Iv.cnd_t, ↓Iv.cnd_f, ↓Iv.endK_ret, ↓Iv.endK_next, ↓Iv.za_i, ↓Iv.zs_i, ↓Iv.zeq_i, ↓Iv.zne_i, ↓Iv.zlt_i, ↓Iv.zle_i, ↓Iv.zgt_i, ↓Iv.zge_i, ↓Iv.zeq_s, ↓Iv.zne_s, ↓Iv.zeq_b, ↓Iv.zne_b, ↓Iv.zlen_t, ↓Iv.zlen_l, ↓Iv.zlen_r, ↓Iv.zlen_d, ↓Iv.ztup_l, ↓Iv.ztup_t, ↓Iv.zlst_l, ↓Iv.zlst_t, ↓Iv.zlst_r, ↓Iv.zzip_t, ↓Iv.zzip_l, ↓Iv.zint_i, ↓Iv.zint_b, ↓Iv.zit_t, ↓Iv.zit_l, ↓Iv.zit_r, ↓Iv.zslc_t, ↓Iv.zslc_l, ↓Iv.zrev_t, ↓Iv.zrev_l, ↓Iv.zaug_a, ↓Iv.zaug_s, ↓Iv.zisn, ↓Iv.znotn, ↓Iv.zadd_l, ↓Iv.zadd_t, ↓Iv.zapp_l, ↓Iv.ty_ll, ↓Iv.ty_dd, ↓Iv.zfor_nil, ↓Iv.zty_i, ↓Iv.zty_ib, ↓Iv.zty_is, ↓Iv.zty_it, ↓Iv.zty_il, ↓Iv.zty_bi, ↓Iv.zty_bb, ↓Iv.zty_bs, ↓Iv.zty_bt, ↓Iv.zty_bl, ↓Iv.zty_si, ↓Iv.zty_sb, ↓Iv.zty_ss, ↓Iv.zty_st, ↓Iv.zty_sl, ↓Iv.zty_ti, ↓Iv.zty_tb, ↓Iv.zty_ts, ↓Iv.zty_tt, ↓Iv.zty_tl, ↓Iv.zty_li, ↓Iv.zty_lb, ↓Iv.zty_ls, ↓Iv.zty_lt, ↓Iv.zty_ll, ↓Iv.zty_ni, ↓Iv.zty_nb, ↓Iv.zty_ns, ↓Iv.zty_nt, ↓Iv.zty_nl, ↓Iv.zty_di, ↓Iv.zty_db, ↓Iv.zty_ds, ↓Iv.zty_dt, ↓Iv.zty_dl, ↓Iv.quiet_0, ↓Iv.quiet_s, ↓Iv.qS_v, ↓Iv.qS_n, ↓Iv.qS_s, ↓reduceIte, Bool.false_eq_true, Nat.reduceLeDiff, Nat.zero_le, Iv.slotsOf, Iv.nodupN, List.contains_nil, Bool.not_false, Bool.not_true, Bool.and_true, Bool.true_and, Bool.and_false, Bool.false_and, decide_true, decide_false, List.replicate, List.cons_append, List.nil_append, List.length_cons, List.length_nil, Nat.reduceAdd, Nat.reduceSub, List.contains_cons, Nat.reduceBeqDiff, Nat.reduceEqDiff, Bool.or_false, Bool.false_or, Bool.or_true, Bool.true_or, List.take_succ_cons, List.take_zero]
        exact Tot.ret ⟨_, rfl⟩
      · cases e
        subst h
        have l := gk.len
        have hp := p_pairs_of_run (n + 28) kn (by omega) (fun p hp => ⟨(gk.tbl p hp).1, (gk.tbl p hp).2.1, (gk.tbl p hp).2.2.1⟩) (.own (.dct (encK kn))) (.inr rfl)
        simp -implicitDefEqProofs only [↓Iv.k_var, ↓Iv.k_int, ↓Iv.k_str, ↓Iv.k_bl, ↓Iv.k_non, ↓Iv.k_tup, ↓Iv.k_lst, ↓Iv.k_dct, ↓Iv.z_bin, ↓Iv.k_neg, ↓Iv.z_cmp, ↓Iv.z_cmp2, ↓Iv.z_rev, ↓Iv.z_and, ↓Iv.z_or, ↓Iv.k_not, ↓Iv.z_ite, ↓Iv.z_idx, ↓Iv.z_slc, ↓Iv.z_slf, ↓Iv.z_slt, ↓Iv.z_call, ↓Iv.z_blt, ↓Iv.z_isi, ↓Iv.z_comp, ↓Iv.k_nil, ↓Iv.k_cons, ↓Iv.z_seq, ↓Iv.z_rng1, ↓Iv.k_expr, ↓Iv.z_aite, ↓Iv.z_for, ↓Iv.z_whl, ↓Iv.k_retN, ↓Iv.k_pass, ↓Iv.k_brk, ↓Iv.k_cont, ↓Iv.k_frz, ↓Iv.z_mth, ↓Iv.z_mut, ↓Iv.k_scons, ↓Iv.k_snil, ↓Iv.k_asg, ↓Iv.k_par, ↓Iv.z_set, ↓Iv.k_ret, ↓Iv.z_aug, ↓Iv.z_enm, ↓Iv.z_rng2, ↓Iv.look_0, ↓Iv.look_s, ↓Iv.onS_v, ↓Iv.onS_o, ↓Iv.ownK_o, ↓Iv.valK_v, ↓Iv.asV_i, ↓Iv.asB_i, ↓Iv.asN_i, ↓Iv.dsK_v, ↓Iv.dsK_o, ↓Iv.drK_i, ↓Iv.drK_s, ↓Iv.immsK_0, ↓Iv.immsK_i, ↓Iv.dersK_0, ↓Iv.dersK_c, ↓Iv.argsK_0, ↓Iv.argsK_i, ↓Iv.argsK_s, ↓Iv.getO_0, ↓Iv.getO_s, ↓Iv.outK_go, ↓Iv.goO_0, ↓Iv.goO_i, ↓Iv.goO_s, ↓Iv.putS_0, ↓Iv.putS_s, ↓Iv.setK_z, ↓Iv.setK_v, ↓Iv.setK_n, ↓Iv.setK_ss, ↓Iv.setK_0s, ↓Iv.frK_v, ↓Iv.frK_o, ↓Iv.frK_ss, ↓Iv.frK_0s, ↓Iv.setsK_0, ↓Iv.setsK_c, ↓Iv.tgK_v, ↓Iv.tgK_w, ↓Iv.tgK_t, ↓Iv.tgK_2, ↓Iv.tgK_p, ↓Iv.tgK_2p, ↓Iv.asgK_f, ↓Iv.asgK_v, ↓Iv.asgK_w, ↓Iv.asgK_t, ↓Iv.asgK_2, ↓Iv.retK_i, ↓Iv.retK_s, ↓Iv.bkz_some, ↓Iv.cnd_t, ↓Iv.cnd_f, ↓Iv.endK_ret, ↓Iv.endK_next, ↓Iv.za_i, ↓Iv.zs_i, ↓Iv.zeq_i, ↓Iv.zne_i, ↓Iv.zlt_i, ↓Iv.zle_i, ↓Iv.zgt_i, ↓Iv.zge_i, ↓Iv.zeq_s, ↓Iv.zne_s, ↓Iv.zeq_b, ↓Iv.zne_b, ↓Iv.zlen_t, ↓Iv.zlen_l, ↓Iv.zlen_r, ↓Iv.zlen_d, ↓Iv.ztup_l, ↓Iv.ztup_t, ↓Iv.zlst_l, ↓Iv.zlst_t, ↓Iv.zlst_r, ↓Iv.zzip_t, ↓Iv.zzip_l, ↓Iv.zint_i, ↓Iv.zint_b, ↓Iv.zit_t, ↓Iv.zit_l, ↓Iv.zit_r, ↓Iv.zslc_t, ↓Iv.zslc_l, ↓Iv.zrev_t, ↓Iv.zrev_l, ↓Iv.zaug_a, ↓Iv.zaug_s, ↓Iv.zisn, ↓Iv.znotn, ↓Iv.zadd_l, ↓Iv.zadd_t, ↓Iv.zapp_l, ↓Iv.ty_ll, ↓Iv.ty_dd, ↓Iv.zfor_nil, ↓Iv.zty_i, ↓Iv.zty_ib, ↓Iv.zty_is, ↓Iv.zty_it, ↓Iv.zty_il, ↓Iv.zty_bi, ↓Iv.zty_bb, ↓Iv.zty_bs, ↓Iv.zty_bt, ↓Iv.zty_bl, ↓Iv.zty_si, ↓Iv.zty_sb, ↓Iv.zty_ss, ↓Iv.zty_st, ↓Iv.zty_sl, ↓Iv.zty_ti, ↓Iv.zty_tb, ↓Iv.zty_ts, ↓Iv.zty_tt, ↓Iv.zty_tl, ↓Iv.zty_li, ↓Iv.zty_lb, ↓Iv.zty_ls, ↓Iv.zty_lt, ↓Iv.zty_ll, ↓Iv.zty_ni, ↓Iv.zty_nb, ↓Iv.zty_ns, ↓Iv.zty_nt, ↓Iv.zty_nl, ↓Iv.zty_di, ↓Iv.zty_db, ↓Iv.zty_ds, ↓Iv.zty_dt, ↓Iv.zty_dl, ↓Iv.quiet_0, ↓Iv.quiet_s, ↓Iv.qS_v, ↓Iv.qS_n, ↓Iv.qS_s, ↓reduceIte, Bool.false_eq_true, Nat.reduceLeDiff, Nat.zero_le, Iv.slotsOf, Iv.nodupN, List.contains_nil, Bool.not_false, Bool.not_true, Bool.and_true, Bool.true_and, Bool.and_false, Bool.false_and, decide_true, decide_false, List.replicate, List.cons_append, List.nil_append, List.length_cons, List.length_nil, Nat.reduceAdd, Nat.reduceSub, List.contains_cons, Nat.reduceBeqDiff, Nat.reduceEqDiff, Bool.or_false, Bool.false_or, Bool.or_true, Bool.true_or, List.take_succ_cons, List.take_zero, ↓bkz hp]
        exact Tot.ret ⟨_, rfl⟩
  obtain ⟨_, e, o, rfl⟩ := main
  exact ⟨o, e⟩
end K07
namespace K07
open PySem Iv Tm
theorem l_matched_run (n b N : Nat) (hN : N ≤ 60) (a c : T) (g : Good b N [] [(a, c)]) (R : Option KT) (hR : Tm.mt N [] [(a, c)] = R) :
    ∃ fr o, run tab (n + 30) f_l_matched [.val (enc a), .val (enc c)] = some (fr, match R with | none => .non | some kn => .dct (encK kn), o) := by
  have main : Tot (run tab (n + 29 + 1) f_l_matched [.val (enc a), .val (enc c)]) fun z => ∃ fr o, z = (fr, match R with | none => .non | some kn => .dct (encK kn), o) := by
    refine run_tot (F := l_matched_f) rfl rfl ?_
    show Tot (exsK 2 whileFuel (run tab (n + 29)) l_matched_s [.val (enc a), .val (enc c), .none, .none, .none, .none, .none] (endK 2)) _
    have g0 := g.len
    have cT : (-(2 ^ 62) ≤ (10000 : Int) ∧ (10000 : Int) < 2 ^ 62) = True := eq_true (by decide)
    simp -implicitDefEqProofs only [↓Iv.k_var, ↓Iv.k_int, ↓Iv.k_str, ↓Iv.k_bl, ↓Iv.k_non, ↓Iv.k_tup, ↓Iv.k_lst, ↓Iv.k_dct, ↓Iv.z_bin, ↓Iv.k_neg, ↓Iv.z_cmp, ↓Iv.z_cmp2, ↓Iv.z_rev, ↓Iv.z_and, ↓Iv.z_or, ↓Iv.k_not, ↓Iv.z_ite, ↓Iv.z_idx, ↓Iv.z_slc, ↓Iv.z_slf, ↓Iv.z_slt, ↓Iv.z_call, ↓Iv.z_blt, ↓Iv.z_isi, ↓Iv.z_comp, ↓Iv.k_nil, ↓Iv.k_cons, ↓Iv.z_seq, ↓Iv.z_rng1, ↓Iv.k_expr, ↓Iv.z_aite, ↓Iv.z_for, ↓Iv.z_whl, ↓Iv.k_retN, ↓Iv.k_pass, ↓Iv.k_brk, ↓Iv.k_cont, ↓Iv.k_frz, ↓Iv.z_mth, ↓Iv.z_mut, ↓Iv.k_scons, ↓Iv.k_snil, ↓Iv.k_asg, ↓Iv.k_par, ↓Iv.z_set, ↓Iv.k_ret, ↓Iv.z_aug, ↓Iv.z_enm, ↓Iv.z_rng2, ↓Iv.look_0, ↓Iv.look_s, ↓Iv.onS_v, ↓Iv.onS_o, ↓Iv.ownK_o, ↓Iv.valK_v, ↓Iv.asV_i, ↓Iv.asB_i, ↓Iv.asN_i, ↓Iv.dsK_v, ↓Iv.dsK_o, ↓Iv.drK_i, ↓Iv.drK_s, ↓Iv.immsK_0, ↓Iv.immsK_i, ↓Iv.dersK_0, ↓Iv.dersK_c, ↓Iv.argsK_0, ↓Iv.argsK_i, ↓Iv.argsK_s, ↓Iv.getO_0, ↓Iv.getO_s, ↓Iv.outK_go, ↓Iv.goO_0, ↓Iv.goO_i, ↓Iv.goO_s, ↓Iv.putS_0, ↓Iv.putS_s, ↓Iv.setK_z, ↓Iv.setK_v, ↓Iv.setK_n, ↓Iv.setK_ss, ↓Iv.setK_0s, ↓Iv.frK_v, ↓Iv.frK_o, ↓Iv.frK_ss, ↓Iv.frK_0s, ↓Iv.setsK_0, ↓Iv.setsK_c, ↓Iv.tgK_v, ↓Iv.tgK_w, ↓Iv.tgK_t, ↓Iv.tgK_2, ↓Iv.tgK_p, ↓Iv.tgK_2p, ↓Iv.asgK_f, ↓Iv.asgK_v, ↓Iv.asgK_w, ↓Iv.asgK_t, ↓Iv.asgK_2, ↓Iv.retK_i, ↓Iv.retK_s, ↓Iv.bkz_some, ↓Iv.cnd_t, ↓Iv.cnd_f, ↓Iv.endK_ret, ↓Iv.endK_next, ↓Iv.za_i, ↓Iv.zs_i, ↓Iv.zeq_i, ↓Iv.zne_i, ↓Iv.zlt_i, ↓Iv.zle_i, ↓Iv.zgt_i, ↓Iv.zge_i, ↓Iv.zeq_s, ↓Iv.zne_s, ↓Iv.zeq_b, ↓Iv.zne_b, ↓Iv.zlen_t, ↓Iv.zlen_l, ↓Iv.zlen_r, ↓Iv.zlen_d, ↓Iv.ztup_l, ↓Iv.ztup_t, ↓Iv.zlst_l, ↓Iv.zlst_t, ↓Iv.zlst_r, ↓Iv.zzip_t, ↓Iv.zzip_l, ↓Iv.zint_i, ↓Iv.zint_b, ↓Iv.zit_t, ↓Iv.zit_l, ↓Iv.zit_r, ↓Iv.zslc_t, ↓Iv.zslc_l, ↓Iv.zrev_t, ↓Iv.zrev_l, ↓Iv.zaug_a, ↓Iv.zaug_s, ↓Iv.zisn, ↓Iv.znotn, ↓Iv.zadd_l, ↓Iv.zadd_t, ↓Iv.zapp_l, ↓Iv.ty_ll, ↓Iv.ty_dd, ↓Iv.zfor_nil, ↓Iv.zty_i, ↓Iv.zty_ib, ↓Iv.zty_is, ↓Iv.zty_it, ↓Iv.zty_il, ↓Iv.zty_bi, ↓Iv.zty_bb, ↓Iv.zty_bs, ↓Iv.zty_bt, ↓Iv.zty_bl, ↓Iv.zty_si, ↓Iv.zty_sb, ↓Iv.zty_ss, ↓Iv.zty_st, ↓Iv.zty_sl, ↓Iv.zty_ti, ↓Iv.zty_tb, ↓Iv.zty_ts, ↓Iv.zty_tt, ↓Iv.zty_tl, ↓Iv.zty_li, ↓Iv.zty_lb, ↓Iv.zty_ls, ↓Iv.zty_lt, ↓Iv.zty_ll, ↓Iv.zty_ni, ↓Iv.zty_nb, ↓Iv.zty_ns, ↓Iv.zty_nt, ↓Iv.zty_nl, ↓Iv.zty_di, ↓Iv.zty_db, ↓Iv.zty_ds, ↓Iv.zty_dt, ↓Iv.zty_dl, ↓Iv.quiet_0, ↓Iv.quiet_s, ↓Iv.qS_v, ↓Iv.qS_n, ↓Iv.qS_s, ↓reduceIte, Bool.false_eq_true, Nat.reduceLeDiff, Nat.zero_le, Iv.slotsOf, Iv.nodupN, List.contains_nil, Bool.not_false, Bool.not_true, Bool.and_true, Bool.true_and, Bool.and_false, Bool.false_and, decide_true, decide_false, List.replicate, List.cons_append, List.nil_append, List.length_cons, List.length_nil, Nat.reduceAdd, Nat.reduceSub, List.contains_cons, Nat.reduceBeqDiff, Nat.reduceEqDiff, Bool.or_false, Bool.false_or, Bool.or_true, Bool.true_or, List.take_succ_cons, List.take_zero, l_matched_s, cT]
    refine Tot.bnd (forS_tot (fun i r => ∃ (kn : KT) (st : List (T × T)) (m : Nat) (s2 s5 s6 : Slot), Tm.mt m kn st = R ∧ mu st ≤ m ∧ m + i ≤ 100 ∧ Good b N kn st ∧ r = [.val (enc a), .val (enc c), s2, .own (.dct (encK kn)), .own (.lst (stD st)), s5, s6])
      (fun z => (R = none ∧ ∃ r, z = (.ret false .non, r)) ∨ ∃ (kn : KT) (fr : Bool) (r : Sl), R = some kn ∧ z = (.ret fr (.dct (encK kn)), r)) _ 0 _ ⟨[], [(a, c)], N, _, _, _, hR, by simp only [List.length_nil] at g0; omega, by omega, g, rfl⟩ ?_ ?_) ?_
    · rintro lap y _ hj ⟨kn, st, m, s2, s5, s6, hm, hmu, hml, gs, rfl⟩
      rw [Nat.zero_add] at hml ⊢
      have ew := eq_row gs
      cases st with
      | nil =>
        have ew' : cmpop .eq (.lst (stD [])) (.lst []) = some true := ew
        simp -implicitDefEqProofs only [↓Iv.k_var, ↓Iv.k_int, ↓Iv.k_str, ↓Iv.k_bl, ↓Iv.k_non, ↓Iv.k_tup, ↓Iv.k_lst, ↓Iv.k_dct, ↓Iv.z_bin, ↓Iv.k_neg, ↓Iv.z_cmp, ↓Iv.z_cmp2, ↓Iv.z_rev, ↓Iv.z_and, ↓Iv.z_or, ↓Iv.k_not, ↓Iv.z_ite, ↓Iv.z_idx, ↓Iv.z_slc, ↓Iv.z_slf, ↓Iv.z_slt, ↓Iv.z_call, ↓Iv.z_blt, ↓Iv.z_isi, ↓Iv.z_comp, ↓Iv.k_nil, ↓Iv.k_cons, ↓Iv.z_seq, ↓Iv.z_rng1, ↓Iv.k_expr, ↓Iv.z_aite, ↓Iv.z_for, ↓Iv.z_whl, ↓Iv.k_retN, ↓Iv.k_pass, ↓Iv.k_brk, ↓Iv.k_cont, ↓Iv.k_frz, ↓Iv.z_mth, ↓Iv.z_mut, ↓Iv.k_scons, ↓Iv.k_snil, ↓Iv.k_asg, ↓Iv.k_par, ↓Iv.z_set, ↓Iv.k_ret, ↓Iv.z_aug, ↓Iv.z_enm, ↓Iv.z_rng2, ↓Iv.look_0, ↓Iv.look_s, ↓Iv.onS_v, ↓Iv.onS_o, ↓Iv.ownK_o, ↓Iv.valK_v, ↓Iv.asV_i, ↓Iv.asB_i, ↓Iv.asN_i, ↓Iv.dsK_v, ↓Iv.dsK_o, ↓Iv.drK_i, ↓Iv.drK_s, ↓Iv.immsK_0, ↓Iv.immsK_i, ↓Iv.dersK_0, ↓Iv.dersK_c, ↓Iv.argsK_0, ↓Iv.argsK_i, ↓Iv.argsK_s, ↓Iv.getO_0, ↓Iv.getO_s, ↓Iv.outK_go, ↓Iv.goO_0, ↓Iv.goO_i, ↓Iv.goO_s, ↓Iv.putS_0, ↓Iv.putS_s, ↓Iv.setK_z, ↓Iv.setK_v, ↓Iv.setK_n, ↓Iv.setK_ss, ↓Iv.setK_0s, ↓Iv.frK_v, ↓Iv.frK_o, ↓Iv.frK_ss, ↓Iv.frK_0s, ↓Iv.setsK_0, ↓Iv.setsK_c, ↓Iv.tgK_v, ↓Iv.tgK_w, ↓Iv.tgK_t, ↓Iv.tgK_2, ↓Iv.tgK_p, ↓Iv.tgK_2p, ↓Iv.asgK_f, ↓Iv.asgK_v, ↓Iv.asgK_w, ↓Iv.asgK_t, ↓Iv.asgK_2, ↓Iv.retK_i, ↓Iv.retK_s, ↓Iv.bkz_some, ↓Iv.cnd_t, ↓Iv.cnd_f, ↓Iv.endK_ret, ↓Iv.endK_next, ↓Iv.za_i, ↓Iv.zs_i, ↓Iv.zeq_i, ↓Iv.zne_i, ↓Iv.zlt_i, ↓Iv.zle_i, ↓Iv.zgt_i, ↓Iv.zge_i, ↓Iv.zeq_s, ↓Iv.zne_s, ↓Iv.zeq_b, ↓Iv.zne_b, ↓Iv.zlen_t, ↓Iv.zlen_l, ↓Iv.zlen_r, ↓Iv.zlen_d, ↓Iv.ztup_l, ↓Iv.ztup_t, ↓Iv.zlst_l, ↓Iv.zlst_t, ↓Iv.zlst_r, ↓Iv.zzip_t, ↓Iv.zzip_l, ↓Iv.zint_i, ↓Iv.zint_b, ↓Iv.zit_t, ↓Iv.zit_l, ↓Iv.zit_r, ↓Iv.zslc_t, ↓Iv.zslc_l, ↓Iv.zrev_t, ↓Iv.zrev_l, ↓Iv.zaug_a, ↓Iv.zaug_s, ↓Iv.zisn, ↓Iv.znotn, ↓Iv.zadd_l, ↓Iv.zadd_t, ↓Iv.zapp_l, ↓Iv.ty_ll, ↓Iv.ty_dd, ↓Iv.zfor_nil, ↓Iv.zty_i, ↓Iv.zty_ib, ↓Iv.zty_is, ↓Iv.zty_it, ↓Iv.zty_il, ↓Iv.zty_bi, ↓Iv.zty_bb, ↓Iv.zty_bs, ↓Iv.zty_bt, ↓Iv.zty_bl, ↓Iv.zty_si, ↓Iv.zty_sb, ↓Iv.zty_ss, ↓Iv.zty_st, ↓Iv.zty_sl, ↓Iv.zty_ti, ↓Iv.zty_tb, ↓Iv.zty_ts, ↓Iv.zty_tt, ↓Iv.zty_tl, ↓Iv.zty_li, ↓Iv.zty_lb, ↓Iv.zty_ls, ↓Iv.zty_lt, ↓Iv.zty_ll, ↓Iv.zty_ni, ↓Iv.zty_nb, ↓Iv.zty_ns, ↓Iv.zty_nt, ↓Iv.zty_nl, ↓Iv.zty_di, ↓Iv.zty_db, ↓Iv.zty_ds, ↓Iv.zty_dt, ↓Iv.zty_dl, ↓Iv.quiet_0, ↓Iv.quiet_s, ↓Iv.qS_v, ↓Iv.qS_n, ↓Iv.qS_s, ↓reduceIte, Bool.false_eq_true, Nat.reduceLeDiff, Nat.zero_le, Iv.slotsOf, Iv.nodupN, List.contains_nil, Bool.not_false, Bool.not_true, Bool.and_true, Bool.true_and, Bool.and_false, Bool.false_and, decide_true, decide_false, List.replicate, List.cons_append, List.nil_append, List.length_cons, List.length_nil, Nat.reduceAdd, Nat.reduceSub, List.contains_cons, Nat.reduceBeqDiff, Nat.reduceEqDiff, Bool.or_false, Bool.false_or, Bool.or_true, Bool.true_or, List.take_succ_cons, List.take_zero, l_matched_b0, ↓bkz ew']
        refine Tot.ret (.inr ⟨kn, _, _, ?_, rfl⟩)
        cases m <;> exact hm.symm
      | cons p st =>
        obtain ⟨q, t⟩ := p
        have hpop := stD_pop (q, t) st
        rw [decide_eq_false (List.cons_ne_nil _ _)] at ew
        have hs := sz_pos q
        rw [mu] at hmu
        simp only at hmu
        obtain ⟨k, rfl⟩ : ∃ k, m = k + 1 := ⟨m - 1, by omega⟩
        cases q with
        | v i =>
          have gv := ne_known gs
          have gt := get2_any kn i t
          have sd := set_enc kn i t (by have := gs.len; omega)
          have v1 : run tab (n + 29) f_l_is_var [.val (.int ((i : Nat) : Int))] = some (false, .bl true, [.val (.int ((i : Nat) : Int))]) := l_is_var_run (n + 28) (.v i)
          have hpop' : mutop .pop (.lst (stD ((.v i, t) :: st))) [] = some (.tup [.int ((i : Nat) : Int), enc t], .lst (stD st)) := hpop
          have sz1 : sz (T.v i) = 1 := rfl
          rw [Tm.mt] at hm
          by_cases h : (lk kn i).getD t = t
          · rw [if_pos h] at hm
            rw [decide_eq_true h] at gv
            have gv' : cmpop .ne (enc ((lk kn i).getD t)) (enc t) = some false := gv
            simp -implicitDefEqProofs only [↓Iv.k_var, ↓Iv.k_int, ↓Iv.k_str, ↓Iv.k_bl, ↓Iv.k_non, ↓Iv.k_tup, ↓Iv.k_lst, ↓Iv.k_dct, ↓Iv.z_bin, ↓Iv.k_neg, ↓Iv.z_cmp, ↓Iv.z_cmp2, ↓Iv.z_rev, ↓Iv.z_and, ↓Iv.z_or, ↓Iv.k_not, ↓Iv.z_ite, ↓Iv.z_idx, ↓Iv.z_slc, ↓Iv.z_slf, ↓Iv.z_slt, ↓Iv.z_call, ↓Iv.z_blt, ↓Iv.z_isi, ↓Iv.z_comp, ↓Iv.k_nil, ↓Iv.k_cons, ↓Iv.z_seq, ↓Iv.z_rng1, ↓Iv.k_expr, ↓Iv.z_aite, ↓Iv.z_for, ↓Iv.z_whl, ↓Iv.k_retN, ↓Iv.k_pass, ↓Iv.k_brk, ↓Iv.k_cont, ↓Iv.k_frz, ↓Iv.z_mth, ↓Iv.z_mut, ↓Iv.k_scons, ↓Iv.k_snil, ↓Iv.k_asg, ↓Iv.k_par, ↓Iv.z_set, ↓Iv.k_ret, ↓Iv.z_aug, ↓Iv.z_enm, ↓Iv.z_rng2, ↓Iv.look_0, ↓Iv.look_s, ↓Iv.onS_v, ↓Iv.onS_o, ↓Iv.ownK_o, ↓Iv.valK_v, ↓Iv.asV_i, ↓Iv.asB_i, ↓Iv.asN_i, ↓Iv.dsK_v, ↓Iv.dsK_o, ↓Iv.drK_i, ↓Iv.drK_s, ↓Iv.immsK_0, ↓Iv.immsK_i, ↓Iv.dersK_0, ↓Iv.dersK_c, ↓Iv.argsK_0, ↓Iv.argsK_i, ↓Iv.argsK_s, ↓Iv.getO_0, ↓Iv.getO_s, ↓Iv.outK_go, ↓Iv.goO_0, ↓Iv.goO_i, ↓Iv.goO_s, ↓Iv.putS_0, ↓Iv.putS_s, ↓Iv.setK_z, ↓Iv.setK_v, ↓Iv.setK_n, ↓Iv.setK_ss, ↓Iv.setK_0s, ↓Iv.frK_v, ↓Iv.frK_o, ↓Iv.frK_ss, ↓Iv.frK_0s, ↓Iv.setsK_0, ↓Iv.setsK_c, ↓Iv.tgK_v, ↓Iv.tgK_w, ↓Iv.tgK_t, ↓Iv.tgK_2, ↓Iv.tgK_p, ↓Iv.tgK_2p, ↓Iv.asgK_f, ↓Iv.asgK_v, ↓Iv.asgK_w, ↓Iv.asgK_t, ↓Iv.asgK_2, ↓Iv.retK_i, ↓Iv.retK_s, ↓Iv.bkz_some, ↓Iv.cnd_t, ↓Iv.cnd_f, ↓Iv.endK_ret, ↓Iv.endK_next, ↓Iv.za_i, ↓Iv.zs_i, ↓Iv.zeq_i, ↓Iv.zne_i, ↓Iv.zlt_i, ↓Iv.zle_i, ↓Iv.zgt_i, ↓Iv.zge_i, ↓Iv.zeq_s, ↓Iv.zne_s, ↓Iv.zeq_b, ↓Iv.zne_b, ↓Iv.zlen_t, ↓Iv.zlen_l, ↓Iv.zlen_r, ↓Iv.zlen_d, ↓Iv.ztup_l, ↓Iv.ztup_t, ↓Iv.zlst_l, ↓Iv.zlst_t, ↓Iv.zlst_r, ↓Iv.zzip_t, ↓Iv.zzip_l, ↓Iv.zint_i, ↓Iv.zint_b, ↓Iv.zit_t, ↓Iv.zit_l, ↓Iv.zit_r, ↓Iv.zslc_t, ↓Iv.zslc_l, ↓Iv.zrev_t, ↓Iv.zrev_l, ↓Iv.zaug_a, ↓Iv.zaug_s, ↓Iv.zisn, ↓Iv.znotn, ↓Iv.zadd_l, ↓Iv.zadd_t, ↓Iv.zapp_l, ↓Iv.ty_ll, ↓Iv.ty_dd, ↓Iv.zfor_nil, ↓Iv.zty_i, ↓Iv.zty_ib, ↓Iv.zty_is, ↓Iv.zty_it, ↓Iv.zty_il, ↓Iv.zty_bi, ↓Iv.zty_bb, ↓Iv.zty_bs, ↓Iv.zty_bt, ↓Iv.zty_bl, ↓Iv.zty_si, ↓Iv.zty_sb, ↓Iv.zty_ss, ↓Iv.zty_st, ↓Iv.zty_sl, ↓Iv.zty_ti, ↓Iv.zty_tb, ↓Iv.zty_ts, ↓Iv.zty_tt, ↓Iv.zty_tl, ↓Iv.zty_li, ↓Iv.zty_lb, ↓Iv.zty_ls, ↓Iv.zty_lt, ↓Iv.zty_ll, ↓Iv.zty_ni, ↓Iv.zty_nb, ↓Iv.zty_ns, ↓Iv.zty_nt, ↓Iv.zty_nl, ↓Iv.zty_di, ↓Iv.zty_db, ↓Iv.zty_ds, ↓Iv.zty_dt, ↓Iv.zty_dl, ↓Iv.quiet_0, ↓Iv.quiet_s, ↓Iv.qS_v, ↓Iv.qS_n, ↓Iv.qS_s, ↓reduceIte, Bool.false_eq_true, Nat.reduceLeDiff, Nat.zero_le, Iv.slotsOf, Iv.nodupN, List.contains_nil, Bool.not_false, Bool.not_true, Bool.and_true, Bool.true_and, Bool.and_false, Bool.false_and, decide_true, decide_false, List.replicate, List.cons_append, List.nil_append, List.length_cons, List.length_nil, Nat.reduceAdd, Nat.reduceSub, List.contains_cons, Nat.reduceBeqDiff, Nat.reduceEqDiff, Bool.or_false, Bool.false_or, Bool.or_true, Bool.true_or, List.take_succ_cons, List.take_zero, l_matched_b0, ↓bkz ew, ↓bkz hpop', ↓bkz v1, ↓bkz gt, ↓bkz gv', ↓bkz sd]
            exact Tot.ret ⟨ins kn i t, st, k, _, _, _, hm, by omega, by omega, gs.var h, rfl⟩
          · rw [if_neg h] at hm
            rw [decide_eq_false h] at gv
            have gv' : cmpop .ne (enc ((lk kn i).getD t)) (enc t) = some true := gv
            simp -implicitDefEqProofs only [↓Iv.k_var, ↓Iv.k_int, ↓Iv.k_str, ↓Iv.k_bl, ↓Iv.k_non, ↓Iv.k_tup, ↓Iv.k_lst, ↓Iv.k_dct, ↓Iv.z_bin, ↓Iv.k_neg, ↓Iv.z_cmp, ↓Iv.z_cmp2, ↓Iv.z_rev, ↓Iv.z_and, ↓Iv.z_or, ↓Iv.k_not, ↓Iv.z_ite, ↓Iv.z_idx, ↓Iv.z_slc, ↓Iv.z_slf, ↓Iv.z_slt, ↓Iv.z_call, ↓Iv.z_blt, ↓Iv.z_isi, ↓Iv.z_comp, ↓Iv.k_nil, ↓Iv.k_cons, ↓Iv.z_seq, ↓Iv.z_rng1, ↓Iv.k_expr, ↓Iv.z_aite, ↓Iv.z_for, ↓Iv.z_whl, ↓Iv.k_retN, ↓Iv.k_pass, ↓Iv.k_brk, ↓Iv.k_cont, ↓Iv.k_frz, ↓Iv.z_mth, ↓Iv.z_mut, ↓Iv.k_scons, ↓Iv.k_snil, ↓Iv.k_asg, ↓Iv.k_par, ↓Iv.z_set, ↓Iv.k_ret, ↓Iv.z_aug, ↓Iv.z_enm, ↓Iv.z_rng2, ↓Iv.look_0, ↓Iv.look_s, ↓Iv.onS_v, ↓Iv.onS_o, ↓Iv.ownK_o, ↓Iv.valK_v, ↓Iv.asV_i, ↓Iv.asB_i, ↓Iv.asN_i, ↓Iv.dsK_v, ↓Iv.dsK_o, ↓Iv.drK_i, ↓Iv.drK_s, ↓Iv.immsK_0, ↓Iv.immsK_i, ↓Iv.dersK_0, ↓Iv.dersK_c, ↓Iv.argsK_0, ↓Iv.argsK_i, ↓Iv.argsK_s, ↓Iv.getO_0, ↓Iv.getO_s, ↓Iv.outK_go, ↓Iv.goO_0, ↓Iv.goO_i, ↓Iv.goO_s, ↓Iv.putS_0, ↓Iv.putS_s, ↓Iv.setK_z, ↓Iv.setK_v, ↓Iv.setK_n, ↓Iv.setK_ss, ↓Iv.setK_0s, ↓Iv.frK_v, ↓Iv.frK_o, ↓Iv.frK_ss, ↓Iv.frK_0s, ↓Iv.setsK_0, ↓Iv.setsK_c, ↓Iv.tgK_v, ↓Iv.tgK_w, ↓Iv.tgK_t, ↓Iv.tgK_2, ↓Iv.tgK_p, ↓Iv.tgK_2p, ↓Iv.asgK_f, ↓Iv.asgK_v, ↓Iv.asgK_w, ↓Iv.asgK_t, ↓Iv.asgK_2, ↓Iv.retK_i, ↓Iv.retK_s, ↓Iv.bkz_some, ↓Iv.cnd_t, ↓Iv.cnd_f, ↓Iv.endK_ret, ↓Iv.endK_next, ↓Iv.za_i, ↓Iv.zs_i, ↓Iv.zeq_i, ↓Iv.zne_i, ↓Iv.zlt_i, ↓Iv.zle_i, ↓Iv.zgt_i, ↓Iv.zge_i, ↓Iv.zeq_s, ↓Iv.zne_s, ↓Iv.zeq_b, ↓Iv.zne_b, ↓Iv.zlen_t, ↓Iv.zlen_l, ↓Iv.zlen_r, ↓Iv.zlen_d, ↓Iv.ztup_l, ↓Iv.ztup_t, ↓Iv.zlst_l, ↓Iv.zlst_t, ↓Iv.zlst_r, ↓Iv.zzip_t, ↓Iv.zzip_l, ↓Iv.zint_i, ↓Iv.zint_b, ↓Iv.zit_t, ↓Iv.zit_l, ↓Iv.zit_r, ↓Iv.zslc_t, ↓Iv.zslc_l, ↓Iv.zrev_t, ↓Iv.zrev_l, ↓Iv.zaug_a, ↓Iv.zaug_s, ↓Iv.zisn, ↓Iv.znotn, ↓Iv.zadd_l, ↓Iv.zadd_t, ↓Iv.zapp_l, ↓Iv.ty_ll, ↓Iv.ty_dd, ↓Iv.zfor_nil, ↓Iv.zty_i, ↓Iv.zty_ib, ↓Iv.zty_is, ↓Iv.zty_it, ↓Iv.zty_il, ↓Iv.zty_bi, ↓Iv.zty_bb, ↓Iv.zty_bs, ↓Iv.zty_bt, ↓Iv.zty_bl, ↓Iv.zty_si, ↓Iv.zty_sb, ↓Iv.zty_ss, ↓Iv.zty_st, ↓Iv.zty_sl, ↓Iv.zty_ti, ↓Iv.zty_tb, ↓Iv.zty_ts, ↓Iv.zty_tt, ↓Iv.zty_tl, ↓Iv.zty_li, ↓Iv.zty_lb, ↓Iv.zty_ls, ↓Iv.zty_lt, ↓Iv.zty_ll, ↓Iv.zty_ni, ↓Iv.zty_nb, ↓Iv.zty_ns, ↓Iv.zty_nt, ↓Iv.zty_nl, ↓Iv.zty_di, ↓Iv.zty_db, ↓Iv.zty_ds, ↓Iv.zty_dt, ↓Iv.zty_dl, ↓Iv.quiet_0, ↓Iv.quiet_s, ↓Iv.qS_v, ↓Iv.qS_n, ↓Iv.qS_s, ↓reduceIte, Bool.false_eq_true, Nat.reduceLeDiff, Nat.zero_le, Iv.slotsOf, Iv.nodupN, List.contains_nil, Bool.not_false, Bool.not_true, Bool.and_true, Bool.true_and, Bool.and_false, Bool.false_and, decide_true, decide_false, List.replicate, List.cons_append, List.nil_append, List.length_cons, List.length_nil, Nat.reduceAdd, Nat.reduceSub, List.contains_cons, Nat.reduceBeqDiff, Nat.reduceEqDiff, Bool.or_false, Bool.false_or, Bool.or_true, Bool.true_or, List.take_succ_cons, List.take_zero, l_matched_b0, ↓bkz ew, ↓bkz hpop', ↓bkz v1, ↓bkz gt, ↓bkz gv']
            exact Tot.ret (.inl ⟨hm.symm, _, rfl⟩)
        | f x ts =>
          have v1 : run tab (n + 29) f_l_is_var [.val (.tup (.str x :: encs ts))] = some (false, .bl false, [.val (.tup (.str x :: encs ts))]) := l_is_var_run (n + 28) (.f x ts)
          cases t with
          | v j =>
            have hpop' : mutop .pop (.lst (stD ((.f x ts, .v j) :: st))) [] = some (.tup [.tup (.str x :: encs ts), .int ((j : Nat) : Int)], .lst (stD st)) := hpop
            have v2 : run tab (n + 29) f_l_is_var [.val (.int ((j : Nat) : Int))] = some (false, .bl true, [.val (.int ((j : Nat) : Int))]) := l_is_var_run (n + 28) (.v j)
            simp -implicitDefEqProofs only [↓Iv.k_var, ↓Iv.k_int, ↓Iv.k_str, ↓Iv.k_bl, ↓Iv.k_non, ↓Iv.k_tup, ↓Iv.k_lst, ↓Iv.k_dct, ↓Iv.z_bin, ↓Iv.k_neg, ↓Iv.z_cmp, ↓Iv.z_cmp2, ↓Iv.z_rev, ↓Iv.z_and, ↓Iv.z_or, ↓Iv.k_not, ↓Iv.z_ite, ↓Iv.z_idx, ↓Iv.z_slc, ↓Iv.z_slf, ↓Iv.z_slt, ↓Iv.z_call, ↓Iv.z_blt, ↓Iv.z_isi, ↓Iv.z_comp, ↓Iv.k_nil, ↓Iv.k_cons, ↓Iv.z_seq, ↓Iv.z_rng1, ↓Iv.k_expr, ↓Iv.z_aite, ↓Iv.z_for, ↓Iv.z_whl, ↓Iv.k_retN, ↓Iv.k_pass, ↓Iv.k_brk, ↓Iv.k_cont, ↓Iv.k_frz, ↓Iv.z_mth, ↓Iv.z_mut, ↓Iv.k_scons, ↓Iv.k_snil, ↓Iv.k_asg, ↓Iv.k_par, ↓Iv.z_set, ↓Iv.k_ret, ↓Iv.z_aug, ↓Iv.z_enm, ↓Iv.z_rng2, ↓Iv.look_0, ↓Iv.look_s, ↓Iv.onS_v, ↓Iv.onS_o, ↓Iv.ownK_o, ↓Iv.valK_v, ↓Iv.asV_i, ↓Iv.asB_i, ↓Iv.asN_i, ↓Iv.dsK_v, ↓Iv.dsK_o, ↓Iv.drK_i, ↓Iv.drK_s, ↓Iv.immsK_0, ↓Iv.immsK_i, ↓Iv.dersK_0, ↓Iv.dersK_c, ↓Iv.argsK_0, ↓Iv.argsK_i, ↓Iv.argsK_s, ↓Iv.getO_0, ↓Iv.getO_s, ↓Iv.outK_go, ↓Iv.goO_0, ↓Iv.goO_i, ↓Iv.goO_s, ↓Iv.putS_0, ↓Iv.putS_s, ↓Iv.setK_z, ↓Iv.setK_v, ↓Iv.setK_n, ↓Iv.setK_ss, ↓Iv.setK_0s, ↓Iv.frK_v, ↓Iv.frK_o, ↓Iv.frK_ss, ↓Iv.frK_0s, ↓Iv.setsK_0, ↓Iv.setsK_c, ↓Iv.tgK_v, ↓Iv.tgK_w, ↓Iv.tgK_t, ↓Iv.tgK_2, ↓Iv.tgK_p, ↓Iv.tgK_2p, ↓Iv.asgK_f, ↓Iv.asgK_v, ↓Iv.asgK_w, ↓Iv.asgK_t, ↓Iv.asgK_2, ↓Iv.retK_i, ↓Iv.retK_s, ↓Iv.bkz_some, ↓Iv.cnd_t, ↓Iv.cnd_f, ↓Iv.endK_ret, ↓Iv.endK_next, ↓Iv.za_i, ↓Iv.zs_i, ↓Iv.zeq_i, ↓Iv.zne_i, ↓Iv.zlt_i, ↓Iv.zle_i, ↓Iv.zgt_i, ↓Iv.zge_i, ↓Iv.zeq_s, ↓Iv.zne_s, ↓Iv.zeq_b, ↓Iv.zne_b, ↓Iv.zlen_t, ↓Iv.zlen_l, ↓Iv.zlen_r, ↓Iv.zlen_d, ↓Iv.ztup_l, ↓Iv.ztup_t, ↓Iv.zlst_l, ↓Iv.zlst_t, ↓Iv.zlst_r, ↓Iv.zzip_t, ↓Iv.zzip_l, ↓Iv.zint_i, ↓Iv.zint_b, ↓Iv.zit_t, ↓Iv.zit_l, ↓Iv.zit_r, ↓Iv.zslc_t, ↓Iv.zslc_l, ↓Iv.zrev_t, ↓Iv.zrev_l, ↓Iv.zaug_a, ↓Iv.zaug_s, ↓Iv.zisn, ↓Iv.znotn, ↓Iv.zadd_l, ↓Iv.zadd_t, ↓Iv.zapp_l, ↓Iv.ty_ll, ↓Iv.ty_dd, ↓Iv.zfor_nil, ↓Iv.zty_i, ↓Iv.zty_ib, ↓Iv.zty_is, ↓Iv.zty_it, ↓Iv.zty_il, ↓Iv.zty_bi, ↓Iv.zty_bb, ↓Iv.zty_bs, ↓Iv.zty_bt, ↓Iv.zty_bl, ↓Iv.zty_si, ↓Iv.zty_sb, ↓Iv.zty_ss, ↓Iv.zty_st, ↓Iv.zty_sl, ↓Iv.zty_ti, ↓Iv.zty_tb, ↓Iv.zty_ts, ↓Iv.zty_tt, ↓Iv.zty_tl, ↓Iv.zty_li, ↓Iv.zty_lb, ↓Iv.zty_ls, ↓Iv.zty_lt, ↓Iv.zty_ll, ↓Iv.zty_ni, ↓Iv.zty_nb, ↓Iv.zty_ns, ↓Iv.zty_nt, ↓Iv.zty_nl, ↓Iv.zty_di, ↓Iv.zty_db, ↓Iv.zty_ds, ↓Iv.zty_dt, ↓Iv.zty_dl, ↓Iv.quiet_0, ↓Iv.quiet_s, ↓Iv.qS_v, ↓Iv.qS_n, ↓Iv.qS_s, ↓reduceIte, Bool.false_eq_true, Nat.reduceLeDiff, Nat.zero_le, Iv.slotsOf, Iv.nodupN, List.contains_nil, Bool.not_false, Bool.not_true, Bool.and_true, Bool.true_and, Bool.and_false, Bool.false_and, decide_true, decide_false, List.replicate, List.cons_append, List.nil_append, List.length_cons, List.length_nil, Nat.reduceAdd, Nat.reduceSub, List.contains_cons, Nat.reduceBeqDiff, Nat.reduceEqDiff, Bool.or_false, Bool.false_or, Bool.or_true, Bool.true_or, List.take_succ_cons, List.take_zero, l_matched_b0, ↓bkz ew, ↓bkz hpop', ↓bkz v1, ↓bkz v2]
            exact Tot.ret (.inl ⟨hm.symm, _, rfl⟩)
          | f y us =>
            have hpop' : mutop .pop (.lst (stD ((.f x ts, .f y us) :: st))) [] = some (.tup [.tup (.str x :: encs ts), .tup (.str y :: encs us)], .lst (stD st)) := hpop
            have v2 : run tab (n + 29) f_l_is_var [.val (.tup (.str y :: encs us))] = some (false, .bl false, [.val (.tup (.str y :: encs us))]) := l_is_var_run (n + 28) (.f y us)
            have i1 : idxop (.tup (.str x :: encs ts)) (.int 0) = some (.str x) := idx_t (k := 0) rfl rfl
            have i2 : idxop (.tup (.str y :: encs us)) (.int 0) = some (.str y) := idx_t (k := 0) rfl rfl
            rw [Tm.mt] at hm
            by_cases hx : x = y
            · subst hx
              by_cases hl : ts.length = us.length
              · rw [if_pos ⟨rfl, hl⟩] at hm
                have i3 : cutD (.str x :: encs ts) (some 1) none = encs ts := cut_from _ (k := 1) rfl
                have i4 : cutD (.str x :: encs us) (some 1) none = encs us := cut_from _ (k := 1) rfl
                have m1 := mu_zip ts us
                have m2 := mu_len st
                have m3 := mu_len (ts.zip us)
                have m4 := gs.len
                have m5 : sz (T.f x ts) = 1 + szs ts := by rw [sz]
                rw [mu] at m4
                simp only at m4
                have a1 := add_l (xs := stD st) (ys := zipP (encs ts) (encs us)) (by rw [stD_len, zip_encs, List.length_map]; omega)
                rw [stD_push] at a1
                simp -implicitDefEqProofs only [↓Iv.k_var, ↓Iv.k_int, ↓Iv.k_str, ↓Iv.k_bl, ↓Iv.k_non, ↓Iv.k_tup, ↓Iv.k_lst, ↓Iv.k_dct, ↓Iv.z_bin, ↓Iv.k_neg, ↓Iv.z_cmp, ↓Iv.z_cmp2, ↓Iv.z_rev, ↓Iv.z_and, ↓Iv.z_or, ↓Iv.k_not, ↓Iv.z_ite, ↓Iv.z_idx, ↓Iv.z_slc, ↓Iv.z_slf, ↓Iv.z_slt, ↓Iv.z_call, ↓Iv.z_blt, ↓Iv.z_isi, ↓Iv.z_comp, ↓Iv.k_nil, ↓Iv.k_cons, ↓Iv.z_seq, ↓Iv.z_rng1, ↓Iv.k_expr, ↓Iv.z_aite, ↓Iv.z_for, ↓Iv.z_whl, ↓Iv.k_retN, ↓Iv.k_pass, ↓Iv.k_brk, ↓Iv.k_cont, ↓Iv.k_frz, ↓Iv.z_mth, ↓Iv.z_mut, ↓Iv.k_scons, ↓Iv.k_snil, ↓Iv.k_asg, ↓Iv.k_par, ↓Iv.z_set, ↓Iv.k_ret, ↓Iv.z_aug, ↓Iv.z_enm, ↓Iv.z_rng2, ↓Iv.look_0, ↓Iv.look_s, ↓Iv.onS_v, ↓Iv.onS_o, ↓Iv.ownK_o, ↓Iv.valK_v, ↓Iv.asV_i, ↓Iv.asB_i, ↓Iv.asN_i, ↓Iv.dsK_v, ↓Iv.dsK_o, ↓Iv.drK_i, ↓Iv.drK_s, ↓Iv.immsK_0, ↓Iv.immsK_i, ↓Iv.dersK_0, ↓Iv.dersK_c, ↓Iv.argsK_0, ↓Iv.argsK_i, ↓Iv.argsK_s, ↓Iv.getO_0, ↓Iv.getO_s, ↓Iv.outK_go, ↓Iv.goO_0, ↓Iv.goO_i, ↓Iv.goO_s, ↓Iv.putS_0, ↓Iv.putS_s, ↓Iv.setK_z, ↓Iv.setK_v, ↓Iv.setK_n, ↓Iv.setK_ss, ↓Iv.setK_0s, ↓Iv.frK_v, ↓Iv.frK_o, ↓Iv.frK_ss, ↓Iv.frK_0s, ↓Iv.setsK_0, ↓Iv.setsK_c, ↓Iv.tgK_v, ↓Iv.tgK_w, ↓Iv.tgK_t, ↓Iv.tgK_2, ↓Iv.tgK_p, ↓Iv.tgK_2p, ↓Iv.asgK_f, ↓Iv.asgK_v, ↓Iv.asgK_w, ↓Iv.asgK_t, ↓Iv.asgK_2, ↓Iv.retK_i, ↓Iv.retK_s, ↓Iv.bkz_some, ↓Iv.cnd_t, ↓Iv.cnd_f, ↓Iv.endK_ret, ↓Iv.endK_next, ↓Iv.za_i, ↓Iv.zs_i, ↓Iv.zeq_i, ↓Iv.zne_i, ↓Iv.zlt_i, ↓Iv.zle_i, ↓Iv.zgt_i, ↓Iv.zge_i, ↓Iv.zeq_s, ↓Iv.zne_s, ↓Iv.zeq_b, ↓Iv.zne_b, ↓Iv.zlen_t, ↓Iv.zlen_l, ↓Iv.zlen_r, ↓Iv.zlen_d, ↓Iv.ztup_l, ↓Iv.ztup_t, ↓Iv.zlst_l, ↓Iv.zlst_t, ↓Iv.zlst_r, ↓Iv.zzip_t, ↓Iv.zzip_l, ↓Iv.zint_i, ↓Iv.zint_b, ↓Iv.zit_t, ↓Iv.zit_l, ↓Iv.zit_r, ↓Iv.zslc_t, ↓Iv.zslc_l, ↓Iv.zrev_t, ↓Iv.zrev_l, ↓Iv.zaug_a, ↓Iv.zaug_s, ↓Iv.zisn, ↓Iv.znotn, ↓Iv.zadd_l, ↓Iv.zadd_t, ↓Iv.zapp_l, ↓Iv.ty_ll, ↓Iv.ty_dd, ↓Iv.zfor_nil, ↓Iv.zty_i, ↓Iv.zty_ib, ↓Iv.zty_is, ↓Iv.zty_it, ↓Iv.zty_il, ↓Iv.zty_bi, ↓Iv.zty_bb, ↓Iv.zty_bs, ↓Iv.zty_bt, ↓Iv.zty_bl, ↓Iv.zty_si, ↓Iv.zty_sb, ↓Iv.zty_ss, ↓Iv.zty_st, ↓Iv.zty_sl, ↓Iv.zty_ti, ↓Iv.zty_tb, ↓Iv.zty_ts, ↓Iv.zty_tt, ↓Iv.zty_tl, ↓Iv.zty_li, ↓Iv.zty_lb, ↓Iv.zty_ls, ↓Iv.zty_lt, ↓Iv.zty_ll, ↓Iv.zty_ni, ↓Iv.zty_nb, ↓Iv.zty_ns, ↓Iv.zty_nt, ↓Iv.zty_nl, ↓Iv.zty_di, ↓Iv.zty_db, ↓Iv.zty_ds, ↓Iv.zty_dt, ↓Iv.zty_dl, ↓Iv.quiet_0, ↓Iv.quiet_s, ↓Iv.qS_v, ↓Iv.qS_n, ↓Iv.qS_s, ↓reduceIte, Bool.false_eq_true, Nat.reduceLeDiff, Nat.zero_le, Iv.slotsOf, Iv.nodupN, List.contains_nil, Bool.not_false, Bool.not_true, Bool.and_true, Bool.true_and, Bool.and_false, Bool.false_and, decide_true, decide_false, List.replicate, List.cons_append, List.nil_append, List.length_cons, List.length_nil, Nat.reduceAdd, Nat.reduceSub, List.contains_cons, Nat.reduceBeqDiff, Nat.reduceEqDiff, Bool.or_false, Bool.false_or, Bool.or_true, Bool.true_or, List.take_succ_cons, List.take_zero, l_matched_b0, ↓bkz ew, ↓bkz hpop', ↓bkz v1, ↓bkz v2, ↓bkz i1, ↓bkz i2, encs_len, hl, i3, i4, ↓bkz a1]
                exact Tot.ret ⟨kn, _, k, _, _, _, hm, by rw [mu_app, mu_rev]; omega, by omega, gs.fun, rfl⟩
              · rw [if_neg fun h => hl h.2] at hm
                have c1 : (((ts.length + 1 : Nat) : Int) = ((us.length + 1 : Nat) : Int)) = False := eq_false (by omega)
                simp -implicitDefEqProofs only [↓Iv.k_var, ↓Iv.k_int, ↓Iv.k_str, ↓Iv.k_bl, ↓Iv.k_non, ↓Iv.k_tup, ↓Iv.k_lst, ↓Iv.k_dct, ↓Iv.z_bin, ↓Iv.k_neg, ↓Iv.z_cmp, ↓Iv.z_cmp2, ↓Iv.z_rev, ↓Iv.z_and, ↓Iv.z_or, ↓Iv.k_not, ↓Iv.z_ite, ↓Iv.z_idx, ↓Iv.z_slc, ↓Iv.z_slf, ↓Iv.z_slt, ↓Iv.z_call, ↓Iv.z_blt, ↓Iv.z_isi, ↓Iv.z_comp, ↓Iv.k_nil, ↓Iv.k_cons, ↓Iv.z_seq, ↓Iv.z_rng1, ↓Iv.k_expr, ↓Iv.z_aite, ↓Iv.z_for, ↓Iv.z_whl, ↓Iv.k_retN, ↓Iv.k_pass, ↓Iv.k_brk, ↓Iv.k_cont, ↓Iv.k_frz, ↓Iv.z_mth, ↓Iv.z_mut, ↓Iv.k_scons, ↓Iv.k_snil, ↓Iv.k_asg, ↓Iv.k_par, ↓Iv.z_set, ↓Iv.k_ret, ↓Iv.z_aug, ↓Iv.z_enm, ↓Iv.z_rng2, ↓Iv.look_0, ↓Iv.look_s, ↓Iv.onS_v, ↓Iv.onS_o, ↓Iv.ownK_o, ↓Iv.valK_v, ↓Iv.asV_i, ↓Iv.asB_i, ↓Iv.asN_i, ↓Iv.dsK_v, ↓Iv.dsK_o, ↓Iv.drK_i, ↓Iv.drK_s, ↓Iv.immsK_0, ↓Iv.immsK_i, ↓Iv.dersK_0, ↓Iv.dersK_c, ↓Iv.argsK_0, ↓Iv.argsK_i, ↓Iv.argsK_s, ↓Iv.getO_0, ↓Iv.getO_s, ↓Iv.outK_go, ↓Iv.goO_0, ↓Iv.goO_i, ↓Iv.goO_s, ↓Iv.putS_0, ↓Iv.putS_s, ↓Iv.setK_z, ↓Iv.setK_v, ↓Iv.setK_n, ↓Iv.setK_ss, ↓Iv.setK_0s, ↓Iv.frK_v, ↓Iv.frK_o, ↓Iv.frK_ss, ↓Iv.frK_0s, ↓Iv.setsK_0, ↓Iv.setsK_c, ↓Iv.tgK_v, ↓Iv.tgK_w, ↓Iv.tgK_t, ↓Iv.tgK_2, ↓Iv.tgK_p, ↓Iv.tgK_2p, ↓Iv.asgK_f, ↓Iv.asgK_v, ↓Iv.asgK_w, ↓Iv.asgK_t, ↓Iv.asgK_2, ↓Iv.retK_i, ↓Iv.retK_s, ↓Iv.bkz_some, ↓Iv.cnd_t, ↓Iv.cnd_f, ↓Iv.endK_ret, ↓Iv.endK_next, ↓Iv.za_i, ↓Iv.zs_i, ↓Iv.zeq_i, ↓Iv.zne_i, ↓Iv.zlt_i, ↓Iv.zle_i, ↓Iv.zgt_i, ↓Iv.zge_i, ↓Iv.zeq_s, ↓Iv.zne_s, ↓Iv.zeq_b, ↓Iv.zne_b, ↓Iv.zlen_t, ↓Iv.zlen_l, ↓Iv.zlen_r, ↓Iv.zlen_d, ↓Iv.ztup_l, ↓Iv.ztup_t, ↓Iv.zlst_l, ↓Iv.zlst_t, ↓Iv.zlst_r, ↓Iv.zzip_t, ↓Iv.zzip_l, ↓Iv.zint_i, ↓Iv.zint_b, ↓Iv.zit_t, ↓Iv.zit_l, ↓Iv.zit_r, ↓Iv.zslc_t, ↓Iv.zslc_l, ↓Iv.zrev_t, ↓Iv.zrev_l, ↓Iv.zaug_a, ↓Iv.zaug_s, ↓Iv.zisn, ↓Iv.znotn, ↓Iv.zadd_l, ↓Iv.zadd_t, ↓Iv.zapp_l, ↓Iv.ty_ll, ↓Iv.ty_dd, ↓Iv.zfor_nil, ↓Iv.zty_i, ↓Iv.zty_ib, ↓Iv.zty_is, ↓Iv.zty_it, ↓Iv.zty_il, ↓Iv.zty_bi, ↓Iv.zty_bb, ↓Iv.zty_bs, ↓Iv.zty_bt, ↓Iv.zty_bl, ↓Iv.zty_si, ↓Iv.zty_sb, ↓Iv.zty_ss, ↓Iv.zty_st, ↓Iv.zty_sl, ↓Iv.zty_ti, ↓Iv.zty_tb, ↓Iv.zty_ts, ↓Iv.zty_tt, ↓Iv.zty_tl, ↓Iv.zty_li, ↓Iv.zty_lb, ↓Iv.zty_ls, ↓Iv.zty_lt, ↓Iv.zty_ll, ↓Iv.zty_ni, ↓Iv.zty_nb, ↓Iv.zty_ns, ↓Iv.zty_nt, ↓Iv.zty_nl, ↓Iv.zty_di, ↓Iv.zty_db, ↓Iv.zty_ds, ↓Iv.zty_dt, ↓Iv.zty_dl, ↓Iv.quiet_0, ↓Iv.quiet_s, ↓Iv.qS_v, ↓Iv.qS_n, ↓Iv.qS_s, ↓reduceIte, Bool.false_eq_true, Nat.reduceLeDiff, Nat.zero_le, Iv.slotsOf, Iv.nodupN, List.contains_nil, Bool.not_false, Bool.not_true, Bool.and_true, Bool.true_and, Bool.and_false, Bool.false_and, decide_true, decide_false, List.replicate, List.cons_append, List.nil_append, List.length_cons, List.length_nil, Nat.reduceAdd, Nat.reduceSub, List.contains_cons, Nat.reduceBeqDiff, Nat.reduceEqDiff, Bool.or_false, Bool.false_or, Bool.or_true, Bool.true_or, List.take_succ_cons, List.take_zero, l_matched_b0, ↓bkz ew, ↓bkz hpop', ↓bkz v1, ↓bkz v2, ↓bkz i1, ↓bkz i2, encs_len, c1]
                exact Tot.ret (.inl ⟨hm.symm, _, rfl⟩)
            · rw [if_neg fun h => hx h.1] at hm
              have c1 : (x = y) = False := eq_false hx
              simp -implicitDefEqProofs only [↓Iv.k_var, ↓Iv.k_int, ↓Iv.k_str, ↓Iv.k_bl, ↓Iv.k_non, ↓Iv.k_tup, ↓Iv.k_lst, ↓Iv.k_dct, ↓Iv.z_bin, ↓Iv.k_neg, ↓Iv.z_cmp, ↓Iv.z_cmp2, ↓Iv.z_rev, ↓Iv.z_and, ↓Iv.z_or, ↓Iv.k_not, ↓Iv.z_ite, ↓Iv.z_idx, ↓Iv.z_slc, ↓Iv.z_slf, ↓Iv.z_slt, ↓Iv.z_call, ↓Iv.z_blt, ↓Iv.z_isi, ↓Iv.z_comp, ↓Iv.k_nil, ↓Iv.k_cons, ↓Iv.z_seq, ↓Iv.z_rng1, ↓Iv.k_expr, ↓Iv.z_aite, ↓Iv.z_for, ↓Iv.z_whl, ↓Iv.k_retN, ↓Iv.k_pass, ↓Iv.k_brk, ↓Iv.k_cont, ↓Iv.k_frz, ↓Iv.z_mth, ↓Iv.z_mut, ↓Iv.k_scons, ↓Iv.k_snil, ↓Iv.k_asg, ↓Iv.k_par, ↓Iv.z_set, ↓Iv.k_ret, ↓Iv.z_aug, ↓Iv.z_enm, ↓Iv.z_rng2, ↓Iv.look_0, ↓Iv.look_s, ↓Iv.onS_v, ↓Iv.onS_o, ↓Iv.ownK_o, ↓Iv.valK_v, ↓Iv.asV_i, ↓Iv.asB_i, ↓Iv.asN_i, ↓Iv.dsK_v, ↓Iv.dsK_o, ↓Iv.drK_i, ↓Iv.drK_s, ↓Iv.immsK_0, ↓Iv.immsK_i, ↓Iv.dersK_0, ↓Iv.dersK_c, ↓Iv.argsK_0, ↓Iv.argsK_i, ↓Iv.argsK_s, ↓Iv.getO_0, ↓Iv.getO_s, ↓Iv.outK_go, ↓Iv.goO_0, ↓Iv.goO_i, ↓Iv.goO_s, ↓Iv.putS_0, ↓Iv.putS_s, ↓Iv.setK_z, ↓Iv.setK_v, ↓Iv.setK_n, ↓Iv.setK_ss, ↓Iv.setK_0s, ↓Iv.frK_v, ↓Iv.frK_o, ↓Iv.frK_ss, ↓Iv.frK_0s, ↓Iv.setsK_0, ↓Iv.setsK_c, ↓Iv.tgK_v, ↓Iv.tgK_w, ↓Iv.tgK_t, ↓Iv.tgK_2, ↓Iv.tgK_p, ↓Iv.tgK_2p, ↓Iv.asgK_f, ↓Iv.asgK_v, ↓Iv.asgK_w, ↓Iv.asgK_t, ↓Iv.asgK_2, ↓Iv.retK_i, ↓Iv.retK_s, ↓Iv.bkz_some, ↓Iv.cnd_t, ↓Iv.cnd_f, ↓Iv.endK_ret, ↓Iv.endK_next, ↓Iv.za_i, ↓Iv.zs_i, ↓Iv.zeq_i, ↓Iv.zne_i, ↓Iv.zlt_i, ↓Iv.zle_i, ↓Iv.zgt_i, ↓Iv.zge_i, ↓Iv.zeq_s, ↓Iv.zne_s, ↓Iv.zeq_b, ↓Iv.zne_b, ↓Iv.zlen_t, ↓Iv.zlen_l, ↓Iv.zlen_r, ↓Iv.zlen_d, ↓Iv.ztup_l, ↓Iv.ztup_t, ↓Iv.zlst_l, ↓Iv.zlst_t, ↓Iv.zlst_r, ↓Iv.zzip_t, ↓Iv.zzip_l, ↓Iv.zint_i, ↓Iv.zint_b, ↓Iv.zit_t, ↓Iv.zit_l, ↓Iv.zit_r, ↓Iv.zslc_t, ↓Iv.zslc_l, ↓Iv.zrev_t, ↓Iv.zrev_l, ↓Iv.zaug_a, ↓Iv.zaug_s, ↓Iv.zisn, ↓Iv.znotn, ↓Iv.zadd_l, ↓Iv.zadd_t, ↓Iv.zapp_l, ↓Iv.ty_ll, ↓Iv.ty_dd, ↓Iv.zfor_nil, ↓Iv.zty_i, ↓Iv.zty_ib, ↓Iv.zty_is, ↓Iv.zty_it, ↓Iv.zty_il, ↓Iv.zty_bi, ↓Iv.zty_bb, ↓Iv.zty_bs, ↓Iv.zty_bt, ↓Iv.zty_bl, ↓Iv.zty_si, ↓Iv.zty_sb, ↓Iv.zty_ss, ↓Iv.zty_st, ↓Iv.zty_sl, ↓Iv.zty_ti, ↓Iv.zty_tb, ↓Iv.zty_ts, ↓Iv.zty_tt, ↓Iv.zty_tl, ↓Iv.zty_li, ↓Iv.zty_lb, ↓Iv.zty_ls, ↓Iv.zty_lt, ↓Iv.zty_ll, ↓Iv.zty_ni, ↓Iv.zty_nb, ↓Iv.zty_ns, ↓Iv.zty_nt, ↓Iv.zty_nl, ↓Iv.zty_di, ↓Iv.zty_db, ↓Iv.zty_ds, ↓Iv.zty_dt, ↓Iv.zty_dl, ↓Iv.quiet_0, ↓Iv.quiet_s, ↓Iv.qS_v, ↓Iv.qS_n, ↓Iv.qS_s, ↓reduceIte, Bool.false_eq_true, Nat.reduceLeDiff, Nat.zero_le, Iv.slotsOf, Iv.nodupN, List.contains_nil, Bool.not_false, Bool.not_true, Bool.and_true, Bool.true_and, Bool.and_false, Bool.false_and, decide_true, decide_false, List.replicate, List.cons_append, List.nil_append, List.length_cons, List.length_nil, Nat.reduceAdd, Nat.reduceSub, List.contains_cons, Nat.reduceBeqDiff, Nat.reduceEqDiff, Bool.or_false, Bool.false_or, Bool.or_true, Bool.true_or, List.take_succ_cons, List.take_zero, l_matched_b0, ↓bkz ew, ↓bkz hpop', ↓bkz v1, ↓bkz v2, ↓bkz i1, ↓bkz i2, c1]
              exact Tot.ret (.inl ⟨hm.symm, _, rfl⟩)
    · rintro r ⟨kn, st, m, s2, s5, s6, hm, hmu, hml, gs, rfl⟩
      have e : (rngD 0 (10000 : Int)).length = 10000 := rng_len 10000
      rw [e] at hml
      omega
    · rintro ⟨fl, r⟩ (⟨h, r', e⟩ | ⟨kn, fr, r', h, e⟩)
      · cases e
        subst h
        simp -implicitDefEqProofs only [↓Iv.k_var, ↓Iv.k_int, ↓Iv.k_str, ↓Iv.k_bl, ↓Iv.k_non, ↓Iv.k_tup, ↓Iv.k_lst, ↓Iv.k_dct, ↓Iv.z_bin, ↓Iv.k_neg, ↓Iv.z_cmp, ↓Iv.z_cmp2, ↓Iv.z_rev, ↓Iv.z_and, ↓Iv.z_or, ↓Iv.k_not, ↓Iv.z_ite, ↓Iv.z_idx, ↓Iv.z_slc, ↓Iv.z_slf, ↓Iv.z_slt, ↓Iv.z_call, ↓Iv.z_blt, ↓Iv.z_isi, ↓Iv.z_comp, ↓Iv.k_nil, ↓Iv.k_cons, ↓Iv.z_seq, ↓Iv.z_rng1, ↓Iv.k_expr, ↓Iv.z_aite, ↓Iv.z_for, ↓Iv.z_whl, ↓Iv.k_retN, ↓Iv.k_pass, ↓Iv.k_brk, ↓Iv.k_cont, ↓Iv.k_frz, ↓Iv.z_mth, ↓Iv.z_mut, ↓Iv.k_scons, ↓Iv.k_snil, ↓Iv.k_asg, ↓Iv.k_par, ↓Iv.z_set, ↓Iv.k_ret, ↓Iv.z_aug, ↓Iv.z_enm, ↓Iv.z_rng2, ↓Iv.look_0, ↓Iv.look_s, ↓Iv.onS_v, ↓Iv.onS_o, ↓Iv.ownK_o, ↓Iv.valK_v, ↓Iv.asV_i, ↓Iv.asB_i, ↓Iv.asN_i, ↓Iv.dsK_v, ↓Iv.dsK_o, ↓Iv.drK_i, ↓Iv.drK_s, ↓Iv.immsK_0, ↓Iv.immsK_i, ↓Iv.dersK_0, ↓Iv.dersK_c, ↓Iv.argsK_0, ↓Iv.argsK_i, ↓Iv.argsK_s, ↓Iv.getO_0, ↓Iv.getO_s, ↓Iv.outK_go, ↓Iv.goO_0, ↓Iv.goO_i, ↓Iv.goO_s, ↓Iv.putS_0, ↓Iv.putS_s, ↓Iv.setK_z, ↓Iv.setK_v, ↓Iv.setK_n, ↓Iv.setK_ss, ↓Iv.setK_0s, ↓Iv.frK_v, ↓Iv.frK_o, ↓Iv.frK_ss, ↓Iv.frK_0s, ↓Iv.setsK_0, ↓Iv.setsK_c, ↓Iv.tgK_v, ↓Iv.tgK_w, ↓Iv.tgK_t, ↓Iv.tgK_2, ↓Iv.tgK_p, ↓Iv.tgK_2p, ↓Iv.asgK_f, ↓Iv.asgK_v, ↓Iv.asgK_w, ↓Iv.asgK_t, ↓Iv.asgK_2, ↓Iv.retK_i, ↓Iv.retK_s, ↓Iv.bkz_some, ↓Iv.cnd_t, ↓Iv.cnd_f, ↓Iv.endK_ret, ↓Iv.endK_next, ↓Iv.za_i, ↓Iv.zs_i, ↓Iv.zeq_i, ↓Iv.zne_i, ↓Iv.zlt_i, ↓Iv.zle_i, ↓Iv.zgt_i, ↓Iv.zge_i, ↓Iv.zeq_s, ↓Iv.zne_s, ↓Iv.zeq_b, ↓Iv.zne_b, ↓Iv.zlen_t, ↓Iv.zlen_l, ↓Iv.zlen_r, ↓Iv.zlen_d, ↓Iv.ztup_l, ↓Iv.ztup_t, ↓Iv.zlst_l, ↓Iv.zlst_t, ↓Iv.zlst_r, ↓Iv.zzip_t, ↓Iv.zzip_l, ↓Iv.zint_i, ↓Iv.zint_b, ↓Iv.zit_t, ↓Iv.zit_l, ↓Iv.zit_r, ↓Iv.zslc_t, ↓Iv.zslc_l, ↓Iv.zrev_t, ↓Iv.zrev_l, ↓Iv.zaug_a, ↓Iv.zaug_s, ↓Iv.zisn, ↓Iv.znotn, ↓Iv.zadd_l, ↓Iv.zadd_t, ↓Iv.zapp_l, ↓Iv.ty_ll, ↓Iv.ty_dd, ↓Iv.zfor_nil, ↓Iv.zty_i, ↓Iv.zty_ib, ↓Iv.zty_is, ↓Iv.zty_it, ↓Iv.zty_il, ↓Iv.zty_bi, ↓Iv.zty_bb, ↓Iv.zty_bs, ↓Iv.zty_bt, ↓Iv.zty_bl, ↓Iv.zty_si, ↓Iv.zty_sb, ↓Iv.zty_ss, ↓Iv.zty_st, ↓Iv.zty_sl, ↓Iv.zty_ti, ↓Iv.zty_tb, ↓Iv.zty_ts, ↓Iv.zty_tt, ↓Iv.zty_tl, ↓Iv.zty_li, ↓Iv.zty_lb, ↓Iv.zty_ls, ↓Iv.zty_lt, ↓Iv.zty_ll, ↓Iv.zty_ni, ↓Iv.zty_nb, ↓Iv.zty_ns, ↓Iv.zty_nt, ↓Iv.zty_nl, ↓Iv.zty_di, ↓Iv.zty_db, ↓Iv.zty_ds, ↓Iv.zty_dt, ↓Iv.zty_dl, ↓Iv.quiet_0, ↓Iv.quiet_s, ↓Iv.qS_v, ↓Iv.qS_n, ↓Iv.qS_s, ↓reduceIte, Bool.false_eq_true, Nat.reduceLeDiff, Nat.zero_le, Iv.slotsOf, Iv.nodupN, List.contains_nil, Bool.not_false, Bool.not_true, Bool.and_true, Bool.true_and, Bool.and_false, Bool.false_and, decide_true, decide_false, List.replicate, List.cons_append, List.nil_append, List.length_cons, List.length_nil, Nat.reduceAdd, Nat.reduceSub, List.contains_cons, Nat.reduceBeqDiff, Nat.reduceEqDiff, Bool.or_false, Bool.false_or, Bool.or_true, Bool.true_or, List.take_succ_cons, List.take_zero]
        exact Tot.ret ⟨_, _, rfl⟩
      · cases e
        subst h
        simp -implicitDefEqProofs only [↓Iv.k_var, ↓Iv.k_int, ↓Iv.k_str, ↓Iv.k_bl, ↓Iv.k_non, ↓Iv.k_tup, ↓Iv.k_lst, ↓Iv.k_dct, ↓Iv.z_bin, ↓Iv.k_neg, ↓Iv.z_cmp, ↓Iv.z_cmp2, ↓Iv.z_rev, ↓Iv.z_and, ↓Iv.z_or, ↓Iv.k_not, ↓Iv.z_ite, ↓Iv.z_idx, ↓Iv.z_slc, ↓Iv.z_slf, ↓Iv.z_slt, ↓Iv.z_call, ↓Iv.z_blt, ↓Iv.z_isi, ↓Iv.z_comp, ↓Iv.k_nil, ↓Iv.k_cons, ↓Iv.z_seq, ↓Iv.z_rng1, ↓Iv.k_expr, ↓Iv.z_aite, ↓Iv.z_for, ↓Iv.z_whl, ↓Iv.k_retN, ↓Iv.k_pass, ↓Iv.k_brk, ↓Iv.k_cont, ↓Iv.k_frz, ↓Iv.z_mth, ↓Iv.z_mut, ↓Iv.k_scons, ↓Iv.k_snil, ↓Iv.k_asg, ↓Iv.k_par, ↓Iv.z_set, ↓Iv.k_ret, ↓Iv.z_aug, ↓Iv.z_enm, ↓Iv.z_rng2, ↓Iv.look_0, ↓Iv.look_s, ↓Iv.onS_v, ↓Iv.onS_o, ↓Iv.ownK_o, ↓Iv.valK_v, ↓Iv.asV_i, ↓Iv.asB_i, ↓Iv.asN_i, ↓Iv.dsK_v, ↓Iv.dsK_o, ↓Iv.drK_i, ↓Iv.drK_s, ↓Iv.immsK_0, ↓Iv.immsK_i, ↓Iv.dersK_0, ↓Iv.dersK_c, ↓Iv.argsK_0, ↓Iv.argsK_i, ↓Iv.argsK_s, ↓Iv.getO_0, ↓Iv.getO_s, ↓Iv.outK_go, ↓Iv.goO_0, ↓Iv.goO_i, ↓Iv.goO_s, ↓Iv.putS_0, ↓Iv.putS_s, ↓Iv.setK_z, ↓Iv.setK_v, ↓Iv.setK_n, ↓Iv.setK_ss, ↓Iv.setK_0s, ↓Iv.frK_v, ↓Iv.frK_o, ↓Iv.frK_ss, ↓Iv.frK_0s, ↓Iv.setsK_0, ↓Iv.setsK_c, ↓Iv.tgK_v, ↓Iv.tgK_w, ↓Iv.tgK_t, ↓Iv.tgK_2, ↓Iv.tgK_p, ↓Iv.tgK_2p, ↓Iv.asgK_f, ↓Iv.asgK_v, ↓Iv.asgK_w, ↓Iv.asgK_t, ↓Iv.asgK_2, ↓Iv.retK_i, ↓Iv.retK_s, ↓Iv.bkz_some, ↓Iv.cnd_t, ↓Iv.cnd_f, ↓Iv.endK_ret, ↓Iv.endK_next, ↓Iv.za_i, ↓Iv.zs_i, ↓Iv.zeq_i, ↓Iv.zne_i, ↓Iv.zlt_i, ↓Iv.zle_i, ↓Iv.zgt_i, ↓Iv.zge_i, ↓Iv.zeq_s, ↓Iv.zne_s, ↓Iv.zeq_b, ↓Iv.zne_b, ↓Iv.zlen_t, ↓Iv.zlen_l, ↓Iv.zlen_r, ↓Iv.zlen_d, ↓Iv.ztup_l, ↓Iv.ztup_t, ↓Iv.zlst_l, ↓Iv.zlst_t, ↓Iv.zlst_r, ↓Iv.zzip_t, ↓Iv.zzip_l, ↓Iv.zint_i, ↓Iv.zint_b, ↓Iv.zit_t, ↓Iv.zit_l, ↓Iv.zit_r, ↓Iv.zslc_t, ↓Iv.zslc_l, ↓Iv.zrev_t, ↓Iv.zrev_l, ↓Iv.zaug_a, ↓Iv.zaug_s, ↓Iv.zisn, ↓Iv.znotn, ↓Iv.zadd_l, ↓Iv.zadd_t, ↓Iv.zapp_l, ↓Iv.ty_ll, ↓Iv.ty_dd, ↓Iv.zfor_nil, ↓Iv.zty_i, ↓Iv.zty_ib, ↓Iv.zty_is, ↓Iv.zty_it, ↓Iv.zty_il, ↓Iv.zty_bi, ↓Iv.zty_bb, ↓Iv.zty_bs, ↓Iv.zty_bt, ↓Iv.zty_bl, ↓Iv.zty_si, ↓Iv.zty_sb, ↓Iv.zty_ss, ↓Iv.zty_st, ↓Iv.zty_sl, ↓Iv.zty_ti, ↓Iv.zty_tb, ↓Iv.zty_ts, ↓Iv.zty_tt, ↓Iv.zty_tl, ↓Iv.zty_li, ↓Iv.zty_lb, ↓Iv.zty_ls, ↓Iv.zty_lt, ↓Iv.zty_ll, ↓Iv.zty_ni, ↓Iv.zty_nb, ↓Iv.zty_ns, ↓Iv.zty_nt, ↓Iv.zty_nl, ↓Iv.zty_di, ↓Iv.zty_db, ↓Iv.zty_ds, ↓Iv.zty_dt, ↓Iv.zty_dl, ↓Iv.quiet_0, ↓Iv.quiet_s, ↓Iv.qS_v, ↓Iv.qS_n, ↓Iv.qS_s, ↓reduceIte, Bool.false_eq_true, Nat.reduceLeDiff, Nat.zero_le, Iv.slotsOf, Iv.nodupN, List.contains_nil, Bool.not_false, Bool.not_true, Bool.and_true, Bool.true_and, Bool.and_false, Bool.false_and, decide_true, decide_false, List.replicate, List.cons_append, List.nil_append, List.length_cons, List.length_nil, Nat.reduceAdd, Nat.reduceSub, List.contains_cons, Nat.reduceBeqDiff, Nat.reduceEqDiff, Bool.or_false, Bool.false_or, Bool.or_true, Bool.true_or, List.take_succ_cons, List.take_zero]
        exact Tot.ret ⟨_, _, rfl⟩
  obtain ⟨_, e, fr, o, rfl⟩ := main
  exact ⟨fr, o, e⟩
end K07
namespace K07
open PySem Iv
def rowD (r : Str × Nat × Nat) : D := .tup [.str r.1, .int r.2.1, .int r.2.2]
def rowOk (r : Str × Nat × Nat) : Prop := (PyData.canLay0 (.str r.1) = true ∧ r.1.length ≤ 4) ∧ r.2.1 ≤ 2
structure RowsOk (rs : List (Str × Nat × Nat)) : Prop where
  all : ∀ r ∈ rs, rowOk r
  one : ∃ r ∈ rs, r.2.1 = 0
  len : rs.length ≤ 1000
structure TruthsOk (ts : List (Str × Nat × Nat)) : Prop where
  all : ∀ r ∈ ts, rowOk r
  pos : 0 < ts.length
  len : ts.length ≤ 1000
def rowsD (rs ts : List (Str × Nat × Nat)) : D := .tup [.tup (rs.map rowD), .tup (ts.map rowD)]
def pairD (k : Str × Nat) : D := .tup [.str k.1, .int k.2]
theorem ixN_nat {n j : Nat} (h : j < n) : L2.ixN n (j : Int) = some j := by
  unfold L2.ixN
  simp
  omega
theorem popAt_nat {xs : List D} {j : Nat} {d : D} (h : xs[j]? = some d) (hj : j < 1000000) : mutop .popAt (.lst xs) [.int j] = some (d, .lst (xs.eraseIdx j)) := by
  have hl := (List.getElem?_eq_some_iff.mp h).1
  simp only [mutop]
  rw [if_pos ⟨by omega, by omega⟩, ixN_nat hl]
  simp only [Option.bind_some, h, Option.map_some]
theorem erase_cut {α : Type} {l : List α} {j : Nat} {x : α} (h : l[j]? = some x) (y : α) : y ∈ l ↔ y = x ∨ y ∈ l.eraseIdx j := by
  rw [List.eraseIdx_eq_take_drop_succ]
  obtain ⟨hj, e⟩ := List.getElem?_eq_some_iff.mp h
  have : l = l.take j ++ x :: l.drop (j + 1) := by
    rw [← e, List.getElem_cons_drop, List.take_append_drop]
  conv => lhs; rw [this]
  simp only [List.mem_append, List.mem_cons]
  constructor <;> (rintro (h | h | h) <;> simp [h])
theorem erase_map {α β : Type} (f : α → β) : ∀ (l : List α) (i : Nat), (l.eraseIdx i).map f = (l.map f).eraseIdx i
  | [], _ => rfl
  | _ :: _, 0 => rfl
  | x :: l, i + 1 => by
    simp only [List.eraseIdx_cons_succ, List.map_cons, erase_map f l i]
theorem kind_run (m N : Nat) (ks : List (Str × Nat)) (hks : ks.length ≤ 10) (hall : ∀ k ∈ ks, (PyData.canLay0 (.str k.1) = true ∧ k.1.length ≤ 4) ∧ k.2 ≤ 2) (p : D) (hp : PenOk N p) (hN : N + 2 * ks.length < 1000000000000000)
    (v1 v2 : Slot) (rows : List D) (hr : rows.length ≤ 10) (s5 s6 s7 s8 : Slot) :
    Tot (exsK 1 whileFuel (run tab (m + 2)) l_drawn_order_b1 [.own p, v1, v2, .own (.lst rows), .val (.lst (ks.map pairD)), s5, s6, s7, s8] fun fl r => some (fl, r)) fun z =>
      ∃ (bl : List (Str × Nat × Nat)) (p' : D) (t4 t5 t6 t7 t8 : Slot), z = (.next, [.own p', v1, v2, .own (.lst (rows ++ [.tup (bl.map rowD)])), t4, t5, t6, t7, t8]) ∧ PenOk (N + 2 * ks.length) p' ∧ bl.length = ks.length ∧ (∀ r ∈ bl, rowOk r) ∧ ∀ k ∈ ks, ∃ w, (k.1, k.2, w) ∈ bl := by
  have c2 : (-(2 ^ 62) ≤ (ks.length : Int) ∧ (ks.length : Int) < 2 ^ 62) = True := eq_true (by omega)
  simp -implicitDefEqProofs only [↓Iv.k_var, ↓Iv.k_int, ↓Iv.k_str, ↓Iv.k_bl, ↓Iv.k_non, ↓Iv.k_tup, ↓Iv.k_lst, ↓Iv.k_dct, ↓Iv.z_bin, ↓Iv.k_neg, ↓Iv.z_cmp, ↓Iv.z_cmp2, ↓Iv.z_rev, ↓Iv.z_and, ↓Iv.z_or, ↓Iv.k_not, ↓Iv.z_ite, ↓Iv.z_idx, ↓Iv.z_slc, ↓Iv.z_slf, ↓Iv.z_slt, ↓Iv.z_call, ↓Iv.z_blt, ↓Iv.z_isi, ↓Iv.z_comp, ↓Iv.k_nil, ↓Iv.k_cons, ↓Iv.z_seq, ↓Iv.z_rng1, ↓Iv.k_expr, ↓Iv.z_aite, ↓Iv.z_for, ↓Iv.z_whl, ↓Iv.k_retN, ↓Iv.k_pass, ↓Iv.k_brk, ↓Iv.k_cont, ↓Iv.k_frz, ↓Iv.z_mth, ↓Iv.z_mut, ↓Iv.k_scons, ↓Iv.k_snil, ↓Iv.k_asg, ↓Iv.k_par, ↓Iv.z_set, ↓Iv.k_ret, ↓Iv.z_aug, ↓Iv.z_enm, ↓Iv.z_rng2, ↓Iv.look_0, ↓Iv.look_s, ↓Iv.onS_v, ↓Iv.onS_o, ↓Iv.ownK_o, ↓Iv.valK_v, ↓Iv.asV_i, ↓Iv.asB_i, ↓Iv.asN_i, ↓Iv.dsK_v, ↓Iv.dsK_o, ↓Iv.drK_i, ↓Iv.drK_s, ↓Iv.immsK_0, ↓Iv.immsK_i, ↓Iv.dersK_0, ↓Iv.dersK_c, ↓Iv.argsK_0, ↓Iv.argsK_i, ↓Iv.argsK_s, ↓Iv.getO_0, ↓Iv.getO_s, ↓Iv.outK_go, ↓Iv.goO_0, ↓Iv.goO_i, ↓Iv.goO_s, ↓Iv.putS_0, ↓Iv.putS_s, ↓Iv.setK_z, ↓Iv.setK_v, ↓Iv.setK_n, ↓Iv.setK_ss, ↓Iv.setK_0s, ↓Iv.frK_v, ↓Iv.frK_o, ↓Iv.frK_ss, ↓Iv.frK_0s, ↓Iv.setsK_0, ↓Iv.setsK_c, ↓Iv.tgK_v, ↓Iv.tgK_w, ↓Iv.tgK_t, ↓Iv.tgK_2, ↓Iv.tgK_p, ↓Iv.tgK_2p, ↓Iv.asgK_f, ↓Iv.asgK_v, ↓Iv.asgK_w, ↓Iv.asgK_t, ↓Iv.asgK_2, ↓Iv.retK_i, ↓Iv.retK_s, ↓Iv.bkz_some, ↓Iv.cnd_t, ↓Iv.cnd_f, ↓Iv.endK_ret, ↓Iv.endK_next, ↓Iv.za_i, ↓Iv.zs_i, ↓Iv.zeq_i, ↓Iv.zne_i, ↓Iv.zlt_i, ↓Iv.zle_i, ↓Iv.zgt_i, ↓Iv.zge_i, ↓Iv.zeq_s, ↓Iv.zne_s, ↓Iv.zeq_b, ↓Iv.zne_b, ↓Iv.zlen_t, ↓Iv.zlen_l, ↓Iv.zlen_r, ↓Iv.zlen_d, ↓Iv.ztup_l, ↓Iv.ztup_t, ↓Iv.zlst_l, ↓Iv.zlst_t, ↓Iv.zlst_r, ↓Iv.zzip_t, ↓Iv.zzip_l, ↓Iv.zint_i, ↓Iv.zint_b, ↓Iv.zit_t, ↓Iv.zit_l, ↓Iv.zit_r, ↓Iv.zslc_t, ↓Iv.zslc_l, ↓Iv.zrev_t, ↓Iv.zrev_l, ↓Iv.zaug_a, ↓Iv.zaug_s, ↓Iv.zisn, ↓Iv.znotn, ↓Iv.zadd_l, ↓Iv.zadd_t, ↓Iv.zapp_l, ↓Iv.ty_ll, ↓Iv.ty_dd, ↓Iv.zfor_nil, ↓Iv.zty_i, ↓Iv.zty_ib, ↓Iv.zty_is, ↓Iv.zty_it, ↓Iv.zty_il, ↓Iv.zty_bi, ↓Iv.zty_bb, ↓Iv.zty_bs, ↓Iv.zty_bt, ↓Iv.zty_bl, ↓Iv.zty_si, ↓Iv.zty_sb, ↓Iv.zty_ss, ↓Iv.zty_st, ↓Iv.zty_sl, ↓Iv.zty_ti, ↓Iv.zty_tb, ↓Iv.zty_ts, ↓Iv.zty_tt, ↓Iv.zty_tl, ↓Iv.zty_li, ↓Iv.zty_lb, ↓Iv.zty_ls, ↓Iv.zty_lt, ↓Iv.zty_ll, ↓Iv.zty_ni, ↓Iv.zty_nb, ↓Iv.zty_ns, ↓Iv.zty_nt, ↓Iv.zty_nl, ↓Iv.zty_di, ↓Iv.zty_db, ↓Iv.zty_ds, ↓Iv.zty_dt, ↓Iv.zty_dl, ↓Iv.quiet_0, ↓Iv.quiet_s, ↓Iv.qS_v, ↓Iv.qS_n, ↓Iv.qS_s, ↓reduceIte, Bool.false_eq_true, Nat.reduceLeDiff, Nat.zero_le, Iv.slotsOf, Iv.nodupN, List.contains_nil, Bool.not_false, Bool.not_true, Bool.and_true, Bool.true_and, Bool.and_false, Bool.false_and, decide_true, decide_false, List.replicate, List.cons_append, List.nil_append, List.length_cons, List.length_nil, Nat.reduceAdd, Nat.reduceSub, List.contains_cons, Nat.reduceBeqDiff, Nat.reduceEqDiff, Bool.or_false, Bool.false_or, Bool.or_true, Bool.true_or, List.take_succ_cons, List.take_zero, l_drawn_order_b1, List.length_map, c2]
  refine Tot.bnd (forS_tot (fun i r => ∃ (q : D) (rest : List (Str × Nat)) (bl : List (Str × Nat × Nat)) (t5 t7 t8 : Slot), PenOk (N + 2 * i) q ∧ rest.length + i = ks.length ∧ bl.length = i ∧ (∀ k ∈ rest, k ∈ ks) ∧ (∀ r ∈ bl, rowOk r) ∧ (∀ k ∈ ks, k ∈ rest ∨ ∃ w, (k.1, k.2, w) ∈ bl) ∧
    r = [.own q, v1, v2, .own (.lst rows), .own (.lst (rest.map pairD)), t5, .own (.lst (bl.map rowD)), t7, t8]) (fun z => ∃ (q : D) (bl : List (Str × Nat × Nat)) (t4 t5 t7 t8 : Slot), PenOk (N + 2 * ks.length) q ∧ bl.length = ks.length ∧ (∀ r ∈ bl, rowOk r) ∧ (∀ k ∈ ks, ∃ w, (k.1, k.2, w) ∈ bl) ∧
      z = (.next, [.own q, v1, v2, .own (.lst rows), t4, t5, .own (.lst (bl.map rowD)), t7, t8])) _ 0 _ ⟨p, ks, [], s5, s7, s8, hp, rfl, rfl, fun _ h => h, fun _ z => (by cases z), fun k h => .inl h, rfl⟩ ?_ ?_) ?_
  · rintro j y _ hj ⟨q, rest, bl, t5, t7, t8, hq, hl, hb, h1, h2, h3, rfl⟩
    have hjl := (List.getElem?_eq_some_iff.mp hj).1
    rw [rng_len] at hjl
    rw [Nat.zero_add] at hq hl hb ⊢
    obtain ⟨v, q1, v0, v1', hq1, e1⟩ := draw_run (m + 1) (N + 2 * j) (many := (rest.length : Nat)) hq (by omega) (by omega) (by omega)
    obtain ⟨i, rfl⟩ : ∃ i : Nat, v = i := ⟨v.toNat, by omega⟩
    obtain ⟨k, hk⟩ : ∃ k, rest[i]? = some k := ⟨_, List.getElem?_eq_getElem (show i < rest.length by omega)⟩
    have hpop := popAt_nat (xs := rest.map pairD) (j := i) (d := pairD k) (by rw [List.getElem?_map, hk]; rfl) (by omega)
    obtain ⟨x, q2, hx, hq2, e2⟩ := pick_run m (N + 2 * j + 1) (xs := [.int 1, .int 1, .int 2]) (.inl rfl) hq1 (by omega) (by decide) (by decide)
    obtain ⟨w, rfl⟩ : ∃ w : Nat, x = .int w := by
      simp only [List.mem_cons, List.not_mem_nil, or_false] at hx
      rcases hx with rfl | rfl | rfl
      · exact ⟨1, rfl⟩
      · exact ⟨1, rfl⟩
      · exact ⟨2, rfl⟩
    have rd : pairD k = .tup [.str k.1, .int k.2] := rfl
    rw [rd] at hpop
    have happ := app_l (xs := bl.map rowD) (d := .tup [.str k.1, .int k.2, .int w]) (by rw [List.length_map]; omega)
    simp -implicitDefEqProofs only [↓Iv.k_var, ↓Iv.k_int, ↓Iv.k_str, ↓Iv.k_bl, ↓Iv.k_non, ↓Iv.k_tup, ↓Iv.k_lst, ↓Iv.k_dct, ↓Iv.z_bin, ↓Iv.k_neg, ↓Iv.z_cmp, ↓Iv.z_cmp2, ↓Iv.z_rev, ↓Iv.z_and, ↓Iv.z_or, ↓Iv.k_not, ↓Iv.z_ite, ↓Iv.z_idx, ↓Iv.z_slc, ↓Iv.z_slf, ↓Iv.z_slt, ↓Iv.z_call, ↓Iv.z_blt, ↓Iv.z_isi, ↓Iv.z_comp, ↓Iv.k_nil, ↓Iv.k_cons, ↓Iv.z_seq, ↓Iv.z_rng1, ↓Iv.k_expr, ↓Iv.z_aite, ↓Iv.z_for, ↓Iv.z_whl, ↓Iv.k_retN, ↓Iv.k_pass, ↓Iv.k_brk, ↓Iv.k_cont, ↓Iv.k_frz, ↓Iv.z_mth, ↓Iv.z_mut, ↓Iv.k_scons, ↓Iv.k_snil, ↓Iv.k_asg, ↓Iv.k_par, ↓Iv.z_set, ↓Iv.k_ret, ↓Iv.z_aug, ↓Iv.z_enm, ↓Iv.z_rng2, ↓Iv.look_0, ↓Iv.look_s, ↓Iv.onS_v, ↓Iv.onS_o, ↓Iv.ownK_o, ↓Iv.valK_v, ↓Iv.asV_i, ↓Iv.asB_i, ↓Iv.asN_i, ↓Iv.dsK_v, ↓Iv.dsK_o, ↓Iv.drK_i, ↓Iv.drK_s, ↓Iv.immsK_0, ↓Iv.immsK_i, ↓Iv.dersK_0, ↓Iv.dersK_c, ↓Iv.argsK_0, ↓Iv.argsK_i, ↓Iv.argsK_s, ↓Iv.getO_0, ↓Iv.getO_s, ↓Iv.outK_go, ↓Iv.goO_0, ↓Iv.goO_i, ↓Iv.goO_s, ↓Iv.putS_0, ↓Iv.putS_s, ↓Iv.setK_z, ↓Iv.setK_v, ↓Iv.setK_n, ↓Iv.setK_ss, ↓Iv.setK_0s, ↓Iv.frK_v, ↓Iv.frK_o, ↓Iv.frK_ss, ↓Iv.frK_0s, ↓Iv.setsK_0, ↓Iv.setsK_c, ↓Iv.tgK_v, ↓Iv.tgK_w, ↓Iv.tgK_t, ↓Iv.tgK_2, ↓Iv.tgK_p, ↓Iv.tgK_2p, ↓Iv.asgK_f, ↓Iv.asgK_v, ↓Iv.asgK_w, ↓Iv.asgK_t, ↓Iv.asgK_2, ↓Iv.retK_i, ↓Iv.retK_s, ↓Iv.bkz_some, ↓Iv.cnd_t, ↓Iv.cnd_f, ↓Iv.endK_ret, ↓Iv.endK_next, ↓Iv.za_i, ↓Iv.zs_i, ↓Iv.zeq_i, ↓Iv.zne_i, ↓Iv.zlt_i, ↓Iv.zle_i, ↓Iv.zgt_i, ↓Iv.zge_i, ↓Iv.zeq_s, ↓Iv.zne_s, ↓Iv.zeq_b, ↓Iv.zne_b, ↓Iv.zlen_t, ↓Iv.zlen_l, ↓Iv.zlen_r, ↓Iv.zlen_d, ↓Iv.ztup_l, ↓Iv.ztup_t, ↓Iv.zlst_l, ↓Iv.zlst_t, ↓Iv.zlst_r, ↓Iv.zzip_t, ↓Iv.zzip_l, ↓Iv.zint_i, ↓Iv.zint_b, ↓Iv.zit_t, ↓Iv.zit_l, ↓Iv.zit_r, ↓Iv.zslc_t, ↓Iv.zslc_l, ↓Iv.zrev_t, ↓Iv.zrev_l, ↓Iv.zaug_a, ↓Iv.zaug_s, ↓Iv.zisn, ↓Iv.znotn, ↓Iv.zadd_l, ↓Iv.zadd_t, ↓Iv.zapp_l, ↓Iv.ty_ll, ↓Iv.ty_dd, ↓Iv.zfor_nil, ↓Iv.zty_i, ↓Iv.zty_ib, ↓Iv.zty_is, ↓Iv.zty_it, ↓Iv.zty_il, ↓Iv.zty_bi, ↓Iv.zty_bb, ↓Iv.zty_bs, ↓Iv.zty_bt, ↓Iv.zty_bl, ↓Iv.zty_si, ↓Iv.zty_sb, ↓Iv.zty_ss, ↓Iv.zty_st, ↓Iv.zty_sl, ↓Iv.zty_ti, ↓Iv.zty_tb, ↓Iv.zty_ts, ↓Iv.zty_tt, ↓Iv.zty_tl, ↓Iv.zty_li, ↓Iv.zty_lb, ↓Iv.zty_ls, ↓Iv.zty_lt, ↓Iv.zty_ll, ↓Iv.zty_ni, ↓Iv.zty_nb, ↓Iv.zty_ns, ↓Iv.zty_nt, ↓Iv.zty_nl, ↓Iv.zty_di, ↓Iv.zty_db, ↓Iv.zty_ds, ↓Iv.zty_dt, ↓Iv.zty_dl, ↓Iv.quiet_0, ↓Iv.quiet_s, ↓Iv.qS_v, ↓Iv.qS_n, ↓Iv.qS_s, ↓reduceIte, Bool.false_eq_true, Nat.reduceLeDiff, Nat.zero_le, Iv.slotsOf, Iv.nodupN, List.contains_nil, Bool.not_false, Bool.not_true, Bool.and_true, Bool.true_and, Bool.and_false, Bool.false_and, decide_true, decide_false, List.replicate, List.cons_append, List.nil_append, List.length_cons, List.length_nil, Nat.reduceAdd, Nat.reduceSub, List.contains_cons, Nat.reduceBeqDiff, Nat.reduceEqDiff, Bool.or_false, Bool.false_or, Bool.or_true, Bool.true_or, List.take_succ_cons, List.take_zero, l_drawn_order_b0, List.length_map, ↓bkz e1, ↓bkz e2, ↓bkz hpop, ↓bkz happ]
    have hmem := erase_cut hk
    have hkm := List.mem_of_getElem? hk
    refine Tot.ret ⟨q2, rest.eraseIdx i, bl ++ [(k.1, k.2, w)], .val y, .val (.str k.1), .val (.int k.2), hq2.mono (by omega), ?_, by rw [List.length_append, hb]; rfl, fun z hz => h1 z ((hmem z).mpr (.inr hz)), ?_, ?_, ?_⟩
    · rw [List.length_eraseIdx_of_lt (by omega)]
      omega
    · intro r hr
      rcases List.mem_append.mp hr with h | h
      · exact h2 r h
      · rw [List.mem_singleton] at h
        subst h
        exact hall k (h1 k hkm)
    · intro z hz
      rcases h3 z hz with h | ⟨w', h⟩
      · rcases (hmem z).mp h with rfl | h
        · exact .inr ⟨w, by simp⟩
        · exact .inl h
      · exact .inr ⟨w', by simp [h]⟩
    · rw [List.map_append, erase_map]
      rfl
  · rintro _ ⟨q, rest, bl, t5, t7, t8, hq, hl, hb, h1, h2, h3, rfl⟩
    rw [rng_len, Nat.zero_add] at hq hl hb
    have hr0 : rest = [] := List.eq_nil_of_length_eq_zero (by omega)
    subst hr0
    exact ⟨q, bl, _, t5, t7, t8, hq, hb, h2, fun k hk => (h3 k hk).elim (fun z => by cases z) id, rfl⟩
  · rintro _ ⟨q, bl, t4, t5, t7, t8, hq, hb, h2, h3, rfl⟩
    have happ := app_l (xs := rows) (d := .tup (bl.map rowD)) (by omega)
    simp -implicitDefEqProofs only [↓Iv.k_var, ↓Iv.k_int, ↓Iv.k_str, ↓Iv.k_bl, ↓Iv.k_non, ↓Iv.k_tup, ↓Iv.k_lst, ↓Iv.k_dct, ↓Iv.z_bin, ↓Iv.k_neg, ↓Iv.z_cmp, ↓Iv.z_cmp2, ↓Iv.z_rev, ↓Iv.z_and, ↓Iv.z_or, ↓Iv.k_not, ↓Iv.z_ite, ↓Iv.z_idx, ↓Iv.z_slc, ↓Iv.z_slf, ↓Iv.z_slt, ↓Iv.z_call, ↓Iv.z_blt, ↓Iv.z_isi, ↓Iv.z_comp, ↓Iv.k_nil, ↓Iv.k_cons, ↓Iv.z_seq, ↓Iv.z_rng1, ↓Iv.k_expr, ↓Iv.z_aite, ↓Iv.z_for, ↓Iv.z_whl, ↓Iv.k_retN, ↓Iv.k_pass, ↓Iv.k_brk, ↓Iv.k_cont, ↓Iv.k_frz, ↓Iv.z_mth, ↓Iv.z_mut, ↓Iv.k_scons, ↓Iv.k_snil, ↓Iv.k_asg, ↓Iv.k_par, ↓Iv.z_set, ↓Iv.k_ret, ↓Iv.z_aug, ↓Iv.z_enm, ↓Iv.z_rng2, ↓Iv.look_0, ↓Iv.look_s, ↓Iv.onS_v, ↓Iv.onS_o, ↓Iv.ownK_o, ↓Iv.valK_v, ↓Iv.asV_i, ↓Iv.asB_i, ↓Iv.asN_i, ↓Iv.dsK_v, ↓Iv.dsK_o, ↓Iv.drK_i, ↓Iv.drK_s, ↓Iv.immsK_0, ↓Iv.immsK_i, ↓Iv.dersK_0, ↓Iv.dersK_c, ↓Iv.argsK_0, ↓Iv.argsK_i, ↓Iv.argsK_s, ↓Iv.getO_0, ↓Iv.getO_s, ↓Iv.outK_go, ↓Iv.goO_0, ↓Iv.goO_i, ↓Iv.goO_s, ↓Iv.putS_0, ↓Iv.putS_s, ↓Iv.setK_z, ↓Iv.setK_v, ↓Iv.setK_n, ↓Iv.setK_ss, ↓Iv.setK_0s, ↓Iv.frK_v, ↓Iv.frK_o, ↓Iv.frK_ss, ↓Iv.frK_0s, ↓Iv.setsK_0, ↓Iv.setsK_c, ↓Iv.tgK_v, ↓Iv.tgK_w, ↓Iv.tgK_t, ↓Iv.tgK_2, ↓Iv.tgK_p, ↓Iv.tgK_2p, ↓Iv.asgK_f, ↓Iv.asgK_v, ↓Iv.asgK_w, ↓Iv.asgK_t, ↓Iv.asgK_2, ↓Iv.retK_i, ↓Iv.retK_s, ↓Iv.bkz_some, ↓Iv.cnd_t, ↓Iv.cnd_f, ↓Iv.endK_ret, ↓Iv.endK_next, ↓Iv.za_i, ↓Iv.zs_i, ↓Iv.zeq_i, ↓Iv.zne_i, ↓Iv.zlt_i, ↓Iv.zle_i, ↓Iv.zgt_i, ↓Iv.zge_i, ↓Iv.zeq_s, ↓Iv.zne_s, ↓Iv.zeq_b, ↓Iv.zne_b, ↓Iv.zlen_t, ↓Iv.zlen_l, ↓Iv.zlen_r, ↓Iv.zlen_d, ↓Iv.ztup_l, ↓Iv.ztup_t, ↓Iv.zlst_l, ↓Iv.zlst_t, ↓Iv.zlst_r, ↓Iv.zzip_t, ↓Iv.zzip_l, ↓Iv.zint_i, ↓Iv.zint_b, ↓Iv.zit_t, ↓Iv.zit_l, ↓Iv.zit_r, ↓Iv.zslc_t, ↓Iv.zslc_l, ↓Iv.zrev_t, ↓Iv.zrev_l, ↓Iv.zaug_a, ↓Iv.zaug_s, ↓Iv.zisn, ↓Iv.znotn, ↓Iv.zadd_l, ↓Iv.zadd_t, ↓Iv.zapp_l, ↓Iv.ty_ll, ↓Iv.ty_dd, ↓Iv.zfor_nil, ↓Iv.zty_i, ↓Iv.zty_ib, ↓Iv.zty_is, ↓Iv.zty_it, ↓Iv.zty_il, ↓Iv.zty_bi, ↓Iv.zty_bb, ↓Iv.zty_bs, ↓Iv.zty_bt, ↓Iv.zty_bl, ↓Iv.zty_si, ↓Iv.zty_sb, ↓Iv.zty_ss, ↓Iv.zty_st, ↓Iv.zty_sl, ↓Iv.zty_ti, ↓Iv.zty_tb, ↓Iv.zty_ts, ↓Iv.zty_tt, ↓Iv.zty_tl, ↓Iv.zty_li, ↓Iv.zty_lb, ↓Iv.zty_ls, ↓Iv.zty_lt, ↓Iv.zty_ll, ↓Iv.zty_ni, ↓Iv.zty_nb, ↓Iv.zty_ns, ↓Iv.zty_nt, ↓Iv.zty_nl, ↓Iv.zty_di, ↓Iv.zty_db, ↓Iv.zty_ds, ↓Iv.zty_dt, ↓Iv.zty_dl, ↓Iv.quiet_0, ↓Iv.quiet_s, ↓Iv.qS_v, ↓Iv.qS_n, ↓Iv.qS_s, ↓reduceIte, Bool.false_eq_true, Nat.reduceLeDiff, Nat.zero_le, Iv.slotsOf, Iv.nodupN, List.contains_nil, Bool.not_false, Bool.not_true, Bool.and_true, Bool.true_and, Bool.and_false, Bool.false_and, decide_true, decide_false, List.replicate, List.cons_append, List.nil_append, List.length_cons, List.length_nil, Nat.reduceAdd, Nat.reduceSub, List.contains_cons, Nat.reduceBeqDiff, Nat.reduceEqDiff, Bool.or_false, Bool.false_or, Bool.or_true, Bool.true_or, List.take_succ_cons, List.take_zero, ↓bkz happ]
    exact Tot.ret ⟨bl, q, _, _, _, _, _, rfl, hq, hb, h2, h3⟩
def KindOk (b : Nat) (ks : List (Str × Nat)) : Prop := ks.length ≤ b ∧ ∀ k ∈ ks, (PyData.canLay0 (.str k.1) = true ∧ k.1.length ≤ 4) ∧ k.2 ≤ 2
theorem order_run (m N : Nat) (p : D) (hp : PenOk N p) (hN : N + 40 < 1000000000000000) :
    Tot (run tab (m + 3) f_l_drawn_order [.own p]) fun z => ∃ (rs ts : List (Str × Nat × Nat)) (p' : D), RowsOk rs ∧ TruthsOk ts ∧ PenOk (N + 40) p' ∧ z = (false, rowsD rs ts, [.own p']) := by
  refine run_tot (F := l_drawn_order_f) rfl rfl ?_
  show Tot (exsK 1 whileFuel (run tab (m + 2)) l_drawn_order_s [.own p, .none, .none, .none, .none, .none, .none, .none, .none] (endK 1)) _
  unfold l_drawn_order_s
  rw [k_scons]
  obtain ⟨v, p1, v0, v1, hp1, e1⟩ := draw_run (m + 1) N (many := 3) hp (by omega) (by decide) (by decide)
  refine exK_join (R := fun z => ∃ ks, z = (.next, [.own p1, .val (.lst (ks.map pairD)), .none, .none, .none, .none, .none, .none, .none]) ∧ KindOk 4 ks ∧ ∃ k ∈ ks, k.2 = 0) ?_ ?_
  · simp -implicitDefEqProofs only [↓Iv.k_var, ↓Iv.k_int, ↓Iv.k_str, ↓Iv.k_bl, ↓Iv.k_non, ↓Iv.k_tup, ↓Iv.k_lst, ↓Iv.k_dct, ↓Iv.z_bin, ↓Iv.k_neg, ↓Iv.z_cmp, ↓Iv.z_cmp2, ↓Iv.z_rev, ↓Iv.z_and, ↓Iv.z_or, ↓Iv.k_not, ↓Iv.z_ite, ↓Iv.z_idx, ↓Iv.z_slc, ↓Iv.z_slf, ↓Iv.z_slt, ↓Iv.z_call, ↓Iv.z_blt, ↓Iv.z_isi, ↓Iv.z_comp, ↓Iv.k_nil, ↓Iv.k_cons, ↓Iv.z_seq, ↓Iv.z_rng1, ↓Iv.k_expr, ↓Iv.z_aite, ↓Iv.z_for, ↓Iv.z_whl, ↓Iv.k_retN, ↓Iv.k_pass, ↓Iv.k_brk, ↓Iv.k_cont, ↓Iv.k_frz, ↓Iv.z_mth, ↓Iv.z_mut, ↓Iv.k_scons, ↓Iv.k_snil, ↓Iv.k_asg, ↓Iv.k_par, ↓Iv.z_set, ↓Iv.k_ret, ↓Iv.z_aug, ↓Iv.z_enm, ↓Iv.z_rng2, ↓Iv.look_0, ↓Iv.look_s, ↓Iv.onS_v, ↓Iv.onS_o, ↓Iv.ownK_o, ↓Iv.valK_v, ↓Iv.asV_i, ↓Iv.asB_i, ↓Iv.asN_i, ↓Iv.dsK_v, ↓Iv.dsK_o, ↓Iv.drK_i, ↓Iv.drK_s, ↓Iv.immsK_0, ↓Iv.immsK_i, ↓Iv.dersK_0, ↓Iv.dersK_c, ↓Iv.argsK_0, ↓Iv.argsK_i, ↓Iv.argsK_s, ↓Iv.getO_0, ↓Iv.getO_s, ↓Iv.outK_go, ↓Iv.goO_0, ↓Iv.goO_i, ↓Iv.goO_s, ↓Iv.putS_0, ↓Iv.putS_s, ↓Iv.setK_z, ↓Iv.setK_v, ↓Iv.setK_n, ↓Iv.setK_ss, ↓Iv.setK_0s, ↓Iv.frK_v, ↓Iv.frK_o, ↓Iv.frK_ss, ↓Iv.frK_0s, ↓Iv.setsK_0, ↓Iv.setsK_c, ↓Iv.tgK_v, ↓Iv.tgK_w, ↓Iv.tgK_t, ↓Iv.tgK_2, ↓Iv.tgK_p, ↓Iv.tgK_2p, ↓Iv.asgK_f, ↓Iv.asgK_v, ↓Iv.asgK_w, ↓Iv.asgK_t, ↓Iv.asgK_2, ↓Iv.retK_i, ↓Iv.retK_s, ↓Iv.bkz_some, ↓Iv.cnd_t, ↓Iv.cnd_f, ↓Iv.endK_ret, ↓Iv.endK_next, ↓Iv.za_i, ↓Iv.zs_i, ↓Iv.zeq_i, ↓Iv.zne_i, ↓Iv.zlt_i, ↓Iv.zle_i, ↓Iv.zgt_i, ↓Iv.zge_i, ↓Iv.zeq_s, ↓Iv.zne_s, ↓Iv.zeq_b, ↓Iv.zne_b, ↓Iv.zlen_t, ↓Iv.zlen_l, ↓Iv.zlen_r, ↓Iv.zlen_d, ↓Iv.ztup_l, ↓Iv.ztup_t, ↓Iv.zlst_l, ↓Iv.zlst_t, ↓Iv.zlst_r, ↓Iv.zzip_t, ↓Iv.zzip_l, ↓Iv.zint_i, ↓Iv.zint_b, ↓Iv.zit_t, ↓Iv.zit_l, ↓Iv.zit_r, ↓Iv.zslc_t, ↓Iv.zslc_l, ↓Iv.zrev_t, ↓Iv.zrev_l, ↓Iv.zaug_a, ↓Iv.zaug_s, ↓Iv.zisn, ↓Iv.znotn, ↓Iv.zadd_l, ↓Iv.zadd_t, ↓Iv.zapp_l, ↓Iv.ty_ll, ↓Iv.ty_dd, ↓Iv.zfor_nil, ↓Iv.zty_i, ↓Iv.zty_ib, ↓Iv.zty_is, ↓Iv.zty_it, ↓Iv.zty_il, ↓Iv.zty_bi, ↓Iv.zty_bb, ↓Iv.zty_bs, ↓Iv.zty_bt, ↓Iv.zty_bl, ↓Iv.zty_si, ↓Iv.zty_sb, ↓Iv.zty_ss, ↓Iv.zty_st, ↓Iv.zty_sl, ↓Iv.zty_ti, ↓Iv.zty_tb, ↓Iv.zty_ts, ↓Iv.zty_tt, ↓Iv.zty_tl, ↓Iv.zty_li, ↓Iv.zty_lb, ↓Iv.zty_ls, ↓Iv.zty_lt, ↓Iv.zty_ll, ↓Iv.zty_ni, ↓Iv.zty_nb, ↓Iv.zty_ns, ↓Iv.zty_nt, ↓Iv.zty_nl, ↓Iv.zty_di, ↓Iv.zty_db, ↓Iv.zty_ds, ↓Iv.zty_dt, ↓Iv.zty_dl, ↓Iv.quiet_0, ↓Iv.quiet_s, ↓Iv.qS_v, ↓Iv.qS_n, ↓Iv.qS_s, ↓reduceIte, Bool.false_eq_true, Nat.reduceLeDiff, Nat.zero_le, Iv.slotsOf, Iv.nodupN, List.contains_nil, Bool.not_false, Bool.not_true, Bool.and_true, Bool.true_and, Bool.and_false, Bool.false_and, decide_true, decide_false, List.replicate, List.cons_append, List.nil_append, List.length_cons, List.length_nil, Nat.reduceAdd, Nat.reduceSub, List.contains_cons, Nat.reduceBeqDiff, Nat.reduceEqDiff, Bool.or_false, Bool.false_or, Bool.or_true, Bool.true_or, List.take_succ_cons, List.take_zero, ↓bkz e1]
    refine Tot.cndP (fun _ => ?_) fun _ => ?_
    · simp -implicitDefEqProofs only [↓Iv.k_var, ↓Iv.k_int, ↓Iv.k_str, ↓Iv.k_bl, ↓Iv.k_non, ↓Iv.k_tup, ↓Iv.k_lst, ↓Iv.k_dct, ↓Iv.z_bin, ↓Iv.k_neg, ↓Iv.z_cmp, ↓Iv.z_cmp2, ↓Iv.z_rev, ↓Iv.z_and, ↓Iv.z_or, ↓Iv.k_not, ↓Iv.z_ite, ↓Iv.z_idx, ↓Iv.z_slc, ↓Iv.z_slf, ↓Iv.z_slt, ↓Iv.z_call, ↓Iv.z_blt, ↓Iv.z_isi, ↓Iv.z_comp, ↓Iv.k_nil, ↓Iv.k_cons, ↓Iv.z_seq, ↓Iv.z_rng1, ↓Iv.k_expr, ↓Iv.z_aite, ↓Iv.z_for, ↓Iv.z_whl, ↓Iv.k_retN, ↓Iv.k_pass, ↓Iv.k_brk, ↓Iv.k_cont, ↓Iv.k_frz, ↓Iv.z_mth, ↓Iv.z_mut, ↓Iv.k_scons, ↓Iv.k_snil, ↓Iv.k_asg, ↓Iv.k_par, ↓Iv.z_set, ↓Iv.k_ret, ↓Iv.z_aug, ↓Iv.z_enm, ↓Iv.z_rng2, ↓Iv.look_0, ↓Iv.look_s, ↓Iv.onS_v, ↓Iv.onS_o, ↓Iv.ownK_o, ↓Iv.valK_v, ↓Iv.asV_i, ↓Iv.asB_i, ↓Iv.asN_i, ↓Iv.dsK_v, ↓Iv.dsK_o, ↓Iv.drK_i, ↓Iv.drK_s, ↓Iv.immsK_0, ↓Iv.immsK_i, ↓Iv.dersK_0, ↓Iv.dersK_c, ↓Iv.argsK_0, ↓Iv.argsK_i, ↓Iv.argsK_s, ↓Iv.getO_0, ↓Iv.getO_s, ↓Iv.outK_go, ↓Iv.goO_0, ↓Iv.goO_i, ↓Iv.goO_s, ↓Iv.putS_0, ↓Iv.putS_s, ↓Iv.setK_z, ↓Iv.setK_v, ↓Iv.setK_n, ↓Iv.setK_ss, ↓Iv.setK_0s, ↓Iv.frK_v, ↓Iv.frK_o, ↓Iv.frK_ss, ↓Iv.frK_0s, ↓Iv.setsK_0, ↓Iv.setsK_c, ↓Iv.tgK_v, ↓Iv.tgK_w, ↓Iv.tgK_t, ↓Iv.tgK_2, ↓Iv.tgK_p, ↓Iv.tgK_2p, ↓Iv.asgK_f, ↓Iv.asgK_v, ↓Iv.asgK_w, ↓Iv.asgK_t, ↓Iv.asgK_2, ↓Iv.retK_i, ↓Iv.retK_s, ↓Iv.bkz_some, ↓Iv.cnd_t, ↓Iv.cnd_f, ↓Iv.endK_ret, ↓Iv.endK_next, ↓Iv.za_i, ↓Iv.zs_i, ↓Iv.zeq_i, ↓Iv.zne_i, ↓Iv.zlt_i, ↓Iv.zle_i, ↓Iv.zgt_i, ↓Iv.zge_i, ↓Iv.zeq_s, ↓Iv.zne_s, ↓Iv.zeq_b, ↓Iv.zne_b, ↓Iv.zlen_t, ↓Iv.zlen_l, ↓Iv.zlen_r, ↓Iv.zlen_d, ↓Iv.ztup_l, ↓Iv.ztup_t, ↓Iv.zlst_l, ↓Iv.zlst_t, ↓Iv.zlst_r, ↓Iv.zzip_t, ↓Iv.zzip_l, ↓Iv.zint_i, ↓Iv.zint_b, ↓Iv.zit_t, ↓Iv.zit_l, ↓Iv.zit_r, ↓Iv.zslc_t, ↓Iv.zslc_l, ↓Iv.zrev_t, ↓Iv.zrev_l, ↓Iv.zaug_a, ↓Iv.zaug_s, ↓Iv.zisn, ↓Iv.znotn, ↓Iv.zadd_l, ↓Iv.zadd_t, ↓Iv.zapp_l, ↓Iv.ty_ll, ↓Iv.ty_dd, ↓Iv.zfor_nil, ↓Iv.zty_i, ↓Iv.zty_ib, ↓Iv.zty_is, ↓Iv.zty_it, ↓Iv.zty_il, ↓Iv.zty_bi, ↓Iv.zty_bb, ↓Iv.zty_bs, ↓Iv.zty_bt, ↓Iv.zty_bl, ↓Iv.zty_si, ↓Iv.zty_sb, ↓Iv.zty_ss, ↓Iv.zty_st, ↓Iv.zty_sl, ↓Iv.zty_ti, ↓Iv.zty_tb, ↓Iv.zty_ts, ↓Iv.zty_tt, ↓Iv.zty_tl, ↓Iv.zty_li, ↓Iv.zty_lb, ↓Iv.zty_ls, ↓Iv.zty_lt, ↓Iv.zty_ll, ↓Iv.zty_ni, ↓Iv.zty_nb, ↓Iv.zty_ns, ↓Iv.zty_nt, ↓Iv.zty_nl, ↓Iv.zty_di, ↓Iv.zty_db, ↓Iv.zty_ds, ↓Iv.zty_dt, ↓Iv.zty_dl, ↓Iv.quiet_0, ↓Iv.quiet_s, ↓Iv.qS_v, ↓Iv.qS_n, ↓Iv.qS_s, ↓reduceIte, Bool.false_eq_true, Nat.reduceLeDiff, Nat.zero_le, Iv.slotsOf, Iv.nodupN, List.contains_nil, Bool.not_false, Bool.not_true, Bool.and_true, Bool.true_and, Bool.and_false, Bool.false_and, decide_true, decide_false, List.replicate, List.cons_append, List.nil_append, List.length_cons, List.length_nil, Nat.reduceAdd, Nat.reduceSub, List.contains_cons, Nat.reduceBeqDiff, Nat.reduceEqDiff, Bool.or_false, Bool.false_or, Bool.or_true, Bool.true_or, List.take_succ_cons, List.take_zero]
      exact Tot.ret ⟨[("a", 0), ("b", 0), ("c", 0), ("f", 1)], rfl, ⟨by decide, by decide +kernel⟩, ("a", 0), by simp, rfl⟩
    · simp -implicitDefEqProofs only [↓Iv.k_var, ↓Iv.k_int, ↓Iv.k_str, ↓Iv.k_bl, ↓Iv.k_non, ↓Iv.k_tup, ↓Iv.k_lst, ↓Iv.k_dct, ↓Iv.z_bin, ↓Iv.k_neg, ↓Iv.z_cmp, ↓Iv.z_cmp2, ↓Iv.z_rev, ↓Iv.z_and, ↓Iv.z_or, ↓Iv.k_not, ↓Iv.z_ite, ↓Iv.z_idx, ↓Iv.z_slc, ↓Iv.z_slf, ↓Iv.z_slt, ↓Iv.z_call, ↓Iv.z_blt, ↓Iv.z_isi, ↓Iv.z_comp, ↓Iv.k_nil, ↓Iv.k_cons, ↓Iv.z_seq, ↓Iv.z_rng1, ↓Iv.k_expr, ↓Iv.z_aite, ↓Iv.z_for, ↓Iv.z_whl, ↓Iv.k_retN, ↓Iv.k_pass, ↓Iv.k_brk, ↓Iv.k_cont, ↓Iv.k_frz, ↓Iv.z_mth, ↓Iv.z_mut, ↓Iv.k_scons, ↓Iv.k_snil, ↓Iv.k_asg, ↓Iv.k_par, ↓Iv.z_set, ↓Iv.k_ret, ↓Iv.z_aug, ↓Iv.z_enm, ↓Iv.z_rng2, ↓Iv.look_0, ↓Iv.look_s, ↓Iv.onS_v, ↓Iv.onS_o, ↓Iv.ownK_o, ↓Iv.valK_v, ↓Iv.asV_i, ↓Iv.asB_i, ↓Iv.asN_i, ↓Iv.dsK_v, ↓Iv.dsK_o, ↓Iv.drK_i, ↓Iv.drK_s, ↓Iv.immsK_0, ↓Iv.immsK_i, ↓Iv.dersK_0, ↓Iv.dersK_c, ↓Iv.argsK_0, ↓Iv.argsK_i, ↓Iv.argsK_s, ↓Iv.getO_0, ↓Iv.getO_s, ↓Iv.outK_go, ↓Iv.goO_0, ↓Iv.goO_i, ↓Iv.goO_s, ↓Iv.putS_0, ↓Iv.putS_s, ↓Iv.setK_z, ↓Iv.setK_v, ↓Iv.setK_n, ↓Iv.setK_ss, ↓Iv.setK_0s, ↓Iv.frK_v, ↓Iv.frK_o, ↓Iv.frK_ss, ↓Iv.frK_0s, ↓Iv.setsK_0, ↓Iv.setsK_c, ↓Iv.tgK_v, ↓Iv.tgK_w, ↓Iv.tgK_t, ↓Iv.tgK_2, ↓Iv.tgK_p, ↓Iv.tgK_2p, ↓Iv.asgK_f, ↓Iv.asgK_v, ↓Iv.asgK_w, ↓Iv.asgK_t, ↓Iv.asgK_2, ↓Iv.retK_i, ↓Iv.retK_s, ↓Iv.bkz_some, ↓Iv.cnd_t, ↓Iv.cnd_f, ↓Iv.endK_ret, ↓Iv.endK_next, ↓Iv.za_i, ↓Iv.zs_i, ↓Iv.zeq_i, ↓Iv.zne_i, ↓Iv.zlt_i, ↓Iv.zle_i, ↓Iv.zgt_i, ↓Iv.zge_i, ↓Iv.zeq_s, ↓Iv.zne_s, ↓Iv.zeq_b, ↓Iv.zne_b, ↓Iv.zlen_t, ↓Iv.zlen_l, ↓Iv.zlen_r, ↓Iv.zlen_d, ↓Iv.ztup_l, ↓Iv.ztup_t, ↓Iv.zlst_l, ↓Iv.zlst_t, ↓Iv.zlst_r, ↓Iv.zzip_t, ↓Iv.zzip_l, ↓Iv.zint_i, ↓Iv.zint_b, ↓Iv.zit_t, ↓Iv.zit_l, ↓Iv.zit_r, ↓Iv.zslc_t, ↓Iv.zslc_l, ↓Iv.zrev_t, ↓Iv.zrev_l, ↓Iv.zaug_a, ↓Iv.zaug_s, ↓Iv.zisn, ↓Iv.znotn, ↓Iv.zadd_l, ↓Iv.zadd_t, ↓Iv.zapp_l, ↓Iv.ty_ll, ↓Iv.ty_dd, ↓Iv.zfor_nil, ↓Iv.zty_i, ↓Iv.zty_ib, ↓Iv.zty_is, ↓Iv.zty_it, ↓Iv.zty_il, ↓Iv.zty_bi, ↓Iv.zty_bb, ↓Iv.zty_bs, ↓Iv.zty_bt, ↓Iv.zty_bl, ↓Iv.zty_si, ↓Iv.zty_sb, ↓Iv.zty_ss, ↓Iv.zty_st, ↓Iv.zty_sl, ↓Iv.zty_ti, ↓Iv.zty_tb, ↓Iv.zty_ts, ↓Iv.zty_tt, ↓Iv.zty_tl, ↓Iv.zty_li, ↓Iv.zty_lb, ↓Iv.zty_ls, ↓Iv.zty_lt, ↓Iv.zty_ll, ↓Iv.zty_ni, ↓Iv.zty_nb, ↓Iv.zty_ns, ↓Iv.zty_nt, ↓Iv.zty_nl, ↓Iv.zty_di, ↓Iv.zty_db, ↓Iv.zty_ds, ↓Iv.zty_dt, ↓Iv.zty_dl, ↓Iv.quiet_0, ↓Iv.quiet_s, ↓Iv.qS_v, ↓Iv.qS_n, ↓Iv.qS_s, ↓reduceIte, Bool.false_eq_true, Nat.reduceLeDiff, Nat.zero_le, Iv.slotsOf, Iv.nodupN, List.contains_nil, Bool.not_false, Bool.not_true, Bool.and_true, Bool.true_and, Bool.and_false, Bool.false_and, decide_true, decide_false, List.replicate, List.cons_append, List.nil_append, List.length_cons, List.length_nil, Nat.reduceAdd, Nat.reduceSub, List.contains_cons, Nat.reduceBeqDiff, Nat.reduceEqDiff, Bool.or_false, Bool.false_or, Bool.or_true, Bool.true_or, List.take_succ_cons, List.take_zero]
      exact Tot.ret ⟨[("a", 0), ("b", 0), ("f", 1)], rfl, ⟨by decide, by decide +kernel⟩, ("a", 0), by simp, rfl⟩
  rintro _ ⟨ks, rfl, hk, hk0⟩
  dsimp only
  rw [k_scons]
  obtain ⟨w, p2, w0, w1, hp2, e2⟩ := draw_run (m + 1) (N + 1) (many := 2) hp1 (by omega) (by decide) (by decide)
  refine exK_join (R := fun z => ∃ ks, z = (.next, [.own p2, .val (.lst (ks.map pairD)), .none, .none, .none, .none, .none, .none, .none]) ∧ KindOk 5 ks ∧ ∃ k ∈ ks, k.2 = 0) ?_ ?_
  · simp -implicitDefEqProofs only [↓Iv.k_var, ↓Iv.k_int, ↓Iv.k_str, ↓Iv.k_bl, ↓Iv.k_non, ↓Iv.k_tup, ↓Iv.k_lst, ↓Iv.k_dct, ↓Iv.z_bin, ↓Iv.k_neg, ↓Iv.z_cmp, ↓Iv.z_cmp2, ↓Iv.z_rev, ↓Iv.z_and, ↓Iv.z_or, ↓Iv.k_not, ↓Iv.z_ite, ↓Iv.z_idx, ↓Iv.z_slc, ↓Iv.z_slf, ↓Iv.z_slt, ↓Iv.z_call, ↓Iv.z_blt, ↓Iv.z_isi, ↓Iv.z_comp, ↓Iv.k_nil, ↓Iv.k_cons, ↓Iv.z_seq, ↓Iv.z_rng1, ↓Iv.k_expr, ↓Iv.z_aite, ↓Iv.z_for, ↓Iv.z_whl, ↓Iv.k_retN, ↓Iv.k_pass, ↓Iv.k_brk, ↓Iv.k_cont, ↓Iv.k_frz, ↓Iv.z_mth, ↓Iv.z_mut, ↓Iv.k_scons, ↓Iv.k_snil, ↓Iv.k_asg, ↓Iv.k_par, ↓Iv.z_set, ↓Iv.k_ret, ↓Iv.z_aug, ↓Iv.z_enm, ↓Iv.z_rng2, ↓Iv.look_0, ↓Iv.look_s, ↓Iv.onS_v, ↓Iv.onS_o, ↓Iv.ownK_o, ↓Iv.valK_v, ↓Iv.asV_i, ↓Iv.asB_i, ↓Iv.asN_i, ↓Iv.dsK_v, ↓Iv.dsK_o, ↓Iv.drK_i, ↓Iv.drK_s, ↓Iv.immsK_0, ↓Iv.immsK_i, ↓Iv.dersK_0, ↓Iv.dersK_c, ↓Iv.argsK_0, ↓Iv.argsK_i, ↓Iv.argsK_s, ↓Iv.getO_0, ↓Iv.getO_s, ↓Iv.outK_go, ↓Iv.goO_0, ↓Iv.goO_i, ↓Iv.goO_s, ↓Iv.putS_0, ↓Iv.putS_s, ↓Iv.setK_z, ↓Iv.setK_v, ↓Iv.setK_n, ↓Iv.setK_ss, ↓Iv.setK_0s, ↓Iv.frK_v, ↓Iv.frK_o, ↓Iv.frK_ss, ↓Iv.frK_0s, ↓Iv.setsK_0, ↓Iv.setsK_c, ↓Iv.tgK_v, ↓Iv.tgK_w, ↓Iv.tgK_t, ↓Iv.tgK_2, ↓Iv.tgK_p, ↓Iv.tgK_2p, ↓Iv.asgK_f, ↓Iv.asgK_v, ↓Iv.asgK_w, ↓Iv.asgK_t, ↓Iv.asgK_2, ↓Iv.retK_i, ↓Iv.retK_s, ↓Iv.bkz_some, ↓Iv.cnd_t, ↓Iv.cnd_f, ↓Iv.endK_ret, ↓Iv.endK_next, ↓Iv.za_i, ↓Iv.zs_i, ↓Iv.zeq_i, ↓Iv.zne_i, ↓Iv.zlt_i, ↓Iv.zle_i, ↓Iv.zgt_i, ↓Iv.zge_i, ↓Iv.zeq_s, ↓Iv.zne_s, ↓Iv.zeq_b, ↓Iv.zne_b, ↓Iv.zlen_t, ↓Iv.zlen_l, ↓Iv.zlen_r, ↓Iv.zlen_d, ↓Iv.ztup_l, ↓Iv.ztup_t, ↓Iv.zlst_l, ↓Iv.zlst_t, ↓Iv.zlst_r, ↓Iv.zzip_t, ↓Iv.zzip_l, ↓Iv.zint_i, ↓Iv.zint_b, ↓Iv.zit_t, ↓Iv.zit_l, ↓Iv.zit_r, ↓Iv.zslc_t, ↓Iv.zslc_l, ↓Iv.zrev_t, ↓Iv.zrev_l, ↓Iv.zaug_a, ↓Iv.zaug_s, ↓Iv.zisn, ↓Iv.znotn, ↓Iv.zadd_l, ↓Iv.zadd_t, ↓Iv.zapp_l, ↓Iv.ty_ll, ↓Iv.ty_dd, ↓Iv.zfor_nil, ↓Iv.zty_i, ↓Iv.zty_ib, ↓Iv.zty_is, ↓Iv.zty_it, ↓Iv.zty_il, ↓Iv.zty_bi, ↓Iv.zty_bb, ↓Iv.zty_bs, ↓Iv.zty_bt, ↓Iv.zty_bl, ↓Iv.zty_si, ↓Iv.zty_sb, ↓Iv.zty_ss, ↓Iv.zty_st, ↓Iv.zty_sl, ↓Iv.zty_ti, ↓Iv.zty_tb, ↓Iv.zty_ts, ↓Iv.zty_tt, ↓Iv.zty_tl, ↓Iv.zty_li, ↓Iv.zty_lb, ↓Iv.zty_ls, ↓Iv.zty_lt, ↓Iv.zty_ll, ↓Iv.zty_ni, ↓Iv.zty_nb, ↓Iv.zty_ns, ↓Iv.zty_nt, ↓Iv.zty_nl, ↓Iv.zty_di, ↓Iv.zty_db, ↓Iv.zty_ds, ↓Iv.zty_dt, ↓Iv.zty_dl, ↓Iv.quiet_0, ↓Iv.quiet_s, ↓Iv.qS_v, ↓Iv.qS_n, ↓Iv.qS_s, ↓reduceIte, Bool.false_eq_true, Nat.reduceLeDiff, Nat.zero_le, Iv.slotsOf, Iv.nodupN, List.contains_nil, Bool.not_false, Bool.not_true, Bool.and_true, Bool.true_and, Bool.and_false, Bool.false_and, decide_true, decide_false, List.replicate, List.cons_append, List.nil_append, List.length_cons, List.length_nil, Nat.reduceAdd, Nat.reduceSub, List.contains_cons, Nat.reduceBeqDiff, Nat.reduceEqDiff, Bool.or_false, Bool.false_or, Bool.or_true, Bool.true_or, List.take_succ_cons, List.take_zero, ↓bkz e2]
    have hl := hk.1
    refine Tot.cndP (fun _ => ?_) fun _ => ?_
    · have a1 := add_l (xs := ks.map pairD) (ys := [.tup [.str "g", .int 2]]) (by rw [List.length_map]; simp only [List.length_cons, List.length_nil]; omega)
      simp -implicitDefEqProofs only [↓Iv.k_var, ↓Iv.k_int, ↓Iv.k_str, ↓Iv.k_bl, ↓Iv.k_non, ↓Iv.k_tup, ↓Iv.k_lst, ↓Iv.k_dct, ↓Iv.z_bin, ↓Iv.k_neg, ↓Iv.z_cmp, ↓Iv.z_cmp2, ↓Iv.z_rev, ↓Iv.z_and, ↓Iv.z_or, ↓Iv.k_not, ↓Iv.z_ite, ↓Iv.z_idx, ↓Iv.z_slc, ↓Iv.z_slf, ↓Iv.z_slt, ↓Iv.z_call, ↓Iv.z_blt, ↓Iv.z_isi, ↓Iv.z_comp, ↓Iv.k_nil, ↓Iv.k_cons, ↓Iv.z_seq, ↓Iv.z_rng1, ↓Iv.k_expr, ↓Iv.z_aite, ↓Iv.z_for, ↓Iv.z_whl, ↓Iv.k_retN, ↓Iv.k_pass, ↓Iv.k_brk, ↓Iv.k_cont, ↓Iv.k_frz, ↓Iv.z_mth, ↓Iv.z_mut, ↓Iv.k_scons, ↓Iv.k_snil, ↓Iv.k_asg, ↓Iv.k_par, ↓Iv.z_set, ↓Iv.k_ret, ↓Iv.z_aug, ↓Iv.z_enm, ↓Iv.z_rng2, ↓Iv.look_0, ↓Iv.look_s, ↓Iv.onS_v, ↓Iv.onS_o, ↓Iv.ownK_o, ↓Iv.valK_v, ↓Iv.asV_i, ↓Iv.asB_i, ↓Iv.asN_i, ↓Iv.dsK_v, ↓Iv.dsK_o, ↓Iv.drK_i, ↓Iv.drK_s, ↓Iv.immsK_0, ↓Iv.immsK_i, ↓Iv.dersK_0, ↓Iv.dersK_c, ↓Iv.argsK_0, ↓Iv.argsK_i, ↓Iv.argsK_s, ↓Iv.getO_0, ↓Iv.getO_s, ↓Iv.outK_go, ↓Iv.goO_0, ↓Iv.goO_i, ↓Iv.goO_s, ↓Iv.putS_0, ↓Iv.putS_s, ↓Iv.setK_z, ↓Iv.setK_v, ↓Iv.setK_n, ↓Iv.setK_ss, ↓Iv.setK_0s, ↓Iv.frK_v, ↓Iv.frK_o, ↓Iv.frK_ss, ↓Iv.frK_0s, ↓Iv.setsK_0, ↓Iv.setsK_c, ↓Iv.tgK_v, ↓Iv.tgK_w, ↓Iv.tgK_t, ↓Iv.tgK_2, ↓Iv.tgK_p, ↓Iv.tgK_2p, ↓Iv.asgK_f, ↓Iv.asgK_v, ↓Iv.asgK_w, ↓Iv.asgK_t, ↓Iv.asgK_2, ↓Iv.retK_i, ↓Iv.retK_s, ↓Iv.bkz_some, ↓Iv.cnd_t, ↓Iv.cnd_f, ↓Iv.endK_ret, ↓Iv.endK_next, ↓Iv.za_i, ↓Iv.zs_i, ↓Iv.zeq_i, ↓Iv.zne_i, ↓Iv.zlt_i, ↓Iv.zle_i, ↓Iv.zgt_i, ↓Iv.zge_i, ↓Iv.zeq_s, ↓Iv.zne_s, ↓Iv.zeq_b, ↓Iv.zne_b, ↓Iv.zlen_t, ↓Iv.zlen_l, ↓Iv.zlen_r, ↓Iv.zlen_d, ↓Iv.ztup_l, ↓Iv.ztup_t, ↓Iv.zlst_l, ↓Iv.zlst_t, ↓Iv.zlst_r, ↓Iv.zzip_t, ↓Iv.zzip_l, ↓Iv.zint_i, ↓Iv.zint_b, ↓Iv.zit_t, ↓Iv.zit_l, ↓Iv.zit_r, ↓Iv.zslc_t, ↓Iv.zslc_l, ↓Iv.zrev_t, ↓Iv.zrev_l, ↓Iv.zaug_a, ↓Iv.zaug_s, ↓Iv.zisn, ↓Iv.znotn, ↓Iv.zadd_l, ↓Iv.zadd_t, ↓Iv.zapp_l, ↓Iv.ty_ll, ↓Iv.ty_dd, ↓Iv.zfor_nil, ↓Iv.zty_i, ↓Iv.zty_ib, ↓Iv.zty_is, ↓Iv.zty_it, ↓Iv.zty_il, ↓Iv.zty_bi, ↓Iv.zty_bb, ↓Iv.zty_bs, ↓Iv.zty_bt, ↓Iv.zty_bl, ↓Iv.zty_si, ↓Iv.zty_sb, ↓Iv.zty_ss, ↓Iv.zty_st, ↓Iv.zty_sl, ↓Iv.zty_ti, ↓Iv.zty_tb, ↓Iv.zty_ts, ↓Iv.zty_tt, ↓Iv.zty_tl, ↓Iv.zty_li, ↓Iv.zty_lb, ↓Iv.zty_ls, ↓Iv.zty_lt, ↓Iv.zty_ll, ↓Iv.zty_ni, ↓Iv.zty_nb, ↓Iv.zty_ns, ↓Iv.zty_nt, ↓Iv.zty_nl, ↓Iv.zty_di, ↓Iv.zty_db, ↓Iv.zty_ds, ↓Iv.zty_dt, ↓Iv.zty_dl, ↓Iv.quiet_0, ↓Iv.quiet_s, ↓Iv.qS_v, ↓Iv.qS_n, ↓Iv.qS_s, ↓reduceIte, Bool.false_eq_true, Nat.reduceLeDiff, Nat.zero_le, Iv.slotsOf, Iv.nodupN, List.contains_nil, Bool.not_false, Bool.not_true, Bool.and_true, Bool.true_and, Bool.and_false, Bool.false_and, decide_true, decide_false, List.replicate, List.cons_append, List.nil_append, List.length_cons, List.length_nil, Nat.reduceAdd, Nat.reduceSub, List.contains_cons, Nat.reduceBeqDiff, Nat.reduceEqDiff, Bool.or_false, Bool.false_or, Bool.or_true, Bool.true_or, List.take_succ_cons, List.take_zero, ↓bkz a1]
      refine Tot.ret ⟨ks ++ [(("g" : Str), 2)], by rw [List.map_append]; rfl, ⟨by simp only [List.length_append, List.length_cons, List.length_nil]; omega, fun k h => ?_⟩, ?_⟩
      · rcases List.mem_append.mp h with z | z
        · exact hk.2 k z
        · rw [List.mem_singleton] at z
          subst z
          decide +kernel
      · obtain ⟨k, z1, z2⟩ := hk0
        exact ⟨k, by simp [z1], z2⟩
    · have a1 := add_l (xs := ks.map pairD) (ys := []) (by rw [List.length_map]; simp only [List.length_nil]; omega)
      rw [List.append_nil] at a1
      simp -implicitDefEqProofs only [↓Iv.k_var, ↓Iv.k_int, ↓Iv.k_str, ↓Iv.k_bl, ↓Iv.k_non, ↓Iv.k_tup, ↓Iv.k_lst, ↓Iv.k_dct, ↓Iv.z_bin, ↓Iv.k_neg, ↓Iv.z_cmp, ↓Iv.z_cmp2, ↓Iv.z_rev, ↓Iv.z_and, ↓Iv.z_or, ↓Iv.k_not, ↓Iv.z_ite, ↓Iv.z_idx, ↓Iv.z_slc, ↓Iv.z_slf, ↓Iv.z_slt, ↓Iv.z_call, ↓Iv.z_blt, ↓Iv.z_isi, ↓Iv.z_comp, ↓Iv.k_nil, ↓Iv.k_cons, ↓Iv.z_seq, ↓Iv.z_rng1, ↓Iv.k_expr, ↓Iv.z_aite, ↓Iv.z_for, ↓Iv.z_whl, ↓Iv.k_retN, ↓Iv.k_pass, ↓Iv.k_brk, ↓Iv.k_cont, ↓Iv.k_frz, ↓Iv.z_mth, ↓Iv.z_mut, ↓Iv.k_scons, ↓Iv.k_snil, ↓Iv.k_asg, ↓Iv.k_par, ↓Iv.z_set, ↓Iv.k_ret, ↓Iv.z_aug, ↓Iv.z_enm, ↓Iv.z_rng2, ↓Iv.look_0, ↓Iv.look_s, ↓Iv.onS_v, ↓Iv.onS_o, ↓Iv.ownK_o, ↓Iv.valK_v, ↓Iv.asV_i, ↓Iv.asB_i, ↓Iv.asN_i, ↓Iv.dsK_v, ↓Iv.dsK_o, ↓Iv.drK_i, ↓Iv.drK_s, ↓Iv.immsK_0, ↓Iv.immsK_i, ↓Iv.dersK_0, ↓Iv.dersK_c, ↓Iv.argsK_0, ↓Iv.argsK_i, ↓Iv.argsK_s, ↓Iv.getO_0, ↓Iv.getO_s, ↓Iv.outK_go, ↓Iv.goO_0, ↓Iv.goO_i, ↓Iv.goO_s, ↓Iv.putS_0, ↓Iv.putS_s, ↓Iv.setK_z, ↓Iv.setK_v, ↓Iv.setK_n, ↓Iv.setK_ss, ↓Iv.setK_0s, ↓Iv.frK_v, ↓Iv.frK_o, ↓Iv.frK_ss, ↓Iv.frK_0s, ↓Iv.setsK_0, ↓Iv.setsK_c, ↓Iv.tgK_v, ↓Iv.tgK_w, ↓Iv.tgK_t, ↓Iv.tgK_2, ↓Iv.tgK_p, ↓Iv.tgK_2p, ↓Iv.asgK_f, ↓Iv.asgK_v, ↓Iv.asgK_w, ↓Iv.asgK_t, ↓Iv.asgK_2, ↓Iv.retK_i, ↓Iv.retK_s, ↓Iv.bkz_some, ↓Iv.cnd_t, ↓Iv.cnd_f, ↓Iv.endK_ret, ↓Iv.endK_next, ↓Iv.za_i, ↓Iv.zs_i, ↓Iv.zeq_i, ↓Iv.zne_i, ↓Iv.zlt_i, ↓Iv.zle_i, ↓Iv.zgt_i, ↓Iv.zge_i, ↓Iv.zeq_s, ↓Iv.zne_s, ↓Iv.zeq_b, ↓Iv.zne_b, ↓Iv.zlen_t, ↓Iv.zlen_l, ↓Iv.zlen_r, ↓Iv.zlen_d, ↓Iv.ztup_l, ↓Iv.ztup_t, ↓Iv.zlst_l, ↓Iv.zlst_t, ↓Iv.zlst_r, ↓Iv.zzip_t, ↓Iv.zzip_l, ↓Iv.zint_i, ↓Iv.zint_b, ↓Iv.zit_t, ↓Iv.zit_l, ↓Iv.zit_r, ↓Iv.zslc_t, ↓Iv.zslc_l, ↓Iv.zrev_t, ↓Iv.zrev_l, ↓Iv.zaug_a, ↓Iv.zaug_s, ↓Iv.zisn, ↓Iv.znotn, ↓Iv.zadd_l, ↓Iv.zadd_t, ↓Iv.zapp_l, ↓Iv.ty_ll, ↓Iv.ty_dd, ↓Iv.zfor_nil, ↓Iv.zty_i, ↓Iv.zty_ib, ↓Iv.zty_is, ↓Iv.zty_it, ↓Iv.zty_il, ↓Iv.zty_bi, ↓Iv.zty_bb, ↓Iv.zty_bs, ↓Iv.zty_bt, ↓Iv.zty_bl, ↓Iv.zty_si, ↓Iv.zty_sb, ↓Iv.zty_ss, ↓Iv.zty_st, ↓Iv.zty_sl, ↓Iv.zty_ti, ↓Iv.zty_tb, ↓Iv.zty_ts, ↓Iv.zty_tt, ↓Iv.zty_tl, ↓Iv.zty_li, ↓Iv.zty_lb, ↓Iv.zty_ls, ↓Iv.zty_lt, ↓Iv.zty_ll, ↓Iv.zty_ni, ↓Iv.zty_nb, ↓Iv.zty_ns, ↓Iv.zty_nt, ↓Iv.zty_nl, ↓Iv.zty_di, ↓Iv.zty_db, ↓Iv.zty_ds, ↓Iv.zty_dt, ↓Iv.zty_dl, ↓Iv.quiet_0, ↓Iv.quiet_s, ↓Iv.qS_v, ↓Iv.qS_n, ↓Iv.qS_s, ↓reduceIte, Bool.false_eq_true, Nat.reduceLeDiff, Nat.zero_le, Iv.slotsOf, Iv.nodupN, List.contains_nil, Bool.not_false, Bool.not_true, Bool.and_true, Bool.true_and, Bool.and_false, Bool.false_and, decide_true, decide_false, List.replicate, List.cons_append, List.nil_append, List.length_cons, List.length_nil, Nat.reduceAdd, Nat.reduceSub, List.contains_cons, Nat.reduceBeqDiff, Nat.reduceEqDiff, Bool.or_false, Bool.false_or, Bool.or_true, Bool.true_or, List.take_succ_cons, List.take_zero, ↓bkz a1]
      exact Tot.ret ⟨ks, rfl, ⟨by omega, hk.2⟩, hk0⟩
  rintro _ ⟨ks, rfl, hk, hk0⟩
  dsimp only
  rw [k_scons]
  obtain ⟨x, p3, hx, hp3, e3⟩ := pick_run m (N + 1 + 1) (xs := [.lst [.tup [.str "q", .int 0]], .lst [.tup [.str "r", .int 2]], .lst [.tup [.str "q", .int 0], .tup [.str "r", .int 2]]]) (.inl rfl) hp2 (by omega) (by decide) (by decide)
  refine exK_join (R := fun z => ∃ us, z = (.next, [.own p3, .val (.lst (ks.map pairD)), .val (.lst (us.map pairD)), .none, .none, .none, .none, .none, .none]) ∧ KindOk 4 us ∧ 0 < us.length) ?_ ?_
  · simp only [List.mem_cons, List.not_mem_nil, or_false] at hx
    simp -implicitDefEqProofs only [↓Iv.k_var, ↓Iv.k_int, ↓Iv.k_str, ↓Iv.k_bl, ↓Iv.k_non, ↓Iv.k_tup, ↓Iv.k_lst, ↓Iv.k_dct, ↓Iv.z_bin, ↓Iv.k_neg, ↓Iv.z_cmp, ↓Iv.z_cmp2, ↓Iv.z_rev, ↓Iv.z_and, ↓Iv.z_or, ↓Iv.k_not, ↓Iv.z_ite, ↓Iv.z_idx, ↓Iv.z_slc, ↓Iv.z_slf, ↓Iv.z_slt, ↓Iv.z_call, ↓Iv.z_blt, ↓Iv.z_isi, ↓Iv.z_comp, ↓Iv.k_nil, ↓Iv.k_cons, ↓Iv.z_seq, ↓Iv.z_rng1, ↓Iv.k_expr, ↓Iv.z_aite, ↓Iv.z_for, ↓Iv.z_whl, ↓Iv.k_retN, ↓Iv.k_pass, ↓Iv.k_brk, ↓Iv.k_cont, ↓Iv.k_frz, ↓Iv.z_mth, ↓Iv.z_mut, ↓Iv.k_scons, ↓Iv.k_snil, ↓Iv.k_asg, ↓Iv.k_par, ↓Iv.z_set, ↓Iv.k_ret, ↓Iv.z_aug, ↓Iv.z_enm, ↓Iv.z_rng2, ↓Iv.look_0, ↓Iv.look_s, ↓Iv.onS_v, ↓Iv.onS_o, ↓Iv.ownK_o, ↓Iv.valK_v, ↓Iv.asV_i, ↓Iv.asB_i, ↓Iv.asN_i, ↓Iv.dsK_v, ↓Iv.dsK_o, ↓Iv.drK_i, ↓Iv.drK_s, ↓Iv.immsK_0, ↓Iv.immsK_i, ↓Iv.dersK_0, ↓Iv.dersK_c, ↓Iv.argsK_0, ↓Iv.argsK_i, ↓Iv.argsK_s, ↓Iv.getO_0, ↓Iv.getO_s, ↓Iv.outK_go, ↓Iv.goO_0, ↓Iv.goO_i, ↓Iv.goO_s, ↓Iv.putS_0, ↓Iv.putS_s, ↓Iv.setK_z, ↓Iv.setK_v, ↓Iv.setK_n, ↓Iv.setK_ss, ↓Iv.setK_0s, ↓Iv.frK_v, ↓Iv.frK_o, ↓Iv.frK_ss, ↓Iv.frK_0s, ↓Iv.setsK_0, ↓Iv.setsK_c, ↓Iv.tgK_v, ↓Iv.tgK_w, ↓Iv.tgK_t, ↓Iv.tgK_2, ↓Iv.tgK_p, ↓Iv.tgK_2p, ↓Iv.asgK_f, ↓Iv.asgK_v, ↓Iv.asgK_w, ↓Iv.asgK_t, ↓Iv.asgK_2, ↓Iv.retK_i, ↓Iv.retK_s, ↓Iv.bkz_some, ↓Iv.cnd_t, ↓Iv.cnd_f, ↓Iv.endK_ret, ↓Iv.endK_next, ↓Iv.za_i, ↓Iv.zs_i, ↓Iv.zeq_i, ↓Iv.zne_i, ↓Iv.zlt_i, ↓Iv.zle_i, ↓Iv.zgt_i, ↓Iv.zge_i, ↓Iv.zeq_s, ↓Iv.zne_s, ↓Iv.zeq_b, ↓Iv.zne_b, ↓Iv.zlen_t, ↓Iv.zlen_l, ↓Iv.zlen_r, ↓Iv.zlen_d, ↓Iv.ztup_l, ↓Iv.ztup_t, ↓Iv.zlst_l, ↓Iv.zlst_t, ↓Iv.zlst_r, ↓Iv.zzip_t, ↓Iv.zzip_l, ↓Iv.zint_i, ↓Iv.zint_b, ↓Iv.zit_t, ↓Iv.zit_l, ↓Iv.zit_r, ↓Iv.zslc_t, ↓Iv.zslc_l, ↓Iv.zrev_t, ↓Iv.zrev_l, ↓Iv.zaug_a, ↓Iv.zaug_s, ↓Iv.zisn, ↓Iv.znotn, ↓Iv.zadd_l, ↓Iv.zadd_t, ↓Iv.zapp_l, ↓Iv.ty_ll, ↓Iv.ty_dd, ↓Iv.zfor_nil, ↓Iv.zty_i, ↓Iv.zty_ib, ↓Iv.zty_is, ↓Iv.zty_it, ↓Iv.zty_il, ↓Iv.zty_bi, ↓Iv.zty_bb, ↓Iv.zty_bs, ↓Iv.zty_bt, ↓Iv.zty_bl, ↓Iv.zty_si, ↓Iv.zty_sb, ↓Iv.zty_ss, ↓Iv.zty_st, ↓Iv.zty_sl, ↓Iv.zty_ti, ↓Iv.zty_tb, ↓Iv.zty_ts, ↓Iv.zty_tt, ↓Iv.zty_tl, ↓Iv.zty_li, ↓Iv.zty_lb, ↓Iv.zty_ls, ↓Iv.zty_lt, ↓Iv.zty_ll, ↓Iv.zty_ni, ↓Iv.zty_nb, ↓Iv.zty_ns, ↓Iv.zty_nt, ↓Iv.zty_nl, ↓Iv.zty_di, ↓Iv.zty_db, ↓Iv.zty_ds, ↓Iv.zty_dt, ↓Iv.zty_dl, ↓Iv.quiet_0, ↓Iv.quiet_s, ↓Iv.qS_v, ↓Iv.qS_n, ↓Iv.qS_s, ↓reduceIte, Bool.false_eq_true, Nat.reduceLeDiff, Nat.zero_le, Iv.slotsOf, Iv.nodupN, List.contains_nil, Bool.not_false, Bool.not_true, Bool.and_true, Bool.true_and, Bool.and_false, Bool.false_and, decide_true, decide_false, List.replicate, List.cons_append, List.nil_append, List.length_cons, List.length_nil, Nat.reduceAdd, Nat.reduceSub, List.contains_cons, Nat.reduceBeqDiff, Nat.reduceEqDiff, Bool.or_false, Bool.false_or, Bool.or_true, Bool.true_or, List.take_succ_cons, List.take_zero, ↓bkz e3]
    rcases hx with rfl | rfl | rfl
    · simp -implicitDefEqProofs only [↓Iv.k_var, ↓Iv.k_int, ↓Iv.k_str, ↓Iv.k_bl, ↓Iv.k_non, ↓Iv.k_tup, ↓Iv.k_lst, ↓Iv.k_dct, ↓Iv.z_bin, ↓Iv.k_neg, ↓Iv.z_cmp, ↓Iv.z_cmp2, ↓Iv.z_rev, ↓Iv.z_and, ↓Iv.z_or, ↓Iv.k_not, ↓Iv.z_ite, ↓Iv.z_idx, ↓Iv.z_slc, ↓Iv.z_slf, ↓Iv.z_slt, ↓Iv.z_call, ↓Iv.z_blt, ↓Iv.z_isi, ↓Iv.z_comp, ↓Iv.k_nil, ↓Iv.k_cons, ↓Iv.z_seq, ↓Iv.z_rng1, ↓Iv.k_expr, ↓Iv.z_aite, ↓Iv.z_for, ↓Iv.z_whl, ↓Iv.k_retN, ↓Iv.k_pass, ↓Iv.k_brk, ↓Iv.k_cont, ↓Iv.k_frz, ↓Iv.z_mth, ↓Iv.z_mut, ↓Iv.k_scons, ↓Iv.k_snil, ↓Iv.k_asg, ↓Iv.k_par, ↓Iv.z_set, ↓Iv.k_ret, ↓Iv.z_aug, ↓Iv.z_enm, ↓Iv.z_rng2, ↓Iv.look_0, ↓Iv.look_s, ↓Iv.onS_v, ↓Iv.onS_o, ↓Iv.ownK_o, ↓Iv.valK_v, ↓Iv.asV_i, ↓Iv.asB_i, ↓Iv.asN_i, ↓Iv.dsK_v, ↓Iv.dsK_o, ↓Iv.drK_i, ↓Iv.drK_s, ↓Iv.immsK_0, ↓Iv.immsK_i, ↓Iv.dersK_0, ↓Iv.dersK_c, ↓Iv.argsK_0, ↓Iv.argsK_i, ↓Iv.argsK_s, ↓Iv.getO_0, ↓Iv.getO_s, ↓Iv.outK_go, ↓Iv.goO_0, ↓Iv.goO_i, ↓Iv.goO_s, ↓Iv.putS_0, ↓Iv.putS_s, ↓Iv.setK_z, ↓Iv.setK_v, ↓Iv.setK_n, ↓Iv.setK_ss, ↓Iv.setK_0s, ↓Iv.frK_v, ↓Iv.frK_o, ↓Iv.frK_ss, ↓Iv.frK_0s, ↓Iv.setsK_0, ↓Iv.setsK_c, ↓Iv.tgK_v, ↓Iv.tgK_w, ↓Iv.tgK_t, ↓Iv.tgK_2, ↓Iv.tgK_p, ↓Iv.tgK_2p, ↓Iv.asgK_f, ↓Iv.asgK_v, ↓Iv.asgK_w, ↓Iv.asgK_t, ↓Iv.asgK_2, ↓Iv.retK_i, ↓Iv.retK_s, ↓Iv.bkz_some, ↓Iv.cnd_t, ↓Iv.cnd_f, ↓Iv.endK_ret, ↓Iv.endK_next, ↓Iv.za_i, ↓Iv.zs_i, ↓Iv.zeq_i, ↓Iv.zne_i, ↓Iv.zlt_i, ↓Iv.zle_i, ↓Iv.zgt_i, ↓Iv.zge_i, ↓Iv.zeq_s, ↓Iv.zne_s, ↓Iv.zeq_b, ↓Iv.zne_b, ↓Iv.zlen_t, ↓Iv.zlen_l, ↓Iv.zlen_r, ↓Iv.zlen_d, ↓Iv.ztup_l, ↓Iv.ztup_t, ↓Iv.zlst_l, ↓Iv.zlst_t, ↓Iv.zlst_r, ↓Iv.zzip_t, ↓Iv.zzip_l, ↓Iv.zint_i, ↓Iv.zint_b, ↓Iv.zit_t, ↓Iv.zit_l, ↓Iv.zit_r, ↓Iv.zslc_t, ↓Iv.zslc_l, ↓Iv.zrev_t, ↓Iv.zrev_l, ↓Iv.zaug_a, ↓Iv.zaug_s, ↓Iv.zisn, ↓Iv.znotn, ↓Iv.zadd_l, ↓Iv.zadd_t, ↓Iv.zapp_l, ↓Iv.ty_ll, ↓Iv.ty_dd, ↓Iv.zfor_nil, ↓Iv.zty_i, ↓Iv.zty_ib, ↓Iv.zty_is, ↓Iv.zty_it, ↓Iv.zty_il, ↓Iv.zty_bi, ↓Iv.zty_bb, ↓Iv.zty_bs, ↓Iv.zty_bt, ↓Iv.zty_bl, ↓Iv.zty_si, ↓Iv.zty_sb, ↓Iv.zty_ss, ↓Iv.zty_st, ↓Iv.zty_sl, ↓Iv.zty_ti, ↓Iv.zty_tb, ↓Iv.zty_ts, ↓Iv.zty_tt, ↓Iv.zty_tl, ↓Iv.zty_li, ↓Iv.zty_lb, ↓Iv.zty_ls, ↓Iv.zty_lt, ↓Iv.zty_ll, ↓Iv.zty_ni, ↓Iv.zty_nb, ↓Iv.zty_ns, ↓Iv.zty_nt, ↓Iv.zty_nl, ↓Iv.zty_di, ↓Iv.zty_db, ↓Iv.zty_ds, ↓Iv.zty_dt, ↓Iv.zty_dl, ↓Iv.quiet_0, ↓Iv.quiet_s, ↓Iv.qS_v, ↓Iv.qS_n, ↓Iv.qS_s, ↓reduceIte, Bool.false_eq_true, Nat.reduceLeDiff, Nat.zero_le, Iv.slotsOf, Iv.nodupN, List.contains_nil, Bool.not_false, Bool.not_true, Bool.and_true, Bool.true_and, Bool.and_false, Bool.false_and, decide_true, decide_false, List.replicate, List.cons_append, List.nil_append, List.length_cons, List.length_nil, Nat.reduceAdd, Nat.reduceSub, List.contains_cons, Nat.reduceBeqDiff, Nat.reduceEqDiff, Bool.or_false, Bool.false_or, Bool.or_true, Bool.true_or, List.take_succ_cons, List.take_zero]
      exact Tot.ret ⟨[("p", 1), ("q", 0)], rfl, ⟨by decide, by decide +kernel⟩, by decide⟩
    · simp -implicitDefEqProofs only [↓Iv.k_var, ↓Iv.k_int, ↓Iv.k_str, ↓Iv.k_bl, ↓Iv.k_non, ↓Iv.k_tup, ↓Iv.k_lst, ↓Iv.k_dct, ↓Iv.z_bin, ↓Iv.k_neg, ↓Iv.z_cmp, ↓Iv.z_cmp2, ↓Iv.z_rev, ↓Iv.z_and, ↓Iv.z_or, ↓Iv.k_not, ↓Iv.z_ite, ↓Iv.z_idx, ↓Iv.z_slc, ↓Iv.z_slf, ↓Iv.z_slt, ↓Iv.z_call, ↓Iv.z_blt, ↓Iv.z_isi, ↓Iv.z_comp, ↓Iv.k_nil, ↓Iv.k_cons, ↓Iv.z_seq, ↓Iv.z_rng1, ↓Iv.k_expr, ↓Iv.z_aite, ↓Iv.z_for, ↓Iv.z_whl, ↓Iv.k_retN, ↓Iv.k_pass, ↓Iv.k_brk, ↓Iv.k_cont, ↓Iv.k_frz, ↓Iv.z_mth, ↓Iv.z_mut, ↓Iv.k_scons, ↓Iv.k_snil, ↓Iv.k_asg, ↓Iv.k_par, ↓Iv.z_set, ↓Iv.k_ret, ↓Iv.z_aug, ↓Iv.z_enm, ↓Iv.z_rng2, ↓Iv.look_0, ↓Iv.look_s, ↓Iv.onS_v, ↓Iv.onS_o, ↓Iv.ownK_o, ↓Iv.valK_v, ↓Iv.asV_i, ↓Iv.asB_i, ↓Iv.asN_i, ↓Iv.dsK_v, ↓Iv.dsK_o, ↓Iv.drK_i, ↓Iv.drK_s, ↓Iv.immsK_0, ↓Iv.immsK_i, ↓Iv.dersK_0, ↓Iv.dersK_c, ↓Iv.argsK_0, ↓Iv.argsK_i, ↓Iv.argsK_s, ↓Iv.getO_0, ↓Iv.getO_s, ↓Iv.outK_go, ↓Iv.goO_0, ↓Iv.goO_i, ↓Iv.goO_s, ↓Iv.putS_0, ↓Iv.putS_s, ↓Iv.setK_z, ↓Iv.setK_v, ↓Iv.setK_n, ↓Iv.setK_ss, ↓Iv.setK_0s, ↓Iv.frK_v, ↓Iv.frK_o, ↓Iv.frK_ss, ↓Iv.frK_0s, ↓Iv.setsK_0, ↓Iv.setsK_c, ↓Iv.tgK_v, ↓Iv.tgK_w, ↓Iv.tgK_t, ↓Iv.tgK_2, ↓Iv.tgK_p, ↓Iv.tgK_2p, ↓Iv.asgK_f, ↓Iv.asgK_v, ↓Iv.asgK_w, ↓Iv.asgK_t, ↓Iv.asgK_2, ↓Iv.retK_i, ↓Iv.retK_s, ↓Iv.bkz_some, ↓Iv.cnd_t, ↓Iv.cnd_f, ↓Iv.endK_ret, ↓Iv.endK_next, ↓Iv.za_i, ↓Iv.zs_i, ↓Iv.zeq_i, ↓Iv.zne_i, ↓Iv.zlt_i, ↓Iv.zle_i, ↓Iv.zgt_i, ↓Iv.zge_i, ↓Iv.zeq_s, ↓Iv.zne_s, ↓Iv.zeq_b, ↓Iv.zne_b, ↓Iv.zlen_t, ↓Iv.zlen_l, ↓Iv.zlen_r, ↓Iv.zlen_d, ↓Iv.ztup_l, ↓Iv.ztup_t, ↓Iv.zlst_l, ↓Iv.zlst_t, ↓Iv.zlst_r, ↓Iv.zzip_t, ↓Iv.zzip_l, ↓Iv.zint_i, ↓Iv.zint_b, ↓Iv.zit_t, ↓Iv.zit_l, ↓Iv.zit_r, ↓Iv.zslc_t, ↓Iv.zslc_l, ↓Iv.zrev_t, ↓Iv.zrev_l, ↓Iv.zaug_a, ↓Iv.zaug_s, ↓Iv.zisn, ↓Iv.znotn, ↓Iv.zadd_l, ↓Iv.zadd_t, ↓Iv.zapp_l, ↓Iv.ty_ll, ↓Iv.ty_dd, ↓Iv.zfor_nil, ↓Iv.zty_i, ↓Iv.zty_ib, ↓Iv.zty_is, ↓Iv.zty_it, ↓Iv.zty_il, ↓Iv.zty_bi, ↓Iv.zty_bb, ↓Iv.zty_bs, ↓Iv.zty_bt, ↓Iv.zty_bl, ↓Iv.zty_si, ↓Iv.zty_sb, ↓Iv.zty_ss, ↓Iv.zty_st, ↓Iv.zty_sl, ↓Iv.zty_ti, ↓Iv.zty_tb, ↓Iv.zty_ts, ↓Iv.zty_tt, ↓Iv.zty_tl, ↓Iv.zty_li, ↓Iv.zty_lb, ↓Iv.zty_ls, ↓Iv.zty_lt, ↓Iv.zty_ll, ↓Iv.zty_ni, ↓Iv.zty_nb, ↓Iv.zty_ns, ↓Iv.zty_nt, ↓Iv.zty_nl, ↓Iv.zty_di, ↓Iv.zty_db, ↓Iv.zty_ds, ↓Iv.zty_dt, ↓Iv.zty_dl, ↓Iv.quiet_0, ↓Iv.quiet_s, ↓Iv.qS_v, ↓Iv.qS_n, ↓Iv.qS_s, ↓reduceIte, Bool.false_eq_true, Nat.reduceLeDiff, Nat.zero_le, Iv.slotsOf, Iv.nodupN, List.contains_nil, Bool.not_false, Bool.not_true, Bool.and_true, Bool.true_and, Bool.and_false, Bool.false_and, decide_true, decide_false, List.replicate, List.cons_append, List.nil_append, List.length_cons, List.length_nil, Nat.reduceAdd, Nat.reduceSub, List.contains_cons, Nat.reduceBeqDiff, Nat.reduceEqDiff, Bool.or_false, Bool.false_or, Bool.or_true, Bool.true_or, List.take_succ_cons, List.take_zero]
      exact Tot.ret ⟨[("p", 1), ("r", 2)], rfl, ⟨by decide, by decide +kernel⟩, by decide⟩
    · simp -implicitDefEqProofs only [↓Iv.k_var, ↓Iv.k_int, ↓Iv.k_str, ↓Iv.k_bl, ↓Iv.k_non, ↓Iv.k_tup, ↓Iv.k_lst, ↓Iv.k_dct, ↓Iv.z_bin, ↓Iv.k_neg, ↓Iv.z_cmp, ↓Iv.z_cmp2, ↓Iv.z_rev, ↓Iv.z_and, ↓Iv.z_or, ↓Iv.k_not, ↓Iv.z_ite, ↓Iv.z_idx, ↓Iv.z_slc, ↓Iv.z_slf, ↓Iv.z_slt, ↓Iv.z_call, ↓Iv.z_blt, ↓Iv.z_isi, ↓Iv.z_comp, ↓Iv.k_nil, ↓Iv.k_cons, ↓Iv.z_seq, ↓Iv.z_rng1, ↓Iv.k_expr, ↓Iv.z_aite, ↓Iv.z_for, ↓Iv.z_whl, ↓Iv.k_retN, ↓Iv.k_pass, ↓Iv.k_brk, ↓Iv.k_cont, ↓Iv.k_frz, ↓Iv.z_mth, ↓Iv.z_mut, ↓Iv.k_scons, ↓Iv.k_snil, ↓Iv.k_asg, ↓Iv.k_par, ↓Iv.z_set, ↓Iv.k_ret, ↓Iv.z_aug, ↓Iv.z_enm, ↓Iv.z_rng2, ↓Iv.look_0, ↓Iv.look_s, ↓Iv.onS_v, ↓Iv.onS_o, ↓Iv.ownK_o, ↓Iv.valK_v, ↓Iv.asV_i, ↓Iv.asB_i, ↓Iv.asN_i, ↓Iv.dsK_v, ↓Iv.dsK_o, ↓Iv.drK_i, ↓Iv.drK_s, ↓Iv.immsK_0, ↓Iv.immsK_i, ↓Iv.dersK_0, ↓Iv.dersK_c, ↓Iv.argsK_0, ↓Iv.argsK_i, ↓Iv.argsK_s, ↓Iv.getO_0, ↓Iv.getO_s, ↓Iv.outK_go, ↓Iv.goO_0, ↓Iv.goO_i, ↓Iv.goO_s, ↓Iv.putS_0, ↓Iv.putS_s, ↓Iv.setK_z, ↓Iv.setK_v, ↓Iv.setK_n, ↓Iv.setK_ss, ↓Iv.setK_0s, ↓Iv.frK_v, ↓Iv.frK_o, ↓Iv.frK_ss, ↓Iv.frK_0s, ↓Iv.setsK_0, ↓Iv.setsK_c, ↓Iv.tgK_v, ↓Iv.tgK_w, ↓Iv.tgK_t, ↓Iv.tgK_2, ↓Iv.tgK_p, ↓Iv.tgK_2p, ↓Iv.asgK_f, ↓Iv.asgK_v, ↓Iv.asgK_w, ↓Iv.asgK_t, ↓Iv.asgK_2, ↓Iv.retK_i, ↓Iv.retK_s, ↓Iv.bkz_some, ↓Iv.cnd_t, ↓Iv.cnd_f, ↓Iv.endK_ret, ↓Iv.endK_next, ↓Iv.za_i, ↓Iv.zs_i, ↓Iv.zeq_i, ↓Iv.zne_i, ↓Iv.zlt_i, ↓Iv.zle_i, ↓Iv.zgt_i, ↓Iv.zge_i, ↓Iv.zeq_s, ↓Iv.zne_s, ↓Iv.zeq_b, ↓Iv.zne_b, ↓Iv.zlen_t, ↓Iv.zlen_l, ↓Iv.zlen_r, ↓Iv.zlen_d, ↓Iv.ztup_l, ↓Iv.ztup_t, ↓Iv.zlst_l, ↓Iv.zlst_t, ↓Iv.zlst_r, ↓Iv.zzip_t, ↓Iv.zzip_l, ↓Iv.zint_i, ↓Iv.zint_b, ↓Iv.zit_t, ↓Iv.zit_l, ↓Iv.zit_r, ↓Iv.zslc_t, ↓Iv.zslc_l, ↓Iv.zrev_t, ↓Iv.zrev_l, ↓Iv.zaug_a, ↓Iv.zaug_s, ↓Iv.zisn, ↓Iv.znotn, ↓Iv.zadd_l, ↓Iv.zadd_t, ↓Iv.zapp_l, ↓Iv.ty_ll, ↓Iv.ty_dd, ↓Iv.zfor_nil, ↓Iv.zty_i, ↓Iv.zty_ib, ↓Iv.zty_is, ↓Iv.zty_it, ↓Iv.zty_il, ↓Iv.zty_bi, ↓Iv.zty_bb, ↓Iv.zty_bs, ↓Iv.zty_bt, ↓Iv.zty_bl, ↓Iv.zty_si, ↓Iv.zty_sb, ↓Iv.zty_ss, ↓Iv.zty_st, ↓Iv.zty_sl, ↓Iv.zty_ti, ↓Iv.zty_tb, ↓Iv.zty_ts, ↓Iv.zty_tt, ↓Iv.zty_tl, ↓Iv.zty_li, ↓Iv.zty_lb, ↓Iv.zty_ls, ↓Iv.zty_lt, ↓Iv.zty_ll, ↓Iv.zty_ni, ↓Iv.zty_nb, ↓Iv.zty_ns, ↓Iv.zty_nt, ↓Iv.zty_nl, ↓Iv.zty_di, ↓Iv.zty_db, ↓Iv.zty_ds, ↓Iv.zty_dt, ↓Iv.zty_dl, ↓Iv.quiet_0, ↓Iv.quiet_s, ↓Iv.qS_v, ↓Iv.qS_n, ↓Iv.qS_s, ↓reduceIte, Bool.false_eq_true, Nat.reduceLeDiff, Nat.zero_le, Iv.slotsOf, Iv.nodupN, List.contains_nil, Bool.not_false, Bool.not_true, Bool.and_true, Bool.true_and, Bool.and_false, Bool.false_and, decide_true, decide_false, List.replicate, List.cons_append, List.nil_append, List.length_cons, List.length_nil, Nat.reduceAdd, Nat.reduceSub, List.contains_cons, Nat.reduceBeqDiff, Nat.reduceEqDiff, Bool.or_false, Bool.false_or, Bool.or_true, Bool.true_or, List.take_succ_cons, List.take_zero]
      exact Tot.ret ⟨[("p", 1), ("q", 0), ("r", 2)], rfl, ⟨by decide, by decide +kernel⟩, by decide⟩
  rintro _ ⟨us, rfl, hu, hu0⟩
  have hkl := hk.1
  have hul := hu.1
  simp -implicitDefEqProofs only [↓Iv.k_var, ↓Iv.k_int, ↓Iv.k_str, ↓Iv.k_bl, ↓Iv.k_non, ↓Iv.k_tup, ↓Iv.k_lst, ↓Iv.k_dct, ↓Iv.z_bin, ↓Iv.k_neg, ↓Iv.z_cmp, ↓Iv.z_cmp2, ↓Iv.z_rev, ↓Iv.z_and, ↓Iv.z_or, ↓Iv.k_not, ↓Iv.z_ite, ↓Iv.z_idx, ↓Iv.z_slc, ↓Iv.z_slf, ↓Iv.z_slt, ↓Iv.z_call, ↓Iv.z_blt, ↓Iv.z_isi, ↓Iv.z_comp, ↓Iv.k_nil, ↓Iv.k_cons, ↓Iv.z_seq, ↓Iv.z_rng1, ↓Iv.k_expr, ↓Iv.z_aite, ↓Iv.z_for, ↓Iv.z_whl, ↓Iv.k_retN, ↓Iv.k_pass, ↓Iv.k_brk, ↓Iv.k_cont, ↓Iv.k_frz, ↓Iv.z_mth, ↓Iv.z_mut, ↓Iv.k_scons, ↓Iv.k_snil, ↓Iv.k_asg, ↓Iv.k_par, ↓Iv.z_set, ↓Iv.k_ret, ↓Iv.z_aug, ↓Iv.z_enm, ↓Iv.z_rng2, ↓Iv.look_0, ↓Iv.look_s, ↓Iv.onS_v, ↓Iv.onS_o, ↓Iv.ownK_o, ↓Iv.valK_v, ↓Iv.asV_i, ↓Iv.asB_i, ↓Iv.asN_i, ↓Iv.dsK_v, ↓Iv.dsK_o, ↓Iv.drK_i, ↓Iv.drK_s, ↓Iv.immsK_0, ↓Iv.immsK_i, ↓Iv.dersK_0, ↓Iv.dersK_c, ↓Iv.argsK_0, ↓Iv.argsK_i, ↓Iv.argsK_s, ↓Iv.getO_0, ↓Iv.getO_s, ↓Iv.outK_go, ↓Iv.goO_0, ↓Iv.goO_i, ↓Iv.goO_s, ↓Iv.putS_0, ↓Iv.putS_s, ↓Iv.setK_z, ↓Iv.setK_v, ↓Iv.setK_n, ↓Iv.setK_ss, ↓Iv.setK_0s, ↓Iv.frK_v, ↓Iv.frK_o, ↓Iv.frK_ss, ↓Iv.frK_0s, ↓Iv.setsK_0, ↓Iv.setsK_c, ↓Iv.tgK_v, ↓Iv.tgK_w, ↓Iv.tgK_t, ↓Iv.tgK_2, ↓Iv.tgK_p, ↓Iv.tgK_2p, ↓Iv.asgK_f, ↓Iv.asgK_v, ↓Iv.asgK_w, ↓Iv.asgK_t, ↓Iv.asgK_2, ↓Iv.retK_i, ↓Iv.retK_s, ↓Iv.bkz_some, ↓Iv.cnd_t, ↓Iv.cnd_f, ↓Iv.endK_ret, ↓Iv.endK_next, ↓Iv.za_i, ↓Iv.zs_i, ↓Iv.zeq_i, ↓Iv.zne_i, ↓Iv.zlt_i, ↓Iv.zle_i, ↓Iv.zgt_i, ↓Iv.zge_i, ↓Iv.zeq_s, ↓Iv.zne_s, ↓Iv.zeq_b, ↓Iv.zne_b, ↓Iv.zlen_t, ↓Iv.zlen_l, ↓Iv.zlen_r, ↓Iv.zlen_d, ↓Iv.ztup_l, ↓Iv.ztup_t, ↓Iv.zlst_l, ↓Iv.zlst_t, ↓Iv.zlst_r, ↓Iv.zzip_t, ↓Iv.zzip_l, ↓Iv.zint_i, ↓Iv.zint_b, ↓Iv.zit_t, ↓Iv.zit_l, ↓Iv.zit_r, ↓Iv.zslc_t, ↓Iv.zslc_l, ↓Iv.zrev_t, ↓Iv.zrev_l, ↓Iv.zaug_a, ↓Iv.zaug_s, ↓Iv.zisn, ↓Iv.znotn, ↓Iv.zadd_l, ↓Iv.zadd_t, ↓Iv.zapp_l, ↓Iv.ty_ll, ↓Iv.ty_dd, ↓Iv.zfor_nil, ↓Iv.zty_i, ↓Iv.zty_ib, ↓Iv.zty_is, ↓Iv.zty_it, ↓Iv.zty_il, ↓Iv.zty_bi, ↓Iv.zty_bb, ↓Iv.zty_bs, ↓Iv.zty_bt, ↓Iv.zty_bl, ↓Iv.zty_si, ↓Iv.zty_sb, ↓Iv.zty_ss, ↓Iv.zty_st, ↓Iv.zty_sl, ↓Iv.zty_ti, ↓Iv.zty_tb, ↓Iv.zty_ts, ↓Iv.zty_tt, ↓Iv.zty_tl, ↓Iv.zty_li, ↓Iv.zty_lb, ↓Iv.zty_ls, ↓Iv.zty_lt, ↓Iv.zty_ll, ↓Iv.zty_ni, ↓Iv.zty_nb, ↓Iv.zty_ns, ↓Iv.zty_nt, ↓Iv.zty_nl, ↓Iv.zty_di, ↓Iv.zty_db, ↓Iv.zty_ds, ↓Iv.zty_dt, ↓Iv.zty_dl, ↓Iv.quiet_0, ↓Iv.quiet_s, ↓Iv.qS_v, ↓Iv.qS_n, ↓Iv.qS_s, ↓reduceIte, Bool.false_eq_true, Nat.reduceLeDiff, Nat.zero_le, Iv.slotsOf, Iv.nodupN, List.contains_nil, Bool.not_false, Bool.not_true, Bool.and_true, Bool.true_and, Bool.and_false, Bool.false_and, decide_true, decide_false, List.replicate, List.cons_append, List.nil_append, List.length_cons, List.length_nil, Nat.reduceAdd, Nat.reduceSub, List.contains_cons, Nat.reduceBeqDiff, Nat.reduceEqDiff, Bool.or_false, Bool.false_or, Bool.or_true, Bool.true_or, List.take_succ_cons, List.take_zero]
  refine Tot.bnd (R := fun z => ∃ (rs ts : List (Str × Nat × Nat)) (p' : D) (s1 s2 s4 s5 s6 s7 s8 : Slot), RowsOk rs ∧ TruthsOk ts ∧ PenOk (N + 40) p' ∧ z = (.next, [.own p', s1, s2, .own (.lst [.tup (rs.map rowD), .tup (ts.map rowD)]), s4, s5, s6, s7, s8])) (forS_cons ?_) ?_
  · simp -implicitDefEqProofs only [↓Iv.k_var, ↓Iv.k_int, ↓Iv.k_str, ↓Iv.k_bl, ↓Iv.k_non, ↓Iv.k_tup, ↓Iv.k_lst, ↓Iv.k_dct, ↓Iv.z_bin, ↓Iv.k_neg, ↓Iv.z_cmp, ↓Iv.z_cmp2, ↓Iv.z_rev, ↓Iv.z_and, ↓Iv.z_or, ↓Iv.k_not, ↓Iv.z_ite, ↓Iv.z_idx, ↓Iv.z_slc, ↓Iv.z_slf, ↓Iv.z_slt, ↓Iv.z_call, ↓Iv.z_blt, ↓Iv.z_isi, ↓Iv.z_comp, ↓Iv.k_nil, ↓Iv.k_cons, ↓Iv.z_seq, ↓Iv.z_rng1, ↓Iv.k_expr, ↓Iv.z_aite, ↓Iv.z_for, ↓Iv.z_whl, ↓Iv.k_retN, ↓Iv.k_pass, ↓Iv.k_brk, ↓Iv.k_cont, ↓Iv.k_frz, ↓Iv.z_mth, ↓Iv.z_mut, ↓Iv.k_scons, ↓Iv.k_snil, ↓Iv.k_asg, ↓Iv.k_par, ↓Iv.z_set, ↓Iv.k_ret, ↓Iv.z_aug, ↓Iv.z_enm, ↓Iv.z_rng2, ↓Iv.look_0, ↓Iv.look_s, ↓Iv.onS_v, ↓Iv.onS_o, ↓Iv.ownK_o, ↓Iv.valK_v, ↓Iv.asV_i, ↓Iv.asB_i, ↓Iv.asN_i, ↓Iv.dsK_v, ↓Iv.dsK_o, ↓Iv.drK_i, ↓Iv.drK_s, ↓Iv.immsK_0, ↓Iv.immsK_i, ↓Iv.dersK_0, ↓Iv.dersK_c, ↓Iv.argsK_0, ↓Iv.argsK_i, ↓Iv.argsK_s, ↓Iv.getO_0, ↓Iv.getO_s, ↓Iv.outK_go, ↓Iv.goO_0, ↓Iv.goO_i, ↓Iv.goO_s, ↓Iv.putS_0, ↓Iv.putS_s, ↓Iv.setK_z, ↓Iv.setK_v, ↓Iv.setK_n, ↓Iv.setK_ss, ↓Iv.setK_0s, ↓Iv.frK_v, ↓Iv.frK_o, ↓Iv.frK_ss, ↓Iv.frK_0s, ↓Iv.setsK_0, ↓Iv.setsK_c, ↓Iv.tgK_v, ↓Iv.tgK_w, ↓Iv.tgK_t, ↓Iv.tgK_2, ↓Iv.tgK_p, ↓Iv.tgK_2p, ↓Iv.asgK_f, ↓Iv.asgK_v, ↓Iv.asgK_w, ↓Iv.asgK_t, ↓Iv.asgK_2, ↓Iv.retK_i, ↓Iv.retK_s, ↓Iv.bkz_some, ↓Iv.cnd_t, ↓Iv.cnd_f, ↓Iv.endK_ret, ↓Iv.endK_next, ↓Iv.za_i, ↓Iv.zs_i, ↓Iv.zeq_i, ↓Iv.zne_i, ↓Iv.zlt_i, ↓Iv.zle_i, ↓Iv.zgt_i, ↓Iv.zge_i, ↓Iv.zeq_s, ↓Iv.zne_s, ↓Iv.zeq_b, ↓Iv.zne_b, ↓Iv.zlen_t, ↓Iv.zlen_l, ↓Iv.zlen_r, ↓Iv.zlen_d, ↓Iv.ztup_l, ↓Iv.ztup_t, ↓Iv.zlst_l, ↓Iv.zlst_t, ↓Iv.zlst_r, ↓Iv.zzip_t, ↓Iv.zzip_l, ↓Iv.zint_i, ↓Iv.zint_b, ↓Iv.zit_t, ↓Iv.zit_l, ↓Iv.zit_r, ↓Iv.zslc_t, ↓Iv.zslc_l, ↓Iv.zrev_t, ↓Iv.zrev_l, ↓Iv.zaug_a, ↓Iv.zaug_s, ↓Iv.zisn, ↓Iv.znotn, ↓Iv.zadd_l, ↓Iv.zadd_t, ↓Iv.zapp_l, ↓Iv.ty_ll, ↓Iv.ty_dd, ↓Iv.zfor_nil, ↓Iv.zty_i, ↓Iv.zty_ib, ↓Iv.zty_is, ↓Iv.zty_it, ↓Iv.zty_il, ↓Iv.zty_bi, ↓Iv.zty_bb, ↓Iv.zty_bs, ↓Iv.zty_bt, ↓Iv.zty_bl, ↓Iv.zty_si, ↓Iv.zty_sb, ↓Iv.zty_ss, ↓Iv.zty_st, ↓Iv.zty_sl, ↓Iv.zty_ti, ↓Iv.zty_tb, ↓Iv.zty_ts, ↓Iv.zty_tt, ↓Iv.zty_tl, ↓Iv.zty_li, ↓Iv.zty_lb, ↓Iv.zty_ls, ↓Iv.zty_lt, ↓Iv.zty_ll, ↓Iv.zty_ni, ↓Iv.zty_nb, ↓Iv.zty_ns, ↓Iv.zty_nt, ↓Iv.zty_nl, ↓Iv.zty_di, ↓Iv.zty_db, ↓Iv.zty_ds, ↓Iv.zty_dt, ↓Iv.zty_dl, ↓Iv.quiet_0, ↓Iv.quiet_s, ↓Iv.qS_v, ↓Iv.qS_n, ↓Iv.qS_s, ↓reduceIte, Bool.false_eq_true, Nat.reduceLeDiff, Nat.zero_le, Iv.slotsOf, Iv.nodupN, List.contains_nil, Bool.not_false, Bool.not_true, Bool.and_true, Bool.true_and, Bool.and_false, Bool.false_and, decide_true, decide_false, List.replicate, List.cons_append, List.nil_append, List.length_cons, List.length_nil, Nat.reduceAdd, Nat.reduceSub, List.contains_cons, Nat.reduceBeqDiff, Nat.reduceEqDiff, Bool.or_false, Bool.false_or, Bool.or_true, Bool.true_or, List.take_succ_cons, List.take_zero]
    refine (kind_run m _ ks (by omega) hk.2 p3 hp3 (by omega) _ _ [] (by decide) _ _ _ _).mono ?_
    rintro _ ⟨bl, p4, t4, t5, t6, t7, t8, rfl, hp4, hbl, hb1, hb2⟩
    refine forS_cons ?_
    simp -implicitDefEqProofs only [↓Iv.k_var, ↓Iv.k_int, ↓Iv.k_str, ↓Iv.k_bl, ↓Iv.k_non, ↓Iv.k_tup, ↓Iv.k_lst, ↓Iv.k_dct, ↓Iv.z_bin, ↓Iv.k_neg, ↓Iv.z_cmp, ↓Iv.z_cmp2, ↓Iv.z_rev, ↓Iv.z_and, ↓Iv.z_or, ↓Iv.k_not, ↓Iv.z_ite, ↓Iv.z_idx, ↓Iv.z_slc, ↓Iv.z_slf, ↓Iv.z_slt, ↓Iv.z_call, ↓Iv.z_blt, ↓Iv.z_isi, ↓Iv.z_comp, ↓Iv.k_nil, ↓Iv.k_cons, ↓Iv.z_seq, ↓Iv.z_rng1, ↓Iv.k_expr, ↓Iv.z_aite, ↓Iv.z_for, ↓Iv.z_whl, ↓Iv.k_retN, ↓Iv.k_pass, ↓Iv.k_brk, ↓Iv.k_cont, ↓Iv.k_frz, ↓Iv.z_mth, ↓Iv.z_mut, ↓Iv.k_scons, ↓Iv.k_snil, ↓Iv.k_asg, ↓Iv.k_par, ↓Iv.z_set, ↓Iv.k_ret, ↓Iv.z_aug, ↓Iv.z_enm, ↓Iv.z_rng2, ↓Iv.look_0, ↓Iv.look_s, ↓Iv.onS_v, ↓Iv.onS_o, ↓Iv.ownK_o, ↓Iv.valK_v, ↓Iv.asV_i, ↓Iv.asB_i, ↓Iv.asN_i, ↓Iv.dsK_v, ↓Iv.dsK_o, ↓Iv.drK_i, ↓Iv.drK_s, ↓Iv.immsK_0, ↓Iv.immsK_i, ↓Iv.dersK_0, ↓Iv.dersK_c, ↓Iv.argsK_0, ↓Iv.argsK_i, ↓Iv.argsK_s, ↓Iv.getO_0, ↓Iv.getO_s, ↓Iv.outK_go, ↓Iv.goO_0, ↓Iv.goO_i, ↓Iv.goO_s, ↓Iv.putS_0, ↓Iv.putS_s, ↓Iv.setK_z, ↓Iv.setK_v, ↓Iv.setK_n, ↓Iv.setK_ss, ↓Iv.setK_0s, ↓Iv.frK_v, ↓Iv.frK_o, ↓Iv.frK_ss, ↓Iv.frK_0s, ↓Iv.setsK_0, ↓Iv.setsK_c, ↓Iv.tgK_v, ↓Iv.tgK_w, ↓Iv.tgK_t, ↓Iv.tgK_2, ↓Iv.tgK_p, ↓Iv.tgK_2p, ↓Iv.asgK_f, ↓Iv.asgK_v, ↓Iv.asgK_w, ↓Iv.asgK_t, ↓Iv.asgK_2, ↓Iv.retK_i, ↓Iv.retK_s, ↓Iv.bkz_some, ↓Iv.cnd_t, ↓Iv.cnd_f, ↓Iv.endK_ret, ↓Iv.endK_next, ↓Iv.za_i, ↓Iv.zs_i, ↓Iv.zeq_i, ↓Iv.zne_i, ↓Iv.zlt_i, ↓Iv.zle_i, ↓Iv.zgt_i, ↓Iv.zge_i, ↓Iv.zeq_s, ↓Iv.zne_s, ↓Iv.zeq_b, ↓Iv.zne_b, ↓Iv.zlen_t, ↓Iv.zlen_l, ↓Iv.zlen_r, ↓Iv.zlen_d, ↓Iv.ztup_l, ↓Iv.ztup_t, ↓Iv.zlst_l, ↓Iv.zlst_t, ↓Iv.zlst_r, ↓Iv.zzip_t, ↓Iv.zzip_l, ↓Iv.zint_i, ↓Iv.zint_b, ↓Iv.zit_t, ↓Iv.zit_l, ↓Iv.zit_r, ↓Iv.zslc_t, ↓Iv.zslc_l, ↓Iv.zrev_t, ↓Iv.zrev_l, ↓Iv.zaug_a, ↓Iv.zaug_s, ↓Iv.zisn, ↓Iv.znotn, ↓Iv.zadd_l, ↓Iv.zadd_t, ↓Iv.zapp_l, ↓Iv.ty_ll, ↓Iv.ty_dd, ↓Iv.zfor_nil, ↓Iv.zty_i, ↓Iv.zty_ib, ↓Iv.zty_is, ↓Iv.zty_it, ↓Iv.zty_il, ↓Iv.zty_bi, ↓Iv.zty_bb, ↓Iv.zty_bs, ↓Iv.zty_bt, ↓Iv.zty_bl, ↓Iv.zty_si, ↓Iv.zty_sb, ↓Iv.zty_ss, ↓Iv.zty_st, ↓Iv.zty_sl, ↓Iv.zty_ti, ↓Iv.zty_tb, ↓Iv.zty_ts, ↓Iv.zty_tt, ↓Iv.zty_tl, ↓Iv.zty_li, ↓Iv.zty_lb, ↓Iv.zty_ls, ↓Iv.zty_lt, ↓Iv.zty_ll, ↓Iv.zty_ni, ↓Iv.zty_nb, ↓Iv.zty_ns, ↓Iv.zty_nt, ↓Iv.zty_nl, ↓Iv.zty_di, ↓Iv.zty_db, ↓Iv.zty_ds, ↓Iv.zty_dt, ↓Iv.zty_dl, ↓Iv.quiet_0, ↓Iv.quiet_s, ↓Iv.qS_v, ↓Iv.qS_n, ↓Iv.qS_s, ↓reduceIte, Bool.false_eq_true, Nat.reduceLeDiff, Nat.zero_le, Iv.slotsOf, Iv.nodupN, List.contains_nil, Bool.not_false, Bool.not_true, Bool.and_true, Bool.true_and, Bool.and_false, Bool.false_and, decide_true, decide_false, List.replicate, List.cons_append, List.nil_append, List.length_cons, List.length_nil, Nat.reduceAdd, Nat.reduceSub, List.contains_cons, Nat.reduceBeqDiff, Nat.reduceEqDiff, Bool.or_false, Bool.false_or, Bool.or_true, Bool.true_or, List.take_succ_cons, List.take_zero]
    refine (kind_run m _ us (by omega) hu.2 p4 hp4 (by omega) _ _ _ (by simp) _ _ _ _).mono ?_
    rintro _ ⟨cl, p5, u4, u5, u6, u7, u8, rfl, hp5, hcl, hc1, hc2⟩
    refine Tot.ret ⟨bl, cl, p5, _, _, _, _, _, _, _, ⟨hb1, ?_, by omega⟩, ⟨hc1, by omega, by omega⟩, hp5.mono (by omega), rfl⟩
    obtain ⟨k, z1, z2⟩ := hk0
    obtain ⟨w, z3⟩ := hb2 k z1
    exact ⟨_, z3, z2⟩
  · rintro _ ⟨rs, ts, p', s1, s2, s4, s5, s6, s7, s8, hrs, hts, hp', rfl⟩
    have i0 : idxop (.lst [.tup (rs.map rowD), .tup (ts.map rowD)]) (.int 0) = some (.tup (rs.map rowD)) := rfl
    have i1 : idxop (.lst [.tup (rs.map rowD), .tup (ts.map rowD)]) (.int 1) = some (.tup (ts.map rowD)) := rfl
    simp -implicitDefEqProofs only [↓Iv.k_var, ↓Iv.k_int, ↓Iv.k_str, ↓Iv.k_bl, ↓Iv.k_non, ↓Iv.k_tup, ↓Iv.k_lst, ↓Iv.k_dct, ↓Iv.z_bin, ↓Iv.k_neg, ↓Iv.z_cmp, ↓Iv.z_cmp2, ↓Iv.z_rev, ↓Iv.z_and, ↓Iv.z_or, ↓Iv.k_not, ↓Iv.z_ite, ↓Iv.z_idx, ↓Iv.z_slc, ↓Iv.z_slf, ↓Iv.z_slt, ↓Iv.z_call, ↓Iv.z_blt, ↓Iv.z_isi, ↓Iv.z_comp, ↓Iv.k_nil, ↓Iv.k_cons, ↓Iv.z_seq, ↓Iv.z_rng1, ↓Iv.k_expr, ↓Iv.z_aite, ↓Iv.z_for, ↓Iv.z_whl, ↓Iv.k_retN, ↓Iv.k_pass, ↓Iv.k_brk, ↓Iv.k_cont, ↓Iv.k_frz, ↓Iv.z_mth, ↓Iv.z_mut, ↓Iv.k_scons, ↓Iv.k_snil, ↓Iv.k_asg, ↓Iv.k_par, ↓Iv.z_set, ↓Iv.k_ret, ↓Iv.z_aug, ↓Iv.z_enm, ↓Iv.z_rng2, ↓Iv.look_0, ↓Iv.look_s, ↓Iv.onS_v, ↓Iv.onS_o, ↓Iv.ownK_o, ↓Iv.valK_v, ↓Iv.asV_i, ↓Iv.asB_i, ↓Iv.asN_i, ↓Iv.dsK_v, ↓Iv.dsK_o, ↓Iv.drK_i, ↓Iv.drK_s, ↓Iv.immsK_0, ↓Iv.immsK_i, ↓Iv.dersK_0, ↓Iv.dersK_c, ↓Iv.argsK_0, ↓Iv.argsK_i, ↓Iv.argsK_s, ↓Iv.getO_0, ↓Iv.getO_s, ↓Iv.outK_go, ↓Iv.goO_0, ↓Iv.goO_i, ↓Iv.goO_s, ↓Iv.putS_0, ↓Iv.putS_s, ↓Iv.setK_z, ↓Iv.setK_v, ↓Iv.setK_n, ↓Iv.setK_ss, ↓Iv.setK_0s, ↓Iv.frK_v, ↓Iv.frK_o, ↓Iv.frK_ss, ↓Iv.frK_0s, ↓Iv.setsK_0, ↓Iv.setsK_c, ↓Iv.tgK_v, ↓Iv.tgK_w, ↓Iv.tgK_t, ↓Iv.tgK_2, ↓Iv.tgK_p, ↓Iv.tgK_2p, ↓Iv.asgK_f, ↓Iv.asgK_v, ↓Iv.asgK_w, ↓Iv.asgK_t, ↓Iv.asgK_2, ↓Iv.retK_i, ↓Iv.retK_s, ↓Iv.bkz_some, ↓Iv.cnd_t, ↓Iv.cnd_f, ↓Iv.endK_ret, ↓Iv.endK_next, ↓Iv.za_i, ↓Iv.zs_i, ↓Iv.zeq_i, ↓Iv.zne_i, ↓Iv.zlt_i, ↓Iv.zle_i, ↓Iv.zgt_i, ↓Iv.zge_i, ↓Iv.zeq_s, ↓Iv.zne_s, ↓Iv.zeq_b, ↓Iv.zne_b, ↓Iv.zlen_t, ↓Iv.zlen_l, ↓Iv.zlen_r, ↓Iv.zlen_d, ↓Iv.ztup_l, ↓Iv.ztup_t, ↓Iv.zlst_l, ↓Iv.zlst_t, ↓Iv.zlst_r, ↓Iv.zzip_t, ↓Iv.zzip_l, ↓Iv.zint_i, ↓Iv.zint_b, ↓Iv.zit_t, ↓Iv.zit_l, ↓Iv.zit_r, ↓Iv.zslc_t, ↓Iv.zslc_l, ↓Iv.zrev_t, ↓Iv.zrev_l, ↓Iv.zaug_a, ↓Iv.zaug_s, ↓Iv.zisn, ↓Iv.znotn, ↓Iv.zadd_l, ↓Iv.zadd_t, ↓Iv.zapp_l, ↓Iv.ty_ll, ↓Iv.ty_dd, ↓Iv.zfor_nil, ↓Iv.zty_i, ↓Iv.zty_ib, ↓Iv.zty_is, ↓Iv.zty_it, ↓Iv.zty_il, ↓Iv.zty_bi, ↓Iv.zty_bb, ↓Iv.zty_bs, ↓Iv.zty_bt, ↓Iv.zty_bl, ↓Iv.zty_si, ↓Iv.zty_sb, ↓Iv.zty_ss, ↓Iv.zty_st, ↓Iv.zty_sl, ↓Iv.zty_ti, ↓Iv.zty_tb, ↓Iv.zty_ts, ↓Iv.zty_tt, ↓Iv.zty_tl, ↓Iv.zty_li, ↓Iv.zty_lb, ↓Iv.zty_ls, ↓Iv.zty_lt, ↓Iv.zty_ll, ↓Iv.zty_ni, ↓Iv.zty_nb, ↓Iv.zty_ns, ↓Iv.zty_nt, ↓Iv.zty_nl, ↓Iv.zty_di, ↓Iv.zty_db, ↓Iv.zty_ds, ↓Iv.zty_dt, ↓Iv.zty_dl, ↓Iv.quiet_0, ↓Iv.quiet_s, ↓Iv.qS_v, ↓Iv.qS_n, ↓Iv.qS_s, ↓reduceIte, Bool.false_eq_true, Nat.reduceLeDiff, Nat.zero_le, Iv.slotsOf, Iv.nodupN, List.contains_nil, Bool.not_false, Bool.not_true, Bool.and_true, Bool.true_and, Bool.and_false, Bool.false_and, decide_true, decide_false, List.replicate, List.cons_append, List.nil_append, List.length_cons, List.length_nil, Nat.reduceAdd, Nat.reduceSub, List.contains_cons, Nat.reduceBeqDiff, Nat.reduceEqDiff, Bool.or_false, Bool.false_or, Bool.or_true, Bool.true_or, List.take_succ_cons, List.take_zero, ↓bkz i0, ↓bkz i1]
    exact Tot.ret ⟨rs, ts, p', hrs, hts, hp', rfl⟩
end K07
namespace K07
open PySem Iv Tm
def okRow (d : Nat) (r : Str × Nat × Nat) : Bool := decide (0 < d) || decide (r.2.1 = 0)
theorem some_run (n : Nat) (rs ts : List (Str × Nat × Nat)) (d : Nat) (s0 : Slot) (v : D) :
    ∃ ρ', compS 4 (run tab n) [8] (.v 8) l_drawn_term_i0 l_drawn_term_e0 (rs.map rowD) [s0, .val (rowsD rs ts), .val (.int (d : Nat)), .val v, .none, .none, .none, .none, .none, .none] =
      some ((rs.filter (okRow d)).map rowD, ρ') ∧ backS [s0, .val (rowsD rs ts), .val (.int (d : Nat)), .val v, .none, .none, .none, .none, .none, .none] ρ' [8] = [s0, .val (rowsD rs ts), .val (.int (d : Nat)), .val v, .none, .none, .none, .none, .none, .none] := by
  let pk : D → Bool := fun y => match y with | .tup [.str _, .int a, .int _] => decide (0 < d) || decide (a = 0) | _ => false
  obtain ⟨ρ', e, w⟩ := compS_fm (np := 4) (call := run tab n) (vs := [8]) (tg := .v 8) (ifs := l_drawn_term_i0) (elt := l_drawn_term_e0) pk id (rs.map rowD) [s0, .val (rowsD rs ts), .val (.int (d : Nat)), .val v, .none, .none, .none, .none, .none, .none] rfl fun y hy => by
    obtain ⟨r, hr, rfl⟩ := List.mem_map.mp hy
    refine ⟨[s0, .val (rowsD rs ts), .val (.int (d : Nat)), .val v, .none, .none, .none, .none, .val (rowD r), .none], [s0, .val (rowsD rs ts), .val (.int (d : Nat)), .val v, .none, .none, .none, .none, .val (rowD r), .none], rfl, ?_, rfl, fun _ => ⟨[s0, .val (rowsD rs ts), .val (.int (d : Nat)), .val v, .none, .none, .none, .none, .val (rowD r), .none], ?_, rfl⟩⟩
    · have i1 : idxop (rowD r) (.int 1) = some (.int r.2.1) := idx_t (k := 1) rfl rfl
      have hpk : pk (rowD r) = (decide (0 < d) || decide ((r.2.1 : Int) = 0)) := rfl
      rw [hpk]
      by_cases h : 0 < d
      · have c1 : ((0 : Int) < (d : Int)) = True := eq_true (by omega)
        have c2 : decide (0 < d) = true := decide_eq_true h
        simp -implicitDefEqProofs only [Iv.exs_K, Iv.imm_K, Iv.test_K, ↓Iv.k_var, ↓Iv.k_int, ↓Iv.k_str, ↓Iv.k_bl, ↓Iv.k_non, ↓Iv.k_tup, ↓Iv.k_lst, ↓Iv.k_dct, ↓Iv.k_bin, ↓Iv.k_neg, ↓Iv.k_cmp, ↓Iv.k_cmp2, ↓Iv.k_rev, ↓Iv.k_and, ↓Iv.k_or, ↓Iv.k_not, ↓Iv.k_ite, ↓Iv.k_idx, ↓Iv.k_slc, ↓Iv.k_slf, ↓Iv.k_slt, ↓Iv.k_call, ↓Iv.k_blt, ↓Iv.k_isi, ↓Iv.k_comp, ↓Iv.k_nil, ↓Iv.k_cons, ↓Iv.k_seq, ↓Iv.k_rng1, ↓Iv.k_expr, ↓Iv.k_aite, ↓Iv.k_for, ↓Iv.k_whl, ↓Iv.k_retN, ↓Iv.k_pass, ↓Iv.k_brk, ↓Iv.k_cont, ↓Iv.k_frz, ↓Iv.k_mth, ↓Iv.k_mut, ↓Iv.k_scons, ↓Iv.k_snil, ↓Iv.k_asg, ↓Iv.k_par, ↓Iv.k_set, ↓Iv.k_ret, ↓Iv.k_aug, ↓Iv.k_enm, ↓Iv.k_rng2, ↓Iv.look_0, ↓Iv.look_s, ↓Iv.onS_v, ↓Iv.onS_o, ↓Iv.ownK_o, ↓Iv.valK_v, ↓Iv.asV_i, ↓Iv.asB_i, ↓Iv.asN_i, ↓Iv.dsK_v, ↓Iv.dsK_o, ↓Iv.drK_i, ↓Iv.drK_s, ↓Iv.immsK_0, ↓Iv.immsK_i, ↓Iv.dersK_0, ↓Iv.dersK_c, ↓Iv.argsK_0, ↓Iv.argsK_i, ↓Iv.argsK_s, ↓Iv.getO_0, ↓Iv.getO_s, ↓Iv.outK_go, ↓Iv.goO_0, ↓Iv.goO_i, ↓Iv.goO_s, ↓Iv.putS_0, ↓Iv.putS_s, ↓Iv.setK_z, ↓Iv.setK_v, ↓Iv.setK_n, ↓Iv.setK_ss, ↓Iv.setK_0s, ↓Iv.frK_v, ↓Iv.frK_o, ↓Iv.frK_ss, ↓Iv.frK_0s, ↓Iv.setsK_0, ↓Iv.setsK_c, ↓Iv.tgK_v, ↓Iv.tgK_w, ↓Iv.tgK_t, ↓Iv.tgK_2, ↓Iv.tgK_p, ↓Iv.tgK_2p, ↓Iv.asgK_f, ↓Iv.asgK_v, ↓Iv.asgK_w, ↓Iv.asgK_t, ↓Iv.asgK_2, ↓Iv.retK_i, ↓Iv.retK_s, ↓Iv.add_i, ↓Iv.sub_i, ↓Iv.eq_i, ↓Iv.len_t, ↓Iv.len_l, ↓Iv.it_t, ↓Iv.it_l, ↓Iv.it_r, ↓Iv.ne_i, ↓Iv.lt_i, ↓Iv.le_i, ↓Iv.gt_i, ↓Iv.ge_i, ↓reduceIte, Bool.false_eq_true, Nat.reduceLeDiff, Nat.zero_le, Iv.slotsOf, Iv.nodupN, List.contains_nil, Bool.not_false, Bool.not_true, Bool.and_true, Bool.true_and, Bool.and_false, Bool.false_and, decide_true, decide_false, List.replicate, List.cons_append, List.nil_append, List.length_cons, List.length_nil, Nat.reduceAdd, Nat.reduceSub, l_drawn_term_i0, c1, c2, Bool.true_or]
      · have c1 : ((0 : Int) < (d : Int)) = False := eq_false (by omega)
        have c2 : decide (0 < d) = false := decide_eq_false h
        simp -implicitDefEqProofs only [Iv.exs_K, Iv.imm_K, Iv.test_K, ↓Iv.k_var, ↓Iv.k_int, ↓Iv.k_str, ↓Iv.k_bl, ↓Iv.k_non, ↓Iv.k_tup, ↓Iv.k_lst, ↓Iv.k_dct, ↓Iv.k_bin, ↓Iv.k_neg, ↓Iv.k_cmp, ↓Iv.k_cmp2, ↓Iv.k_rev, ↓Iv.k_and, ↓Iv.k_or, ↓Iv.k_not, ↓Iv.k_ite, ↓Iv.k_idx, ↓Iv.k_slc, ↓Iv.k_slf, ↓Iv.k_slt, ↓Iv.k_call, ↓Iv.k_blt, ↓Iv.k_isi, ↓Iv.k_comp, ↓Iv.k_nil, ↓Iv.k_cons, ↓Iv.k_seq, ↓Iv.k_rng1, ↓Iv.k_expr, ↓Iv.k_aite, ↓Iv.k_for, ↓Iv.k_whl, ↓Iv.k_retN, ↓Iv.k_pass, ↓Iv.k_brk, ↓Iv.k_cont, ↓Iv.k_frz, ↓Iv.k_mth, ↓Iv.k_mut, ↓Iv.k_scons, ↓Iv.k_snil, ↓Iv.k_asg, ↓Iv.k_par, ↓Iv.k_set, ↓Iv.k_ret, ↓Iv.k_aug, ↓Iv.k_enm, ↓Iv.k_rng2, ↓Iv.look_0, ↓Iv.look_s, ↓Iv.onS_v, ↓Iv.onS_o, ↓Iv.ownK_o, ↓Iv.valK_v, ↓Iv.asV_i, ↓Iv.asB_i, ↓Iv.asN_i, ↓Iv.dsK_v, ↓Iv.dsK_o, ↓Iv.drK_i, ↓Iv.drK_s, ↓Iv.immsK_0, ↓Iv.immsK_i, ↓Iv.dersK_0, ↓Iv.dersK_c, ↓Iv.argsK_0, ↓Iv.argsK_i, ↓Iv.argsK_s, ↓Iv.getO_0, ↓Iv.getO_s, ↓Iv.outK_go, ↓Iv.goO_0, ↓Iv.goO_i, ↓Iv.goO_s, ↓Iv.putS_0, ↓Iv.putS_s, ↓Iv.setK_z, ↓Iv.setK_v, ↓Iv.setK_n, ↓Iv.setK_ss, ↓Iv.setK_0s, ↓Iv.frK_v, ↓Iv.frK_o, ↓Iv.frK_ss, ↓Iv.frK_0s, ↓Iv.setsK_0, ↓Iv.setsK_c, ↓Iv.tgK_v, ↓Iv.tgK_w, ↓Iv.tgK_t, ↓Iv.tgK_2, ↓Iv.tgK_p, ↓Iv.tgK_2p, ↓Iv.asgK_f, ↓Iv.asgK_v, ↓Iv.asgK_w, ↓Iv.asgK_t, ↓Iv.asgK_2, ↓Iv.retK_i, ↓Iv.retK_s, ↓Iv.add_i, ↓Iv.sub_i, ↓Iv.eq_i, ↓Iv.len_t, ↓Iv.len_l, ↓Iv.it_t, ↓Iv.it_l, ↓Iv.it_r, ↓Iv.ne_i, ↓Iv.lt_i, ↓Iv.le_i, ↓Iv.gt_i, ↓Iv.ge_i, ↓reduceIte, Bool.false_eq_true, Nat.reduceLeDiff, Nat.zero_le, Iv.slotsOf, Iv.nodupN, List.contains_nil, Bool.not_false, Bool.not_true, Bool.and_true, Bool.true_and, Bool.and_false, Bool.false_and, decide_true, decide_false, List.replicate, List.cons_append, List.nil_append, List.length_cons, List.length_nil, Nat.reduceAdd, Nat.reduceSub, l_drawn_term_i0, c1, c2, ↓bk i1, Bool.false_or]
    · simp -implicitDefEqProofs only [Iv.exs_K, Iv.imm_K, Iv.test_K, ↓Iv.k_var, ↓Iv.k_int, ↓Iv.k_str, ↓Iv.k_bl, ↓Iv.k_non, ↓Iv.k_tup, ↓Iv.k_lst, ↓Iv.k_dct, ↓Iv.k_bin, ↓Iv.k_neg, ↓Iv.k_cmp, ↓Iv.k_cmp2, ↓Iv.k_rev, ↓Iv.k_and, ↓Iv.k_or, ↓Iv.k_not, ↓Iv.k_ite, ↓Iv.k_idx, ↓Iv.k_slc, ↓Iv.k_slf, ↓Iv.k_slt, ↓Iv.k_call, ↓Iv.k_blt, ↓Iv.k_isi, ↓Iv.k_comp, ↓Iv.k_nil, ↓Iv.k_cons, ↓Iv.k_seq, ↓Iv.k_rng1, ↓Iv.k_expr, ↓Iv.k_aite, ↓Iv.k_for, ↓Iv.k_whl, ↓Iv.k_retN, ↓Iv.k_pass, ↓Iv.k_brk, ↓Iv.k_cont, ↓Iv.k_frz, ↓Iv.k_mth, ↓Iv.k_mut, ↓Iv.k_scons, ↓Iv.k_snil, ↓Iv.k_asg, ↓Iv.k_par, ↓Iv.k_set, ↓Iv.k_ret, ↓Iv.k_aug, ↓Iv.k_enm, ↓Iv.k_rng2, ↓Iv.look_0, ↓Iv.look_s, ↓Iv.onS_v, ↓Iv.onS_o, ↓Iv.ownK_o, ↓Iv.valK_v, ↓Iv.asV_i, ↓Iv.asB_i, ↓Iv.asN_i, ↓Iv.dsK_v, ↓Iv.dsK_o, ↓Iv.drK_i, ↓Iv.drK_s, ↓Iv.immsK_0, ↓Iv.immsK_i, ↓Iv.dersK_0, ↓Iv.dersK_c, ↓Iv.argsK_0, ↓Iv.argsK_i, ↓Iv.argsK_s, ↓Iv.getO_0, ↓Iv.getO_s, ↓Iv.outK_go, ↓Iv.goO_0, ↓Iv.goO_i, ↓Iv.goO_s, ↓Iv.putS_0, ↓Iv.putS_s, ↓Iv.setK_z, ↓Iv.setK_v, ↓Iv.setK_n, ↓Iv.setK_ss, ↓Iv.setK_0s, ↓Iv.frK_v, ↓Iv.frK_o, ↓Iv.frK_ss, ↓Iv.frK_0s, ↓Iv.setsK_0, ↓Iv.setsK_c, ↓Iv.tgK_v, ↓Iv.tgK_w, ↓Iv.tgK_t, ↓Iv.tgK_2, ↓Iv.tgK_p, ↓Iv.tgK_2p, ↓Iv.asgK_f, ↓Iv.asgK_v, ↓Iv.asgK_w, ↓Iv.asgK_t, ↓Iv.asgK_2, ↓Iv.retK_i, ↓Iv.retK_s, ↓Iv.add_i, ↓Iv.sub_i, ↓Iv.eq_i, ↓Iv.len_t, ↓Iv.len_l, ↓Iv.it_t, ↓Iv.it_l, ↓Iv.it_r, ↓Iv.ne_i, ↓Iv.lt_i, ↓Iv.le_i, ↓Iv.gt_i, ↓Iv.ge_i, ↓reduceIte, Bool.false_eq_true, Nat.reduceLeDiff, Nat.zero_le, Iv.slotsOf, Iv.nodupN, List.contains_nil, Bool.not_false, Bool.not_true, Bool.and_true, Bool.true_and, Bool.and_false, Bool.false_and, decide_true, decide_false, List.replicate, List.cons_append, List.nil_append, List.length_cons, List.length_nil, Nat.reduceAdd, Nat.reduceSub, l_drawn_term_e0, id]
  refine ⟨ρ', ?_, back_same w⟩
  rw [e, List.map_id, List.filter_map]
  congr 3
  refine congrArg (fun f => List.filter f rs) ?_
  funext r
  show (decide (0 < d) || decide ((r.2.1 : Int) = 0)) = (decide (0 < d) || decide (r.2.1 = 0))
  congr 1
  simp

/-! drawn terms with variables -/
def tB : Nat → Nat
  | 0 => 1
  | d + 1 => 1 + 2 * tB d
def tC : Nat → Nat
  | 0 => 2
  | d + 1 => 2 + 2 * tC d
theorem tC_pos : ∀ d, 2 ≤ tC d
  | 0 => Nat.le_refl _
  | d + 1 => by simp only [tC]; omega
theorem tB_pos : ∀ d, 1 ≤ tB d
  | 0 => Nat.le_refl _
  | d + 1 => by simp only [tB]; omega
structure DT (d : Nat) (t : T) : Prop where
  k : ok t
  h : ht t ≤ d + 1
  z : sz t ≤ tB d
theorem DT_mk {d : Nat} {x : Str} {us : List T} (hx : PyData.canLay0 (.str x) = true) (hx2 : x.length ≤ 4) (hl : us.length ≤ 2) (h : ∀ t ∈ us, DT d t) : DT (d + 1) (.f x us) := by
  refine ⟨?_, ?_, ?_⟩
  · rw [ok]
    exact ⟨hx, hx2, by omega, oks_iff.mpr fun t ht => (h t ht).k⟩
  · rw [ht]
    have := hts_le (ts := us) (b := d + 1) fun t ht => (h t ht).h
    omega
  · rw [sz, tB]
    have h1 := szs_le (ts := us) (b := tB d) fun t ht => (h t ht).z
    have h2 := Nat.mul_le_mul_right (tB d) hl
    omega
theorem DT_leaf {d : Nat} {x : Str} (hx : PyData.canLay0 (.str x) = true) (hx2 : x.length ≤ 4) : DT d (.f x []) := by
  refine ⟨?_, ?_, ?_⟩
  · rw [ok]
    exact ⟨hx, hx2, Nat.zero_le _, trivial⟩
  · show 1 + 0 ≤ d + 1
    omega
  · show 1 + 0 ≤ tB d
    have := tB_pos d
    omega
theorem DT_var {d i : Nat} (hi : i < 100000) : DT d (.v i) := ⟨hi, Nat.zero_le _, tB_pos d⟩
theorem map_ofT {α : Type} {f : α → D} {P : α → Prop} : ∀ {xs : List D}, (∀ x ∈ xs, ∃ e, x = f e ∧ P e) → ∃ es : List α, xs = es.map f ∧ ∀ e ∈ es, P e
  | [], _ => ⟨[], rfl, fun _ z => (by cases z)⟩
  | x :: xs, h => by
    obtain ⟨e, rfl, he⟩ := h x (by simp)
    obtain ⟨es, rfl, hes⟩ := map_ofT (xs := xs) fun y hy => h y (by simp [hy])
    exact ⟨e :: es, rfl, fun y hy => by
      rcases List.mem_cons.mp hy with z | z
      · rw [z]; exact he
      · exact hes y z⟩
section
variable (rs ts : List (Str × Nat × Nat))
theorem rest_run (hrs : RowsOk rs) (nv d m K : Nat) (P : T → Prop)
    (H : ∀ (r : Str × Nat × Nat), r ∈ rs → okRow d r = true → ∀ (N : Nat) (q : D) (s4 s5 s6 s7 s8 : Slot), PenOk N q → N + K < 1000000000000000 →
      Tot (cmpS 4 (run tab (m + 2)) [9] (.v 9) .nil l_drawn_term_e1 (rngD 0 (r.2.1 : Int)) [.own q, .val (rowsD rs ts), .val (.int (d : Nat)), .val (.int (nv : Nat)), s4, s5, s6, s7, s8, .none]) fun z =>
        ∃ us : List T, z.1 = us.map enc ∧ us.length = r.2.1 ∧ (∀ u ∈ us, P u) ∧ ∃ q', PenOk (N + K) q' ∧ z.2 = [.own q', .val (rowsD rs ts), .val (.int (d : Nat)), .val (.int (nv : Nat)), s4, s5, s6, s7, s8, .none])
    (N : Nat) (p : D) (hp : PenOk N p) (hN : N + 1 + K < 1000000000000000) :
    Tot (exsK 4 whileFuel (run tab (m + 2)) (tailS l_drawn_term_s) [.own p, .val (rowsD rs ts), .val (.int (d : Nat)), .val (.int (nv : Nat)), .none, .none, .none, .none, .none, .none] (endK 4)) fun z =>
      ∃ (r : Str × Nat × Nat) (us : List T) (p' : D), r ∈ rs ∧ us.length = r.2.1 ∧ (∀ u ∈ us, P u) ∧ PenOk (N + 1 + K) p' ∧ z = (false, enc (.f r.1 us), [.own p', .val (rowsD rs ts), .val (.int (d : Nat)), .val (.int (nv : Nat))]) := by
  obtain ⟨ρ1, e1, b1⟩ := some_run (m + 2) rs ts d (.own p) (.int (nv : Nat))
  have e1' : cmpS 4 (run tab (m + 2)) [8] (.v 8) l_drawn_term_i0 l_drawn_term_e0 (rs.map rowD) [.own p, .val (rowsD rs ts), .val (.int (d : Nat)), .val (.int (nv : Nat)), .none, .none, .none, .none, .none, .none] = some ((rs.filter (okRow d)).map rowD, [.own p, .val (rowsD rs ts), .val (.int (d : Nat)), .val (.int (nv : Nat)), .none, .none, .none, .none, .none, .none]) := by
    unfold cmpS
    rw [e1]
    simp only [Option.bind_some, b1]
  have hne : 0 < ((rs.filter (okRow d)).map rowD).length := by
    obtain ⟨r, hr, h0⟩ := hrs.one
    have : r ∈ rs.filter (okRow d) := List.mem_filter.mpr ⟨hr, by simp [okRow, h0]⟩
    rw [List.length_map]
    exact List.length_pos_of_mem this
  have hlen : ((rs.filter (okRow d)).map rowD).length ≤ 1000 := by
    rw [List.length_map]
    exact Nat.le_trans (List.length_filter_le _ _) hrs.len
  obtain ⟨x, p1, hx, hp1, ep⟩ := pick_run m N (.inl rfl) hp (by omega) hne (by omega)
  obtain ⟨r, hr, rfl⟩ := List.mem_map.mp hx
  obtain ⟨hr1, hr2⟩ := List.mem_filter.mp hr
  have hr3 := (hrs.all r hr1).2
  have i0 : idxop (rowsD rs ts) (.int 0) = some (.tup (rs.map rowD)) := idx_t (k := 0) rfl rfl
  have c1 := size_ok (n := (rs.map rowD).length) (by rw [List.length_map]; have := hrs.len; omega)
  have rd : rowD r = .tup [.str r.1, .int r.2.1, .int r.2.2] := rfl
  have c2 : (-(2 ^ 62) ≤ (r.2.1 : Int) ∧ (r.2.1 : Int) < 2 ^ 62) = True := eq_true (by omega)
  have c3 := size_ok (n := (rngD 0 (r.2.1 : Int)).length) (by rw [rng_len]; omega)
  simp -implicitDefEqProofs only [↓Iv.k_var, ↓Iv.k_int, ↓Iv.k_str, ↓Iv.k_bl, ↓Iv.k_non, ↓Iv.k_tup, ↓Iv.k_lst, ↓Iv.k_dct, ↓Iv.z_bin, ↓Iv.k_neg, ↓Iv.z_cmp, ↓Iv.z_cmp2, ↓Iv.z_rev, ↓Iv.z_and, ↓Iv.z_or, ↓Iv.k_not, ↓Iv.z_ite, ↓Iv.z_idx, ↓Iv.z_slc, ↓Iv.z_slf, ↓Iv.z_slt, ↓Iv.z_call, ↓Iv.z_blt, ↓Iv.z_isi, ↓Iv.z_comp, ↓Iv.k_nil, ↓Iv.k_cons, ↓Iv.z_seq, ↓Iv.z_rng1, ↓Iv.k_expr, ↓Iv.z_aite, ↓Iv.z_for, ↓Iv.z_whl, ↓Iv.k_retN, ↓Iv.k_pass, ↓Iv.k_brk, ↓Iv.k_cont, ↓Iv.k_frz, ↓Iv.z_mth, ↓Iv.z_mut, ↓Iv.k_scons, ↓Iv.k_snil, ↓Iv.k_asg, ↓Iv.k_par, ↓Iv.z_set, ↓Iv.k_ret, ↓Iv.z_aug, ↓Iv.z_enm, ↓Iv.z_rng2, ↓Iv.look_0, ↓Iv.look_s, ↓Iv.onS_v, ↓Iv.onS_o, ↓Iv.ownK_o, ↓Iv.valK_v, ↓Iv.asV_i, ↓Iv.asB_i, ↓Iv.asN_i, ↓Iv.dsK_v, ↓Iv.dsK_o, ↓Iv.drK_i, ↓Iv.drK_s, ↓Iv.immsK_0, ↓Iv.immsK_i, ↓Iv.dersK_0, ↓Iv.dersK_c, ↓Iv.argsK_0, ↓Iv.argsK_i, ↓Iv.argsK_s, ↓Iv.getO_0, ↓Iv.getO_s, ↓Iv.outK_go, ↓Iv.goO_0, ↓Iv.goO_i, ↓Iv.goO_s, ↓Iv.putS_0, ↓Iv.putS_s, ↓Iv.setK_z, ↓Iv.setK_v, ↓Iv.setK_n, ↓Iv.setK_ss, ↓Iv.setK_0s, ↓Iv.frK_v, ↓Iv.frK_o, ↓Iv.frK_ss, ↓Iv.frK_0s, ↓Iv.setsK_0, ↓Iv.setsK_c, ↓Iv.tgK_v, ↓Iv.tgK_w, ↓Iv.tgK_t, ↓Iv.tgK_2, ↓Iv.tgK_p, ↓Iv.tgK_2p, ↓Iv.asgK_f, ↓Iv.asgK_v, ↓Iv.asgK_w, ↓Iv.asgK_t, ↓Iv.asgK_2, ↓Iv.retK_i, ↓Iv.retK_s, ↓Iv.bkz_some, ↓Iv.cnd_t, ↓Iv.cnd_f, ↓Iv.endK_ret, ↓Iv.endK_next, ↓Iv.za_i, ↓Iv.zs_i, ↓Iv.zeq_i, ↓Iv.zne_i, ↓Iv.zlt_i, ↓Iv.zle_i, ↓Iv.zgt_i, ↓Iv.zge_i, ↓Iv.zeq_s, ↓Iv.zne_s, ↓Iv.zeq_b, ↓Iv.zne_b, ↓Iv.zlen_t, ↓Iv.zlen_l, ↓Iv.zlen_r, ↓Iv.zlen_d, ↓Iv.ztup_l, ↓Iv.ztup_t, ↓Iv.zlst_l, ↓Iv.zlst_t, ↓Iv.zlst_r, ↓Iv.zzip_t, ↓Iv.zzip_l, ↓Iv.zint_i, ↓Iv.zint_b, ↓Iv.zit_t, ↓Iv.zit_l, ↓Iv.zit_r, ↓Iv.zslc_t, ↓Iv.zslc_l, ↓Iv.zrev_t, ↓Iv.zrev_l, ↓Iv.zaug_a, ↓Iv.zaug_s, ↓Iv.zisn, ↓Iv.znotn, ↓Iv.zadd_l, ↓Iv.zadd_t, ↓Iv.zapp_l, ↓Iv.ty_ll, ↓Iv.ty_dd, ↓Iv.zfor_nil, ↓Iv.zty_i, ↓Iv.zty_ib, ↓Iv.zty_is, ↓Iv.zty_it, ↓Iv.zty_il, ↓Iv.zty_bi, ↓Iv.zty_bb, ↓Iv.zty_bs, ↓Iv.zty_bt, ↓Iv.zty_bl, ↓Iv.zty_si, ↓Iv.zty_sb, ↓Iv.zty_ss, ↓Iv.zty_st, ↓Iv.zty_sl, ↓Iv.zty_ti, ↓Iv.zty_tb, ↓Iv.zty_ts, ↓Iv.zty_tt, ↓Iv.zty_tl, ↓Iv.zty_li, ↓Iv.zty_lb, ↓Iv.zty_ls, ↓Iv.zty_lt, ↓Iv.zty_ll, ↓Iv.zty_ni, ↓Iv.zty_nb, ↓Iv.zty_ns, ↓Iv.zty_nt, ↓Iv.zty_nl, ↓Iv.zty_di, ↓Iv.zty_db, ↓Iv.zty_ds, ↓Iv.zty_dt, ↓Iv.zty_dl, ↓Iv.quiet_0, ↓Iv.quiet_s, ↓Iv.qS_v, ↓Iv.qS_n, ↓Iv.qS_s, ↓reduceIte, Bool.false_eq_true, Nat.reduceLeDiff, Nat.zero_le, Iv.slotsOf, Iv.nodupN, List.contains_nil, Bool.not_false, Bool.not_true, Bool.and_true, Bool.true_and, Bool.and_false, Bool.false_and, decide_true, decide_false, List.replicate, List.cons_append, List.nil_append, List.length_cons, List.length_nil, Nat.reduceAdd, Nat.reduceSub, List.contains_cons, Nat.reduceBeqDiff, Nat.reduceEqDiff, Bool.or_false, Bool.false_or, Bool.or_true, Bool.true_or, List.take_succ_cons, List.take_zero, l_drawn_term_s, tailS, ↓bkz i0, c1, ↓bkz e1', ↓bkz ep, rd, c2, c3]
  refine Tot.bnd (H r hr1 hr2 (N + 1) p1 _ _ _ _ _ hp1 (by omega)) ?_
  rintro ⟨xs, ρ⟩ ⟨us, rfl, hl, hP, q, hq, rfl⟩
  have a1 := add_t (xs := [.str r.1]) (ys := us.map enc) (by rw [List.length_map]; simp only [List.length_cons, List.length_nil]; omega)
  simp -implicitDefEqProofs only [↓Iv.k_var, ↓Iv.k_int, ↓Iv.k_str, ↓Iv.k_bl, ↓Iv.k_non, ↓Iv.k_tup, ↓Iv.k_lst, ↓Iv.k_dct, ↓Iv.z_bin, ↓Iv.k_neg, ↓Iv.z_cmp, ↓Iv.z_cmp2, ↓Iv.z_rev, ↓Iv.z_and, ↓Iv.z_or, ↓Iv.k_not, ↓Iv.z_ite, ↓Iv.z_idx, ↓Iv.z_slc, ↓Iv.z_slf, ↓Iv.z_slt, ↓Iv.z_call, ↓Iv.z_blt, ↓Iv.z_isi, ↓Iv.z_comp, ↓Iv.k_nil, ↓Iv.k_cons, ↓Iv.z_seq, ↓Iv.z_rng1, ↓Iv.k_expr, ↓Iv.z_aite, ↓Iv.z_for, ↓Iv.z_whl, ↓Iv.k_retN, ↓Iv.k_pass, ↓Iv.k_brk, ↓Iv.k_cont, ↓Iv.k_frz, ↓Iv.z_mth, ↓Iv.z_mut, ↓Iv.k_scons, ↓Iv.k_snil, ↓Iv.k_asg, ↓Iv.k_par, ↓Iv.z_set, ↓Iv.k_ret, ↓Iv.z_aug, ↓Iv.z_enm, ↓Iv.z_rng2, ↓Iv.look_0, ↓Iv.look_s, ↓Iv.onS_v, ↓Iv.onS_o, ↓Iv.ownK_o, ↓Iv.valK_v, ↓Iv.asV_i, ↓Iv.asB_i, ↓Iv.asN_i, ↓Iv.dsK_v, ↓Iv.dsK_o, ↓Iv.drK_i, ↓Iv.drK_s, ↓Iv.immsK_0, ↓Iv.immsK_i, ↓Iv.dersK_0, ↓Iv.dersK_c, ↓Iv.argsK_0, ↓Iv.argsK_i, ↓Iv.argsK_s, ↓Iv.getO_0, ↓Iv.getO_s, ↓Iv.outK_go, ↓Iv.goO_0, ↓Iv.goO_i, ↓Iv.goO_s, ↓Iv.putS_0, ↓Iv.putS_s, ↓Iv.setK_z, ↓Iv.setK_v, ↓Iv.setK_n, ↓Iv.setK_ss, ↓Iv.setK_0s, ↓Iv.frK_v, ↓Iv.frK_o, ↓Iv.frK_ss, ↓Iv.frK_0s, ↓Iv.setsK_0, ↓Iv.setsK_c, ↓Iv.tgK_v, ↓Iv.tgK_w, ↓Iv.tgK_t, ↓Iv.tgK_2, ↓Iv.tgK_p, ↓Iv.tgK_2p, ↓Iv.asgK_f, ↓Iv.asgK_v, ↓Iv.asgK_w, ↓Iv.asgK_t, ↓Iv.asgK_2, ↓Iv.retK_i, ↓Iv.retK_s, ↓Iv.bkz_some, ↓Iv.cnd_t, ↓Iv.cnd_f, ↓Iv.endK_ret, ↓Iv.endK_next, ↓Iv.za_i, ↓Iv.zs_i, ↓Iv.zeq_i, ↓Iv.zne_i, ↓Iv.zlt_i, ↓Iv.zle_i, ↓Iv.zgt_i, ↓Iv.zge_i, ↓Iv.zeq_s, ↓Iv.zne_s, ↓Iv.zeq_b, ↓Iv.zne_b, ↓Iv.zlen_t, ↓Iv.zlen_l, ↓Iv.zlen_r, ↓Iv.zlen_d, ↓Iv.ztup_l, ↓Iv.ztup_t, ↓Iv.zlst_l, ↓Iv.zlst_t, ↓Iv.zlst_r, ↓Iv.zzip_t, ↓Iv.zzip_l, ↓Iv.zint_i, ↓Iv.zint_b, ↓Iv.zit_t, ↓Iv.zit_l, ↓Iv.zit_r, ↓Iv.zslc_t, ↓Iv.zslc_l, ↓Iv.zrev_t, ↓Iv.zrev_l, ↓Iv.zaug_a, ↓Iv.zaug_s, ↓Iv.zisn, ↓Iv.znotn, ↓Iv.zadd_l, ↓Iv.zadd_t, ↓Iv.zapp_l, ↓Iv.ty_ll, ↓Iv.ty_dd, ↓Iv.zfor_nil, ↓Iv.zty_i, ↓Iv.zty_ib, ↓Iv.zty_is, ↓Iv.zty_it, ↓Iv.zty_il, ↓Iv.zty_bi, ↓Iv.zty_bb, ↓Iv.zty_bs, ↓Iv.zty_bt, ↓Iv.zty_bl, ↓Iv.zty_si, ↓Iv.zty_sb, ↓Iv.zty_ss, ↓Iv.zty_st, ↓Iv.zty_sl, ↓Iv.zty_ti, ↓Iv.zty_tb, ↓Iv.zty_ts, ↓Iv.zty_tt, ↓Iv.zty_tl, ↓Iv.zty_li, ↓Iv.zty_lb, ↓Iv.zty_ls, ↓Iv.zty_lt, ↓Iv.zty_ll, ↓Iv.zty_ni, ↓Iv.zty_nb, ↓Iv.zty_ns, ↓Iv.zty_nt, ↓Iv.zty_nl, ↓Iv.zty_di, ↓Iv.zty_db, ↓Iv.zty_ds, ↓Iv.zty_dt, ↓Iv.zty_dl, ↓Iv.quiet_0, ↓Iv.quiet_s, ↓Iv.qS_v, ↓Iv.qS_n, ↓Iv.qS_s, ↓reduceIte, Bool.false_eq_true, Nat.reduceLeDiff, Nat.zero_le, Iv.slotsOf, Iv.nodupN, List.contains_nil, Bool.not_false, Bool.not_true, Bool.and_true, Bool.true_and, Bool.and_false, Bool.false_and, decide_true, decide_false, List.replicate, List.cons_append, List.nil_append, List.length_cons, List.length_nil, Nat.reduceAdd, Nat.reduceSub, List.contains_cons, Nat.reduceBeqDiff, Nat.reduceEqDiff, Bool.or_false, Bool.false_or, Bool.or_true, Bool.true_or, List.take_succ_cons, List.take_zero, ↓bkz a1]
  exact Tot.ret ⟨r, us, q, hr1, hl, hP, hq, by rw [enc, encs_map]⟩
theorem var_branch (nv d m N : Nat) (hnv : nv ≤ 1000) (p : D) (hp : PenOk N p) (hN : N + 2 < 1000000000000000) (Q : Bool × D × Sl → Prop)
    (rest : ∀ (M : Nat) (q : D), M ≤ N + 1 → PenOk M q → Tot (exsK 4 whileFuel (run tab (m + 2)) (tailS l_drawn_term_s) [.own q, .val (rowsD rs ts), .val (.int (d : Nat)), .val (.int (nv : Nat)), .none, .none, .none, .none, .none, .none] (endK 4)) Q)
    (fin : ∀ (i : Nat) (q : D), i < nv → PenOk (N + 2) q → Q (false, enc (.v i), [.own q, .val (rowsD rs ts), .val (.int (d : Nat)), .val (.int (nv : Nat))])) :
    Tot (run tab (m + 3) f_l_drawn_term [.own p, .val (rowsD rs ts), .val (.int (d : Nat)), .val (.int (nv : Nat))]) Q := by
  refine run_tot (F := l_drawn_term_f) rfl rfl ?_
  show Tot (exsK 4 whileFuel (run tab (m + 2)) (.cons (headS l_drawn_term_s) (tailS l_drawn_term_s)) [.own p, .val (rowsD rs ts), .val (.int (d : Nat)), .val (.int (nv : Nat)), .none, .none, .none, .none, .none, .none] (endK 4)) _
  generalize tailS l_drawn_term_s = R at rest ⊢
  simp -implicitDefEqProofs only [↓Iv.k_var, ↓Iv.k_int, ↓Iv.k_str, ↓Iv.k_bl, ↓Iv.k_non, ↓Iv.k_tup, ↓Iv.k_lst, ↓Iv.k_dct, ↓Iv.z_bin, ↓Iv.k_neg, ↓Iv.z_cmp, ↓Iv.z_cmp2, ↓Iv.z_rev, ↓Iv.z_and, ↓Iv.z_or, ↓Iv.k_not, ↓Iv.z_ite, ↓Iv.z_idx, ↓Iv.z_slc, ↓Iv.z_slf, ↓Iv.z_slt, ↓Iv.z_call, ↓Iv.z_blt, ↓Iv.z_isi, ↓Iv.z_comp, ↓Iv.k_nil, ↓Iv.k_cons, ↓Iv.z_seq, ↓Iv.z_rng1, ↓Iv.k_expr, ↓Iv.z_aite, ↓Iv.z_for, ↓Iv.z_whl, ↓Iv.k_retN, ↓Iv.k_pass, ↓Iv.k_brk, ↓Iv.k_cont, ↓Iv.k_frz, ↓Iv.z_mth, ↓Iv.z_mut, ↓Iv.k_scons, ↓Iv.k_snil, ↓Iv.k_asg, ↓Iv.k_par, ↓Iv.z_set, ↓Iv.k_ret, ↓Iv.z_aug, ↓Iv.z_enm, ↓Iv.z_rng2, ↓Iv.look_0, ↓Iv.look_s, ↓Iv.onS_v, ↓Iv.onS_o, ↓Iv.ownK_o, ↓Iv.valK_v, ↓Iv.asV_i, ↓Iv.asB_i, ↓Iv.asN_i, ↓Iv.dsK_v, ↓Iv.dsK_o, ↓Iv.drK_i, ↓Iv.drK_s, ↓Iv.immsK_0, ↓Iv.immsK_i, ↓Iv.dersK_0, ↓Iv.dersK_c, ↓Iv.argsK_0, ↓Iv.argsK_i, ↓Iv.argsK_s, ↓Iv.getO_0, ↓Iv.getO_s, ↓Iv.outK_go, ↓Iv.goO_0, ↓Iv.goO_i, ↓Iv.goO_s, ↓Iv.putS_0, ↓Iv.putS_s, ↓Iv.setK_z, ↓Iv.setK_v, ↓Iv.setK_n, ↓Iv.setK_ss, ↓Iv.setK_0s, ↓Iv.frK_v, ↓Iv.frK_o, ↓Iv.frK_ss, ↓Iv.frK_0s, ↓Iv.setsK_0, ↓Iv.setsK_c, ↓Iv.tgK_v, ↓Iv.tgK_w, ↓Iv.tgK_t, ↓Iv.tgK_2, ↓Iv.tgK_p, ↓Iv.tgK_2p, ↓Iv.asgK_f, ↓Iv.asgK_v, ↓Iv.asgK_w, ↓Iv.asgK_t, ↓Iv.asgK_2, ↓Iv.retK_i, ↓Iv.retK_s, ↓Iv.bkz_some, ↓Iv.cnd_t, ↓Iv.cnd_f, ↓Iv.endK_ret, ↓Iv.endK_next, ↓Iv.za_i, ↓Iv.zs_i, ↓Iv.zeq_i, ↓Iv.zne_i, ↓Iv.zlt_i, ↓Iv.zle_i, ↓Iv.zgt_i, ↓Iv.zge_i, ↓Iv.zeq_s, ↓Iv.zne_s, ↓Iv.zeq_b, ↓Iv.zne_b, ↓Iv.zlen_t, ↓Iv.zlen_l, ↓Iv.zlen_r, ↓Iv.zlen_d, ↓Iv.ztup_l, ↓Iv.ztup_t, ↓Iv.zlst_l, ↓Iv.zlst_t, ↓Iv.zlst_r, ↓Iv.zzip_t, ↓Iv.zzip_l, ↓Iv.zint_i, ↓Iv.zint_b, ↓Iv.zit_t, ↓Iv.zit_l, ↓Iv.zit_r, ↓Iv.zslc_t, ↓Iv.zslc_l, ↓Iv.zrev_t, ↓Iv.zrev_l, ↓Iv.zaug_a, ↓Iv.zaug_s, ↓Iv.zisn, ↓Iv.znotn, ↓Iv.zadd_l, ↓Iv.zadd_t, ↓Iv.zapp_l, ↓Iv.ty_ll, ↓Iv.ty_dd, ↓Iv.zfor_nil, ↓Iv.zty_i, ↓Iv.zty_ib, ↓Iv.zty_is, ↓Iv.zty_it, ↓Iv.zty_il, ↓Iv.zty_bi, ↓Iv.zty_bb, ↓Iv.zty_bs, ↓Iv.zty_bt, ↓Iv.zty_bl, ↓Iv.zty_si, ↓Iv.zty_sb, ↓Iv.zty_ss, ↓Iv.zty_st, ↓Iv.zty_sl, ↓Iv.zty_ti, ↓Iv.zty_tb, ↓Iv.zty_ts, ↓Iv.zty_tt, ↓Iv.zty_tl, ↓Iv.zty_li, ↓Iv.zty_lb, ↓Iv.zty_ls, ↓Iv.zty_lt, ↓Iv.zty_ll, ↓Iv.zty_ni, ↓Iv.zty_nb, ↓Iv.zty_ns, ↓Iv.zty_nt, ↓Iv.zty_nl, ↓Iv.zty_di, ↓Iv.zty_db, ↓Iv.zty_ds, ↓Iv.zty_dt, ↓Iv.zty_dl, ↓Iv.quiet_0, ↓Iv.quiet_s, ↓Iv.qS_v, ↓Iv.qS_n, ↓Iv.qS_s, ↓reduceIte, Bool.false_eq_true, Nat.reduceLeDiff, Nat.zero_le, Iv.slotsOf, Iv.nodupN, List.contains_nil, Bool.not_false, Bool.not_true, Bool.and_true, Bool.true_and, Bool.and_false, Bool.false_and, decide_true, decide_false, List.replicate, List.cons_append, List.nil_append, List.length_cons, List.length_nil, Nat.reduceAdd, Nat.reduceSub, List.contains_cons, Nat.reduceBeqDiff, Nat.reduceEqDiff, Bool.or_false, Bool.false_or, Bool.or_true, Bool.true_or, List.take_succ_cons, List.take_zero, l_drawn_term_s, headS]
  refine Tot.cndP (fun h => ?_) fun h => ?_
  · obtain ⟨v, p1, v0, v1, hp1, e1⟩ := draw_run (m + 1) N (many := 3) hp (by omega) (by decide) (by decide)
    simp -implicitDefEqProofs only [↓Iv.k_var, ↓Iv.k_int, ↓Iv.k_str, ↓Iv.k_bl, ↓Iv.k_non, ↓Iv.k_tup, ↓Iv.k_lst, ↓Iv.k_dct, ↓Iv.z_bin, ↓Iv.k_neg, ↓Iv.z_cmp, ↓Iv.z_cmp2, ↓Iv.z_rev, ↓Iv.z_and, ↓Iv.z_or, ↓Iv.k_not, ↓Iv.z_ite, ↓Iv.z_idx, ↓Iv.z_slc, ↓Iv.z_slf, ↓Iv.z_slt, ↓Iv.z_call, ↓Iv.z_blt, ↓Iv.z_isi, ↓Iv.z_comp, ↓Iv.k_nil, ↓Iv.k_cons, ↓Iv.z_seq, ↓Iv.z_rng1, ↓Iv.k_expr, ↓Iv.z_aite, ↓Iv.z_for, ↓Iv.z_whl, ↓Iv.k_retN, ↓Iv.k_pass, ↓Iv.k_brk, ↓Iv.k_cont, ↓Iv.k_frz, ↓Iv.z_mth, ↓Iv.z_mut, ↓Iv.k_scons, ↓Iv.k_snil, ↓Iv.k_asg, ↓Iv.k_par, ↓Iv.z_set, ↓Iv.k_ret, ↓Iv.z_aug, ↓Iv.z_enm, ↓Iv.z_rng2, ↓Iv.look_0, ↓Iv.look_s, ↓Iv.onS_v, ↓Iv.onS_o, ↓Iv.ownK_o, ↓Iv.valK_v, ↓Iv.asV_i, ↓Iv.asB_i, ↓Iv.asN_i, ↓Iv.dsK_v, ↓Iv.dsK_o, ↓Iv.drK_i, ↓Iv.drK_s, ↓Iv.immsK_0, ↓Iv.immsK_i, ↓Iv.dersK_0, ↓Iv.dersK_c, ↓Iv.argsK_0, ↓Iv.argsK_i, ↓Iv.argsK_s, ↓Iv.getO_0, ↓Iv.getO_s, ↓Iv.outK_go, ↓Iv.goO_0, ↓Iv.goO_i, ↓Iv.goO_s, ↓Iv.putS_0, ↓Iv.putS_s, ↓Iv.setK_z, ↓Iv.setK_v, ↓Iv.setK_n, ↓Iv.setK_ss, ↓Iv.setK_0s, ↓Iv.frK_v, ↓Iv.frK_o, ↓Iv.frK_ss, ↓Iv.frK_0s, ↓Iv.setsK_0, ↓Iv.setsK_c, ↓Iv.tgK_v, ↓Iv.tgK_w, ↓Iv.tgK_t, ↓Iv.tgK_2, ↓Iv.tgK_p, ↓Iv.tgK_2p, ↓Iv.asgK_f, ↓Iv.asgK_v, ↓Iv.asgK_w, ↓Iv.asgK_t, ↓Iv.asgK_2, ↓Iv.retK_i, ↓Iv.retK_s, ↓Iv.bkz_some, ↓Iv.cnd_t, ↓Iv.cnd_f, ↓Iv.endK_ret, ↓Iv.endK_next, ↓Iv.za_i, ↓Iv.zs_i, ↓Iv.zeq_i, ↓Iv.zne_i, ↓Iv.zlt_i, ↓Iv.zle_i, ↓Iv.zgt_i, ↓Iv.zge_i, ↓Iv.zeq_s, ↓Iv.zne_s, ↓Iv.zeq_b, ↓Iv.zne_b, ↓Iv.zlen_t, ↓Iv.zlen_l, ↓Iv.zlen_r, ↓Iv.zlen_d, ↓Iv.ztup_l, ↓Iv.ztup_t, ↓Iv.zlst_l, ↓Iv.zlst_t, ↓Iv.zlst_r, ↓Iv.zzip_t, ↓Iv.zzip_l, ↓Iv.zint_i, ↓Iv.zint_b, ↓Iv.zit_t, ↓Iv.zit_l, ↓Iv.zit_r, ↓Iv.zslc_t, ↓Iv.zslc_l, ↓Iv.zrev_t, ↓Iv.zrev_l, ↓Iv.zaug_a, ↓Iv.zaug_s, ↓Iv.zisn, ↓Iv.znotn, ↓Iv.zadd_l, ↓Iv.zadd_t, ↓Iv.zapp_l, ↓Iv.ty_ll, ↓Iv.ty_dd, ↓Iv.zfor_nil, ↓Iv.zty_i, ↓Iv.zty_ib, ↓Iv.zty_is, ↓Iv.zty_it, ↓Iv.zty_il, ↓Iv.zty_bi, ↓Iv.zty_bb, ↓Iv.zty_bs, ↓Iv.zty_bt, ↓Iv.zty_bl, ↓Iv.zty_si, ↓Iv.zty_sb, ↓Iv.zty_ss, ↓Iv.zty_st, ↓Iv.zty_sl, ↓Iv.zty_ti, ↓Iv.zty_tb, ↓Iv.zty_ts, ↓Iv.zty_tt, ↓Iv.zty_tl, ↓Iv.zty_li, ↓Iv.zty_lb, ↓Iv.zty_ls, ↓Iv.zty_lt, ↓Iv.zty_ll, ↓Iv.zty_ni, ↓Iv.zty_nb, ↓Iv.zty_ns, ↓Iv.zty_nt, ↓Iv.zty_nl, ↓Iv.zty_di, ↓Iv.zty_db, ↓Iv.zty_ds, ↓Iv.zty_dt, ↓Iv.zty_dl, ↓Iv.quiet_0, ↓Iv.quiet_s, ↓Iv.qS_v, ↓Iv.qS_n, ↓Iv.qS_s, ↓reduceIte, Bool.false_eq_true, Nat.reduceLeDiff, Nat.zero_le, Iv.slotsOf, Iv.nodupN, List.contains_nil, Bool.not_false, Bool.not_true, Bool.and_true, Bool.true_and, Bool.and_false, Bool.false_and, decide_true, decide_false, List.replicate, List.cons_append, List.nil_append, List.length_cons, List.length_nil, Nat.reduceAdd, Nat.reduceSub, List.contains_cons, Nat.reduceBeqDiff, Nat.reduceEqDiff, Bool.or_false, Bool.false_or, Bool.or_true, Bool.true_or, List.take_succ_cons, List.take_zero, ↓bkz e1]
    refine Tot.cndP (fun _ => ?_) fun _ => ?_
    · obtain ⟨w, p2, w0, w1, hp2, e2⟩ := draw_run (m + 1) (N + 1) (many := (nv : Nat)) hp1 (by omega) (by omega) (by omega)
      obtain ⟨i, rfl⟩ : ∃ i : Nat, w = i := ⟨w.toNat, by omega⟩
      simp -implicitDefEqProofs only [↓Iv.k_var, ↓Iv.k_int, ↓Iv.k_str, ↓Iv.k_bl, ↓Iv.k_non, ↓Iv.k_tup, ↓Iv.k_lst, ↓Iv.k_dct, ↓Iv.z_bin, ↓Iv.k_neg, ↓Iv.z_cmp, ↓Iv.z_cmp2, ↓Iv.z_rev, ↓Iv.z_and, ↓Iv.z_or, ↓Iv.k_not, ↓Iv.z_ite, ↓Iv.z_idx, ↓Iv.z_slc, ↓Iv.z_slf, ↓Iv.z_slt, ↓Iv.z_call, ↓Iv.z_blt, ↓Iv.z_isi, ↓Iv.z_comp, ↓Iv.k_nil, ↓Iv.k_cons, ↓Iv.z_seq, ↓Iv.z_rng1, ↓Iv.k_expr, ↓Iv.z_aite, ↓Iv.z_for, ↓Iv.z_whl, ↓Iv.k_retN, ↓Iv.k_pass, ↓Iv.k_brk, ↓Iv.k_cont, ↓Iv.k_frz, ↓Iv.z_mth, ↓Iv.z_mut, ↓Iv.k_scons, ↓Iv.k_snil, ↓Iv.k_asg, ↓Iv.k_par, ↓Iv.z_set, ↓Iv.k_ret, ↓Iv.z_aug, ↓Iv.z_enm, ↓Iv.z_rng2, ↓Iv.look_0, ↓Iv.look_s, ↓Iv.onS_v, ↓Iv.onS_o, ↓Iv.ownK_o, ↓Iv.valK_v, ↓Iv.asV_i, ↓Iv.asB_i, ↓Iv.asN_i, ↓Iv.dsK_v, ↓Iv.dsK_o, ↓Iv.drK_i, ↓Iv.drK_s, ↓Iv.immsK_0, ↓Iv.immsK_i, ↓Iv.dersK_0, ↓Iv.dersK_c, ↓Iv.argsK_0, ↓Iv.argsK_i, ↓Iv.argsK_s, ↓Iv.getO_0, ↓Iv.getO_s, ↓Iv.outK_go, ↓Iv.goO_0, ↓Iv.goO_i, ↓Iv.goO_s, ↓Iv.putS_0, ↓Iv.putS_s, ↓Iv.setK_z, ↓Iv.setK_v, ↓Iv.setK_n, ↓Iv.setK_ss, ↓Iv.setK_0s, ↓Iv.frK_v, ↓Iv.frK_o, ↓Iv.frK_ss, ↓Iv.frK_0s, ↓Iv.setsK_0, ↓Iv.setsK_c, ↓Iv.tgK_v, ↓Iv.tgK_w, ↓Iv.tgK_t, ↓Iv.tgK_2, ↓Iv.tgK_p, ↓Iv.tgK_2p, ↓Iv.asgK_f, ↓Iv.asgK_v, ↓Iv.asgK_w, ↓Iv.asgK_t, ↓Iv.asgK_2, ↓Iv.retK_i, ↓Iv.retK_s, ↓Iv.bkz_some, ↓Iv.cnd_t, ↓Iv.cnd_f, ↓Iv.endK_ret, ↓Iv.endK_next, ↓Iv.za_i, ↓Iv.zs_i, ↓Iv.zeq_i, ↓Iv.zne_i, ↓Iv.zlt_i, ↓Iv.zle_i, ↓Iv.zgt_i, ↓Iv.zge_i, ↓Iv.zeq_s, ↓Iv.zne_s, ↓Iv.zeq_b, ↓Iv.zne_b, ↓Iv.zlen_t, ↓Iv.zlen_l, ↓Iv.zlen_r, ↓Iv.zlen_d, ↓Iv.ztup_l, ↓Iv.ztup_t, ↓Iv.zlst_l, ↓Iv.zlst_t, ↓Iv.zlst_r, ↓Iv.zzip_t, ↓Iv.zzip_l, ↓Iv.zint_i, ↓Iv.zint_b, ↓Iv.zit_t, ↓Iv.zit_l, ↓Iv.zit_r, ↓Iv.zslc_t, ↓Iv.zslc_l, ↓Iv.zrev_t, ↓Iv.zrev_l, ↓Iv.zaug_a, ↓Iv.zaug_s, ↓Iv.zisn, ↓Iv.znotn, ↓Iv.zadd_l, ↓Iv.zadd_t, ↓Iv.zapp_l, ↓Iv.ty_ll, ↓Iv.ty_dd, ↓Iv.zfor_nil, ↓Iv.zty_i, ↓Iv.zty_ib, ↓Iv.zty_is, ↓Iv.zty_it, ↓Iv.zty_il, ↓Iv.zty_bi, ↓Iv.zty_bb, ↓Iv.zty_bs, ↓Iv.zty_bt, ↓Iv.zty_bl, ↓Iv.zty_si, ↓Iv.zty_sb, ↓Iv.zty_ss, ↓Iv.zty_st, ↓Iv.zty_sl, ↓Iv.zty_ti, ↓Iv.zty_tb, ↓Iv.zty_ts, ↓Iv.zty_tt, ↓Iv.zty_tl, ↓Iv.zty_li, ↓Iv.zty_lb, ↓Iv.zty_ls, ↓Iv.zty_lt, ↓Iv.zty_ll, ↓Iv.zty_ni, ↓Iv.zty_nb, ↓Iv.zty_ns, ↓Iv.zty_nt, ↓Iv.zty_nl, ↓Iv.zty_di, ↓Iv.zty_db, ↓Iv.zty_ds, ↓Iv.zty_dt, ↓Iv.zty_dl, ↓Iv.quiet_0, ↓Iv.quiet_s, ↓Iv.qS_v, ↓Iv.qS_n, ↓Iv.qS_s, ↓reduceIte, Bool.false_eq_true, Nat.reduceLeDiff, Nat.zero_le, Iv.slotsOf, Iv.nodupN, List.contains_nil, Bool.not_false, Bool.not_true, Bool.and_true, Bool.true_and, Bool.and_false, Bool.false_and, decide_true, decide_false, List.replicate, List.cons_append, List.nil_append, List.length_cons, List.length_nil, Nat.reduceAdd, Nat.reduceSub, List.contains_cons, Nat.reduceBeqDiff, Nat.reduceEqDiff, Bool.or_false, Bool.false_or, Bool.or_true, Bool.true_or, List.take_succ_cons, List.take_zero, ↓bkz e2]
      exact Tot.ret (fin i p2 (by omega) hp2)
    · exact rest (N + 1) p1 (Nat.le_refl _) hp1
  · exact rest N p (by omega) hp
theorem term_run (hrs : RowsOk rs) (nv : Nat) (hnv : nv ≤ 1000) : ∀ (d m N : Nat) (p : D), PenOk N p → N + tC d < 1000000000000000 →
    Tot (run tab (m + d + 3) f_l_drawn_term [.own p, .val (rowsD rs ts), .val (.int (d : Nat)), .val (.int (nv : Nat))]) fun z =>
      ∃ t p', DT d t ∧ PenOk (N + tC d) p' ∧ z = (false, enc t, [.own p', .val (rowsD rs ts), .val (.int (d : Nat)), .val (.int (nv : Nat))])
  | 0, m, N, p, hp, hN => by
    simp only [tC] at hN ⊢
    refine var_branch rs ts nv 0 m N hnv p hp hN _ (fun M q hM hq => ?_) fun i q hi hq => ⟨.v i, q, DT_var (by omega), hq, rfl⟩
    refine (rest_run rs ts hrs nv 0 m 0 (fun _ => False) (fun r hr h N q s4 s5 s6 s7 s8 hq hN => ?_) M q hq (by omega)).mono ?_
    · have h0 : r.2.1 = 0 := by simpa [okRow] using h
      rw [h0]
      exact ⟨([], _), rfl, [], rfl, rfl, fun _ z => (by cases z), q, hq, rfl⟩
    · rintro _ ⟨r, us, p', hr, hl, hP, hp', rfl⟩
      have hx : us = [] := by
        cases us with
        | nil => rfl
        | cons x xs => exact absurd (hP x (by simp)) id
      subst hx
      have hr2 := hrs.all r hr
      exact ⟨_, p', DT_leaf hr2.1.1 hr2.1.2, hp'.mono (by omega), rfl⟩
  | d + 1, m, N, p, hp, hN => by
    have ih := term_run hrs nv hnv d m
    have hc := tC_pos d
    simp only [tC] at hN ⊢
    refine var_branch rs ts nv (d + 1) (m + d + 1) N hnv p hp (by omega) _ (fun M q hM hq => ?_) fun i q hi hq => ⟨.v i, q, DT_var (by omega), hq.mono (by omega), rfl⟩
    refine (rest_run rs ts hrs nv (d + 1) (m + d + 1) (2 * tC d) (DT d) (fun r hr h N q s4 s5 s6 s7 s8 hq hN => ?_) M q hq (by omega)).mono ?_
    · have h2 := (hrs.all r hr).2
      have hmul : r.2.1 * tC d ≤ 2 * tC d := Nat.mul_le_mul_right _ h2
      refine (cmpS_tot (fun i r' => ∃ q, PenOk (N + i * tC d) q ∧ r' = [.own q, .val (rowsD rs ts), .val (.int ((d + 1 : Nat) : Int)), .val (.int (nv : Nat)), s4, s5, s6, s7, s8, .none]) (fun _ x => ∃ t, x = enc t ∧ DT d t) _ _ ⟨q, by simpa using hq, rfl⟩ ?_).mono ?_
      · rintro j y _ hj ⟨q, hq, rfl⟩
        have hjl := (List.getElem?_eq_some_iff.mp hj).1
        rw [rng_len] at hjl
        have hmul2 : (j + 1) * tC d ≤ r.2.1 * tC d := Nat.mul_le_mul_right _ hjl
        rw [Nat.succ_mul] at hmul2
        have c1 : (((d + 1 : Nat) : Int) - 1) = (d : Int) := by omega
        obtain ⟨_, e, t, q', ht, hq', rfl⟩ := ih (N + j * tC d) q hq (by omega)
        simp -implicitDefEqProofs only [↓Iv.k_var, ↓Iv.k_int, ↓Iv.k_str, ↓Iv.k_bl, ↓Iv.k_non, ↓Iv.k_tup, ↓Iv.k_lst, ↓Iv.k_dct, ↓Iv.z_bin, ↓Iv.k_neg, ↓Iv.z_cmp, ↓Iv.z_cmp2, ↓Iv.z_rev, ↓Iv.z_and, ↓Iv.z_or, ↓Iv.k_not, ↓Iv.z_ite, ↓Iv.z_idx, ↓Iv.z_slc, ↓Iv.z_slf, ↓Iv.z_slt, ↓Iv.z_call, ↓Iv.z_blt, ↓Iv.z_isi, ↓Iv.z_comp, ↓Iv.k_nil, ↓Iv.k_cons, ↓Iv.z_seq, ↓Iv.z_rng1, ↓Iv.k_expr, ↓Iv.z_aite, ↓Iv.z_for, ↓Iv.z_whl, ↓Iv.k_retN, ↓Iv.k_pass, ↓Iv.k_brk, ↓Iv.k_cont, ↓Iv.k_frz, ↓Iv.z_mth, ↓Iv.z_mut, ↓Iv.k_scons, ↓Iv.k_snil, ↓Iv.k_asg, ↓Iv.k_par, ↓Iv.z_set, ↓Iv.k_ret, ↓Iv.z_aug, ↓Iv.z_enm, ↓Iv.z_rng2, ↓Iv.look_0, ↓Iv.look_s, ↓Iv.onS_v, ↓Iv.onS_o, ↓Iv.ownK_o, ↓Iv.valK_v, ↓Iv.asV_i, ↓Iv.asB_i, ↓Iv.asN_i, ↓Iv.dsK_v, ↓Iv.dsK_o, ↓Iv.drK_i, ↓Iv.drK_s, ↓Iv.immsK_0, ↓Iv.immsK_i, ↓Iv.dersK_0, ↓Iv.dersK_c, ↓Iv.argsK_0, ↓Iv.argsK_i, ↓Iv.argsK_s, ↓Iv.getO_0, ↓Iv.getO_s, ↓Iv.outK_go, ↓Iv.goO_0, ↓Iv.goO_i, ↓Iv.goO_s, ↓Iv.putS_0, ↓Iv.putS_s, ↓Iv.setK_z, ↓Iv.setK_v, ↓Iv.setK_n, ↓Iv.setK_ss, ↓Iv.setK_0s, ↓Iv.frK_v, ↓Iv.frK_o, ↓Iv.frK_ss, ↓Iv.frK_0s, ↓Iv.setsK_0, ↓Iv.setsK_c, ↓Iv.tgK_v, ↓Iv.tgK_w, ↓Iv.tgK_t, ↓Iv.tgK_2, ↓Iv.tgK_p, ↓Iv.tgK_2p, ↓Iv.asgK_f, ↓Iv.asgK_v, ↓Iv.asgK_w, ↓Iv.asgK_t, ↓Iv.asgK_2, ↓Iv.retK_i, ↓Iv.retK_s, ↓Iv.bkz_some, ↓Iv.cnd_t, ↓Iv.cnd_f, ↓Iv.endK_ret, ↓Iv.endK_next, ↓Iv.za_i, ↓Iv.zs_i, ↓Iv.zeq_i, ↓Iv.zne_i, ↓Iv.zlt_i, ↓Iv.zle_i, ↓Iv.zgt_i, ↓Iv.zge_i, ↓Iv.zeq_s, ↓Iv.zne_s, ↓Iv.zeq_b, ↓Iv.zne_b, ↓Iv.zlen_t, ↓Iv.zlen_l, ↓Iv.zlen_r, ↓Iv.zlen_d, ↓Iv.ztup_l, ↓Iv.ztup_t, ↓Iv.zlst_l, ↓Iv.zlst_t, ↓Iv.zlst_r, ↓Iv.zzip_t, ↓Iv.zzip_l, ↓Iv.zint_i, ↓Iv.zint_b, ↓Iv.zit_t, ↓Iv.zit_l, ↓Iv.zit_r, ↓Iv.zslc_t, ↓Iv.zslc_l, ↓Iv.zrev_t, ↓Iv.zrev_l, ↓Iv.zaug_a, ↓Iv.zaug_s, ↓Iv.zisn, ↓Iv.znotn, ↓Iv.zadd_l, ↓Iv.zadd_t, ↓Iv.zapp_l, ↓Iv.ty_ll, ↓Iv.ty_dd, ↓Iv.zfor_nil, ↓Iv.zty_i, ↓Iv.zty_ib, ↓Iv.zty_is, ↓Iv.zty_it, ↓Iv.zty_il, ↓Iv.zty_bi, ↓Iv.zty_bb, ↓Iv.zty_bs, ↓Iv.zty_bt, ↓Iv.zty_bl, ↓Iv.zty_si, ↓Iv.zty_sb, ↓Iv.zty_ss, ↓Iv.zty_st, ↓Iv.zty_sl, ↓Iv.zty_ti, ↓Iv.zty_tb, ↓Iv.zty_ts, ↓Iv.zty_tt, ↓Iv.zty_tl, ↓Iv.zty_li, ↓Iv.zty_lb, ↓Iv.zty_ls, ↓Iv.zty_lt, ↓Iv.zty_ll, ↓Iv.zty_ni, ↓Iv.zty_nb, ↓Iv.zty_ns, ↓Iv.zty_nt, ↓Iv.zty_nl, ↓Iv.zty_di, ↓Iv.zty_db, ↓Iv.zty_ds, ↓Iv.zty_dt, ↓Iv.zty_dl, ↓Iv.quiet_0, ↓Iv.quiet_s, ↓Iv.qS_v, ↓Iv.qS_n, ↓Iv.qS_s, ↓reduceIte, Bool.false_eq_true, Nat.reduceLeDiff, Nat.zero_le, Iv.slotsOf, Iv.nodupN, List.contains_nil, Bool.not_false, Bool.not_true, Bool.and_true, Bool.true_and, Bool.and_false, Bool.false_and, decide_true, decide_false, List.replicate, List.cons_append, List.nil_append, List.length_cons, List.length_nil, Nat.reduceAdd, Nat.reduceSub, List.contains_cons, Nat.reduceBeqDiff, Nat.reduceEqDiff, Bool.or_false, Bool.false_or, Bool.or_true, Bool.true_or, List.take_succ_cons, List.take_zero, l_drawn_term_e1, c1, ↓bkz e]
        exact Tot.ret ⟨⟨t, rfl, ht⟩, q', by rw [Nat.succ_mul, ← Nat.add_assoc]; exact hq', rfl⟩
      · rintro ⟨xs, ρ⟩ ⟨hl, hR, _, ⟨q', hq', rfl⟩, hb⟩
        rw [rng_len] at hl hq'
        simp only at hb hl hR
        subst hb
        obtain ⟨us, rfl, hus⟩ := map_ofT (xs := xs) (f := enc) (P := DT d) fun x hx => by
          obtain ⟨j, hj⟩ := List.getElem?_of_mem hx
          exact hR j x hj
        rw [List.length_map] at hl
        exact ⟨us, rfl, hl, hus, q', hq'.mono (by omega), rfl⟩
    · rintro _ ⟨r, us, p', hr, hl, hP, hp', rfl⟩
      have hr2 := hrs.all r hr
      exact ⟨_, p', DT_mk hr2.1.1 hr2.1.2 (by rw [hl]; exact hr2.2) hP, hp'.mono (by omega), rfl⟩
end
end K07
namespace K07
open PySem Iv Tm
/-- what is drawn: small keys, small terms -/
def GP (ps : KT) : Prop := ps.length ≤ 4 ∧ ∀ x ∈ ps, x.1 < 100000 ∧ ok x.2 ∧ ht x.2 ≤ 3 ∧ sz x.2 ≤ 7
theorem drawn_pairs_run (rs ts : List (Str × Nat × Nat)) (hrs : RowsOk rs) (m N : Nat) (p : D) (hp : PenOk N p) (hN : N + 64 < 1000000000000000) :
    Tot (run tab (m + 10) f_l_drawn_pairs [.own p, .val (rowsD rs ts), .val (.int 4), .val (.int 2)]) fun z => ∃ (ps : KT) (p' : D), GP ps ∧ PenOk (N + 64) p' ∧ z = (false, encP ps, [.own p', .val (rowsD rs ts), .val (.int 4), .val (.int 2)]) := by
  have c4 : (-(2 ^ 62) ≤ (4 : Int) ∧ (4 : Int) < 2 ^ 62) = True := eq_true (by decide)
  have s3 : ((2 : Int) + 1) = 3 := rfl
  refine run_tot (F := l_drawn_pairs_f) rfl rfl ?_
  show Tot (exsK 4 whileFuel (run tab (m + 9)) l_drawn_pairs_s [.own p, .val (rowsD rs ts), .val (.int 4), .val (.int 2), .none, .none] (endK 4)) _
  simp -implicitDefEqProofs only [↓Iv.k_var, ↓Iv.k_int, ↓Iv.k_str, ↓Iv.k_bl, ↓Iv.k_non, ↓Iv.k_tup, ↓Iv.k_lst, ↓Iv.k_dct, ↓Iv.z_bin, ↓Iv.k_neg, ↓Iv.z_cmp, ↓Iv.z_cmp2, ↓Iv.z_rev, ↓Iv.z_and, ↓Iv.z_or, ↓Iv.k_not, ↓Iv.z_ite, ↓Iv.z_idx, ↓Iv.z_slc, ↓Iv.z_slf, ↓Iv.z_slt, ↓Iv.z_call, ↓Iv.z_blt, ↓Iv.z_isi, ↓Iv.z_comp, ↓Iv.k_nil, ↓Iv.k_cons, ↓Iv.z_seq, ↓Iv.z_rng1, ↓Iv.k_expr, ↓Iv.z_aite, ↓Iv.z_for, ↓Iv.z_whl, ↓Iv.k_retN, ↓Iv.k_pass, ↓Iv.k_brk, ↓Iv.k_cont, ↓Iv.k_frz, ↓Iv.z_mth, ↓Iv.z_mut, ↓Iv.k_scons, ↓Iv.k_snil, ↓Iv.k_asg, ↓Iv.k_par, ↓Iv.z_set, ↓Iv.k_ret, ↓Iv.z_aug, ↓Iv.z_enm, ↓Iv.z_rng2, ↓Iv.look_0, ↓Iv.look_s, ↓Iv.onS_v, ↓Iv.onS_o, ↓Iv.ownK_o, ↓Iv.valK_v, ↓Iv.asV_i, ↓Iv.asB_i, ↓Iv.asN_i, ↓Iv.dsK_v, ↓Iv.dsK_o, ↓Iv.drK_i, ↓Iv.drK_s, ↓Iv.immsK_0, ↓Iv.immsK_i, ↓Iv.dersK_0, ↓Iv.dersK_c, ↓Iv.argsK_0, ↓Iv.argsK_i, ↓Iv.argsK_s, ↓Iv.getO_0, ↓Iv.getO_s, ↓Iv.outK_go, ↓Iv.goO_0, ↓Iv.goO_i, ↓Iv.goO_s, ↓Iv.putS_0, ↓Iv.putS_s, ↓Iv.setK_z, ↓Iv.setK_v, ↓Iv.setK_n, ↓Iv.setK_ss, ↓Iv.setK_0s, ↓Iv.frK_v, ↓Iv.frK_o, ↓Iv.frK_ss, ↓Iv.frK_0s, ↓Iv.setsK_0, ↓Iv.setsK_c, ↓Iv.tgK_v, ↓Iv.tgK_w, ↓Iv.tgK_t, ↓Iv.tgK_2, ↓Iv.tgK_p, ↓Iv.tgK_2p, ↓Iv.asgK_f, ↓Iv.asgK_v, ↓Iv.asgK_w, ↓Iv.asgK_t, ↓Iv.asgK_2, ↓Iv.retK_i, ↓Iv.retK_s, ↓Iv.bkz_some, ↓Iv.cnd_t, ↓Iv.cnd_f, ↓Iv.endK_ret, ↓Iv.endK_next, ↓Iv.za_i, ↓Iv.zs_i, ↓Iv.zeq_i, ↓Iv.zne_i, ↓Iv.zlt_i, ↓Iv.zle_i, ↓Iv.zgt_i, ↓Iv.zge_i, ↓Iv.zeq_s, ↓Iv.zne_s, ↓Iv.zeq_b, ↓Iv.zne_b, ↓Iv.zlen_t, ↓Iv.zlen_l, ↓Iv.zlen_r, ↓Iv.zlen_d, ↓Iv.ztup_l, ↓Iv.ztup_t, ↓Iv.zlst_l, ↓Iv.zlst_t, ↓Iv.zlst_r, ↓Iv.zzip_t, ↓Iv.zzip_l, ↓Iv.zint_i, ↓Iv.zint_b, ↓Iv.zit_t, ↓Iv.zit_l, ↓Iv.zit_r, ↓Iv.zslc_t, ↓Iv.zslc_l, ↓Iv.zrev_t, ↓Iv.zrev_l, ↓Iv.zaug_a, ↓Iv.zaug_s, ↓Iv.zisn, ↓Iv.znotn, ↓Iv.zadd_l, ↓Iv.zadd_t, ↓Iv.zapp_l, ↓Iv.ty_ll, ↓Iv.ty_dd, ↓Iv.zfor_nil, ↓Iv.zty_i, ↓Iv.zty_ib, ↓Iv.zty_is, ↓Iv.zty_it, ↓Iv.zty_il, ↓Iv.zty_bi, ↓Iv.zty_bb, ↓Iv.zty_bs, ↓Iv.zty_bt, ↓Iv.zty_bl, ↓Iv.zty_si, ↓Iv.zty_sb, ↓Iv.zty_ss, ↓Iv.zty_st, ↓Iv.zty_sl, ↓Iv.zty_ti, ↓Iv.zty_tb, ↓Iv.zty_ts, ↓Iv.zty_tt, ↓Iv.zty_tl, ↓Iv.zty_li, ↓Iv.zty_lb, ↓Iv.zty_ls, ↓Iv.zty_lt, ↓Iv.zty_ll, ↓Iv.zty_ni, ↓Iv.zty_nb, ↓Iv.zty_ns, ↓Iv.zty_nt, ↓Iv.zty_nl, ↓Iv.zty_di, ↓Iv.zty_db, ↓Iv.zty_ds, ↓Iv.zty_dt, ↓Iv.zty_dl, ↓Iv.quiet_0, ↓Iv.quiet_s, ↓Iv.qS_v, ↓Iv.qS_n, ↓Iv.qS_s, ↓reduceIte, Bool.false_eq_true, Nat.reduceLeDiff, Nat.zero_le, Iv.slotsOf, Iv.nodupN, List.contains_nil, Bool.not_false, Bool.not_true, Bool.and_true, Bool.true_and, Bool.and_false, Bool.false_and, decide_true, decide_false, List.replicate, List.cons_append, List.nil_append, List.length_cons, List.length_nil, Nat.reduceAdd, Nat.reduceSub, List.contains_cons, Nat.reduceBeqDiff, Nat.reduceEqDiff, Bool.or_false, Bool.false_or, Bool.or_true, Bool.true_or, List.take_succ_cons, List.take_zero, l_drawn_pairs_s, c4]
  refine Tot.bnd (forS_tot (fun i r => ∃ (q : D) (kvs : KT) (s5 : Slot), PenOk (N + i * 16) q ∧ kvs.length ≤ i ∧ (∀ x ∈ kvs, x.1 < 100000 ∧ ok x.2 ∧ ht x.2 ≤ 3 ∧ sz x.2 ≤ 7) ∧ r = [.own q, .val (rowsD rs ts), .val (.int 4), .val (.int 2), .own (.dct (encK kvs)), s5])
    (fun z => ∃ (q : D) (kvs : KT) (s5 : Slot), PenOk (N + 64) q ∧ kvs.length ≤ 4 ∧ (∀ x ∈ kvs, x.1 < 100000 ∧ ok x.2 ∧ ht x.2 ≤ 3 ∧ sz x.2 ≤ 7) ∧ z = (.next, [.own q, .val (rowsD rs ts), .val (.int 4), .val (.int 2), .own (.dct (encK kvs)), s5])) _ 0 _
    ⟨p, [], _, by simpa using hp, Nat.le_refl _, fun _ z => (by cases z), rfl⟩ ?_ ?_) ?_
  · rintro i y _ hi ⟨q, kvs, s5, hq, hl, hk, rfl⟩
    have hik := (List.getElem?_eq_some_iff.mp hi).1
    have hi4 : i < 4 := hik
    obtain ⟨k, hk4, rfl⟩ : ∃ k : Nat, k < 4 ∧ y = .int ((k : Nat) : Int) := by
      unfold rngD at hi
      rw [List.getElem?_map] at hi
      obtain ⟨k, hk, rfl⟩ := Option.map_eq_some_iff.mp hi
      have := List.getElem?_range (show i < 4 from hi4)
      have e : (List.range ((4 : Int) - 0).toNat)[i]? = some i := this
      rw [e] at hk
      cases hk
      exact ⟨i, hi4, by rw [Int.zero_add]⟩
    rw [Nat.zero_add] at hq hl ⊢
    obtain ⟨v, p1, v0, v1, hp1, e1⟩ := draw_run (m + 8) (N + i * 16) (many := 2) hq (by omega) (by decide) (by decide)
    simp -implicitDefEqProofs only [↓Iv.k_var, ↓Iv.k_int, ↓Iv.k_str, ↓Iv.k_bl, ↓Iv.k_non, ↓Iv.k_tup, ↓Iv.k_lst, ↓Iv.k_dct, ↓Iv.z_bin, ↓Iv.k_neg, ↓Iv.z_cmp, ↓Iv.z_cmp2, ↓Iv.z_rev, ↓Iv.z_and, ↓Iv.z_or, ↓Iv.k_not, ↓Iv.z_ite, ↓Iv.z_idx, ↓Iv.z_slc, ↓Iv.z_slf, ↓Iv.z_slt, ↓Iv.z_call, ↓Iv.z_blt, ↓Iv.z_isi, ↓Iv.z_comp, ↓Iv.k_nil, ↓Iv.k_cons, ↓Iv.z_seq, ↓Iv.z_rng1, ↓Iv.k_expr, ↓Iv.z_aite, ↓Iv.z_for, ↓Iv.z_whl, ↓Iv.k_retN, ↓Iv.k_pass, ↓Iv.k_brk, ↓Iv.k_cont, ↓Iv.k_frz, ↓Iv.z_mth, ↓Iv.z_mut, ↓Iv.k_scons, ↓Iv.k_snil, ↓Iv.k_asg, ↓Iv.k_par, ↓Iv.z_set, ↓Iv.k_ret, ↓Iv.z_aug, ↓Iv.z_enm, ↓Iv.z_rng2, ↓Iv.look_0, ↓Iv.look_s, ↓Iv.onS_v, ↓Iv.onS_o, ↓Iv.ownK_o, ↓Iv.valK_v, ↓Iv.asV_i, ↓Iv.asB_i, ↓Iv.asN_i, ↓Iv.dsK_v, ↓Iv.dsK_o, ↓Iv.drK_i, ↓Iv.drK_s, ↓Iv.immsK_0, ↓Iv.immsK_i, ↓Iv.dersK_0, ↓Iv.dersK_c, ↓Iv.argsK_0, ↓Iv.argsK_i, ↓Iv.argsK_s, ↓Iv.getO_0, ↓Iv.getO_s, ↓Iv.outK_go, ↓Iv.goO_0, ↓Iv.goO_i, ↓Iv.goO_s, ↓Iv.putS_0, ↓Iv.putS_s, ↓Iv.setK_z, ↓Iv.setK_v, ↓Iv.setK_n, ↓Iv.setK_ss, ↓Iv.setK_0s, ↓Iv.frK_v, ↓Iv.frK_o, ↓Iv.frK_ss, ↓Iv.frK_0s, ↓Iv.setsK_0, ↓Iv.setsK_c, ↓Iv.tgK_v, ↓Iv.tgK_w, ↓Iv.tgK_t, ↓Iv.tgK_2, ↓Iv.tgK_p, ↓Iv.tgK_2p, ↓Iv.asgK_f, ↓Iv.asgK_v, ↓Iv.asgK_w, ↓Iv.asgK_t, ↓Iv.asgK_2, ↓Iv.retK_i, ↓Iv.retK_s, ↓Iv.bkz_some, ↓Iv.cnd_t, ↓Iv.cnd_f, ↓Iv.endK_ret, ↓Iv.endK_next, ↓Iv.za_i, ↓Iv.zs_i, ↓Iv.zeq_i, ↓Iv.zne_i, ↓Iv.zlt_i, ↓Iv.zle_i, ↓Iv.zgt_i, ↓Iv.zge_i, ↓Iv.zeq_s, ↓Iv.zne_s, ↓Iv.zeq_b, ↓Iv.zne_b, ↓Iv.zlen_t, ↓Iv.zlen_l, ↓Iv.zlen_r, ↓Iv.zlen_d, ↓Iv.ztup_l, ↓Iv.ztup_t, ↓Iv.zlst_l, ↓Iv.zlst_t, ↓Iv.zlst_r, ↓Iv.zzip_t, ↓Iv.zzip_l, ↓Iv.zint_i, ↓Iv.zint_b, ↓Iv.zit_t, ↓Iv.zit_l, ↓Iv.zit_r, ↓Iv.zslc_t, ↓Iv.zslc_l, ↓Iv.zrev_t, ↓Iv.zrev_l, ↓Iv.zaug_a, ↓Iv.zaug_s, ↓Iv.zisn, ↓Iv.znotn, ↓Iv.zadd_l, ↓Iv.zadd_t, ↓Iv.zapp_l, ↓Iv.ty_ll, ↓Iv.ty_dd, ↓Iv.zfor_nil, ↓Iv.zty_i, ↓Iv.zty_ib, ↓Iv.zty_is, ↓Iv.zty_it, ↓Iv.zty_il, ↓Iv.zty_bi, ↓Iv.zty_bb, ↓Iv.zty_bs, ↓Iv.zty_bt, ↓Iv.zty_bl, ↓Iv.zty_si, ↓Iv.zty_sb, ↓Iv.zty_ss, ↓Iv.zty_st, ↓Iv.zty_sl, ↓Iv.zty_ti, ↓Iv.zty_tb, ↓Iv.zty_ts, ↓Iv.zty_tt, ↓Iv.zty_tl, ↓Iv.zty_li, ↓Iv.zty_lb, ↓Iv.zty_ls, ↓Iv.zty_lt, ↓Iv.zty_ll, ↓Iv.zty_ni, ↓Iv.zty_nb, ↓Iv.zty_ns, ↓Iv.zty_nt, ↓Iv.zty_nl, ↓Iv.zty_di, ↓Iv.zty_db, ↓Iv.zty_ds, ↓Iv.zty_dt, ↓Iv.zty_dl, ↓Iv.quiet_0, ↓Iv.quiet_s, ↓Iv.qS_v, ↓Iv.qS_n, ↓Iv.qS_s, ↓reduceIte, Bool.false_eq_true, Nat.reduceLeDiff, Nat.zero_le, Iv.slotsOf, Iv.nodupN, List.contains_nil, Bool.not_false, Bool.not_true, Bool.and_true, Bool.true_and, Bool.and_false, Bool.false_and, decide_true, decide_false, List.replicate, List.cons_append, List.nil_append, List.length_cons, List.length_nil, Nat.reduceAdd, Nat.reduceSub, List.contains_cons, Nat.reduceBeqDiff, Nat.reduceEqDiff, Bool.or_false, Bool.false_or, Bool.or_true, Bool.true_or, List.take_succ_cons, List.take_zero, l_drawn_pairs_b0, ↓bkz e1]
    refine Tot.cndP (fun _ => ?_) fun _ => ?_
    · obtain ⟨w, p2, w0, w1, hp2, e2⟩ := draw_run (m + 8) (N + i * 16 + 1) (many := 3) hp1 (by omega) (by decide) (by decide)
      obtain ⟨d, rfl⟩ : ∃ d : Nat, w = d := ⟨w.toNat, by omega⟩
      have hd : d ≤ 2 := by omega
      have htc : tC d ≤ 14 := by
        have : d = 0 ∨ d = 1 ∨ d = 2 := by omega
        rcases this with rfl | rfl | rfl <;> decide
      have htb : tB d ≤ 7 := by
        have : d = 0 ∨ d = 1 ∨ d = 2 := by omega
        rcases this with rfl | rfl | rfl <;> decide
      obtain ⟨_, e3, t, p3, ht', hp3, rfl⟩ := term_run rs ts hrs 4 (by decide) d (m + 6 - d) (N + i * 16 + 2) p2 hp2 (by omega)
      rw [show m + 6 - d + d + 3 = m + 9 by omega, show ((4 : Nat) : Int) = 4 from rfl] at e3
      have st := set_enc kvs k t (by omega)
      simp -implicitDefEqProofs only [↓Iv.k_var, ↓Iv.k_int, ↓Iv.k_str, ↓Iv.k_bl, ↓Iv.k_non, ↓Iv.k_tup, ↓Iv.k_lst, ↓Iv.k_dct, ↓Iv.z_bin, ↓Iv.k_neg, ↓Iv.z_cmp, ↓Iv.z_cmp2, ↓Iv.z_rev, ↓Iv.z_and, ↓Iv.z_or, ↓Iv.k_not, ↓Iv.z_ite, ↓Iv.z_idx, ↓Iv.z_slc, ↓Iv.z_slf, ↓Iv.z_slt, ↓Iv.z_call, ↓Iv.z_blt, ↓Iv.z_isi, ↓Iv.z_comp, ↓Iv.k_nil, ↓Iv.k_cons, ↓Iv.z_seq, ↓Iv.z_rng1, ↓Iv.k_expr, ↓Iv.z_aite, ↓Iv.z_for, ↓Iv.z_whl, ↓Iv.k_retN, ↓Iv.k_pass, ↓Iv.k_brk, ↓Iv.k_cont, ↓Iv.k_frz, ↓Iv.z_mth, ↓Iv.z_mut, ↓Iv.k_scons, ↓Iv.k_snil, ↓Iv.k_asg, ↓Iv.k_par, ↓Iv.z_set, ↓Iv.k_ret, ↓Iv.z_aug, ↓Iv.z_enm, ↓Iv.z_rng2, ↓Iv.look_0, ↓Iv.look_s, ↓Iv.onS_v, ↓Iv.onS_o, ↓Iv.ownK_o, ↓Iv.valK_v, ↓Iv.asV_i, ↓Iv.asB_i, ↓Iv.asN_i, ↓Iv.dsK_v, ↓Iv.dsK_o, ↓Iv.drK_i, ↓Iv.drK_s, ↓Iv.immsK_0, ↓Iv.immsK_i, ↓Iv.dersK_0, ↓Iv.dersK_c, ↓Iv.argsK_0, ↓Iv.argsK_i, ↓Iv.argsK_s, ↓Iv.getO_0, ↓Iv.getO_s, ↓Iv.outK_go, ↓Iv.goO_0, ↓Iv.goO_i, ↓Iv.goO_s, ↓Iv.putS_0, ↓Iv.putS_s, ↓Iv.setK_z, ↓Iv.setK_v, ↓Iv.setK_n, ↓Iv.setK_ss, ↓Iv.setK_0s, ↓Iv.frK_v, ↓Iv.frK_o, ↓Iv.frK_ss, ↓Iv.frK_0s, ↓Iv.setsK_0, ↓Iv.setsK_c, ↓Iv.tgK_v, ↓Iv.tgK_w, ↓Iv.tgK_t, ↓Iv.tgK_2, ↓Iv.tgK_p, ↓Iv.tgK_2p, ↓Iv.asgK_f, ↓Iv.asgK_v, ↓Iv.asgK_w, ↓Iv.asgK_t, ↓Iv.asgK_2, ↓Iv.retK_i, ↓Iv.retK_s, ↓Iv.bkz_some, ↓Iv.cnd_t, ↓Iv.cnd_f, ↓Iv.endK_ret, ↓Iv.endK_next, ↓Iv.za_i, ↓Iv.zs_i, ↓Iv.zeq_i, ↓Iv.zne_i, ↓Iv.zlt_i, ↓Iv.zle_i, ↓Iv.zgt_i, ↓Iv.zge_i, ↓Iv.zeq_s, ↓Iv.zne_s, ↓Iv.zeq_b, ↓Iv.zne_b, ↓Iv.zlen_t, ↓Iv.zlen_l, ↓Iv.zlen_r, ↓Iv.zlen_d, ↓Iv.ztup_l, ↓Iv.ztup_t, ↓Iv.zlst_l, ↓Iv.zlst_t, ↓Iv.zlst_r, ↓Iv.zzip_t, ↓Iv.zzip_l, ↓Iv.zint_i, ↓Iv.zint_b, ↓Iv.zit_t, ↓Iv.zit_l, ↓Iv.zit_r, ↓Iv.zslc_t, ↓Iv.zslc_l, ↓Iv.zrev_t, ↓Iv.zrev_l, ↓Iv.zaug_a, ↓Iv.zaug_s, ↓Iv.zisn, ↓Iv.znotn, ↓Iv.zadd_l, ↓Iv.zadd_t, ↓Iv.zapp_l, ↓Iv.ty_ll, ↓Iv.ty_dd, ↓Iv.zfor_nil, ↓Iv.zty_i, ↓Iv.zty_ib, ↓Iv.zty_is, ↓Iv.zty_it, ↓Iv.zty_il, ↓Iv.zty_bi, ↓Iv.zty_bb, ↓Iv.zty_bs, ↓Iv.zty_bt, ↓Iv.zty_bl, ↓Iv.zty_si, ↓Iv.zty_sb, ↓Iv.zty_ss, ↓Iv.zty_st, ↓Iv.zty_sl, ↓Iv.zty_ti, ↓Iv.zty_tb, ↓Iv.zty_ts, ↓Iv.zty_tt, ↓Iv.zty_tl, ↓Iv.zty_li, ↓Iv.zty_lb, ↓Iv.zty_ls, ↓Iv.zty_lt, ↓Iv.zty_ll, ↓Iv.zty_ni, ↓Iv.zty_nb, ↓Iv.zty_ns, ↓Iv.zty_nt, ↓Iv.zty_nl, ↓Iv.zty_di, ↓Iv.zty_db, ↓Iv.zty_ds, ↓Iv.zty_dt, ↓Iv.zty_dl, ↓Iv.quiet_0, ↓Iv.quiet_s, ↓Iv.qS_v, ↓Iv.qS_n, ↓Iv.qS_s, ↓reduceIte, Bool.false_eq_true, Nat.reduceLeDiff, Nat.zero_le, Iv.slotsOf, Iv.nodupN, List.contains_nil, Bool.not_false, Bool.not_true, Bool.and_true, Bool.true_and, Bool.and_false, Bool.false_and, decide_true, decide_false, List.replicate, List.cons_append, List.nil_append, List.length_cons, List.length_nil, Nat.reduceAdd, Nat.reduceSub, List.contains_cons, Nat.reduceBeqDiff, Nat.reduceEqDiff, Bool.or_false, Bool.false_or, Bool.or_true, Bool.true_or, List.take_succ_cons, List.take_zero, s3, ↓bkz e2, ↓bkz e3, ↓bkz st]
      have hins : ∀ x ∈ ins kvs k t, x.1 < 100000 ∧ ok x.2 ∧ ht x.2 ≤ 3 ∧ sz x.2 ≤ 7 := fun x hx => by
        rcases ins_mem hx with z | rfl
        · exact hk x z
        · exact ⟨by show k < 100000; omega, ht'.k, by have := ht'.h; show ht t ≤ 3; omega, Nat.le_trans ht'.z htb⟩
      have hil := ins_len kvs k t
      exact Tot.ret ⟨p3, ins kvs k t, _, hp3.mono (by omega), by omega, hins, rfl⟩
    · refine Tot.ret ?_
      exact ⟨p1, kvs, _, hp1.mono (by omega), by omega, hk, rfl⟩
  · rintro _ ⟨q, kvs, s5, hq, hl, hk, rfl⟩
    exact ⟨q, kvs, s5, hq, hl, hk, rfl⟩
  · rintro _ ⟨q, kvs, s5, hq, hl, hk, rfl⟩
    have hr := l_pairs_run (m + 8) kvs (by omega) (fun x hx => ⟨(hk x hx).1, (hk x hx).2.1, by have := (hk x hx).2.2.1; omega⟩) (.own (.dct (encK kvs))) (.inr rfl)
    simp -implicitDefEqProofs only [↓Iv.k_var, ↓Iv.k_int, ↓Iv.k_str, ↓Iv.k_bl, ↓Iv.k_non, ↓Iv.k_tup, ↓Iv.k_lst, ↓Iv.k_dct, ↓Iv.z_bin, ↓Iv.k_neg, ↓Iv.z_cmp, ↓Iv.z_cmp2, ↓Iv.z_rev, ↓Iv.z_and, ↓Iv.z_or, ↓Iv.k_not, ↓Iv.z_ite, ↓Iv.z_idx, ↓Iv.z_slc, ↓Iv.z_slf, ↓Iv.z_slt, ↓Iv.z_call, ↓Iv.z_blt, ↓Iv.z_isi, ↓Iv.z_comp, ↓Iv.k_nil, ↓Iv.k_cons, ↓Iv.z_seq, ↓Iv.z_rng1, ↓Iv.k_expr, ↓Iv.z_aite, ↓Iv.z_for, ↓Iv.z_whl, ↓Iv.k_retN, ↓Iv.k_pass, ↓Iv.k_brk, ↓Iv.k_cont, ↓Iv.k_frz, ↓Iv.z_mth, ↓Iv.z_mut, ↓Iv.k_scons, ↓Iv.k_snil, ↓Iv.k_asg, ↓Iv.k_par, ↓Iv.z_set, ↓Iv.k_ret, ↓Iv.z_aug, ↓Iv.z_enm, ↓Iv.z_rng2, ↓Iv.look_0, ↓Iv.look_s, ↓Iv.onS_v, ↓Iv.onS_o, ↓Iv.ownK_o, ↓Iv.valK_v, ↓Iv.asV_i, ↓Iv.asB_i, ↓Iv.asN_i, ↓Iv.dsK_v, ↓Iv.dsK_o, ↓Iv.drK_i, ↓Iv.drK_s, ↓Iv.immsK_0, ↓Iv.immsK_i, ↓Iv.dersK_0, ↓Iv.dersK_c, ↓Iv.argsK_0, ↓Iv.argsK_i, ↓Iv.argsK_s, ↓Iv.getO_0, ↓Iv.getO_s, ↓Iv.outK_go, ↓Iv.goO_0, ↓Iv.goO_i, ↓Iv.goO_s, ↓Iv.putS_0, ↓Iv.putS_s, ↓Iv.setK_z, ↓Iv.setK_v, ↓Iv.setK_n, ↓Iv.setK_ss, ↓Iv.setK_0s, ↓Iv.frK_v, ↓Iv.frK_o, ↓Iv.frK_ss, ↓Iv.frK_0s, ↓Iv.setsK_0, ↓Iv.setsK_c, ↓Iv.tgK_v, ↓Iv.tgK_w, ↓Iv.tgK_t, ↓Iv.tgK_2, ↓Iv.tgK_p, ↓Iv.tgK_2p, ↓Iv.asgK_f, ↓Iv.asgK_v, ↓Iv.asgK_w, ↓Iv.asgK_t, ↓Iv.asgK_2, ↓Iv.retK_i, ↓Iv.retK_s, ↓Iv.bkz_some, ↓Iv.cnd_t, ↓Iv.cnd_f, ↓Iv.endK_ret, ↓Iv.endK_next, ↓Iv.za_i, ↓Iv.zs_i, ↓Iv.zeq_i, ↓Iv.zne_i, ↓Iv.zlt_i, ↓Iv.zle_i, ↓Iv.zgt_i, ↓Iv.zge_i, ↓Iv.zeq_s, ↓Iv.zne_s, ↓Iv.zeq_b, ↓Iv.zne_b, ↓Iv.zlen_t, ↓Iv.zlen_l, ↓Iv.zlen_r, ↓Iv.zlen_d, ↓Iv.ztup_l, ↓Iv.ztup_t, ↓Iv.zlst_l, ↓Iv.zlst_t, ↓Iv.zlst_r, ↓Iv.zzip_t, ↓Iv.zzip_l, ↓Iv.zint_i, ↓Iv.zint_b, ↓Iv.zit_t, ↓Iv.zit_l, ↓Iv.zit_r, ↓Iv.zslc_t, ↓Iv.zslc_l, ↓Iv.zrev_t, ↓Iv.zrev_l, ↓Iv.zaug_a, ↓Iv.zaug_s, ↓Iv.zisn, ↓Iv.znotn, ↓Iv.zadd_l, ↓Iv.zadd_t, ↓Iv.zapp_l, ↓Iv.ty_ll, ↓Iv.ty_dd, ↓Iv.zfor_nil, ↓Iv.zty_i, ↓Iv.zty_ib, ↓Iv.zty_is, ↓Iv.zty_it, ↓Iv.zty_il, ↓Iv.zty_bi, ↓Iv.zty_bb, ↓Iv.zty_bs, ↓Iv.zty_bt, ↓Iv.zty_bl, ↓Iv.zty_si, ↓Iv.zty_sb, ↓Iv.zty_ss, ↓Iv.zty_st, ↓Iv.zty_sl, ↓Iv.zty_ti, ↓Iv.zty_tb, ↓Iv.zty_ts, ↓Iv.zty_tt, ↓Iv.zty_tl, ↓Iv.zty_li, ↓Iv.zty_lb, ↓Iv.zty_ls, ↓Iv.zty_lt, ↓Iv.zty_ll, ↓Iv.zty_ni, ↓Iv.zty_nb, ↓Iv.zty_ns, ↓Iv.zty_nt, ↓Iv.zty_nl, ↓Iv.zty_di, ↓Iv.zty_db, ↓Iv.zty_ds, ↓Iv.zty_dt, ↓Iv.zty_dl, ↓Iv.quiet_0, ↓Iv.quiet_s, ↓Iv.qS_v, ↓Iv.qS_n, ↓Iv.qS_s, ↓reduceIte, Bool.false_eq_true, Nat.reduceLeDiff, Nat.zero_le, Iv.slotsOf, Iv.nodupN, List.contains_nil, Bool.not_false, Bool.not_true, Bool.and_true, Bool.true_and, Bool.and_false, Bool.false_and, decide_true, decide_false, List.replicate, List.cons_append, List.nil_append, List.length_cons, List.length_nil, Nat.reduceAdd, Nat.reduceSub, List.contains_cons, Nat.reduceBeqDiff, Nat.reduceEqDiff, Bool.or_false, Bool.false_or, Bool.or_true, Bool.true_or, List.take_succ_cons, List.take_zero, ↓bkz hr]
    refine Tot.ret ⟨prs kvs, q, ⟨Nat.le_trans (prs_len kvs) hl, fun x hx => ?_⟩, hq, rfl⟩
    exact hk _ (lk_mem (prs_mem.mp hx).1)
end K07
namespace K07
open PySem Iv Tm
structure TOk (t : T) : Prop where
  k : ok t
  h : ht t ≤ 20
  z : sz t ≤ 200
theorem t5_run (p : D) (pat t : T) (hp : DT 3 pat) (ht' : TOk t) (s0 s2 s3 s6 s7 : Slot) :
    Tot (exsK 1 whileFuel (run tab 99) (tailS (tailS (tailS (tailS p_law_b0)))) [s0, .own p, s2, s3, .val (enc pat), .val (enc t), s6, s7] fun fl r => some (fl, r)) fun z => ∃ t6 t7, z = (.next, [s0, .own p, s2, s3, .val (enc pat), .val (enc t), t6, t7]) := by
  have z1 : sz pat ≤ 15 := hp.z
  have h1 := hp.h
  have h2 := ht'.h
  have g : Good 200 15 [] [(pat, t)] := ⟨Con_nil, fun q hq => by
    rw [List.mem_singleton] at hq
    subst hq
    exact ⟨hp.k, by show ht pat ≤ 60; omega, ht'.k, by show ht t ≤ 60; omega, ht'.z⟩, fun q hq => (by cases hq), by show 0 + (sz pat + 0) ≤ 15; omega⟩
  cases hR : Tm.mt 15 [] [(pat, t)] with
  | none =>
    obtain ⟨fr, o1, e1⟩ := l_matched_run 69 200 15 (by decide) pat t g _ hR
    obtain ⟨o2, e2⟩ := p_match_run 69 200 15 (by decide) pat t g _ hR
    have rN : bltop .repr [.non] = some (false, .str "None") := rfl
    have i1 : cmpop .isN .non .non = some true := rfl
    have e1' : run tab 99 f_l_matched [.val (enc pat), .val (enc t)] = some (fr, .non, o1) := e1
    have e2' : run tab 99 f_p_match [.val (enc pat), .val (enc t)] = some (false, .non, o2) := e2
    simp -implicitDefEqProofs only [↓Iv.k_var, ↓Iv.k_int, ↓Iv.k_str, ↓Iv.k_bl, ↓Iv.k_non, ↓Iv.k_tup, ↓Iv.k_lst, ↓Iv.k_dct, ↓Iv.z_bin, ↓Iv.k_neg, ↓Iv.z_cmp, ↓Iv.z_cmp2, ↓Iv.z_rev, ↓Iv.z_and, ↓Iv.z_or, ↓Iv.k_not, ↓Iv.z_ite, ↓Iv.z_idx, ↓Iv.z_slc, ↓Iv.z_slf, ↓Iv.z_slt, ↓Iv.z_call, ↓Iv.z_blt, ↓Iv.z_isi, ↓Iv.z_comp, ↓Iv.k_nil, ↓Iv.k_cons, ↓Iv.z_seq, ↓Iv.z_rng1, ↓Iv.k_expr, ↓Iv.z_aite, ↓Iv.z_for, ↓Iv.z_whl, ↓Iv.k_retN, ↓Iv.k_pass, ↓Iv.k_brk, ↓Iv.k_cont, ↓Iv.k_frz, ↓Iv.z_mth, ↓Iv.z_mut, ↓Iv.k_scons, ↓Iv.k_snil, ↓Iv.k_asg, ↓Iv.k_par, ↓Iv.z_set, ↓Iv.k_ret, ↓Iv.z_aug, ↓Iv.z_enm, ↓Iv.z_rng2, ↓Iv.look_0, ↓Iv.look_s, ↓Iv.onS_v, ↓Iv.onS_o, ↓Iv.ownK_o, ↓Iv.valK_v, ↓Iv.asV_i, ↓Iv.asB_i, ↓Iv.asN_i, ↓Iv.dsK_v, ↓Iv.dsK_o, ↓Iv.drK_i, ↓Iv.drK_s, ↓Iv.immsK_0, ↓Iv.immsK_i, ↓Iv.dersK_0, ↓Iv.dersK_c, ↓Iv.argsK_0, ↓Iv.argsK_i, ↓Iv.argsK_s, ↓Iv.getO_0, ↓Iv.getO_s, ↓Iv.outK_go, ↓Iv.goO_0, ↓Iv.goO_i, ↓Iv.goO_s, ↓Iv.putS_0, ↓Iv.putS_s, ↓Iv.setK_z, ↓Iv.setK_v, ↓Iv.setK_n, ↓Iv.setK_ss, ↓Iv.setK_0s, ↓Iv.frK_v, ↓Iv.frK_o, ↓Iv.frK_ss, ↓Iv.frK_0s, ↓Iv.setsK_0, ↓Iv.setsK_c, ↓Iv.tgK_v, ↓Iv.tgK_w, ↓Iv.tgK_t, ↓Iv.tgK_2, ↓Iv.tgK_p, ↓Iv.tgK_2p, ↓Iv.asgK_f, ↓Iv.asgK_v, ↓Iv.asgK_w, ↓Iv.asgK_t, ↓Iv.asgK_2, ↓Iv.retK_i, ↓Iv.retK_s, ↓Iv.bkz_some, ↓Iv.cnd_t, ↓Iv.cnd_f, ↓Iv.endK_ret, ↓Iv.endK_next, ↓Iv.za_i, ↓Iv.zs_i, ↓Iv.zeq_i, ↓Iv.zne_i, ↓Iv.zlt_i, ↓Iv.zle_i, ↓Iv.zgt_i, ↓Iv.zge_i, ↓Iv.zeq_s, ↓Iv.zne_s, ↓Iv.zeq_b, ↓Iv.zne_b, ↓Iv.zlen_t, ↓Iv.zlen_l, ↓Iv.zlen_r, ↓Iv.zlen_d, ↓Iv.ztup_l, ↓Iv.ztup_t, ↓Iv.zlst_l, ↓Iv.zlst_t, ↓Iv.zlst_r, ↓Iv.zzip_t, ↓Iv.zzip_l, ↓Iv.zint_i, ↓Iv.zint_b, ↓Iv.zit_t, ↓Iv.zit_l, ↓Iv.zit_r, ↓Iv.zslc_t, ↓Iv.zslc_l, ↓Iv.zrev_t, ↓Iv.zrev_l, ↓Iv.zaug_a, ↓Iv.zaug_s, ↓Iv.zisn, ↓Iv.znotn, ↓Iv.zadd_l, ↓Iv.zadd_t, ↓Iv.zapp_l, ↓Iv.ty_ll, ↓Iv.ty_dd, ↓Iv.zfor_nil, ↓Iv.zty_i, ↓Iv.zty_ib, ↓Iv.zty_is, ↓Iv.zty_it, ↓Iv.zty_il, ↓Iv.zty_bi, ↓Iv.zty_bb, ↓Iv.zty_bs, ↓Iv.zty_bt, ↓Iv.zty_bl, ↓Iv.zty_si, ↓Iv.zty_sb, ↓Iv.zty_ss, ↓Iv.zty_st, ↓Iv.zty_sl, ↓Iv.zty_ti, ↓Iv.zty_tb, ↓Iv.zty_ts, ↓Iv.zty_tt, ↓Iv.zty_tl, ↓Iv.zty_li, ↓Iv.zty_lb, ↓Iv.zty_ls, ↓Iv.zty_lt, ↓Iv.zty_ll, ↓Iv.zty_ni, ↓Iv.zty_nb, ↓Iv.zty_ns, ↓Iv.zty_nt, ↓Iv.zty_nl, ↓Iv.zty_di, ↓Iv.zty_db, ↓Iv.zty_ds, ↓Iv.zty_dt, ↓Iv.zty_dl, ↓Iv.quiet_0, ↓Iv.quiet_s, ↓Iv.qS_v, ↓Iv.qS_n, ↓Iv.qS_s, ↓reduceIte, Bool.false_eq_true, Nat.reduceLeDiff, Nat.zero_le, Iv.slotsOf, Iv.nodupN, List.contains_nil, Bool.not_false, Bool.not_true, Bool.and_true, Bool.true_and, Bool.and_false, Bool.false_and, decide_true, decide_false, List.replicate, List.cons_append, List.nil_append, List.length_cons, List.length_nil, Nat.reduceAdd, Nat.reduceSub, List.contains_cons, Nat.reduceBeqDiff, Nat.reduceEqDiff, Bool.or_false, Bool.false_or, Bool.or_true, Bool.true_or, List.take_succ_cons, List.take_zero, p_law_b0, tailS, ↓bkz e1', ↓bkz e2', ↓bkz rN, ↓bkz i1]
    exact Tot.ret ⟨_, _, rfl⟩
  | some kn =>
    obtain ⟨fr, o1, e1⟩ := l_matched_run 69 200 15 (by decide) pat t g _ hR
    obtain ⟨o2, e2⟩ := p_match_run 69 200 15 (by decide) pat t g _ hR
    have gk := mt_good 15 [] _ kn g hR
    have l := gk.len
    have l2 := prs_len kn
    have i1 : cmpop .isN (.dct (encK kn)) .non = some false := rfl
    have e3 := l_pairs_run 98 kn (by omega) (fun q hq => ⟨(gk.tbl q hq).1, (gk.tbl q hq).2.1, (gk.tbl q hq).2.2.1⟩) (.val (.dct (encK kn))) (.inl rfl)
    have hs : showOk (encP (prs kn)) = true := show_kv (b := 200) (fun q hq => by
      have := gk.tbl _ (lk_mem (prs_mem.mp hq).1)
      exact ⟨this.1, this.2.1, this.2.2.2, this.2.2.1⟩) (by omega) (by decide)
    have rp : bltop .repr [encP (prs kn)] = some (false, .str (toP (encP (prs kn))).shown) := by
      show (if showOk _ = true then _ else _) = _
      rw [if_pos hs]
    have e1' : run tab 99 f_l_matched [.val (enc pat), .val (enc t)] = some (fr, .dct (encK kn), o1) := e1
    have e2' : run tab 99 f_p_match [.val (enc pat), .val (enc t)] = some (false, encP (prs kn), o2) := e2
    simp -implicitDefEqProofs only [↓Iv.k_var, ↓Iv.k_int, ↓Iv.k_str, ↓Iv.k_bl, ↓Iv.k_non, ↓Iv.k_tup, ↓Iv.k_lst, ↓Iv.k_dct, ↓Iv.z_bin, ↓Iv.k_neg, ↓Iv.z_cmp, ↓Iv.z_cmp2, ↓Iv.z_rev, ↓Iv.z_and, ↓Iv.z_or, ↓Iv.k_not, ↓Iv.z_ite, ↓Iv.z_idx, ↓Iv.z_slc, ↓Iv.z_slf, ↓Iv.z_slt, ↓Iv.z_call, ↓Iv.z_blt, ↓Iv.z_isi, ↓Iv.z_comp, ↓Iv.k_nil, ↓Iv.k_cons, ↓Iv.z_seq, ↓Iv.z_rng1, ↓Iv.k_expr, ↓Iv.z_aite, ↓Iv.z_for, ↓Iv.z_whl, ↓Iv.k_retN, ↓Iv.k_pass, ↓Iv.k_brk, ↓Iv.k_cont, ↓Iv.k_frz, ↓Iv.z_mth, ↓Iv.z_mut, ↓Iv.k_scons, ↓Iv.k_snil, ↓Iv.k_asg, ↓Iv.k_par, ↓Iv.z_set, ↓Iv.k_ret, ↓Iv.z_aug, ↓Iv.z_enm, ↓Iv.z_rng2, ↓Iv.look_0, ↓Iv.look_s, ↓Iv.onS_v, ↓Iv.onS_o, ↓Iv.ownK_o, ↓Iv.valK_v, ↓Iv.asV_i, ↓Iv.asB_i, ↓Iv.asN_i, ↓Iv.dsK_v, ↓Iv.dsK_o, ↓Iv.drK_i, ↓Iv.drK_s, ↓Iv.immsK_0, ↓Iv.immsK_i, ↓Iv.dersK_0, ↓Iv.dersK_c, ↓Iv.argsK_0, ↓Iv.argsK_i, ↓Iv.argsK_s, ↓Iv.getO_0, ↓Iv.getO_s, ↓Iv.outK_go, ↓Iv.goO_0, ↓Iv.goO_i, ↓Iv.goO_s, ↓Iv.putS_0, ↓Iv.putS_s, ↓Iv.setK_z, ↓Iv.setK_v, ↓Iv.setK_n, ↓Iv.setK_ss, ↓Iv.setK_0s, ↓Iv.frK_v, ↓Iv.frK_o, ↓Iv.frK_ss, ↓Iv.frK_0s, ↓Iv.setsK_0, ↓Iv.setsK_c, ↓Iv.tgK_v, ↓Iv.tgK_w, ↓Iv.tgK_t, ↓Iv.tgK_2, ↓Iv.tgK_p, ↓Iv.tgK_2p, ↓Iv.asgK_f, ↓Iv.asgK_v, ↓Iv.asgK_w, ↓Iv.asgK_t, ↓Iv.asgK_2, ↓Iv.retK_i, ↓Iv.retK_s, ↓Iv.bkz_some, ↓Iv.cnd_t, ↓Iv.cnd_f, ↓Iv.endK_ret, ↓Iv.endK_next, ↓Iv.za_i, ↓Iv.zs_i, ↓Iv.zeq_i, ↓Iv.zne_i, ↓Iv.zlt_i, ↓Iv.zle_i, ↓Iv.zgt_i, ↓Iv.zge_i, ↓Iv.zeq_s, ↓Iv.zne_s, ↓Iv.zeq_b, ↓Iv.zne_b, ↓Iv.zlen_t, ↓Iv.zlen_l, ↓Iv.zlen_r, ↓Iv.zlen_d, ↓Iv.ztup_l, ↓Iv.ztup_t, ↓Iv.zlst_l, ↓Iv.zlst_t, ↓Iv.zlst_r, ↓Iv.zzip_t, ↓Iv.zzip_l, ↓Iv.zint_i, ↓Iv.zint_b, ↓Iv.zit_t, ↓Iv.zit_l, ↓Iv.zit_r, ↓Iv.zslc_t, ↓Iv.zslc_l, ↓Iv.zrev_t, ↓Iv.zrev_l, ↓Iv.zaug_a, ↓Iv.zaug_s, ↓Iv.zisn, ↓Iv.znotn, ↓Iv.zadd_l, ↓Iv.zadd_t, ↓Iv.zapp_l, ↓Iv.ty_ll, ↓Iv.ty_dd, ↓Iv.zfor_nil, ↓Iv.zty_i, ↓Iv.zty_ib, ↓Iv.zty_is, ↓Iv.zty_it, ↓Iv.zty_il, ↓Iv.zty_bi, ↓Iv.zty_bb, ↓Iv.zty_bs, ↓Iv.zty_bt, ↓Iv.zty_bl, ↓Iv.zty_si, ↓Iv.zty_sb, ↓Iv.zty_ss, ↓Iv.zty_st, ↓Iv.zty_sl, ↓Iv.zty_ti, ↓Iv.zty_tb, ↓Iv.zty_ts, ↓Iv.zty_tt, ↓Iv.zty_tl, ↓Iv.zty_li, ↓Iv.zty_lb, ↓Iv.zty_ls, ↓Iv.zty_lt, ↓Iv.zty_ll, ↓Iv.zty_ni, ↓Iv.zty_nb, ↓Iv.zty_ns, ↓Iv.zty_nt, ↓Iv.zty_nl, ↓Iv.zty_di, ↓Iv.zty_db, ↓Iv.zty_ds, ↓Iv.zty_dt, ↓Iv.zty_dl, ↓Iv.quiet_0, ↓Iv.quiet_s, ↓Iv.qS_v, ↓Iv.qS_n, ↓Iv.qS_s, ↓reduceIte, Bool.false_eq_true, Nat.reduceLeDiff, Nat.zero_le, Iv.slotsOf, Iv.nodupN, List.contains_nil, Bool.not_false, Bool.not_true, Bool.and_true, Bool.true_and, Bool.and_false, Bool.false_and, decide_true, decide_false, List.replicate, List.cons_append, List.nil_append, List.length_cons, List.length_nil, Nat.reduceAdd, Nat.reduceSub, List.contains_cons, Nat.reduceBeqDiff, Nat.reduceEqDiff, Bool.or_false, Bool.false_or, Bool.or_true, Bool.true_or, List.take_succ_cons, List.take_zero, p_law_b0, tailS, ↓bkz e1', ↓bkz e2', ↓bkz rp, ↓bkz i1, ↓bkz e3]
    exact Tot.ret ⟨_, _, rfl⟩
def Out (s0 s2 s3 : Slot) (M : Nat) (z : Fl × Sl) : Prop := ∃ (p' : D) (t4 t5 t6 t7 : Slot), PenOk M p' ∧ z = (.next, [s0, .own p', s2, s3, t4, t5, t6, t7])
theorem t4_run (rs ts : List (Str × Nat × Nat)) (hrs : RowsOk rs) (N : Nat) (p : D) (hq : PenOk N p) (hN : N + 31 < 1000000000000000) (pat t : T) (hp : DT 3 pat) (ht' : TOk t) (s0 s3 s6 s7 : Slot) :
    Tot (exsK 1 whileFuel (run tab 99) (tailS (tailS (tailS p_law_b0))) [s0, .own p, .val (rowsD rs ts), s3, .val (enc pat), .val (enc t), s6, s7] fun fl r => some (fl, r)) (Out s0 (.val (rowsD rs ts)) s3 (N + 31)) := by
  have h5 : ∀ (M : Nat) (q : D) (u : T), M ≤ N + 31 → PenOk M q → TOk u → Tot (exsK 1 whileFuel (run tab 99) (tailS (tailS (tailS (tailS p_law_b0)))) [s0, .own q, .val (rowsD rs ts), s3, .val (enc pat), .val (enc u), s6, s7] fun fl r => some (fl, r)) (Out s0 (.val (rowsD rs ts)) s3 (N + 31)) := fun M q u hM hq' hu => by
    refine (t5_run q pat u hp hu s0 (.val (rowsD rs ts)) s3 s6 s7).mono ?_
    rintro _ ⟨t6, t7, rfl⟩
    exact ⟨q, _, _, _, _, hq'.mono hM, rfl⟩
  show Tot (exsK 1 whileFuel (run tab 99) (.cons (headS (tailS (tailS (tailS p_law_b0)))) (tailS (tailS (tailS (tailS p_law_b0))))) [s0, .own p, .val (rowsD rs ts), s3, .val (enc pat), .val (enc t), s6, s7] fun fl r => some (fl, r)) _
  generalize tailS (tailS (tailS (tailS p_law_b0))) = R at h5 ⊢
  obtain ⟨v, p1, v0, v1, hp1, e1⟩ := draw_run 98 N (many := 6) hq (by omega) (by decide) (by decide)
  simp -implicitDefEqProofs only [↓Iv.k_var, ↓Iv.k_int, ↓Iv.k_str, ↓Iv.k_bl, ↓Iv.k_non, ↓Iv.k_tup, ↓Iv.k_lst, ↓Iv.k_dct, ↓Iv.z_bin, ↓Iv.k_neg, ↓Iv.z_cmp, ↓Iv.z_cmp2, ↓Iv.z_rev, ↓Iv.z_and, ↓Iv.z_or, ↓Iv.k_not, ↓Iv.z_ite, ↓Iv.z_idx, ↓Iv.z_slc, ↓Iv.z_slf, ↓Iv.z_slt, ↓Iv.z_call, ↓Iv.z_blt, ↓Iv.z_isi, ↓Iv.z_comp, ↓Iv.k_nil, ↓Iv.k_cons, ↓Iv.z_seq, ↓Iv.z_rng1, ↓Iv.k_expr, ↓Iv.z_aite, ↓Iv.z_for, ↓Iv.z_whl, ↓Iv.k_retN, ↓Iv.k_pass, ↓Iv.k_brk, ↓Iv.k_cont, ↓Iv.k_frz, ↓Iv.z_mth, ↓Iv.z_mut, ↓Iv.k_scons, ↓Iv.k_snil, ↓Iv.k_asg, ↓Iv.k_par, ↓Iv.z_set, ↓Iv.k_ret, ↓Iv.z_aug, ↓Iv.z_enm, ↓Iv.z_rng2, ↓Iv.look_0, ↓Iv.look_s, ↓Iv.onS_v, ↓Iv.onS_o, ↓Iv.ownK_o, ↓Iv.valK_v, ↓Iv.asV_i, ↓Iv.asB_i, ↓Iv.asN_i, ↓Iv.dsK_v, ↓Iv.dsK_o, ↓Iv.drK_i, ↓Iv.drK_s, ↓Iv.immsK_0, ↓Iv.immsK_i, ↓Iv.dersK_0, ↓Iv.dersK_c, ↓Iv.argsK_0, ↓Iv.argsK_i, ↓Iv.argsK_s, ↓Iv.getO_0, ↓Iv.getO_s, ↓Iv.outK_go, ↓Iv.goO_0, ↓Iv.goO_i, ↓Iv.goO_s, ↓Iv.putS_0, ↓Iv.putS_s, ↓Iv.setK_z, ↓Iv.setK_v, ↓Iv.setK_n, ↓Iv.setK_ss, ↓Iv.setK_0s, ↓Iv.frK_v, ↓Iv.frK_o, ↓Iv.frK_ss, ↓Iv.frK_0s, ↓Iv.setsK_0, ↓Iv.setsK_c, ↓Iv.tgK_v, ↓Iv.tgK_w, ↓Iv.tgK_t, ↓Iv.tgK_2, ↓Iv.tgK_p, ↓Iv.tgK_2p, ↓Iv.asgK_f, ↓Iv.asgK_v, ↓Iv.asgK_w, ↓Iv.asgK_t, ↓Iv.asgK_2, ↓Iv.retK_i, ↓Iv.retK_s, ↓Iv.bkz_some, ↓Iv.cnd_t, ↓Iv.cnd_f, ↓Iv.endK_ret, ↓Iv.endK_next, ↓Iv.za_i, ↓Iv.zs_i, ↓Iv.zeq_i, ↓Iv.zne_i, ↓Iv.zlt_i, ↓Iv.zle_i, ↓Iv.zgt_i, ↓Iv.zge_i, ↓Iv.zeq_s, ↓Iv.zne_s, ↓Iv.zeq_b, ↓Iv.zne_b, ↓Iv.zlen_t, ↓Iv.zlen_l, ↓Iv.zlen_r, ↓Iv.zlen_d, ↓Iv.ztup_l, ↓Iv.ztup_t, ↓Iv.zlst_l, ↓Iv.zlst_t, ↓Iv.zlst_r, ↓Iv.zzip_t, ↓Iv.zzip_l, ↓Iv.zint_i, ↓Iv.zint_b, ↓Iv.zit_t, ↓Iv.zit_l, ↓Iv.zit_r, ↓Iv.zslc_t, ↓Iv.zslc_l, ↓Iv.zrev_t, ↓Iv.zrev_l, ↓Iv.zaug_a, ↓Iv.zaug_s, ↓Iv.zisn, ↓Iv.znotn, ↓Iv.zadd_l, ↓Iv.zadd_t, ↓Iv.zapp_l, ↓Iv.ty_ll, ↓Iv.ty_dd, ↓Iv.zfor_nil, ↓Iv.zty_i, ↓Iv.zty_ib, ↓Iv.zty_is, ↓Iv.zty_it, ↓Iv.zty_il, ↓Iv.zty_bi, ↓Iv.zty_bb, ↓Iv.zty_bs, ↓Iv.zty_bt, ↓Iv.zty_bl, ↓Iv.zty_si, ↓Iv.zty_sb, ↓Iv.zty_ss, ↓Iv.zty_st, ↓Iv.zty_sl, ↓Iv.zty_ti, ↓Iv.zty_tb, ↓Iv.zty_ts, ↓Iv.zty_tt, ↓Iv.zty_tl, ↓Iv.zty_li, ↓Iv.zty_lb, ↓Iv.zty_ls, ↓Iv.zty_lt, ↓Iv.zty_ll, ↓Iv.zty_ni, ↓Iv.zty_nb, ↓Iv.zty_ns, ↓Iv.zty_nt, ↓Iv.zty_nl, ↓Iv.zty_di, ↓Iv.zty_db, ↓Iv.zty_ds, ↓Iv.zty_dt, ↓Iv.zty_dl, ↓Iv.quiet_0, ↓Iv.quiet_s, ↓Iv.qS_v, ↓Iv.qS_n, ↓Iv.qS_s, ↓reduceIte, Bool.false_eq_true, Nat.reduceLeDiff, Nat.zero_le, Iv.slotsOf, Iv.nodupN, List.contains_nil, Bool.not_false, Bool.not_true, Bool.and_true, Bool.true_and, Bool.and_false, Bool.false_and, decide_true, decide_false, List.replicate, List.cons_append, List.nil_append, List.length_cons, List.length_nil, Nat.reduceAdd, Nat.reduceSub, List.contains_cons, Nat.reduceBeqDiff, Nat.reduceEqDiff, Bool.or_false, Bool.false_or, Bool.or_true, Bool.true_or, List.take_succ_cons, List.take_zero, headS, tailS, p_law_b0, ↓bkz e1]
  refine Tot.cndP (fun _ => ?_) fun _ => ?_
  · have T1 := term_run rs ts hrs 3 (by decide) 3 93 (N + 1) p1 hp1 (by show N + 1 + 30 < _; omega)
    have T1' : Tot (run tab 99 f_l_drawn_term [.own p1, .val (rowsD rs ts), .val (.int 3), .val (.int 3)]) _ := T1
    simp -implicitDefEqProofs only [↓Iv.k_var, ↓Iv.k_int, ↓Iv.k_str, ↓Iv.k_bl, ↓Iv.k_non, ↓Iv.k_tup, ↓Iv.k_lst, ↓Iv.k_dct, ↓Iv.z_bin, ↓Iv.k_neg, ↓Iv.z_cmp, ↓Iv.z_cmp2, ↓Iv.z_rev, ↓Iv.z_and, ↓Iv.z_or, ↓Iv.k_not, ↓Iv.z_ite, ↓Iv.z_idx, ↓Iv.z_slc, ↓Iv.z_slf, ↓Iv.z_slt, ↓Iv.z_call, ↓Iv.z_blt, ↓Iv.z_isi, ↓Iv.z_comp, ↓Iv.k_nil, ↓Iv.k_cons, ↓Iv.z_seq, ↓Iv.z_rng1, ↓Iv.k_expr, ↓Iv.z_aite, ↓Iv.z_for, ↓Iv.z_whl, ↓Iv.k_retN, ↓Iv.k_pass, ↓Iv.k_brk, ↓Iv.k_cont, ↓Iv.k_frz, ↓Iv.z_mth, ↓Iv.z_mut, ↓Iv.k_scons, ↓Iv.k_snil, ↓Iv.k_asg, ↓Iv.k_par, ↓Iv.z_set, ↓Iv.k_ret, ↓Iv.z_aug, ↓Iv.z_enm, ↓Iv.z_rng2, ↓Iv.look_0, ↓Iv.look_s, ↓Iv.onS_v, ↓Iv.onS_o, ↓Iv.ownK_o, ↓Iv.valK_v, ↓Iv.asV_i, ↓Iv.asB_i, ↓Iv.asN_i, ↓Iv.dsK_v, ↓Iv.dsK_o, ↓Iv.drK_i, ↓Iv.drK_s, ↓Iv.immsK_0, ↓Iv.immsK_i, ↓Iv.dersK_0, ↓Iv.dersK_c, ↓Iv.argsK_0, ↓Iv.argsK_i, ↓Iv.argsK_s, ↓Iv.getO_0, ↓Iv.getO_s, ↓Iv.outK_go, ↓Iv.goO_0, ↓Iv.goO_i, ↓Iv.goO_s, ↓Iv.putS_0, ↓Iv.putS_s, ↓Iv.setK_z, ↓Iv.setK_v, ↓Iv.setK_n, ↓Iv.setK_ss, ↓Iv.setK_0s, ↓Iv.frK_v, ↓Iv.frK_o, ↓Iv.frK_ss, ↓Iv.frK_0s, ↓Iv.setsK_0, ↓Iv.setsK_c, ↓Iv.tgK_v, ↓Iv.tgK_w, ↓Iv.tgK_t, ↓Iv.tgK_2, ↓Iv.tgK_p, ↓Iv.tgK_2p, ↓Iv.asgK_f, ↓Iv.asgK_v, ↓Iv.asgK_w, ↓Iv.asgK_t, ↓Iv.asgK_2, ↓Iv.retK_i, ↓Iv.retK_s, ↓Iv.bkz_some, ↓Iv.cnd_t, ↓Iv.cnd_f, ↓Iv.endK_ret, ↓Iv.endK_next, ↓Iv.za_i, ↓Iv.zs_i, ↓Iv.zeq_i, ↓Iv.zne_i, ↓Iv.zlt_i, ↓Iv.zle_i, ↓Iv.zgt_i, ↓Iv.zge_i, ↓Iv.zeq_s, ↓Iv.zne_s, ↓Iv.zeq_b, ↓Iv.zne_b, ↓Iv.zlen_t, ↓Iv.zlen_l, ↓Iv.zlen_r, ↓Iv.zlen_d, ↓Iv.ztup_l, ↓Iv.ztup_t, ↓Iv.zlst_l, ↓Iv.zlst_t, ↓Iv.zlst_r, ↓Iv.zzip_t, ↓Iv.zzip_l, ↓Iv.zint_i, ↓Iv.zint_b, ↓Iv.zit_t, ↓Iv.zit_l, ↓Iv.zit_r, ↓Iv.zslc_t, ↓Iv.zslc_l, ↓Iv.zrev_t, ↓Iv.zrev_l, ↓Iv.zaug_a, ↓Iv.zaug_s, ↓Iv.zisn, ↓Iv.znotn, ↓Iv.zadd_l, ↓Iv.zadd_t, ↓Iv.zapp_l, ↓Iv.ty_ll, ↓Iv.ty_dd, ↓Iv.zfor_nil, ↓Iv.zty_i, ↓Iv.zty_ib, ↓Iv.zty_is, ↓Iv.zty_it, ↓Iv.zty_il, ↓Iv.zty_bi, ↓Iv.zty_bb, ↓Iv.zty_bs, ↓Iv.zty_bt, ↓Iv.zty_bl, ↓Iv.zty_si, ↓Iv.zty_sb, ↓Iv.zty_ss, ↓Iv.zty_st, ↓Iv.zty_sl, ↓Iv.zty_ti, ↓Iv.zty_tb, ↓Iv.zty_ts, ↓Iv.zty_tt, ↓Iv.zty_tl, ↓Iv.zty_li, ↓Iv.zty_lb, ↓Iv.zty_ls, ↓Iv.zty_lt, ↓Iv.zty_ll, ↓Iv.zty_ni, ↓Iv.zty_nb, ↓Iv.zty_ns, ↓Iv.zty_nt, ↓Iv.zty_nl, ↓Iv.zty_di, ↓Iv.zty_db, ↓Iv.zty_ds, ↓Iv.zty_dt, ↓Iv.zty_dl, ↓Iv.quiet_0, ↓Iv.quiet_s, ↓Iv.qS_v, ↓Iv.qS_n, ↓Iv.qS_s, ↓reduceIte, Bool.false_eq_true, Nat.reduceLeDiff, Nat.zero_le, Iv.slotsOf, Iv.nodupN, List.contains_nil, Bool.not_false, Bool.not_true, Bool.and_true, Bool.true_and, Bool.and_false, Bool.false_and, decide_true, decide_false, List.replicate, List.cons_append, List.nil_append, List.length_cons, List.length_nil, Nat.reduceAdd, Nat.reduceSub, List.contains_cons, Nat.reduceBeqDiff, Nat.reduceEqDiff, Bool.or_false, Bool.false_or, Bool.or_true, Bool.true_or, List.take_succ_cons, List.take_zero]
    refine Tot.bnd T1' ?_
    rintro _ ⟨u, p2, hu, hp2, rfl⟩
    simp -implicitDefEqProofs only [↓Iv.k_var, ↓Iv.k_int, ↓Iv.k_str, ↓Iv.k_bl, ↓Iv.k_non, ↓Iv.k_tup, ↓Iv.k_lst, ↓Iv.k_dct, ↓Iv.z_bin, ↓Iv.k_neg, ↓Iv.z_cmp, ↓Iv.z_cmp2, ↓Iv.z_rev, ↓Iv.z_and, ↓Iv.z_or, ↓Iv.k_not, ↓Iv.z_ite, ↓Iv.z_idx, ↓Iv.z_slc, ↓Iv.z_slf, ↓Iv.z_slt, ↓Iv.z_call, ↓Iv.z_blt, ↓Iv.z_isi, ↓Iv.z_comp, ↓Iv.k_nil, ↓Iv.k_cons, ↓Iv.z_seq, ↓Iv.z_rng1, ↓Iv.k_expr, ↓Iv.z_aite, ↓Iv.z_for, ↓Iv.z_whl, ↓Iv.k_retN, ↓Iv.k_pass, ↓Iv.k_brk, ↓Iv.k_cont, ↓Iv.k_frz, ↓Iv.z_mth, ↓Iv.z_mut, ↓Iv.k_scons, ↓Iv.k_snil, ↓Iv.k_asg, ↓Iv.k_par, ↓Iv.z_set, ↓Iv.k_ret, ↓Iv.z_aug, ↓Iv.z_enm, ↓Iv.z_rng2, ↓Iv.look_0, ↓Iv.look_s, ↓Iv.onS_v, ↓Iv.onS_o, ↓Iv.ownK_o, ↓Iv.valK_v, ↓Iv.asV_i, ↓Iv.asB_i, ↓Iv.asN_i, ↓Iv.dsK_v, ↓Iv.dsK_o, ↓Iv.drK_i, ↓Iv.drK_s, ↓Iv.immsK_0, ↓Iv.immsK_i, ↓Iv.dersK_0, ↓Iv.dersK_c, ↓Iv.argsK_0, ↓Iv.argsK_i, ↓Iv.argsK_s, ↓Iv.getO_0, ↓Iv.getO_s, ↓Iv.outK_go, ↓Iv.goO_0, ↓Iv.goO_i, ↓Iv.goO_s, ↓Iv.putS_0, ↓Iv.putS_s, ↓Iv.setK_z, ↓Iv.setK_v, ↓Iv.setK_n, ↓Iv.setK_ss, ↓Iv.setK_0s, ↓Iv.frK_v, ↓Iv.frK_o, ↓Iv.frK_ss, ↓Iv.frK_0s, ↓Iv.setsK_0, ↓Iv.setsK_c, ↓Iv.tgK_v, ↓Iv.tgK_w, ↓Iv.tgK_t, ↓Iv.tgK_2, ↓Iv.tgK_p, ↓Iv.tgK_2p, ↓Iv.asgK_f, ↓Iv.asgK_v, ↓Iv.asgK_w, ↓Iv.asgK_t, ↓Iv.asgK_2, ↓Iv.retK_i, ↓Iv.retK_s, ↓Iv.bkz_some, ↓Iv.cnd_t, ↓Iv.cnd_f, ↓Iv.endK_ret, ↓Iv.endK_next, ↓Iv.za_i, ↓Iv.zs_i, ↓Iv.zeq_i, ↓Iv.zne_i, ↓Iv.zlt_i, ↓Iv.zle_i, ↓Iv.zgt_i, ↓Iv.zge_i, ↓Iv.zeq_s, ↓Iv.zne_s, ↓Iv.zeq_b, ↓Iv.zne_b, ↓Iv.zlen_t, ↓Iv.zlen_l, ↓Iv.zlen_r, ↓Iv.zlen_d, ↓Iv.ztup_l, ↓Iv.ztup_t, ↓Iv.zlst_l, ↓Iv.zlst_t, ↓Iv.zlst_r, ↓Iv.zzip_t, ↓Iv.zzip_l, ↓Iv.zint_i, ↓Iv.zint_b, ↓Iv.zit_t, ↓Iv.zit_l, ↓Iv.zit_r, ↓Iv.zslc_t, ↓Iv.zslc_l, ↓Iv.zrev_t, ↓Iv.zrev_l, ↓Iv.zaug_a, ↓Iv.zaug_s, ↓Iv.zisn, ↓Iv.znotn, ↓Iv.zadd_l, ↓Iv.zadd_t, ↓Iv.zapp_l, ↓Iv.ty_ll, ↓Iv.ty_dd, ↓Iv.zfor_nil, ↓Iv.zty_i, ↓Iv.zty_ib, ↓Iv.zty_is, ↓Iv.zty_it, ↓Iv.zty_il, ↓Iv.zty_bi, ↓Iv.zty_bb, ↓Iv.zty_bs, ↓Iv.zty_bt, ↓Iv.zty_bl, ↓Iv.zty_si, ↓Iv.zty_sb, ↓Iv.zty_ss, ↓Iv.zty_st, ↓Iv.zty_sl, ↓Iv.zty_ti, ↓Iv.zty_tb, ↓Iv.zty_ts, ↓Iv.zty_tt, ↓Iv.zty_tl, ↓Iv.zty_li, ↓Iv.zty_lb, ↓Iv.zty_ls, ↓Iv.zty_lt, ↓Iv.zty_ll, ↓Iv.zty_ni, ↓Iv.zty_nb, ↓Iv.zty_ns, ↓Iv.zty_nt, ↓Iv.zty_nl, ↓Iv.zty_di, ↓Iv.zty_db, ↓Iv.zty_ds, ↓Iv.zty_dt, ↓Iv.zty_dl, ↓Iv.quiet_0, ↓Iv.quiet_s, ↓Iv.qS_v, ↓Iv.qS_n, ↓Iv.qS_s, ↓reduceIte, Bool.false_eq_true, Nat.reduceLeDiff, Nat.zero_le, Iv.slotsOf, Iv.nodupN, List.contains_nil, Bool.not_false, Bool.not_true, Bool.and_true, Bool.true_and, Bool.and_false, Bool.false_and, decide_true, decide_false, List.replicate, List.cons_append, List.nil_append, List.length_cons, List.length_nil, Nat.reduceAdd, Nat.reduceSub, List.contains_cons, Nat.reduceBeqDiff, Nat.reduceEqDiff, Bool.or_false, Bool.false_or, Bool.or_true, Bool.true_or, List.take_succ_cons, List.take_zero]
    exact h5 (N + 1 + tC 3) p2 u (by show N + 1 + 30 ≤ _; omega) hp2 ⟨hu.k, by have := hu.h; omega, by have : sz u ≤ 15 := hu.z; omega⟩
  · exact h5 (N + 1) p1 t (by omega) hp1 ht'
theorem t3_run (rs ts : List (Str × Nat × Nat)) (hrs : RowsOk rs) (N : Nat) (p : D) (hq : PenOk N p) (hN : N + 39 < 1000000000000000) (pat t : T) (hp : DT 3 pat) (k1 : ok t) (k2 : ht t ≤ 10) (k3 : sz t ≤ 120) (s0 s3 s6 s7 : Slot) :
    Tot (exsK 1 whileFuel (run tab 99) (tailS (tailS p_law_b0)) [s0, .own p, .val (rowsD rs ts), s3, .val (enc pat), .val (enc t), s6, s7] fun fl r => some (fl, r)) (Out s0 (.val (rowsD rs ts)) s3 (N + 39)) := by
  have h4 : ∀ (M : Nat) (q : D) (u : T), M ≤ N + 8 → PenOk M q → TOk u → Tot (exsK 1 whileFuel (run tab 99) (tailS (tailS (tailS p_law_b0))) [s0, .own q, .val (rowsD rs ts), s3, .val (enc pat), .val (enc u), s6, s7] fun fl r => some (fl, r)) (Out s0 (.val (rowsD rs ts)) s3 (N + 39)) := fun M q u hM hq' hu => by
    refine (t4_run rs ts hrs (N + 8) q (hq'.mono hM) (by omega) pat u hp hu s0 s3 s6 s7).mono fun z h => h
  show Tot (exsK 1 whileFuel (run tab 99) (.cons (headS (tailS (tailS p_law_b0))) (tailS (tailS (tailS p_law_b0)))) [s0, .own p, .val (rowsD rs ts), s3, .val (enc pat), .val (enc t), s6, s7] fun fl r => some (fl, r)) _
  generalize tailS (tailS (tailS p_law_b0)) = R at h4 ⊢
  obtain ⟨v, p1, v0, v1, hp1, e1⟩ := draw_run 98 N (many := 3) hq (by omega) (by decide) (by decide)
  simp -implicitDefEqProofs only [↓Iv.k_var, ↓Iv.k_int, ↓Iv.k_str, ↓Iv.k_bl, ↓Iv.k_non, ↓Iv.k_tup, ↓Iv.k_lst, ↓Iv.k_dct, ↓Iv.z_bin, ↓Iv.k_neg, ↓Iv.z_cmp, ↓Iv.z_cmp2, ↓Iv.z_rev, ↓Iv.z_and, ↓Iv.z_or, ↓Iv.k_not, ↓Iv.z_ite, ↓Iv.z_idx, ↓Iv.z_slc, ↓Iv.z_slf, ↓Iv.z_slt, ↓Iv.z_call, ↓Iv.z_blt, ↓Iv.z_isi, ↓Iv.z_comp, ↓Iv.k_nil, ↓Iv.k_cons, ↓Iv.z_seq, ↓Iv.z_rng1, ↓Iv.k_expr, ↓Iv.z_aite, ↓Iv.z_for, ↓Iv.z_whl, ↓Iv.k_retN, ↓Iv.k_pass, ↓Iv.k_brk, ↓Iv.k_cont, ↓Iv.k_frz, ↓Iv.z_mth, ↓Iv.z_mut, ↓Iv.k_scons, ↓Iv.k_snil, ↓Iv.k_asg, ↓Iv.k_par, ↓Iv.z_set, ↓Iv.k_ret, ↓Iv.z_aug, ↓Iv.z_enm, ↓Iv.z_rng2, ↓Iv.look_0, ↓Iv.look_s, ↓Iv.onS_v, ↓Iv.onS_o, ↓Iv.ownK_o, ↓Iv.valK_v, ↓Iv.asV_i, ↓Iv.asB_i, ↓Iv.asN_i, ↓Iv.dsK_v, ↓Iv.dsK_o, ↓Iv.drK_i, ↓Iv.drK_s, ↓Iv.immsK_0, ↓Iv.immsK_i, ↓Iv.dersK_0, ↓Iv.dersK_c, ↓Iv.argsK_0, ↓Iv.argsK_i, ↓Iv.argsK_s, ↓Iv.getO_0, ↓Iv.getO_s, ↓Iv.outK_go, ↓Iv.goO_0, ↓Iv.goO_i, ↓Iv.goO_s, ↓Iv.putS_0, ↓Iv.putS_s, ↓Iv.setK_z, ↓Iv.setK_v, ↓Iv.setK_n, ↓Iv.setK_ss, ↓Iv.setK_0s, ↓Iv.frK_v, ↓Iv.frK_o, ↓Iv.frK_ss, ↓Iv.frK_0s, ↓Iv.setsK_0, ↓Iv.setsK_c, ↓Iv.tgK_v, ↓Iv.tgK_w, ↓Iv.tgK_t, ↓Iv.tgK_2, ↓Iv.tgK_p, ↓Iv.tgK_2p, ↓Iv.asgK_f, ↓Iv.asgK_v, ↓Iv.asgK_w, ↓Iv.asgK_t, ↓Iv.asgK_2, ↓Iv.retK_i, ↓Iv.retK_s, ↓Iv.bkz_some, ↓Iv.cnd_t, ↓Iv.cnd_f, ↓Iv.endK_ret, ↓Iv.endK_next, ↓Iv.za_i, ↓Iv.zs_i, ↓Iv.zeq_i, ↓Iv.zne_i, ↓Iv.zlt_i, ↓Iv.zle_i, ↓Iv.zgt_i, ↓Iv.zge_i, ↓Iv.zeq_s, ↓Iv.zne_s, ↓Iv.zeq_b, ↓Iv.zne_b, ↓Iv.zlen_t, ↓Iv.zlen_l, ↓Iv.zlen_r, ↓Iv.zlen_d, ↓Iv.ztup_l, ↓Iv.ztup_t, ↓Iv.zlst_l, ↓Iv.zlst_t, ↓Iv.zlst_r, ↓Iv.zzip_t, ↓Iv.zzip_l, ↓Iv.zint_i, ↓Iv.zint_b, ↓Iv.zit_t, ↓Iv.zit_l, ↓Iv.zit_r, ↓Iv.zslc_t, ↓Iv.zslc_l, ↓Iv.zrev_t, ↓Iv.zrev_l, ↓Iv.zaug_a, ↓Iv.zaug_s, ↓Iv.zisn, ↓Iv.znotn, ↓Iv.zadd_l, ↓Iv.zadd_t, ↓Iv.zapp_l, ↓Iv.ty_ll, ↓Iv.ty_dd, ↓Iv.zfor_nil, ↓Iv.zty_i, ↓Iv.zty_ib, ↓Iv.zty_is, ↓Iv.zty_it, ↓Iv.zty_il, ↓Iv.zty_bi, ↓Iv.zty_bb, ↓Iv.zty_bs, ↓Iv.zty_bt, ↓Iv.zty_bl, ↓Iv.zty_si, ↓Iv.zty_sb, ↓Iv.zty_ss, ↓Iv.zty_st, ↓Iv.zty_sl, ↓Iv.zty_ti, ↓Iv.zty_tb, ↓Iv.zty_ts, ↓Iv.zty_tt, ↓Iv.zty_tl, ↓Iv.zty_li, ↓Iv.zty_lb, ↓Iv.zty_ls, ↓Iv.zty_lt, ↓Iv.zty_ll, ↓Iv.zty_ni, ↓Iv.zty_nb, ↓Iv.zty_ns, ↓Iv.zty_nt, ↓Iv.zty_nl, ↓Iv.zty_di, ↓Iv.zty_db, ↓Iv.zty_ds, ↓Iv.zty_dt, ↓Iv.zty_dl, ↓Iv.quiet_0, ↓Iv.quiet_s, ↓Iv.qS_v, ↓Iv.qS_n, ↓Iv.qS_s, ↓reduceIte, Bool.false_eq_true, Nat.reduceLeDiff, Nat.zero_le, Iv.slotsOf, Iv.nodupN, List.contains_nil, Bool.not_false, Bool.not_true, Bool.and_true, Bool.true_and, Bool.and_false, Bool.false_and, decide_true, decide_false, List.replicate, List.cons_append, List.nil_append, List.length_cons, List.length_nil, Nat.reduceAdd, Nat.reduceSub, List.contains_cons, Nat.reduceBeqDiff, Nat.reduceEqDiff, Bool.or_false, Bool.false_or, Bool.or_true, Bool.true_or, List.take_succ_cons, List.take_zero, headS, tailS, p_law_b0, ↓bkz e1]
  refine Tot.cndP (fun _ => ?_) fun _ => ?_
  · obtain ⟨o, e2⟩ := l_paths_run 99 t k1 (by omega) (by omega)
    simp -implicitDefEqProofs only [↓Iv.k_var, ↓Iv.k_int, ↓Iv.k_str, ↓Iv.k_bl, ↓Iv.k_non, ↓Iv.k_tup, ↓Iv.k_lst, ↓Iv.k_dct, ↓Iv.z_bin, ↓Iv.k_neg, ↓Iv.z_cmp, ↓Iv.z_cmp2, ↓Iv.z_rev, ↓Iv.z_and, ↓Iv.z_or, ↓Iv.k_not, ↓Iv.z_ite, ↓Iv.z_idx, ↓Iv.z_slc, ↓Iv.z_slf, ↓Iv.z_slt, ↓Iv.z_call, ↓Iv.z_blt, ↓Iv.z_isi, ↓Iv.z_comp, ↓Iv.k_nil, ↓Iv.k_cons, ↓Iv.z_seq, ↓Iv.z_rng1, ↓Iv.k_expr, ↓Iv.z_aite, ↓Iv.z_for, ↓Iv.z_whl, ↓Iv.k_retN, ↓Iv.k_pass, ↓Iv.k_brk, ↓Iv.k_cont, ↓Iv.k_frz, ↓Iv.z_mth, ↓Iv.z_mut, ↓Iv.k_scons, ↓Iv.k_snil, ↓Iv.k_asg, ↓Iv.k_par, ↓Iv.z_set, ↓Iv.k_ret, ↓Iv.z_aug, ↓Iv.z_enm, ↓Iv.z_rng2, ↓Iv.look_0, ↓Iv.look_s, ↓Iv.onS_v, ↓Iv.onS_o, ↓Iv.ownK_o, ↓Iv.valK_v, ↓Iv.asV_i, ↓Iv.asB_i, ↓Iv.asN_i, ↓Iv.dsK_v, ↓Iv.dsK_o, ↓Iv.drK_i, ↓Iv.drK_s, ↓Iv.immsK_0, ↓Iv.immsK_i, ↓Iv.dersK_0, ↓Iv.dersK_c, ↓Iv.argsK_0, ↓Iv.argsK_i, ↓Iv.argsK_s, ↓Iv.getO_0, ↓Iv.getO_s, ↓Iv.outK_go, ↓Iv.goO_0, ↓Iv.goO_i, ↓Iv.goO_s, ↓Iv.putS_0, ↓Iv.putS_s, ↓Iv.setK_z, ↓Iv.setK_v, ↓Iv.setK_n, ↓Iv.setK_ss, ↓Iv.setK_0s, ↓Iv.frK_v, ↓Iv.frK_o, ↓Iv.frK_ss, ↓Iv.frK_0s, ↓Iv.setsK_0, ↓Iv.setsK_c, ↓Iv.tgK_v, ↓Iv.tgK_w, ↓Iv.tgK_t, ↓Iv.tgK_2, ↓Iv.tgK_p, ↓Iv.tgK_2p, ↓Iv.asgK_f, ↓Iv.asgK_v, ↓Iv.asgK_w, ↓Iv.asgK_t, ↓Iv.asgK_2, ↓Iv.retK_i, ↓Iv.retK_s, ↓Iv.bkz_some, ↓Iv.cnd_t, ↓Iv.cnd_f, ↓Iv.endK_ret, ↓Iv.endK_next, ↓Iv.za_i, ↓Iv.zs_i, ↓Iv.zeq_i, ↓Iv.zne_i, ↓Iv.zlt_i, ↓Iv.zle_i, ↓Iv.zgt_i, ↓Iv.zge_i, ↓Iv.zeq_s, ↓Iv.zne_s, ↓Iv.zeq_b, ↓Iv.zne_b, ↓Iv.zlen_t, ↓Iv.zlen_l, ↓Iv.zlen_r, ↓Iv.zlen_d, ↓Iv.ztup_l, ↓Iv.ztup_t, ↓Iv.zlst_l, ↓Iv.zlst_t, ↓Iv.zlst_r, ↓Iv.zzip_t, ↓Iv.zzip_l, ↓Iv.zint_i, ↓Iv.zint_b, ↓Iv.zit_t, ↓Iv.zit_l, ↓Iv.zit_r, ↓Iv.zslc_t, ↓Iv.zslc_l, ↓Iv.zrev_t, ↓Iv.zrev_l, ↓Iv.zaug_a, ↓Iv.zaug_s, ↓Iv.zisn, ↓Iv.znotn, ↓Iv.zadd_l, ↓Iv.zadd_t, ↓Iv.zapp_l, ↓Iv.ty_ll, ↓Iv.ty_dd, ↓Iv.zfor_nil, ↓Iv.zty_i, ↓Iv.zty_ib, ↓Iv.zty_is, ↓Iv.zty_it, ↓Iv.zty_il, ↓Iv.zty_bi, ↓Iv.zty_bb, ↓Iv.zty_bs, ↓Iv.zty_bt, ↓Iv.zty_bl, ↓Iv.zty_si, ↓Iv.zty_sb, ↓Iv.zty_ss, ↓Iv.zty_st, ↓Iv.zty_sl, ↓Iv.zty_ti, ↓Iv.zty_tb, ↓Iv.zty_ts, ↓Iv.zty_tt, ↓Iv.zty_tl, ↓Iv.zty_li, ↓Iv.zty_lb, ↓Iv.zty_ls, ↓Iv.zty_lt, ↓Iv.zty_ll, ↓Iv.zty_ni, ↓Iv.zty_nb, ↓Iv.zty_ns, ↓Iv.zty_nt, ↓Iv.zty_nl, ↓Iv.zty_di, ↓Iv.zty_db, ↓Iv.zty_ds, ↓Iv.zty_dt, ↓Iv.zty_dl, ↓Iv.quiet_0, ↓Iv.quiet_s, ↓Iv.qS_v, ↓Iv.qS_n, ↓Iv.qS_s, ↓reduceIte, Bool.false_eq_true, Nat.reduceLeDiff, Nat.zero_le, Iv.slotsOf, Iv.nodupN, List.contains_nil, Bool.not_false, Bool.not_true, Bool.and_true, Bool.true_and, Bool.and_false, Bool.false_and, decide_true, decide_false, List.replicate, List.cons_append, List.nil_append, List.length_cons, List.length_nil, Nat.reduceAdd, Nat.reduceSub, List.contains_cons, Nat.reduceBeqDiff, Nat.reduceEqDiff, Bool.or_false, Bool.false_or, Bool.or_true, Bool.true_or, List.take_succ_cons, List.take_zero, ↓bkz e2]
    refine Tot.bnd (pick_tot 97 (N + 1) hp1 (by omega) (by rw [List.length_map, len_pths]; exact sz_pos t) (by rw [List.length_map, len_pths]; omega)) ?_
    rintro _ ⟨x, p2, hx, hp2, rfl⟩
    obtain ⟨ks, hks, rfl⟩ := List.mem_map.mp hx
    obtain ⟨r, hr, hl⟩ := mem_pths t ks hks
    have T1 := term_run rs ts hrs 3 (by decide) 1 95 (N + 1 + 1) p2 hp2 (by show N + 1 + 1 + 6 < _; omega)
    have T1' : Tot (run tab 99 f_l_drawn_term [.own p2, .val (rowsD rs ts), .val (.int 1), .val (.int 3)]) _ := T1
    simp -implicitDefEqProofs only [↓Iv.k_var, ↓Iv.k_int, ↓Iv.k_str, ↓Iv.k_bl, ↓Iv.k_non, ↓Iv.k_tup, ↓Iv.k_lst, ↓Iv.k_dct, ↓Iv.z_bin, ↓Iv.k_neg, ↓Iv.z_cmp, ↓Iv.z_cmp2, ↓Iv.z_rev, ↓Iv.z_and, ↓Iv.z_or, ↓Iv.k_not, ↓Iv.z_ite, ↓Iv.z_idx, ↓Iv.z_slc, ↓Iv.z_slf, ↓Iv.z_slt, ↓Iv.z_call, ↓Iv.z_blt, ↓Iv.z_isi, ↓Iv.z_comp, ↓Iv.k_nil, ↓Iv.k_cons, ↓Iv.z_seq, ↓Iv.z_rng1, ↓Iv.k_expr, ↓Iv.z_aite, ↓Iv.z_for, ↓Iv.z_whl, ↓Iv.k_retN, ↓Iv.k_pass, ↓Iv.k_brk, ↓Iv.k_cont, ↓Iv.k_frz, ↓Iv.z_mth, ↓Iv.z_mut, ↓Iv.k_scons, ↓Iv.k_snil, ↓Iv.k_asg, ↓Iv.k_par, ↓Iv.z_set, ↓Iv.k_ret, ↓Iv.z_aug, ↓Iv.z_enm, ↓Iv.z_rng2, ↓Iv.look_0, ↓Iv.look_s, ↓Iv.onS_v, ↓Iv.onS_o, ↓Iv.ownK_o, ↓Iv.valK_v, ↓Iv.asV_i, ↓Iv.asB_i, ↓Iv.asN_i, ↓Iv.dsK_v, ↓Iv.dsK_o, ↓Iv.drK_i, ↓Iv.drK_s, ↓Iv.immsK_0, ↓Iv.immsK_i, ↓Iv.dersK_0, ↓Iv.dersK_c, ↓Iv.argsK_0, ↓Iv.argsK_i, ↓Iv.argsK_s, ↓Iv.getO_0, ↓Iv.getO_s, ↓Iv.outK_go, ↓Iv.goO_0, ↓Iv.goO_i, ↓Iv.goO_s, ↓Iv.putS_0, ↓Iv.putS_s, ↓Iv.setK_z, ↓Iv.setK_v, ↓Iv.setK_n, ↓Iv.setK_ss, ↓Iv.setK_0s, ↓Iv.frK_v, ↓Iv.frK_o, ↓Iv.frK_ss, ↓Iv.frK_0s, ↓Iv.setsK_0, ↓Iv.setsK_c, ↓Iv.tgK_v, ↓Iv.tgK_w, ↓Iv.tgK_t, ↓Iv.tgK_2, ↓Iv.tgK_p, ↓Iv.tgK_2p, ↓Iv.asgK_f, ↓Iv.asgK_v, ↓Iv.asgK_w, ↓Iv.asgK_t, ↓Iv.asgK_2, ↓Iv.retK_i, ↓Iv.retK_s, ↓Iv.bkz_some, ↓Iv.cnd_t, ↓Iv.cnd_f, ↓Iv.endK_ret, ↓Iv.endK_next, ↓Iv.za_i, ↓Iv.zs_i, ↓Iv.zeq_i, ↓Iv.zne_i, ↓Iv.zlt_i, ↓Iv.zle_i, ↓Iv.zgt_i, ↓Iv.zge_i, ↓Iv.zeq_s, ↓Iv.zne_s, ↓Iv.zeq_b, ↓Iv.zne_b, ↓Iv.zlen_t, ↓Iv.zlen_l, ↓Iv.zlen_r, ↓Iv.zlen_d, ↓Iv.ztup_l, ↓Iv.ztup_t, ↓Iv.zlst_l, ↓Iv.zlst_t, ↓Iv.zlst_r, ↓Iv.zzip_t, ↓Iv.zzip_l, ↓Iv.zint_i, ↓Iv.zint_b, ↓Iv.zit_t, ↓Iv.zit_l, ↓Iv.zit_r, ↓Iv.zslc_t, ↓Iv.zslc_l, ↓Iv.zrev_t, ↓Iv.zrev_l, ↓Iv.zaug_a, ↓Iv.zaug_s, ↓Iv.zisn, ↓Iv.znotn, ↓Iv.zadd_l, ↓Iv.zadd_t, ↓Iv.zapp_l, ↓Iv.ty_ll, ↓Iv.ty_dd, ↓Iv.zfor_nil, ↓Iv.zty_i, ↓Iv.zty_ib, ↓Iv.zty_is, ↓Iv.zty_it, ↓Iv.zty_il, ↓Iv.zty_bi, ↓Iv.zty_bb, ↓Iv.zty_bs, ↓Iv.zty_bt, ↓Iv.zty_bl, ↓Iv.zty_si, ↓Iv.zty_sb, ↓Iv.zty_ss, ↓Iv.zty_st, ↓Iv.zty_sl, ↓Iv.zty_ti, ↓Iv.zty_tb, ↓Iv.zty_ts, ↓Iv.zty_tt, ↓Iv.zty_tl, ↓Iv.zty_li, ↓Iv.zty_lb, ↓Iv.zty_ls, ↓Iv.zty_lt, ↓Iv.zty_ll, ↓Iv.zty_ni, ↓Iv.zty_nb, ↓Iv.zty_ns, ↓Iv.zty_nt, ↓Iv.zty_nl, ↓Iv.zty_di, ↓Iv.zty_db, ↓Iv.zty_ds, ↓Iv.zty_dt, ↓Iv.zty_dl, ↓Iv.quiet_0, ↓Iv.quiet_s, ↓Iv.qS_v, ↓Iv.qS_n, ↓Iv.qS_s, ↓reduceIte, Bool.false_eq_true, Nat.reduceLeDiff, Nat.zero_le, Iv.slotsOf, Iv.nodupN, List.contains_nil, Bool.not_false, Bool.not_true, Bool.and_true, Bool.true_and, Bool.and_false, Bool.false_and, decide_true, decide_false, List.replicate, List.cons_append, List.nil_append, List.length_cons, List.length_nil, Nat.reduceAdd, Nat.reduceSub, List.contains_cons, Nat.reduceBeqDiff, Nat.reduceEqDiff, Bool.or_false, Bool.false_or, Bool.or_true, Bool.true_or, List.take_succ_cons, List.take_zero]
    refine Tot.bnd T1' ?_
    rintro _ ⟨u, p3, hu, hp3, rfl⟩
    have e3 := l_put_there_run ks t r u 99 k1 (by omega) hr (by omega)
    obtain ⟨q1, q2, q3⟩ := ok_put ks t r u k1 hr hu.k
    have hh := hu.h
    have hz : sz u ≤ 3 := hu.z
    simp -implicitDefEqProofs only [↓Iv.k_var, ↓Iv.k_int, ↓Iv.k_str, ↓Iv.k_bl, ↓Iv.k_non, ↓Iv.k_tup, ↓Iv.k_lst, ↓Iv.k_dct, ↓Iv.z_bin, ↓Iv.k_neg, ↓Iv.z_cmp, ↓Iv.z_cmp2, ↓Iv.z_rev, ↓Iv.z_and, ↓Iv.z_or, ↓Iv.k_not, ↓Iv.z_ite, ↓Iv.z_idx, ↓Iv.z_slc, ↓Iv.z_slf, ↓Iv.z_slt, ↓Iv.z_call, ↓Iv.z_blt, ↓Iv.z_isi, ↓Iv.z_comp, ↓Iv.k_nil, ↓Iv.k_cons, ↓Iv.z_seq, ↓Iv.z_rng1, ↓Iv.k_expr, ↓Iv.z_aite, ↓Iv.z_for, ↓Iv.z_whl, ↓Iv.k_retN, ↓Iv.k_pass, ↓Iv.k_brk, ↓Iv.k_cont, ↓Iv.k_frz, ↓Iv.z_mth, ↓Iv.z_mut, ↓Iv.k_scons, ↓Iv.k_snil, ↓Iv.k_asg, ↓Iv.k_par, ↓Iv.z_set, ↓Iv.k_ret, ↓Iv.z_aug, ↓Iv.z_enm, ↓Iv.z_rng2, ↓Iv.look_0, ↓Iv.look_s, ↓Iv.onS_v, ↓Iv.onS_o, ↓Iv.ownK_o, ↓Iv.valK_v, ↓Iv.asV_i, ↓Iv.asB_i, ↓Iv.asN_i, ↓Iv.dsK_v, ↓Iv.dsK_o, ↓Iv.drK_i, ↓Iv.drK_s, ↓Iv.immsK_0, ↓Iv.immsK_i, ↓Iv.dersK_0, ↓Iv.dersK_c, ↓Iv.argsK_0, ↓Iv.argsK_i, ↓Iv.argsK_s, ↓Iv.getO_0, ↓Iv.getO_s, ↓Iv.outK_go, ↓Iv.goO_0, ↓Iv.goO_i, ↓Iv.goO_s, ↓Iv.putS_0, ↓Iv.putS_s, ↓Iv.setK_z, ↓Iv.setK_v, ↓Iv.setK_n, ↓Iv.setK_ss, ↓Iv.setK_0s, ↓Iv.frK_v, ↓Iv.frK_o, ↓Iv.frK_ss, ↓Iv.frK_0s, ↓Iv.setsK_0, ↓Iv.setsK_c, ↓Iv.tgK_v, ↓Iv.tgK_w, ↓Iv.tgK_t, ↓Iv.tgK_2, ↓Iv.tgK_p, ↓Iv.tgK_2p, ↓Iv.asgK_f, ↓Iv.asgK_v, ↓Iv.asgK_w, ↓Iv.asgK_t, ↓Iv.asgK_2, ↓Iv.retK_i, ↓Iv.retK_s, ↓Iv.bkz_some, ↓Iv.cnd_t, ↓Iv.cnd_f, ↓Iv.endK_ret, ↓Iv.endK_next, ↓Iv.za_i, ↓Iv.zs_i, ↓Iv.zeq_i, ↓Iv.zne_i, ↓Iv.zlt_i, ↓Iv.zle_i, ↓Iv.zgt_i, ↓Iv.zge_i, ↓Iv.zeq_s, ↓Iv.zne_s, ↓Iv.zeq_b, ↓Iv.zne_b, ↓Iv.zlen_t, ↓Iv.zlen_l, ↓Iv.zlen_r, ↓Iv.zlen_d, ↓Iv.ztup_l, ↓Iv.ztup_t, ↓Iv.zlst_l, ↓Iv.zlst_t, ↓Iv.zlst_r, ↓Iv.zzip_t, ↓Iv.zzip_l, ↓Iv.zint_i, ↓Iv.zint_b, ↓Iv.zit_t, ↓Iv.zit_l, ↓Iv.zit_r, ↓Iv.zslc_t, ↓Iv.zslc_l, ↓Iv.zrev_t, ↓Iv.zrev_l, ↓Iv.zaug_a, ↓Iv.zaug_s, ↓Iv.zisn, ↓Iv.znotn, ↓Iv.zadd_l, ↓Iv.zadd_t, ↓Iv.zapp_l, ↓Iv.ty_ll, ↓Iv.ty_dd, ↓Iv.zfor_nil, ↓Iv.zty_i, ↓Iv.zty_ib, ↓Iv.zty_is, ↓Iv.zty_it, ↓Iv.zty_il, ↓Iv.zty_bi, ↓Iv.zty_bb, ↓Iv.zty_bs, ↓Iv.zty_bt, ↓Iv.zty_bl, ↓Iv.zty_si, ↓Iv.zty_sb, ↓Iv.zty_ss, ↓Iv.zty_st, ↓Iv.zty_sl, ↓Iv.zty_ti, ↓Iv.zty_tb, ↓Iv.zty_ts, ↓Iv.zty_tt, ↓Iv.zty_tl, ↓Iv.zty_li, ↓Iv.zty_lb, ↓Iv.zty_ls, ↓Iv.zty_lt, ↓Iv.zty_ll, ↓Iv.zty_ni, ↓Iv.zty_nb, ↓Iv.zty_ns, ↓Iv.zty_nt, ↓Iv.zty_nl, ↓Iv.zty_di, ↓Iv.zty_db, ↓Iv.zty_ds, ↓Iv.zty_dt, ↓Iv.zty_dl, ↓Iv.quiet_0, ↓Iv.quiet_s, ↓Iv.qS_v, ↓Iv.qS_n, ↓Iv.qS_s, ↓reduceIte, Bool.false_eq_true, Nat.reduceLeDiff, Nat.zero_le, Iv.slotsOf, Iv.nodupN, List.contains_nil, Bool.not_false, Bool.not_true, Bool.and_true, Bool.true_and, Bool.and_false, Bool.false_and, decide_true, decide_false, List.replicate, List.cons_append, List.nil_append, List.length_cons, List.length_nil, Nat.reduceAdd, Nat.reduceSub, List.contains_cons, Nat.reduceBeqDiff, Nat.reduceEqDiff, Bool.or_false, Bool.false_or, Bool.or_true, Bool.true_or, List.take_succ_cons, List.take_zero, ↓bkz e3]
    exact h4 (N + 1 + 1 + tC 1) p3 _ (by show N + 1 + 1 + 6 ≤ _; omega) hp3 ⟨q1, by omega, by omega⟩
  · exact h4 (N + 1) p1 t (by omega) hp1 ⟨k1, by omega, by omega⟩
theorem b0_run (rs ts : List (Str × Nat × Nat)) (hrs : RowsOk rs) (N : Nat) (p : D) (hq : PenOk N p) (hN : N + 140 < 1000000000000000) (s0 s3 s4 s5 s6 s7 : Slot) :
    Tot (exsK 1 whileFuel (run tab 99) p_law_b0 [s0, .own p, .val (rowsD rs ts), s3, s4, s5, s6, s7] fun fl r => some (fl, r)) (Out s0 (.val (rowsD rs ts)) s3 (N + 140)) := by
  have h3 : ∀ (M : Nat) (q : D) (pat u : T), M ≤ N + 95 → PenOk M q → DT 3 pat → ok u → ht u ≤ 10 → sz u ≤ 120 → Tot (exsK 1 whileFuel (run tab 99) (tailS (tailS p_law_b0)) [s0, .own q, .val (rowsD rs ts), s3, .val (enc pat), .val (enc u), s6, s7] fun fl r => some (fl, r)) (Out s0 (.val (rowsD rs ts)) s3 (N + 140)) := fun M q pat u hM hq' hp k1 k2 k3 => by
    refine (t3_run rs ts hrs (N + 95) q (hq'.mono hM) (by omega) pat u hp k1 k2 k3 s0 s3 s6 s7).mono ?_
    rintro z ⟨p', t4, t5, t6, t7, hp', e⟩
    exact ⟨p', t4, t5, t6, t7, hp'.mono (by omega), e⟩
  show Tot (exsK 1 whileFuel (run tab 99) (.cons (headS p_law_b0) (.cons (headS (tailS p_law_b0)) (tailS (tailS p_law_b0)))) [s0, .own p, .val (rowsD rs ts), s3, s4, s5, s6, s7] fun fl r => some (fl, r)) _
  generalize tailS (tailS p_law_b0) = R at h3 ⊢
  obtain ⟨v, p1, v0, v1, hp1, e1⟩ := draw_run 98 N (many := 3) hq (by omega) (by decide) (by decide)
  obtain ⟨nv, rfl⟩ : ∃ nv : Nat, v = nv := ⟨v.toNat, by omega⟩
  have en : (1 : Int) + ((nv : Nat) : Int) = ((1 + nv : Nat) : Int) := by omega
  have T1 := term_run rs ts hrs (1 + nv) (by omega) 3 93 (N + 1) p1 hp1 (by show N + 1 + 30 < _; omega)
  have T1' : Tot (run tab 99 f_l_drawn_term [.own p1, .val (rowsD rs ts), .val (.int 3), .val (.int ((1 + nv : Nat) : Int))]) _ := T1
  simp -implicitDefEqProofs only [↓Iv.k_var, ↓Iv.k_int, ↓Iv.k_str, ↓Iv.k_bl, ↓Iv.k_non, ↓Iv.k_tup, ↓Iv.k_lst, ↓Iv.k_dct, ↓Iv.z_bin, ↓Iv.k_neg, ↓Iv.z_cmp, ↓Iv.z_cmp2, ↓Iv.z_rev, ↓Iv.z_and, ↓Iv.z_or, ↓Iv.k_not, ↓Iv.z_ite, ↓Iv.z_idx, ↓Iv.z_slc, ↓Iv.z_slf, ↓Iv.z_slt, ↓Iv.z_call, ↓Iv.z_blt, ↓Iv.z_isi, ↓Iv.z_comp, ↓Iv.k_nil, ↓Iv.k_cons, ↓Iv.z_seq, ↓Iv.z_rng1, ↓Iv.k_expr, ↓Iv.z_aite, ↓Iv.z_for, ↓Iv.z_whl, ↓Iv.k_retN, ↓Iv.k_pass, ↓Iv.k_brk, ↓Iv.k_cont, ↓Iv.k_frz, ↓Iv.z_mth, ↓Iv.z_mut, ↓Iv.k_scons, ↓Iv.k_snil, ↓Iv.k_asg, ↓Iv.k_par, ↓Iv.z_set, ↓Iv.k_ret, ↓Iv.z_aug, ↓Iv.z_enm, ↓Iv.z_rng2, ↓Iv.look_0, ↓Iv.look_s, ↓Iv.onS_v, ↓Iv.onS_o, ↓Iv.ownK_o, ↓Iv.valK_v, ↓Iv.asV_i, ↓Iv.asB_i, ↓Iv.asN_i, ↓Iv.dsK_v, ↓Iv.dsK_o, ↓Iv.drK_i, ↓Iv.drK_s, ↓Iv.immsK_0, ↓Iv.immsK_i, ↓Iv.dersK_0, ↓Iv.dersK_c, ↓Iv.argsK_0, ↓Iv.argsK_i, ↓Iv.argsK_s, ↓Iv.getO_0, ↓Iv.getO_s, ↓Iv.outK_go, ↓Iv.goO_0, ↓Iv.goO_i, ↓Iv.goO_s, ↓Iv.putS_0, ↓Iv.putS_s, ↓Iv.setK_z, ↓Iv.setK_v, ↓Iv.setK_n, ↓Iv.setK_ss, ↓Iv.setK_0s, ↓Iv.frK_v, ↓Iv.frK_o, ↓Iv.frK_ss, ↓Iv.frK_0s, ↓Iv.setsK_0, ↓Iv.setsK_c, ↓Iv.tgK_v, ↓Iv.tgK_w, ↓Iv.tgK_t, ↓Iv.tgK_2, ↓Iv.tgK_p, ↓Iv.tgK_2p, ↓Iv.asgK_f, ↓Iv.asgK_v, ↓Iv.asgK_w, ↓Iv.asgK_t, ↓Iv.asgK_2, ↓Iv.retK_i, ↓Iv.retK_s, ↓Iv.bkz_some, ↓Iv.cnd_t, ↓Iv.cnd_f, ↓Iv.endK_ret, ↓Iv.endK_next, ↓Iv.za_i, ↓Iv.zs_i, ↓Iv.zeq_i, ↓Iv.zne_i, ↓Iv.zlt_i, ↓Iv.zle_i, ↓Iv.zgt_i, ↓Iv.zge_i, ↓Iv.zeq_s, ↓Iv.zne_s, ↓Iv.zeq_b, ↓Iv.zne_b, ↓Iv.zlen_t, ↓Iv.zlen_l, ↓Iv.zlen_r, ↓Iv.zlen_d, ↓Iv.ztup_l, ↓Iv.ztup_t, ↓Iv.zlst_l, ↓Iv.zlst_t, ↓Iv.zlst_r, ↓Iv.zzip_t, ↓Iv.zzip_l, ↓Iv.zint_i, ↓Iv.zint_b, ↓Iv.zit_t, ↓Iv.zit_l, ↓Iv.zit_r, ↓Iv.zslc_t, ↓Iv.zslc_l, ↓Iv.zrev_t, ↓Iv.zrev_l, ↓Iv.zaug_a, ↓Iv.zaug_s, ↓Iv.zisn, ↓Iv.znotn, ↓Iv.zadd_l, ↓Iv.zadd_t, ↓Iv.zapp_l, ↓Iv.ty_ll, ↓Iv.ty_dd, ↓Iv.zfor_nil, ↓Iv.zty_i, ↓Iv.zty_ib, ↓Iv.zty_is, ↓Iv.zty_it, ↓Iv.zty_il, ↓Iv.zty_bi, ↓Iv.zty_bb, ↓Iv.zty_bs, ↓Iv.zty_bt, ↓Iv.zty_bl, ↓Iv.zty_si, ↓Iv.zty_sb, ↓Iv.zty_ss, ↓Iv.zty_st, ↓Iv.zty_sl, ↓Iv.zty_ti, ↓Iv.zty_tb, ↓Iv.zty_ts, ↓Iv.zty_tt, ↓Iv.zty_tl, ↓Iv.zty_li, ↓Iv.zty_lb, ↓Iv.zty_ls, ↓Iv.zty_lt, ↓Iv.zty_ll, ↓Iv.zty_ni, ↓Iv.zty_nb, ↓Iv.zty_ns, ↓Iv.zty_nt, ↓Iv.zty_nl, ↓Iv.zty_di, ↓Iv.zty_db, ↓Iv.zty_ds, ↓Iv.zty_dt, ↓Iv.zty_dl, ↓Iv.quiet_0, ↓Iv.quiet_s, ↓Iv.qS_v, ↓Iv.qS_n, ↓Iv.qS_s, ↓reduceIte, Bool.false_eq_true, Nat.reduceLeDiff, Nat.zero_le, Iv.slotsOf, Iv.nodupN, List.contains_nil, Bool.not_false, Bool.not_true, Bool.and_true, Bool.true_and, Bool.and_false, Bool.false_and, decide_true, decide_false, List.replicate, List.cons_append, List.nil_append, List.length_cons, List.length_nil, Nat.reduceAdd, Nat.reduceSub, List.contains_cons, Nat.reduceBeqDiff, Nat.reduceEqDiff, Bool.or_false, Bool.false_or, Bool.or_true, Bool.true_or, List.take_succ_cons, List.take_zero, headS, tailS, p_law_b0, ↓bkz e1, en]
  refine Tot.bnd T1' ?_
  rintro _ ⟨pat, p2, hpat, hp2, rfl⟩
  simp -implicitDefEqProofs only [↓Iv.k_var, ↓Iv.k_int, ↓Iv.k_str, ↓Iv.k_bl, ↓Iv.k_non, ↓Iv.k_tup, ↓Iv.k_lst, ↓Iv.k_dct, ↓Iv.z_bin, ↓Iv.k_neg, ↓Iv.z_cmp, ↓Iv.z_cmp2, ↓Iv.z_rev, ↓Iv.z_and, ↓Iv.z_or, ↓Iv.k_not, ↓Iv.z_ite, ↓Iv.z_idx, ↓Iv.z_slc, ↓Iv.z_slf, ↓Iv.z_slt, ↓Iv.z_call, ↓Iv.z_blt, ↓Iv.z_isi, ↓Iv.z_comp, ↓Iv.k_nil, ↓Iv.k_cons, ↓Iv.z_seq, ↓Iv.z_rng1, ↓Iv.k_expr, ↓Iv.z_aite, ↓Iv.z_for, ↓Iv.z_whl, ↓Iv.k_retN, ↓Iv.k_pass, ↓Iv.k_brk, ↓Iv.k_cont, ↓Iv.k_frz, ↓Iv.z_mth, ↓Iv.z_mut, ↓Iv.k_scons, ↓Iv.k_snil, ↓Iv.k_asg, ↓Iv.k_par, ↓Iv.z_set, ↓Iv.k_ret, ↓Iv.z_aug, ↓Iv.z_enm, ↓Iv.z_rng2, ↓Iv.look_0, ↓Iv.look_s, ↓Iv.onS_v, ↓Iv.onS_o, ↓Iv.ownK_o, ↓Iv.valK_v, ↓Iv.asV_i, ↓Iv.asB_i, ↓Iv.asN_i, ↓Iv.dsK_v, ↓Iv.dsK_o, ↓Iv.drK_i, ↓Iv.drK_s, ↓Iv.immsK_0, ↓Iv.immsK_i, ↓Iv.dersK_0, ↓Iv.dersK_c, ↓Iv.argsK_0, ↓Iv.argsK_i, ↓Iv.argsK_s, ↓Iv.getO_0, ↓Iv.getO_s, ↓Iv.outK_go, ↓Iv.goO_0, ↓Iv.goO_i, ↓Iv.goO_s, ↓Iv.putS_0, ↓Iv.putS_s, ↓Iv.setK_z, ↓Iv.setK_v, ↓Iv.setK_n, ↓Iv.setK_ss, ↓Iv.setK_0s, ↓Iv.frK_v, ↓Iv.frK_o, ↓Iv.frK_ss, ↓Iv.frK_0s, ↓Iv.setsK_0, ↓Iv.setsK_c, ↓Iv.tgK_v, ↓Iv.tgK_w, ↓Iv.tgK_t, ↓Iv.tgK_2, ↓Iv.tgK_p, ↓Iv.tgK_2p, ↓Iv.asgK_f, ↓Iv.asgK_v, ↓Iv.asgK_w, ↓Iv.asgK_t, ↓Iv.asgK_2, ↓Iv.retK_i, ↓Iv.retK_s, ↓Iv.bkz_some, ↓Iv.cnd_t, ↓Iv.cnd_f, ↓Iv.endK_ret, ↓Iv.endK_next, ↓Iv.za_i, ↓Iv.zs_i, ↓Iv.zeq_i, ↓Iv.zne_i, ↓Iv.zlt_i, ↓Iv.zle_i, ↓Iv.zgt_i, ↓Iv.zge_i, ↓Iv.zeq_s, ↓Iv.zne_s, ↓Iv.zeq_b, ↓Iv.zne_b, ↓Iv.zlen_t, ↓Iv.zlen_l, ↓Iv.zlen_r, ↓Iv.zlen_d, ↓Iv.ztup_l, ↓Iv.ztup_t, ↓Iv.zlst_l, ↓Iv.zlst_t, ↓Iv.zlst_r, ↓Iv.zzip_t, ↓Iv.zzip_l, ↓Iv.zint_i, ↓Iv.zint_b, ↓Iv.zit_t, ↓Iv.zit_l, ↓Iv.zit_r, ↓Iv.zslc_t, ↓Iv.zslc_l, ↓Iv.zrev_t, ↓Iv.zrev_l, ↓Iv.zaug_a, ↓Iv.zaug_s, ↓Iv.zisn, ↓Iv.znotn, ↓Iv.zadd_l, ↓Iv.zadd_t, ↓Iv.zapp_l, ↓Iv.ty_ll, ↓Iv.ty_dd, ↓Iv.zfor_nil, ↓Iv.zty_i, ↓Iv.zty_ib, ↓Iv.zty_is, ↓Iv.zty_it, ↓Iv.zty_il, ↓Iv.zty_bi, ↓Iv.zty_bb, ↓Iv.zty_bs, ↓Iv.zty_bt, ↓Iv.zty_bl, ↓Iv.zty_si, ↓Iv.zty_sb, ↓Iv.zty_ss, ↓Iv.zty_st, ↓Iv.zty_sl, ↓Iv.zty_ti, ↓Iv.zty_tb, ↓Iv.zty_ts, ↓Iv.zty_tt, ↓Iv.zty_tl, ↓Iv.zty_li, ↓Iv.zty_lb, ↓Iv.zty_ls, ↓Iv.zty_lt, ↓Iv.zty_ll, ↓Iv.zty_ni, ↓Iv.zty_nb, ↓Iv.zty_ns, ↓Iv.zty_nt, ↓Iv.zty_nl, ↓Iv.zty_di, ↓Iv.zty_db, ↓Iv.zty_ds, ↓Iv.zty_dt, ↓Iv.zty_dl, ↓Iv.quiet_0, ↓Iv.quiet_s, ↓Iv.qS_v, ↓Iv.qS_n, ↓Iv.qS_s, ↓reduceIte, Bool.false_eq_true, Nat.reduceLeDiff, Nat.zero_le, Iv.slotsOf, Iv.nodupN, List.contains_nil, Bool.not_false, Bool.not_true, Bool.and_true, Bool.true_and, Bool.and_false, Bool.false_and, decide_true, decide_false, List.replicate, List.cons_append, List.nil_append, List.length_cons, List.length_nil, Nat.reduceAdd, Nat.reduceSub, List.contains_cons, Nat.reduceBeqDiff, Nat.reduceEqDiff, Bool.or_false, Bool.false_or, Bool.or_true, Bool.true_or, List.take_succ_cons, List.take_zero]
  refine Tot.bnd (drawn_pairs_run rs ts hrs 89 (N + 1 + tC 3) p2 hp2 (by show N + 1 + 30 + 64 < _; omega)) ?_
  rintro _ ⟨ps, p3, hps, hp3, rfl⟩
  have hd := dict_enc ps
  have hh := hpat.h
  have hz : sz pat ≤ 15 := hpat.z
  have hput := l_put_run (merge [] ps) (.val (.dct (encK (merge [] ps)))) (.inl rfl) 99 pat hpat.k (by omega)
  obtain ⟨g1, g2⟩ := asF_good (merge_good (P := fun q => q.1 < 100000 ∧ ok q.2 ∧ ht q.2 ≤ 3) fun q hq => ⟨(hps.2 q hq).1, (hps.2 q hq).2.1, (hps.2 q hq).2.2.1⟩)
  have g3 := merge_sz (ps := ps) (b := 7) (by decide) fun q hq => (hps.2 q hq).2.2.2
  have y1 := psub_sz (asF (merge [] ps)) 7 (by decide) g3 pat
  have y2 := psub_ht (asF (merge [] ps)) 3 g2 pat
  simp -implicitDefEqProofs only [↓Iv.k_var, ↓Iv.k_int, ↓Iv.k_str, ↓Iv.k_bl, ↓Iv.k_non, ↓Iv.k_tup, ↓Iv.k_lst, ↓Iv.k_dct, ↓Iv.z_bin, ↓Iv.k_neg, ↓Iv.z_cmp, ↓Iv.z_cmp2, ↓Iv.z_rev, ↓Iv.z_and, ↓Iv.z_or, ↓Iv.k_not, ↓Iv.z_ite, ↓Iv.z_idx, ↓Iv.z_slc, ↓Iv.z_slf, ↓Iv.z_slt, ↓Iv.z_call, ↓Iv.z_blt, ↓Iv.z_isi, ↓Iv.z_comp, ↓Iv.k_nil, ↓Iv.k_cons, ↓Iv.z_seq, ↓Iv.z_rng1, ↓Iv.k_expr, ↓Iv.z_aite, ↓Iv.z_for, ↓Iv.z_whl, ↓Iv.k_retN, ↓Iv.k_pass, ↓Iv.k_brk, ↓Iv.k_cont, ↓Iv.k_frz, ↓Iv.z_mth, ↓Iv.z_mut, ↓Iv.k_scons, ↓Iv.k_snil, ↓Iv.k_asg, ↓Iv.k_par, ↓Iv.z_set, ↓Iv.k_ret, ↓Iv.z_aug, ↓Iv.z_enm, ↓Iv.z_rng2, ↓Iv.look_0, ↓Iv.look_s, ↓Iv.onS_v, ↓Iv.onS_o, ↓Iv.ownK_o, ↓Iv.valK_v, ↓Iv.asV_i, ↓Iv.asB_i, ↓Iv.asN_i, ↓Iv.dsK_v, ↓Iv.dsK_o, ↓Iv.drK_i, ↓Iv.drK_s, ↓Iv.immsK_0, ↓Iv.immsK_i, ↓Iv.dersK_0, ↓Iv.dersK_c, ↓Iv.argsK_0, ↓Iv.argsK_i, ↓Iv.argsK_s, ↓Iv.getO_0, ↓Iv.getO_s, ↓Iv.outK_go, ↓Iv.goO_0, ↓Iv.goO_i, ↓Iv.goO_s, ↓Iv.putS_0, ↓Iv.putS_s, ↓Iv.setK_z, ↓Iv.setK_v, ↓Iv.setK_n, ↓Iv.setK_ss, ↓Iv.setK_0s, ↓Iv.frK_v, ↓Iv.frK_o, ↓Iv.frK_ss, ↓Iv.frK_0s, ↓Iv.setsK_0, ↓Iv.setsK_c, ↓Iv.tgK_v, ↓Iv.tgK_w, ↓Iv.tgK_t, ↓Iv.tgK_2, ↓Iv.tgK_p, ↓Iv.tgK_2p, ↓Iv.asgK_f, ↓Iv.asgK_v, ↓Iv.asgK_w, ↓Iv.asgK_t, ↓Iv.asgK_2, ↓Iv.retK_i, ↓Iv.retK_s, ↓Iv.bkz_some, ↓Iv.cnd_t, ↓Iv.cnd_f, ↓Iv.endK_ret, ↓Iv.endK_next, ↓Iv.za_i, ↓Iv.zs_i, ↓Iv.zeq_i, ↓Iv.zne_i, ↓Iv.zlt_i, ↓Iv.zle_i, ↓Iv.zgt_i, ↓Iv.zge_i, ↓Iv.zeq_s, ↓Iv.zne_s, ↓Iv.zeq_b, ↓Iv.zne_b, ↓Iv.zlen_t, ↓Iv.zlen_l, ↓Iv.zlen_r, ↓Iv.zlen_d, ↓Iv.ztup_l, ↓Iv.ztup_t, ↓Iv.zlst_l, ↓Iv.zlst_t, ↓Iv.zlst_r, ↓Iv.zzip_t, ↓Iv.zzip_l, ↓Iv.zint_i, ↓Iv.zint_b, ↓Iv.zit_t, ↓Iv.zit_l, ↓Iv.zit_r, ↓Iv.zslc_t, ↓Iv.zslc_l, ↓Iv.zrev_t, ↓Iv.zrev_l, ↓Iv.zaug_a, ↓Iv.zaug_s, ↓Iv.zisn, ↓Iv.znotn, ↓Iv.zadd_l, ↓Iv.zadd_t, ↓Iv.zapp_l, ↓Iv.ty_ll, ↓Iv.ty_dd, ↓Iv.zfor_nil, ↓Iv.zty_i, ↓Iv.zty_ib, ↓Iv.zty_is, ↓Iv.zty_it, ↓Iv.zty_il, ↓Iv.zty_bi, ↓Iv.zty_bb, ↓Iv.zty_bs, ↓Iv.zty_bt, ↓Iv.zty_bl, ↓Iv.zty_si, ↓Iv.zty_sb, ↓Iv.zty_ss, ↓Iv.zty_st, ↓Iv.zty_sl, ↓Iv.zty_ti, ↓Iv.zty_tb, ↓Iv.zty_ts, ↓Iv.zty_tt, ↓Iv.zty_tl, ↓Iv.zty_li, ↓Iv.zty_lb, ↓Iv.zty_ls, ↓Iv.zty_lt, ↓Iv.zty_ll, ↓Iv.zty_ni, ↓Iv.zty_nb, ↓Iv.zty_ns, ↓Iv.zty_nt, ↓Iv.zty_nl, ↓Iv.zty_di, ↓Iv.zty_db, ↓Iv.zty_ds, ↓Iv.zty_dt, ↓Iv.zty_dl, ↓Iv.quiet_0, ↓Iv.quiet_s, ↓Iv.qS_v, ↓Iv.qS_n, ↓Iv.qS_s, ↓reduceIte, Bool.false_eq_true, Nat.reduceLeDiff, Nat.zero_le, Iv.slotsOf, Iv.nodupN, List.contains_nil, Bool.not_false, Bool.not_true, Bool.and_true, Bool.true_and, Bool.and_false, Bool.false_and, decide_true, decide_false, List.replicate, List.cons_append, List.nil_append, List.length_cons, List.length_nil, Nat.reduceAdd, Nat.reduceSub, List.contains_cons, Nat.reduceBeqDiff, Nat.reduceEqDiff, Bool.or_false, Bool.false_or, Bool.or_true, Bool.true_or, List.take_succ_cons, List.take_zero, ↓bkz hd, ↓bkz hput]
  exact h3 (N + 1 + tC 3 + 64) p3 pat _ (by show N + 1 + 30 + 64 ≤ _; omega) hp3 hpat (psub_ok _ g1 _ hpat.k) (by omega) (by omega)
theorem plain (ns : List Int) (hl : ns.length ≤ 63) (hb : ∀ z ∈ ns, Builtin.Int.intBits z ≤ 1048576) : ∃ fr outs, run tab 100 15 [.val (.rol (ns.map .int))] = some (fr, .bl true, outs) := by
  have main : Tot (run tab (99 + 1) f_p_law [.val (.rol (ns.map .int))]) fun z => z.2.1 = .bl true := by
    refine run_tot (F := p_law_f) rfl rfl ?_
    show Tot (exsK 1 whileFuel (run tab 99) p_law_s [.val (.rol (ns.map .int)), .none, .none, .none, .none, .none, .none, .none] (endK 1)) _
    simp -implicitDefEqProofs only [↓Iv.k_var, ↓Iv.k_int, ↓Iv.k_str, ↓Iv.k_bl, ↓Iv.k_non, ↓Iv.k_tup, ↓Iv.k_lst, ↓Iv.k_dct, ↓Iv.z_bin, ↓Iv.k_neg, ↓Iv.z_cmp, ↓Iv.z_cmp2, ↓Iv.z_rev, ↓Iv.z_and, ↓Iv.z_or, ↓Iv.k_not, ↓Iv.z_ite, ↓Iv.z_idx, ↓Iv.z_slc, ↓Iv.z_slf, ↓Iv.z_slt, ↓Iv.z_call, ↓Iv.z_blt, ↓Iv.z_isi, ↓Iv.z_comp, ↓Iv.k_nil, ↓Iv.k_cons, ↓Iv.z_seq, ↓Iv.z_rng1, ↓Iv.k_expr, ↓Iv.z_aite, ↓Iv.z_for, ↓Iv.z_whl, ↓Iv.k_retN, ↓Iv.k_pass, ↓Iv.k_brk, ↓Iv.k_cont, ↓Iv.k_frz, ↓Iv.z_mth, ↓Iv.z_mut, ↓Iv.k_scons, ↓Iv.k_snil, ↓Iv.k_asg, ↓Iv.k_par, ↓Iv.z_set, ↓Iv.k_ret, ↓Iv.z_aug, ↓Iv.z_enm, ↓Iv.z_rng2, ↓Iv.look_0, ↓Iv.look_s, ↓Iv.onS_v, ↓Iv.onS_o, ↓Iv.ownK_o, ↓Iv.valK_v, ↓Iv.asV_i, ↓Iv.asB_i, ↓Iv.asN_i, ↓Iv.dsK_v, ↓Iv.dsK_o, ↓Iv.drK_i, ↓Iv.drK_s, ↓Iv.immsK_0, ↓Iv.immsK_i, ↓Iv.dersK_0, ↓Iv.dersK_c, ↓Iv.argsK_0, ↓Iv.argsK_i, ↓Iv.argsK_s, ↓Iv.getO_0, ↓Iv.getO_s, ↓Iv.outK_go, ↓Iv.goO_0, ↓Iv.goO_i, ↓Iv.goO_s, ↓Iv.putS_0, ↓Iv.putS_s, ↓Iv.setK_z, ↓Iv.setK_v, ↓Iv.setK_n, ↓Iv.setK_ss, ↓Iv.setK_0s, ↓Iv.frK_v, ↓Iv.frK_o, ↓Iv.frK_ss, ↓Iv.frK_0s, ↓Iv.setsK_0, ↓Iv.setsK_c, ↓Iv.tgK_v, ↓Iv.tgK_w, ↓Iv.tgK_t, ↓Iv.tgK_2, ↓Iv.tgK_p, ↓Iv.tgK_2p, ↓Iv.asgK_f, ↓Iv.asgK_v, ↓Iv.asgK_w, ↓Iv.asgK_t, ↓Iv.asgK_2, ↓Iv.retK_i, ↓Iv.retK_s, ↓Iv.bkz_some, ↓Iv.cnd_t, ↓Iv.cnd_f, ↓Iv.endK_ret, ↓Iv.endK_next, ↓Iv.za_i, ↓Iv.zs_i, ↓Iv.zeq_i, ↓Iv.zne_i, ↓Iv.zlt_i, ↓Iv.zle_i, ↓Iv.zgt_i, ↓Iv.zge_i, ↓Iv.zeq_s, ↓Iv.zne_s, ↓Iv.zeq_b, ↓Iv.zne_b, ↓Iv.zlen_t, ↓Iv.zlen_l, ↓Iv.zlen_r, ↓Iv.zlen_d, ↓Iv.ztup_l, ↓Iv.ztup_t, ↓Iv.zlst_l, ↓Iv.zlst_t, ↓Iv.zlst_r, ↓Iv.zzip_t, ↓Iv.zzip_l, ↓Iv.zint_i, ↓Iv.zint_b, ↓Iv.zit_t, ↓Iv.zit_l, ↓Iv.zit_r, ↓Iv.zslc_t, ↓Iv.zslc_l, ↓Iv.zrev_t, ↓Iv.zrev_l, ↓Iv.zaug_a, ↓Iv.zaug_s, ↓Iv.zisn, ↓Iv.znotn, ↓Iv.zadd_l, ↓Iv.zadd_t, ↓Iv.zapp_l, ↓Iv.ty_ll, ↓Iv.ty_dd, ↓Iv.zfor_nil, ↓Iv.zty_i, ↓Iv.zty_ib, ↓Iv.zty_is, ↓Iv.zty_it, ↓Iv.zty_il, ↓Iv.zty_bi, ↓Iv.zty_bb, ↓Iv.zty_bs, ↓Iv.zty_bt, ↓Iv.zty_bl, ↓Iv.zty_si, ↓Iv.zty_sb, ↓Iv.zty_ss, ↓Iv.zty_st, ↓Iv.zty_sl, ↓Iv.zty_ti, ↓Iv.zty_tb, ↓Iv.zty_ts, ↓Iv.zty_tt, ↓Iv.zty_tl, ↓Iv.zty_li, ↓Iv.zty_lb, ↓Iv.zty_ls, ↓Iv.zty_lt, ↓Iv.zty_ll, ↓Iv.zty_ni, ↓Iv.zty_nb, ↓Iv.zty_ns, ↓Iv.zty_nt, ↓Iv.zty_nl, ↓Iv.zty_di, ↓Iv.zty_db, ↓Iv.zty_ds, ↓Iv.zty_dt, ↓Iv.zty_dl, ↓Iv.quiet_0, ↓Iv.quiet_s, ↓Iv.qS_v, ↓Iv.qS_n, ↓Iv.qS_s, ↓reduceIte, Bool.false_eq_true, Nat.reduceLeDiff, Nat.zero_le, Iv.slotsOf, Iv.nodupN, List.contains_nil, Bool.not_false, Bool.not_true, Bool.and_true, Bool.true_and, Bool.and_false, Bool.false_and, decide_true, decide_false, List.replicate, List.cons_append, List.nil_append, List.length_cons, List.length_nil, Nat.reduceAdd, Nat.reduceSub, List.contains_cons, Nat.reduceBeqDiff, Nat.reduceEqDiff, Bool.or_false, Bool.false_or, Bool.or_true, Bool.true_or, List.take_succ_cons, List.take_zero, p_law_s]
    refine Tot.bnd (pen_run 98 ns) ?_
    rintro _ ⟨p, hp, rfl⟩
    simp -implicitDefEqProofs only [↓Iv.k_var, ↓Iv.k_int, ↓Iv.k_str, ↓Iv.k_bl, ↓Iv.k_non, ↓Iv.k_tup, ↓Iv.k_lst, ↓Iv.k_dct, ↓Iv.z_bin, ↓Iv.k_neg, ↓Iv.z_cmp, ↓Iv.z_cmp2, ↓Iv.z_rev, ↓Iv.z_and, ↓Iv.z_or, ↓Iv.k_not, ↓Iv.z_ite, ↓Iv.z_idx, ↓Iv.z_slc, ↓Iv.z_slf, ↓Iv.z_slt, ↓Iv.z_call, ↓Iv.z_blt, ↓Iv.z_isi, ↓Iv.z_comp, ↓Iv.k_nil, ↓Iv.k_cons, ↓Iv.z_seq, ↓Iv.z_rng1, ↓Iv.k_expr, ↓Iv.z_aite, ↓Iv.z_for, ↓Iv.z_whl, ↓Iv.k_retN, ↓Iv.k_pass, ↓Iv.k_brk, ↓Iv.k_cont, ↓Iv.k_frz, ↓Iv.z_mth, ↓Iv.z_mut, ↓Iv.k_scons, ↓Iv.k_snil, ↓Iv.k_asg, ↓Iv.k_par, ↓Iv.z_set, ↓Iv.k_ret, ↓Iv.z_aug, ↓Iv.z_enm, ↓Iv.z_rng2, ↓Iv.look_0, ↓Iv.look_s, ↓Iv.onS_v, ↓Iv.onS_o, ↓Iv.ownK_o, ↓Iv.valK_v, ↓Iv.asV_i, ↓Iv.asB_i, ↓Iv.asN_i, ↓Iv.dsK_v, ↓Iv.dsK_o, ↓Iv.drK_i, ↓Iv.drK_s, ↓Iv.immsK_0, ↓Iv.immsK_i, ↓Iv.dersK_0, ↓Iv.dersK_c, ↓Iv.argsK_0, ↓Iv.argsK_i, ↓Iv.argsK_s, ↓Iv.getO_0, ↓Iv.getO_s, ↓Iv.outK_go, ↓Iv.goO_0, ↓Iv.goO_i, ↓Iv.goO_s, ↓Iv.putS_0, ↓Iv.putS_s, ↓Iv.setK_z, ↓Iv.setK_v, ↓Iv.setK_n, ↓Iv.setK_ss, ↓Iv.setK_0s, ↓Iv.frK_v, ↓Iv.frK_o, ↓Iv.frK_ss, ↓Iv.frK_0s, ↓Iv.setsK_0, ↓Iv.setsK_c, ↓Iv.tgK_v, ↓Iv.tgK_w, ↓Iv.tgK_t, ↓Iv.tgK_2, ↓Iv.tgK_p, ↓Iv.tgK_2p, ↓Iv.asgK_f, ↓Iv.asgK_v, ↓Iv.asgK_w, ↓Iv.asgK_t, ↓Iv.asgK_2, ↓Iv.retK_i, ↓Iv.retK_s, ↓Iv.bkz_some, ↓Iv.cnd_t, ↓Iv.cnd_f, ↓Iv.endK_ret, ↓Iv.endK_next, ↓Iv.za_i, ↓Iv.zs_i, ↓Iv.zeq_i, ↓Iv.zne_i, ↓Iv.zlt_i, ↓Iv.zle_i, ↓Iv.zgt_i, ↓Iv.zge_i, ↓Iv.zeq_s, ↓Iv.zne_s, ↓Iv.zeq_b, ↓Iv.zne_b, ↓Iv.zlen_t, ↓Iv.zlen_l, ↓Iv.zlen_r, ↓Iv.zlen_d, ↓Iv.ztup_l, ↓Iv.ztup_t, ↓Iv.zlst_l, ↓Iv.zlst_t, ↓Iv.zlst_r, ↓Iv.zzip_t, ↓Iv.zzip_l, ↓Iv.zint_i, ↓Iv.zint_b, ↓Iv.zit_t, ↓Iv.zit_l, ↓Iv.zit_r, ↓Iv.zslc_t, ↓Iv.zslc_l, ↓Iv.zrev_t, ↓Iv.zrev_l, ↓Iv.zaug_a, ↓Iv.zaug_s, ↓Iv.zisn, ↓Iv.znotn, ↓Iv.zadd_l, ↓Iv.zadd_t, ↓Iv.zapp_l, ↓Iv.ty_ll, ↓Iv.ty_dd, ↓Iv.zfor_nil, ↓Iv.zty_i, ↓Iv.zty_ib, ↓Iv.zty_is, ↓Iv.zty_it, ↓Iv.zty_il, ↓Iv.zty_bi, ↓Iv.zty_bb, ↓Iv.zty_bs, ↓Iv.zty_bt, ↓Iv.zty_bl, ↓Iv.zty_si, ↓Iv.zty_sb, ↓Iv.zty_ss, ↓Iv.zty_st, ↓Iv.zty_sl, ↓Iv.zty_ti, ↓Iv.zty_tb, ↓Iv.zty_ts, ↓Iv.zty_tt, ↓Iv.zty_tl, ↓Iv.zty_li, ↓Iv.zty_lb, ↓Iv.zty_ls, ↓Iv.zty_lt, ↓Iv.zty_ll, ↓Iv.zty_ni, ↓Iv.zty_nb, ↓Iv.zty_ns, ↓Iv.zty_nt, ↓Iv.zty_nl, ↓Iv.zty_di, ↓Iv.zty_db, ↓Iv.zty_ds, ↓Iv.zty_dt, ↓Iv.zty_dl, ↓Iv.quiet_0, ↓Iv.quiet_s, ↓Iv.qS_v, ↓Iv.qS_n, ↓Iv.qS_s, ↓reduceIte, Bool.false_eq_true, Nat.reduceLeDiff, Nat.zero_le, Iv.slotsOf, Iv.nodupN, List.contains_nil, Bool.not_false, Bool.not_true, Bool.and_true, Bool.true_and, Bool.and_false, Bool.false_and, decide_true, decide_false, List.replicate, List.cons_append, List.nil_append, List.length_cons, List.length_nil, Nat.reduceAdd, Nat.reduceSub, List.contains_cons, Nat.reduceBeqDiff, Nat.reduceEqDiff, Bool.or_false, Bool.false_or, Bool.or_true, Bool.true_or, List.take_succ_cons, List.take_zero]
    refine Tot.bnd (order_run 96 0 p hp (by decide)) ?_
    rintro _ ⟨rs, ts, p1, hrs, hts, hp1, rfl⟩
    have c8 : (-(2 ^ 62) ≤ (8 : Int) ∧ (8 : Int) < 2 ^ 62) = True := eq_true (by decide)
    simp -implicitDefEqProofs only [↓Iv.k_var, ↓Iv.k_int, ↓Iv.k_str, ↓Iv.k_bl, ↓Iv.k_non, ↓Iv.k_tup, ↓Iv.k_lst, ↓Iv.k_dct, ↓Iv.z_bin, ↓Iv.k_neg, ↓Iv.z_cmp, ↓Iv.z_cmp2, ↓Iv.z_rev, ↓Iv.z_and, ↓Iv.z_or, ↓Iv.k_not, ↓Iv.z_ite, ↓Iv.z_idx, ↓Iv.z_slc, ↓Iv.z_slf, ↓Iv.z_slt, ↓Iv.z_call, ↓Iv.z_blt, ↓Iv.z_isi, ↓Iv.z_comp, ↓Iv.k_nil, ↓Iv.k_cons, ↓Iv.z_seq, ↓Iv.z_rng1, ↓Iv.k_expr, ↓Iv.z_aite, ↓Iv.z_for, ↓Iv.z_whl, ↓Iv.k_retN, ↓Iv.k_pass, ↓Iv.k_brk, ↓Iv.k_cont, ↓Iv.k_frz, ↓Iv.z_mth, ↓Iv.z_mut, ↓Iv.k_scons, ↓Iv.k_snil, ↓Iv.k_asg, ↓Iv.k_par, ↓Iv.z_set, ↓Iv.k_ret, ↓Iv.z_aug, ↓Iv.z_enm, ↓Iv.z_rng2, ↓Iv.look_0, ↓Iv.look_s, ↓Iv.onS_v, ↓Iv.onS_o, ↓Iv.ownK_o, ↓Iv.valK_v, ↓Iv.asV_i, ↓Iv.asB_i, ↓Iv.asN_i, ↓Iv.dsK_v, ↓Iv.dsK_o, ↓Iv.drK_i, ↓Iv.drK_s, ↓Iv.immsK_0, ↓Iv.immsK_i, ↓Iv.dersK_0, ↓Iv.dersK_c, ↓Iv.argsK_0, ↓Iv.argsK_i, ↓Iv.argsK_s, ↓Iv.getO_0, ↓Iv.getO_s, ↓Iv.outK_go, ↓Iv.goO_0, ↓Iv.goO_i, ↓Iv.goO_s, ↓Iv.putS_0, ↓Iv.putS_s, ↓Iv.setK_z, ↓Iv.setK_v, ↓Iv.setK_n, ↓Iv.setK_ss, ↓Iv.setK_0s, ↓Iv.frK_v, ↓Iv.frK_o, ↓Iv.frK_ss, ↓Iv.frK_0s, ↓Iv.setsK_0, ↓Iv.setsK_c, ↓Iv.tgK_v, ↓Iv.tgK_w, ↓Iv.tgK_t, ↓Iv.tgK_2, ↓Iv.tgK_p, ↓Iv.tgK_2p, ↓Iv.asgK_f, ↓Iv.asgK_v, ↓Iv.asgK_w, ↓Iv.asgK_t, ↓Iv.asgK_2, ↓Iv.retK_i, ↓Iv.retK_s, ↓Iv.bkz_some, ↓Iv.cnd_t, ↓Iv.cnd_f, ↓Iv.endK_ret, ↓Iv.endK_next, ↓Iv.za_i, ↓Iv.zs_i, ↓Iv.zeq_i, ↓Iv.zne_i, ↓Iv.zlt_i, ↓Iv.zle_i, ↓Iv.zgt_i, ↓Iv.zge_i, ↓Iv.zeq_s, ↓Iv.zne_s, ↓Iv.zeq_b, ↓Iv.zne_b, ↓Iv.zlen_t, ↓Iv.zlen_l, ↓Iv.zlen_r, ↓Iv.zlen_d, ↓Iv.ztup_l, ↓Iv.ztup_t, ↓Iv.zlst_l, ↓Iv.zlst_t, ↓Iv.zlst_r, ↓Iv.zzip_t, ↓Iv.zzip_l, ↓Iv.zint_i, ↓Iv.zint_b, ↓Iv.zit_t, ↓Iv.zit_l, ↓Iv.zit_r, ↓Iv.zslc_t, ↓Iv.zslc_l, ↓Iv.zrev_t, ↓Iv.zrev_l, ↓Iv.zaug_a, ↓Iv.zaug_s, ↓Iv.zisn, ↓Iv.znotn, ↓Iv.zadd_l, ↓Iv.zadd_t, ↓Iv.zapp_l, ↓Iv.ty_ll, ↓Iv.ty_dd, ↓Iv.zfor_nil, ↓Iv.zty_i, ↓Iv.zty_ib, ↓Iv.zty_is, ↓Iv.zty_it, ↓Iv.zty_il, ↓Iv.zty_bi, ↓Iv.zty_bb, ↓Iv.zty_bs, ↓Iv.zty_bt, ↓Iv.zty_bl, ↓Iv.zty_si, ↓Iv.zty_sb, ↓Iv.zty_ss, ↓Iv.zty_st, ↓Iv.zty_sl, ↓Iv.zty_ti, ↓Iv.zty_tb, ↓Iv.zty_ts, ↓Iv.zty_tt, ↓Iv.zty_tl, ↓Iv.zty_li, ↓Iv.zty_lb, ↓Iv.zty_ls, ↓Iv.zty_lt, ↓Iv.zty_ll, ↓Iv.zty_ni, ↓Iv.zty_nb, ↓Iv.zty_ns, ↓Iv.zty_nt, ↓Iv.zty_nl, ↓Iv.zty_di, ↓Iv.zty_db, ↓Iv.zty_ds, ↓Iv.zty_dt, ↓Iv.zty_dl, ↓Iv.quiet_0, ↓Iv.quiet_s, ↓Iv.qS_v, ↓Iv.qS_n, ↓Iv.qS_s, ↓reduceIte, Bool.false_eq_true, Nat.reduceLeDiff, Nat.zero_le, Iv.slotsOf, Iv.nodupN, List.contains_nil, Bool.not_false, Bool.not_true, Bool.and_true, Bool.true_and, Bool.and_false, Bool.false_and, decide_true, decide_false, List.replicate, List.cons_append, List.nil_append, List.length_cons, List.length_nil, Nat.reduceAdd, Nat.reduceSub, List.contains_cons, Nat.reduceBeqDiff, Nat.reduceEqDiff, Bool.or_false, Bool.false_or, Bool.or_true, Bool.true_or, List.take_succ_cons, List.take_zero, c8]
    refine Tot.bnd (forS_tot (fun i r => ∃ (q : D) (s3 s4 s5 s6 s7 : Slot), PenOk (40 + 140 * i) q ∧ r = [.val (.rol (ns.map .int)), .own q, .val (rowsD rs ts), s3, s4, s5, s6, s7])
      (fun z => ∃ (s1 s2 s3 s4 s5 s6 s7 : Slot), z = (.next, [.val (.rol (ns.map .int)), s1, s2, s3, s4, s5, s6, s7])) _ 0 _ ⟨p1, _, _, _, _, _, hp1, rfl⟩ ?_ ?_) ?_
    · rintro i y _ hi ⟨q, s3, s4, s5, s6, s7, hq, rfl⟩
      have hik := (List.getElem?_eq_some_iff.mp hi).1
      have hi8 : i < 8 := hik
      rw [Nat.zero_add] at hq ⊢
      have stop : ∀ z, Out (.val (.rol (ns.map .int))) (.val (rowsD rs ts)) (.val y) (40 + 140 * i + 140) z →
          LoopQ (fun r => ∃ (q : D) (s3 s4 s5 s6 s7 : Slot), PenOk (40 + 140 * (i + 1)) q ∧ r = [.val (.rol (ns.map .int)), .own q, .val (rowsD rs ts), s3, s4, s5, s6, s7])
            (fun z => ∃ (s1 s2 s3 s4 s5 s6 s7 : Slot), z = (.next, [.val (.rol (ns.map .int)), s1, s2, s3, s4, s5, s6, s7])) z := by
        rintro _ ⟨p', t4, t5, t6, t7, hp', rfl⟩
        exact ⟨p', _, _, _, _, _, hp', rfl⟩
      simp -implicitDefEqProofs only [↓Iv.k_var, ↓Iv.k_int, ↓Iv.k_str, ↓Iv.k_bl, ↓Iv.k_non, ↓Iv.k_tup, ↓Iv.k_lst, ↓Iv.k_dct, ↓Iv.z_bin, ↓Iv.k_neg, ↓Iv.z_cmp, ↓Iv.z_cmp2, ↓Iv.z_rev, ↓Iv.z_and, ↓Iv.z_or, ↓Iv.k_not, ↓Iv.z_ite, ↓Iv.z_idx, ↓Iv.z_slc, ↓Iv.z_slf, ↓Iv.z_slt, ↓Iv.z_call, ↓Iv.z_blt, ↓Iv.z_isi, ↓Iv.z_comp, ↓Iv.k_nil, ↓Iv.k_cons, ↓Iv.z_seq, ↓Iv.z_rng1, ↓Iv.k_expr, ↓Iv.z_aite, ↓Iv.z_for, ↓Iv.z_whl, ↓Iv.k_retN, ↓Iv.k_pass, ↓Iv.k_brk, ↓Iv.k_cont, ↓Iv.k_frz, ↓Iv.z_mth, ↓Iv.z_mut, ↓Iv.k_scons, ↓Iv.k_snil, ↓Iv.k_asg, ↓Iv.k_par, ↓Iv.z_set, ↓Iv.k_ret, ↓Iv.z_aug, ↓Iv.z_enm, ↓Iv.z_rng2, ↓Iv.look_0, ↓Iv.look_s, ↓Iv.onS_v, ↓Iv.onS_o, ↓Iv.ownK_o, ↓Iv.valK_v, ↓Iv.asV_i, ↓Iv.asB_i, ↓Iv.asN_i, ↓Iv.dsK_v, ↓Iv.dsK_o, ↓Iv.drK_i, ↓Iv.drK_s, ↓Iv.immsK_0, ↓Iv.immsK_i, ↓Iv.dersK_0, ↓Iv.dersK_c, ↓Iv.argsK_0, ↓Iv.argsK_i, ↓Iv.argsK_s, ↓Iv.getO_0, ↓Iv.getO_s, ↓Iv.outK_go, ↓Iv.goO_0, ↓Iv.goO_i, ↓Iv.goO_s, ↓Iv.putS_0, ↓Iv.putS_s, ↓Iv.setK_z, ↓Iv.setK_v, ↓Iv.setK_n, ↓Iv.setK_ss, ↓Iv.setK_0s, ↓Iv.frK_v, ↓Iv.frK_o, ↓Iv.frK_ss, ↓Iv.frK_0s, ↓Iv.setsK_0, ↓Iv.setsK_c, ↓Iv.tgK_v, ↓Iv.tgK_w, ↓Iv.tgK_t, ↓Iv.tgK_2, ↓Iv.tgK_p, ↓Iv.tgK_2p, ↓Iv.asgK_f, ↓Iv.asgK_v, ↓Iv.asgK_w, ↓Iv.asgK_t, ↓Iv.asgK_2, ↓Iv.retK_i, ↓Iv.retK_s, ↓Iv.bkz_some, ↓Iv.cnd_t, ↓Iv.cnd_f, ↓Iv.endK_ret, ↓Iv.endK_next, ↓Iv.za_i, ↓Iv.zs_i, ↓Iv.zeq_i, ↓Iv.zne_i, ↓Iv.zlt_i, ↓Iv.zle_i, ↓Iv.zgt_i, ↓Iv.zge_i, ↓Iv.zeq_s, ↓Iv.zne_s, ↓Iv.zeq_b, ↓Iv.zne_b, ↓Iv.zlen_t, ↓Iv.zlen_l, ↓Iv.zlen_r, ↓Iv.zlen_d, ↓Iv.ztup_l, ↓Iv.ztup_t, ↓Iv.zlst_l, ↓Iv.zlst_t, ↓Iv.zlst_r, ↓Iv.zzip_t, ↓Iv.zzip_l, ↓Iv.zint_i, ↓Iv.zint_b, ↓Iv.zit_t, ↓Iv.zit_l, ↓Iv.zit_r, ↓Iv.zslc_t, ↓Iv.zslc_l, ↓Iv.zrev_t, ↓Iv.zrev_l, ↓Iv.zaug_a, ↓Iv.zaug_s, ↓Iv.zisn, ↓Iv.znotn, ↓Iv.zadd_l, ↓Iv.zadd_t, ↓Iv.zapp_l, ↓Iv.ty_ll, ↓Iv.ty_dd, ↓Iv.zfor_nil, ↓Iv.zty_i, ↓Iv.zty_ib, ↓Iv.zty_is, ↓Iv.zty_it, ↓Iv.zty_il, ↓Iv.zty_bi, ↓Iv.zty_bb, ↓Iv.zty_bs, ↓Iv.zty_bt, ↓Iv.zty_bl, ↓Iv.zty_si, ↓Iv.zty_sb, ↓Iv.zty_ss, ↓Iv.zty_st, ↓Iv.zty_sl, ↓Iv.zty_ti, ↓Iv.zty_tb, ↓Iv.zty_ts, ↓Iv.zty_tt, ↓Iv.zty_tl, ↓Iv.zty_li, ↓Iv.zty_lb, ↓Iv.zty_ls, ↓Iv.zty_lt, ↓Iv.zty_ll, ↓Iv.zty_ni, ↓Iv.zty_nb, ↓Iv.zty_ns, ↓Iv.zty_nt, ↓Iv.zty_nl, ↓Iv.zty_di, ↓Iv.zty_db, ↓Iv.zty_ds, ↓Iv.zty_dt, ↓Iv.zty_dl, ↓Iv.quiet_0, ↓Iv.quiet_s, ↓Iv.qS_v, ↓Iv.qS_n, ↓Iv.qS_s, ↓reduceIte, Bool.false_eq_true, Nat.reduceLeDiff, Nat.zero_le, Iv.slotsOf, Iv.nodupN, List.contains_nil, Bool.not_false, Bool.not_true, Bool.and_true, Bool.true_and, Bool.and_false, Bool.false_and, decide_true, decide_false, List.replicate, List.cons_append, List.nil_append, List.length_cons, List.length_nil, Nat.reduceAdd, Nat.reduceSub, List.contains_cons, Nat.reduceBeqDiff, Nat.reduceEqDiff, Bool.or_false, Bool.false_or, Bool.or_true, Bool.true_or, List.take_succ_cons, List.take_zero]
      exact (b0_run rs ts hrs (40 + 140 * i) q hq (by omega) _ _ _ _ _ _).mono stop
    · rintro _ ⟨q, s3, s4, s5, s6, s7, hq, rfl⟩
      exact ⟨_, _, _, _, _, _, _, rfl⟩
    · rintro _ ⟨s1, s2, s3, s4, s5, s6, s7, rfl⟩
      have okv : ∀ i : Nat, i < 100000 → ok (.v i) := fun i h => by rw [ok]; exact h
      have okf : ∀ us : List T, us.length ≤ 100 → oks us → ok (.f "f" us) := fun us h1 h2 => by
        rw [ok]
        exact ⟨by decide +kernel, by decide +kernel, h1, h2⟩
      have gg : ∀ a c : T, ok a → ht a ≤ 60 → ok c → ht c ≤ 60 → sz c ≤ 15 → sz a ≤ 15 → Good 15 15 [] [(a, c)] := fun a c h1 h2 h3 h4 h5 h6 => ⟨Con_nil, fun q hq => by
        rw [List.mem_singleton] at hq
        subst hq
        exact ⟨h1, h2, h3, h4, h5⟩, fun q hq => (by cases hq), by show 0 + (sz a + 0) ≤ 15; omega⟩
      obtain ⟨o1, r1⟩ := p_match_run 69 15 15 (by decide) (.v 0) (.v 0) (gg _ _ (okv 0 (by decide)) (by decide) (okv 0 (by decide)) (by decide) (by decide) (by decide)) _ rfl
      have r1' : run tab 99 f_p_match [.val (.int 0), .val (.int 0)] = some (false, .tup [], o1) := r1
      obtain ⟨o2, r2⟩ := p_match_run 69 15 15 (by decide) (.f "f" [.v 0]) (.v 0) (gg _ _ (okf _ (by decide) (oks_iff.mpr fun t ht => by rw [List.mem_singleton] at ht; subst ht; exact okv 0 (by decide))) (by decide) (okv 0 (by decide)) (by decide) (by decide) (by decide)) _ rfl
      have r2' : run tab 99 f_p_match [.val (.tup [.str "f", .int 0]), .val (.int 0)] = some (false, .non, o2) := r2
      obtain ⟨o3, r3⟩ := p_match_run 69 15 15 (by decide) (.f "f" [.v 0, .v 0]) (.f "f" [.v 1, .v 1]) (gg _ _ (okf _ (by decide) (oks_iff.mpr fun t ht => by
        simp only [List.mem_cons, List.not_mem_nil, or_false, or_self] at ht; subst ht; exact okv 0 (by decide))) (by decide) (okf _ (by decide) (oks_iff.mpr fun t ht => by
        simp only [List.mem_cons, List.not_mem_nil, or_false, or_self] at ht; subst ht; exact okv 1 (by decide))) (by decide) (by decide) (by decide)) _ rfl
      have r3' : run tab 99 f_p_match [.val (.tup [.str "f", .int 0, .int 0]), .val (.tup [.str "f", .int 1, .int 1])] = some (false, .tup [.tup [.int 0, .int 1]], o3) := r3
      have n1 : cmpop .eq (.lst [.tup [], .non, .tup [.tup [.int 0, .int 1]]]) (.lst [.tup [], .non, .tup [.tup [.int 0, .int 1]]]) = some true := eqop_self (d := .lst [.tup [], .non, .tup [.tup [.int 0, .int 1]]]) (b := 3) ⟨by decide +kernel, by decide +kernel⟩ (by decide)
      simp -implicitDefEqProofs only [↓Iv.k_var, ↓Iv.k_int, ↓Iv.k_str, ↓Iv.k_bl, ↓Iv.k_non, ↓Iv.k_tup, ↓Iv.k_lst, ↓Iv.k_dct, ↓Iv.z_bin, ↓Iv.k_neg, ↓Iv.z_cmp, ↓Iv.z_cmp2, ↓Iv.z_rev, ↓Iv.z_and, ↓Iv.z_or, ↓Iv.k_not, ↓Iv.z_ite, ↓Iv.z_idx, ↓Iv.z_slc, ↓Iv.z_slf, ↓Iv.z_slt, ↓Iv.z_call, ↓Iv.z_blt, ↓Iv.z_isi, ↓Iv.z_comp, ↓Iv.k_nil, ↓Iv.k_cons, ↓Iv.z_seq, ↓Iv.z_rng1, ↓Iv.k_expr, ↓Iv.z_aite, ↓Iv.z_for, ↓Iv.z_whl, ↓Iv.k_retN, ↓Iv.k_pass, ↓Iv.k_brk, ↓Iv.k_cont, ↓Iv.k_frz, ↓Iv.z_mth, ↓Iv.z_mut, ↓Iv.k_scons, ↓Iv.k_snil, ↓Iv.k_asg, ↓Iv.k_par, ↓Iv.z_set, ↓Iv.k_ret, ↓Iv.z_aug, ↓Iv.z_enm, ↓Iv.z_rng2, ↓Iv.look_0, ↓Iv.look_s, ↓Iv.onS_v, ↓Iv.onS_o, ↓Iv.ownK_o, ↓Iv.valK_v, ↓Iv.asV_i, ↓Iv.asB_i, ↓Iv.asN_i, ↓Iv.dsK_v, ↓Iv.dsK_o, ↓Iv.drK_i, ↓Iv.drK_s, ↓Iv.immsK_0, ↓Iv.immsK_i, ↓Iv.dersK_0, ↓Iv.dersK_c, ↓Iv.argsK_0, ↓Iv.argsK_i, ↓Iv.argsK_s, ↓Iv.getO_0, ↓Iv.getO_s, ↓Iv.outK_go, ↓Iv.goO_0, ↓Iv.goO_i, ↓Iv.goO_s, ↓Iv.putS_0, ↓Iv.putS_s, ↓Iv.setK_z, ↓Iv.setK_v, ↓Iv.setK_n, ↓Iv.setK_ss, ↓Iv.setK_0s, ↓Iv.frK_v, ↓Iv.frK_o, ↓Iv.frK_ss, ↓Iv.frK_0s, ↓Iv.setsK_0, ↓Iv.setsK_c, ↓Iv.tgK_v, ↓Iv.tgK_w, ↓Iv.tgK_t, ↓Iv.tgK_2, ↓Iv.tgK_p, ↓Iv.tgK_2p, ↓Iv.asgK_f, ↓Iv.asgK_v, ↓Iv.asgK_w, ↓Iv.asgK_t, ↓Iv.asgK_2, ↓Iv.retK_i, ↓Iv.retK_s, ↓Iv.bkz_some, ↓Iv.cnd_t, ↓Iv.cnd_f, ↓Iv.endK_ret, ↓Iv.endK_next, ↓Iv.za_i, ↓Iv.zs_i, ↓Iv.zeq_i, ↓Iv.zne_i, ↓Iv.zlt_i, ↓Iv.zle_i, ↓Iv.zgt_i, ↓Iv.zge_i, ↓Iv.zeq_s, ↓Iv.zne_s, ↓Iv.zeq_b, ↓Iv.zne_b, ↓Iv.zlen_t, ↓Iv.zlen_l, ↓Iv.zlen_r, ↓Iv.zlen_d, ↓Iv.ztup_l, ↓Iv.ztup_t, ↓Iv.zlst_l, ↓Iv.zlst_t, ↓Iv.zlst_r, ↓Iv.zzip_t, ↓Iv.zzip_l, ↓Iv.zint_i, ↓Iv.zint_b, ↓Iv.zit_t, ↓Iv.zit_l, ↓Iv.zit_r, ↓Iv.zslc_t, ↓Iv.zslc_l, ↓Iv.zrev_t, ↓Iv.zrev_l, ↓Iv.zaug_a, ↓Iv.zaug_s, ↓Iv.zisn, ↓Iv.znotn, ↓Iv.zadd_l, ↓Iv.zadd_t, ↓Iv.zapp_l, ↓Iv.ty_ll, ↓Iv.ty_dd, ↓Iv.zfor_nil, ↓Iv.zty_i, ↓Iv.zty_ib, ↓Iv.zty_is, ↓Iv.zty_it, ↓Iv.zty_il, ↓Iv.zty_bi, ↓Iv.zty_bb, ↓Iv.zty_bs, ↓Iv.zty_bt, ↓Iv.zty_bl, ↓Iv.zty_si, ↓Iv.zty_sb, ↓Iv.zty_ss, ↓Iv.zty_st, ↓Iv.zty_sl, ↓Iv.zty_ti, ↓Iv.zty_tb, ↓Iv.zty_ts, ↓Iv.zty_tt, ↓Iv.zty_tl, ↓Iv.zty_li, ↓Iv.zty_lb, ↓Iv.zty_ls, ↓Iv.zty_lt, ↓Iv.zty_ll, ↓Iv.zty_ni, ↓Iv.zty_nb, ↓Iv.zty_ns, ↓Iv.zty_nt, ↓Iv.zty_nl, ↓Iv.zty_di, ↓Iv.zty_db, ↓Iv.zty_ds, ↓Iv.zty_dt, ↓Iv.zty_dl, ↓Iv.quiet_0, ↓Iv.quiet_s, ↓Iv.qS_v, ↓Iv.qS_n, ↓Iv.qS_s, ↓reduceIte, Bool.false_eq_true, Nat.reduceLeDiff, Nat.zero_le, Iv.slotsOf, Iv.nodupN, List.contains_nil, Bool.not_false, Bool.not_true, Bool.and_true, Bool.true_and, Bool.and_false, Bool.false_and, decide_true, decide_false, List.replicate, List.cons_append, List.nil_append, List.length_cons, List.length_nil, Nat.reduceAdd, Nat.reduceSub, List.contains_cons, Nat.reduceBeqDiff, Nat.reduceEqDiff, Bool.or_false, Bool.false_or, Bool.or_true, Bool.true_or, List.take_succ_cons, List.take_zero, ↓bkz r1', ↓bkz r2', ↓bkz r3', ↓bkz n1]
      exact Tot.ret rfl
  obtain ⟨⟨fr, d, outs⟩, e, h⟩ := main
  simp only at h
  subst h
  exact ⟨fr, outs, e⟩
end K07
namespace K07
open PySem PySem.Spec PyProof.Rows L2 Iv
theorem l_pen_d {T : Tab} {mg : Str → Option Value} (ht : T.fns = tab) {f : Nat} (h : Fun T.C.1 "_law_pen" "_law_pen" (topS 5) (T.fa f) (T.fd f)) (g : mg "_law_pen" = some (.ref (T.fa f))) : DefOk T mg f l_pen_f :=
  ⟨⟨_, _, h, ⟨rfl, rfl, rfl, by decide +kernel, rfl, by decide +kernel, by decide +kernel⟩, by rw [ht]; exact l_pen_c, fun _ _ _ _ _ _ us hl => match us, hl with | [_], _ => rfl⟩, by decide, g⟩
theorem l_draw_d {T : Tab} {mg : Str → Option Value} (ht : T.fns = tab) {f : Nat} (h : Fun T.C.1 "_law_draw" "_law_draw" (topS 6) (T.fa f) (T.fd f)) (g : mg "_law_draw" = some (.ref (T.fa f))) : DefOk T mg f l_draw_f :=
  ⟨⟨_, _, h, ⟨rfl, rfl, rfl, by decide +kernel, rfl, by decide +kernel, by decide +kernel⟩, by rw [ht]; exact l_draw_c, fun _ _ _ _ _ _ us hl => match us, hl with | [_, _], _ => rfl⟩, by decide, g⟩
theorem l_pick_d {T : Tab} {mg : Str → Option Value} (ht : T.fns = tab) {f : Nat} (h : Fun T.C.1 "_law_pick" "_law_pick" (topS 7) (T.fa f) (T.fd f)) (g : mg "_law_pick" = some (.ref (T.fa f))) : DefOk T mg f l_pick_f :=
  ⟨⟨_, _, h, ⟨rfl, rfl, rfl, by decide +kernel, rfl, by decide +kernel, by decide +kernel⟩, by rw [ht]; exact l_pick_c, fun _ _ _ _ _ _ us hl => match us, hl with | [_, _], _ => rfl⟩, by decide, g⟩
theorem l_drawn_order_d {T : Tab} {mg : Str → Option Value} (ht : T.fns = tab) {f : Nat} (h : Fun T.C.1 "_law_drawn_order" "_law_drawn_order" (topS 8) (T.fa f) (T.fd f)) (g : mg "_law_drawn_order" = some (.ref (T.fa f))) : DefOk T mg f l_drawn_order_f :=
  ⟨⟨_, _, h, ⟨rfl, rfl, rfl, by decide +kernel, rfl, by decide +kernel, by decide +kernel⟩, by rw [ht]; exact l_drawn_order_c, fun _ _ _ _ _ _ us hl => match us, hl with | [_], _ => rfl⟩, by decide, g⟩
theorem l_drawn_term_d {T : Tab} {mg : Str → Option Value} (ht : T.fns = tab) {f : Nat} (h : Fun T.C.1 "_law_drawn_term" "_law_drawn_term" (topS 11) (T.fa f) (T.fd f)) (g : mg "_law_drawn_term" = some (.ref (T.fa f))) : DefOk T mg f l_drawn_term_f :=
  ⟨⟨_, _, h, ⟨rfl, rfl, rfl, by decide +kernel, rfl, by decide +kernel, by decide +kernel⟩, by rw [ht]; exact l_drawn_term_c, fun _ _ _ _ _ _ us hl => match us, hl with | [_, _, _, _], _ => rfl⟩, by decide, g⟩
theorem l_is_var_d {T : Tab} {mg : Str → Option Value} (ht : T.fns = tab) {f : Nat} (h : Fun T.C.1 "_law_is_var" "_law_is_var" (topS 9) (T.fa f) (T.fd f)) (g : mg "_law_is_var" = some (.ref (T.fa f))) : DefOk T mg f l_is_var_f :=
  ⟨⟨_, _, h, ⟨rfl, rfl, rfl, by decide +kernel, rfl, by decide +kernel, by decide +kernel⟩, by rw [ht]; exact l_is_var_c, fun _ _ _ _ _ _ us hl => match us, hl with | [_], _ => rfl⟩, by decide, g⟩
theorem l_put_d {T : Tab} {mg : Str → Option Value} (ht : T.fns = tab) {f : Nat} (h : Fun T.C.1 "_law_put" "_law_put" (topS 10) (T.fa f) (T.fd f)) (g : mg "_law_put" = some (.ref (T.fa f))) : DefOk T mg f l_put_f :=
  ⟨⟨_, _, h, ⟨rfl, rfl, rfl, by decide +kernel, rfl, by decide +kernel, by decide +kernel⟩, by rw [ht]; exact l_put_c, fun _ _ _ _ _ _ us hl => match us, hl with | [_, _], _ => rfl⟩, by decide, g⟩
theorem l_matched_d {T : Tab} {mg : Str → Option Value} (ht : T.fns = tab) {f : Nat} (h : Fun T.C.1 "_law_matched" "_law_matched" (topS 16) (T.fa f) (T.fd f)) (g : mg "_law_matched" = some (.ref (T.fa f))) : DefOk T mg f l_matched_f :=
  ⟨⟨_, _, h, ⟨rfl, rfl, rfl, by decide +kernel, rfl, by decide +kernel, by decide +kernel⟩, by rw [ht]; exact l_matched_c, fun _ _ _ _ _ _ us hl => match us, hl with | [_, _], _ => rfl⟩, by decide, g⟩
theorem p_pairs_of_d {T : Tab} {mg : Str → Option Value} (ht : T.fns = tab) {f : Nat} (h : Fun T.C.1 "pairs_of" "pairs_of" (topS 2) (T.fa f) (T.fd f)) (g : mg "pairs_of" = some (.ref (T.fa f))) : DefOk T mg f p_pairs_of_f :=
  ⟨⟨_, _, h, ⟨rfl, rfl, rfl, by decide +kernel, rfl, by decide +kernel, by decide +kernel⟩, by rw [ht]; exact p_pairs_of_c, fun _ _ _ _ _ _ us hl => match us, hl with | [_], _ => rfl⟩, by decide, g⟩
theorem p_is_variable_d {T : Tab} {mg : Str → Option Value} (ht : T.fns = tab) {f : Nat} (h : Fun T.C.1 "is_variable" "is_variable" (topS 1) (T.fa f) (T.fd f)) (g : mg "is_variable" = some (.ref (T.fa f))) : DefOk T mg f p_is_variable_f :=
  ⟨⟨_, _, h, ⟨rfl, rfl, rfl, by decide +kernel, rfl, by decide +kernel, by decide +kernel⟩, by rw [ht]; exact p_is_variable_c, fun _ _ _ _ _ _ us hl => match us, hl with | [_], _ => rfl⟩, by decide, g⟩
theorem p_match_d {T : Tab} {mg : Str → Option Value} (ht : T.fns = tab) {f : Nat} (h : Fun T.C.1 "match" "match" (topS 3) (T.fa f) (T.fd f)) (g : mg "match" = some (.ref (T.fa f))) : DefOk T mg f p_match_f :=
  ⟨⟨_, _, h, ⟨rfl, rfl, rfl, by decide +kernel, rfl, by decide +kernel, by decide +kernel⟩, by rw [ht]; exact p_match_c, fun _ _ _ _ _ _ us hl => match us, hl with | [_, _], _ => rfl⟩, by decide, g⟩
theorem l_put_there_d {T : Tab} {mg : Str → Option Value} (ht : T.fns = tab) {f : Nat} (h : Fun T.C.1 "_law_put_there" "_law_put_there" (topS 13) (T.fa f) (T.fd f)) (g : mg "_law_put_there" = some (.ref (T.fa f))) : DefOk T mg f l_put_there_f :=
  ⟨⟨_, _, h, ⟨rfl, rfl, rfl, by decide +kernel, rfl, by decide +kernel, by decide +kernel⟩, by rw [ht]; exact l_put_there_c, fun _ _ _ _ _ _ us hl => match us, hl with | [_, _, _], _ => rfl⟩, by decide, g⟩
theorem l_pairs_d {T : Tab} {mg : Str → Option Value} (ht : T.fns = tab) {f : Nat} (h : Fun T.C.1 "_law_pairs" "_law_pairs" (topS 14) (T.fa f) (T.fd f)) (g : mg "_law_pairs" = some (.ref (T.fa f))) : DefOk T mg f l_pairs_f :=
  ⟨⟨_, _, h, ⟨rfl, rfl, rfl, by decide +kernel, rfl, by decide +kernel, by decide +kernel⟩, by rw [ht]; exact l_pairs_c, fun _ _ _ _ _ _ us hl => match us, hl with | [_], _ => rfl⟩, by decide, g⟩
theorem l_drawn_pairs_d {T : Tab} {mg : Str → Option Value} (ht : T.fns = tab) {f : Nat} (h : Fun T.C.1 "_law_drawn_pairs" "_law_drawn_pairs" (topS 15) (T.fa f) (T.fd f)) (g : mg "_law_drawn_pairs" = some (.ref (T.fa f))) : DefOk T mg f l_drawn_pairs_f :=
  ⟨⟨_, _, h, ⟨rfl, rfl, rfl, by decide +kernel, rfl, by decide +kernel, by decide +kernel⟩, by rw [ht]; exact l_drawn_pairs_c, fun _ _ _ _ _ _ us hl => match us, hl with | [_, _, _, _], _ => rfl⟩, by decide, g⟩
theorem l_paths_d {T : Tab} {mg : Str → Option Value} (ht : T.fns = tab) {f : Nat} (h : Fun T.C.1 "_law_paths" "_law_paths" (topS 12) (T.fa f) (T.fd f)) (g : mg "_law_paths" = some (.ref (T.fa f))) : DefOk T mg f l_paths_f :=
  ⟨⟨_, _, h, ⟨rfl, rfl, rfl, by decide +kernel, rfl, by decide +kernel, by decide +kernel⟩, by rw [ht]; exact l_paths_c, fun _ _ _ _ _ _ us hl => match us, hl with | [_], _ => rfl⟩, by decide, g⟩
theorem p_law_d {T : Tab} {mg : Str → Option Value} (ht : T.fns = tab) {f : Nat} (h : Fun T.C.1 "law" "law" (topS 17) (T.fa f) (T.fd f)) (g : mg "law" = some (.ref (T.fa f))) : DefOk T mg f p_law_f :=
  ⟨⟨_, _, h, ⟨rfl, rfl, rfl, by decide +kernel, rfl, by decide +kernel, by decide +kernel⟩, by rw [ht]; exact p_law_c, fun _ _ _ _ _ _ us hl => match us, hl with | [_], _ => rfl⟩, by decide, g⟩
def addrs (l : List Addr) (i : Nat) : Addr := l.getD i 0
def datas (d : FuncData) (l : List FuncData) (i : Nat) : FuncData := l.getD i d
theorem all_mk {l : PySem.W.OpenLaw} {w : World} {K : PySem.W.Frag} {h : Heap} {mg : Str → Option Value} {fa : Addr} (X : K.In h) (G : h.Ns mainGlobals mg) (hfa : mg "law" = some (.ref fa))
    {f0 f1 f2 f3 f4 f5 f6 f7 f8 f9 f10 f11 f12 f13 f14 f15 : Addr} {od0 an0 od1 an1 od2 an2 od3 an3 od4 an4 od5 an5 od6 an6 od7 an7 od8 an8 od9 an9 od10 an10 od11 an11 od12 an12 od13 an13 od14 an14 od15 an15 : Option Addr} {sl0 sl1 sl2 sl3 sl4 sl5 sl6 sl7 sl8 sl9 sl10 sl11 sl12 sl13 sl14 sl15 : Array (Option Value)} {oc0 kV0 dc0 pm0 cd0 ct0 oc1 kV1 dc1 pm1 cd1 ct1 oc2 kV2 dc2 pm2 cd2 ct2 oc3 kV3 dc3 pm3 cd3 ct3 oc4 kV4 dc4 pm4 cd4 ct4 oc5 kV5 dc5 pm5 cd5 ct5 oc6 kV6 dc6 pm6 cd6 ct6 oc7 kV7 dc7 pm7 cd7 ct7 oc8 kV8 dc8 pm8 cd8 ct8 oc9 kV9 dc9 pm9 cd9 ct9 oc10 kV10 dc10 pm10 cd10 ct10 oc11 kV11 dc11 pm11 cd11 ct11 oc12 kV12 dc12 pm12 cd12 ct12 oc13 kV13 dc13 pm13 cd13 ct13 oc14 kV14 dc14 pm14 cd14 ct14 oc15 kV15 dc15 pm15 cd15 ct15 : Value}
    (a0 : PySem.W.nsIn K mainGlobals "_law_pen" = some (some (.ref f0))) (l0 : K.lookup f0 = some ⟨oc0, od0, .func (PySem.W.fnOf "_law_pen" "_law_pen" (defArgs (topS 5)) (defBody (topS 5)) (defScope (topS 5)) .none kV0 dc0 pm0 an0 cd0 ct0), sl0⟩) (c0 : PySem.W.codeIn K cd0 "_law_pen" = true) (k0 : PySem.W.keepIn K (.ref f0) = true)
    (a1 : PySem.W.nsIn K mainGlobals "_law_draw" = some (some (.ref f1))) (l1 : K.lookup f1 = some ⟨oc1, od1, .func (PySem.W.fnOf "_law_draw" "_law_draw" (defArgs (topS 6)) (defBody (topS 6)) (defScope (topS 6)) .none kV1 dc1 pm1 an1 cd1 ct1), sl1⟩) (c1 : PySem.W.codeIn K cd1 "_law_draw" = true) (k1 : PySem.W.keepIn K (.ref f1) = true)
    (a2 : PySem.W.nsIn K mainGlobals "_law_pick" = some (some (.ref f2))) (l2 : K.lookup f2 = some ⟨oc2, od2, .func (PySem.W.fnOf "_law_pick" "_law_pick" (defArgs (topS 7)) (defBody (topS 7)) (defScope (topS 7)) .none kV2 dc2 pm2 an2 cd2 ct2), sl2⟩) (c2 : PySem.W.codeIn K cd2 "_law_pick" = true) (k2 : PySem.W.keepIn K (.ref f2) = true)
    (a3 : PySem.W.nsIn K mainGlobals "_law_drawn_order" = some (some (.ref f3))) (l3 : K.lookup f3 = some ⟨oc3, od3, .func (PySem.W.fnOf "_law_drawn_order" "_law_drawn_order" (defArgs (topS 8)) (defBody (topS 8)) (defScope (topS 8)) .none kV3 dc3 pm3 an3 cd3 ct3), sl3⟩) (c3 : PySem.W.codeIn K cd3 "_law_drawn_order" = true) (k3 : PySem.W.keepIn K (.ref f3) = true)
    (a4 : PySem.W.nsIn K mainGlobals "_law_drawn_term" = some (some (.ref f4))) (l4 : K.lookup f4 = some ⟨oc4, od4, .func (PySem.W.fnOf "_law_drawn_term" "_law_drawn_term" (defArgs (topS 11)) (defBody (topS 11)) (defScope (topS 11)) .none kV4 dc4 pm4 an4 cd4 ct4), sl4⟩) (c4 : PySem.W.codeIn K cd4 "_law_drawn_term" = true) (k4 : PySem.W.keepIn K (.ref f4) = true)
    (a5 : PySem.W.nsIn K mainGlobals "_law_is_var" = some (some (.ref f5))) (l5 : K.lookup f5 = some ⟨oc5, od5, .func (PySem.W.fnOf "_law_is_var" "_law_is_var" (defArgs (topS 9)) (defBody (topS 9)) (defScope (topS 9)) .none kV5 dc5 pm5 an5 cd5 ct5), sl5⟩) (c5 : PySem.W.codeIn K cd5 "_law_is_var" = true) (k5 : PySem.W.keepIn K (.ref f5) = true)
    (a6 : PySem.W.nsIn K mainGlobals "_law_put" = some (some (.ref f6))) (l6 : K.lookup f6 = some ⟨oc6, od6, .func (PySem.W.fnOf "_law_put" "_law_put" (defArgs (topS 10)) (defBody (topS 10)) (defScope (topS 10)) .none kV6 dc6 pm6 an6 cd6 ct6), sl6⟩) (c6 : PySem.W.codeIn K cd6 "_law_put" = true) (k6 : PySem.W.keepIn K (.ref f6) = true)
    (a7 : PySem.W.nsIn K mainGlobals "_law_matched" = some (some (.ref f7))) (l7 : K.lookup f7 = some ⟨oc7, od7, .func (PySem.W.fnOf "_law_matched" "_law_matched" (defArgs (topS 16)) (defBody (topS 16)) (defScope (topS 16)) .none kV7 dc7 pm7 an7 cd7 ct7), sl7⟩) (c7 : PySem.W.codeIn K cd7 "_law_matched" = true) (k7 : PySem.W.keepIn K (.ref f7) = true)
    (a8 : PySem.W.nsIn K mainGlobals "pairs_of" = some (some (.ref f8))) (l8 : K.lookup f8 = some ⟨oc8, od8, .func (PySem.W.fnOf "pairs_of" "pairs_of" (defArgs (topS 2)) (defBody (topS 2)) (defScope (topS 2)) .none kV8 dc8 pm8 an8 cd8 ct8), sl8⟩) (c8 : PySem.W.codeIn K cd8 "pairs_of" = true) (k8 : PySem.W.keepIn K (.ref f8) = true)
    (a9 : PySem.W.nsIn K mainGlobals "is_variable" = some (some (.ref f9))) (l9 : K.lookup f9 = some ⟨oc9, od9, .func (PySem.W.fnOf "is_variable" "is_variable" (defArgs (topS 1)) (defBody (topS 1)) (defScope (topS 1)) .none kV9 dc9 pm9 an9 cd9 ct9), sl9⟩) (c9 : PySem.W.codeIn K cd9 "is_variable" = true) (k9 : PySem.W.keepIn K (.ref f9) = true)
    (a10 : PySem.W.nsIn K mainGlobals "match" = some (some (.ref f10))) (l10 : K.lookup f10 = some ⟨oc10, od10, .func (PySem.W.fnOf "match" "match" (defArgs (topS 3)) (defBody (topS 3)) (defScope (topS 3)) .none kV10 dc10 pm10 an10 cd10 ct10), sl10⟩) (c10 : PySem.W.codeIn K cd10 "match" = true) (k10 : PySem.W.keepIn K (.ref f10) = true)
    (a11 : PySem.W.nsIn K mainGlobals "_law_put_there" = some (some (.ref f11))) (l11 : K.lookup f11 = some ⟨oc11, od11, .func (PySem.W.fnOf "_law_put_there" "_law_put_there" (defArgs (topS 13)) (defBody (topS 13)) (defScope (topS 13)) .none kV11 dc11 pm11 an11 cd11 ct11), sl11⟩) (c11 : PySem.W.codeIn K cd11 "_law_put_there" = true) (k11 : PySem.W.keepIn K (.ref f11) = true)
    (a12 : PySem.W.nsIn K mainGlobals "_law_pairs" = some (some (.ref f12))) (l12 : K.lookup f12 = some ⟨oc12, od12, .func (PySem.W.fnOf "_law_pairs" "_law_pairs" (defArgs (topS 14)) (defBody (topS 14)) (defScope (topS 14)) .none kV12 dc12 pm12 an12 cd12 ct12), sl12⟩) (c12 : PySem.W.codeIn K cd12 "_law_pairs" = true) (k12 : PySem.W.keepIn K (.ref f12) = true)
    (a13 : PySem.W.nsIn K mainGlobals "_law_drawn_pairs" = some (some (.ref f13))) (l13 : K.lookup f13 = some ⟨oc13, od13, .func (PySem.W.fnOf "_law_drawn_pairs" "_law_drawn_pairs" (defArgs (topS 15)) (defBody (topS 15)) (defScope (topS 15)) .none kV13 dc13 pm13 an13 cd13 ct13), sl13⟩) (c13 : PySem.W.codeIn K cd13 "_law_drawn_pairs" = true) (k13 : PySem.W.keepIn K (.ref f13) = true)
    (a14 : PySem.W.nsIn K mainGlobals "_law_paths" = some (some (.ref f14))) (l14 : K.lookup f14 = some ⟨oc14, od14, .func (PySem.W.fnOf "_law_paths" "_law_paths" (defArgs (topS 12)) (defBody (topS 12)) (defScope (topS 12)) .none kV14 dc14 pm14 an14 cd14 ct14), sl14⟩) (c14 : PySem.W.codeIn K cd14 "_law_paths" = true) (k14 : PySem.W.keepIn K (.ref f14) = true)
    (a15 : PySem.W.nsIn K mainGlobals "law" = some (some (.ref f15))) (l15 : K.lookup f15 = some ⟨oc15, od15, .func (PySem.W.fnOf "law" "law" (defArgs (topS 17)) (defBody (topS 17)) (defScope (topS 17)) .none kV15 dc15 pm15 an15 cd15 ct15), sl15⟩) (c15 : PySem.W.codeIn K cd15 "law" = true) (k15 : PySem.W.keepIn K (.ref f15) = true)
    (z0 : PySem.W.nsIn K mainGlobals "len" = some none) (z1 : PySem.W.nsIn K mainGlobals "tuple" = some none) (z2 : PySem.W.nsIn K mainGlobals "list" = some none) (z3 : PySem.W.nsIn K mainGlobals "sum" = some none) (z4 : PySem.W.nsIn K mainGlobals "sorted" = some none) (z5 : PySem.W.nsIn K mainGlobals "int" = some none) (z6 : PySem.W.nsIn K mainGlobals "all" = some none) (z7 : PySem.W.nsIn K mainGlobals "any" = some none) (z8 : PySem.W.nsIn K mainGlobals "max" = some none) (z9 : PySem.W.nsIn K mainGlobals "min" = some none) (z10 : PySem.W.nsIn K mainGlobals "dict" = some none) (z11 : PySem.W.nsIn K mainGlobals "isinstance" = some none) (z12 : PySem.W.nsIn K mainGlobals "repr" = some none) (z13 : PySem.W.nsIn K mainGlobals "str" = some none) (z14 : PySem.W.nsIn K mainGlobals "bool" = some none) (z15 : PySem.W.nsIn K mainGlobals "range" = some none) (z16 : PySem.W.nsIn K mainGlobals "enumerate" = some none) (z17 : PySem.W.nsIn K mainGlobals "zip" = some none) (z18 : PySem.W.nsIn K mainGlobals "set" = some none) :
    ∃ fd : FuncData, (∀ (s : Shared) (v : Value), BindsTo s fd ⟨[v], []⟩ [("_law_script", v)]) ∧ ∀ base : Heap, K.In base → base.Ns mainGlobals mg → FnG l.prog w K mg base CX0 200 fa fd ["_law_script"] (spTrue K 63) := by
  have e := hfa.symm.trans (PySem.W.mg_of X G a15)
  cases e
  have F0 := fun_mk (st := topS 5) l0 c0 k0
  have F1 := fun_mk (st := topS 6) l1 c1 k1
  have F2 := fun_mk (st := topS 7) l2 c2 k2
  have F3 := fun_mk (st := topS 8) l3 c3 k3
  have F4 := fun_mk (st := topS 11) l4 c4 k4
  have F5 := fun_mk (st := topS 9) l5 c5 k5
  have F6 := fun_mk (st := topS 10) l6 c6 k6
  have F7 := fun_mk (st := topS 16) l7 c7 k7
  have F8 := fun_mk (st := topS 2) l8 c8 k8
  have F9 := fun_mk (st := topS 1) l9 c9 k9
  have F10 := fun_mk (st := topS 3) l10 c10 k10
  have F11 := fun_mk (st := topS 13) l11 c11 k11
  have F12 := fun_mk (st := topS 14) l12 c12 k12
  have F13 := fun_mk (st := topS 15) l13 c13 k13
  have F14 := fun_mk (st := topS 12) l14 c14 k14
  have F15 := fun_mk (st := topS 17) l15 c15 k15
  let T : Tab := ⟨tab, (K, fun _ => 0), addrs [f0, f1, f2, f3, f4, f5, f6, f7, f8, f9, f10, f11, f12, f13, f14, fa], datas (PySem.W.fnOf "_law_pen" "_law_pen" (defArgs (topS 5)) (defBody (topS 5)) (defScope (topS 5)) .none kV0 dc0 pm0 an0 cd0 ct0) [(PySem.W.fnOf "_law_pen" "_law_pen" (defArgs (topS 5)) (defBody (topS 5)) (defScope (topS 5)) .none kV0 dc0 pm0 an0 cd0 ct0), (PySem.W.fnOf "_law_draw" "_law_draw" (defArgs (topS 6)) (defBody (topS 6)) (defScope (topS 6)) .none kV1 dc1 pm1 an1 cd1 ct1), (PySem.W.fnOf "_law_pick" "_law_pick" (defArgs (topS 7)) (defBody (topS 7)) (defScope (topS 7)) .none kV2 dc2 pm2 an2 cd2 ct2), (PySem.W.fnOf "_law_drawn_order" "_law_drawn_order" (defArgs (topS 8)) (defBody (topS 8)) (defScope (topS 8)) .none kV3 dc3 pm3 an3 cd3 ct3), (PySem.W.fnOf "_law_drawn_term" "_law_drawn_term" (defArgs (topS 11)) (defBody (topS 11)) (defScope (topS 11)) .none kV4 dc4 pm4 an4 cd4 ct4), (PySem.W.fnOf "_law_is_var" "_law_is_var" (defArgs (topS 9)) (defBody (topS 9)) (defScope (topS 9)) .none kV5 dc5 pm5 an5 cd5 ct5), (PySem.W.fnOf "_law_put" "_law_put" (defArgs (topS 10)) (defBody (topS 10)) (defScope (topS 10)) .none kV6 dc6 pm6 an6 cd6 ct6), (PySem.W.fnOf "_law_matched" "_law_matched" (defArgs (topS 16)) (defBody (topS 16)) (defScope (topS 16)) .none kV7 dc7 pm7 an7 cd7 ct7), (PySem.W.fnOf "pairs_of" "pairs_of" (defArgs (topS 2)) (defBody (topS 2)) (defScope (topS 2)) .none kV8 dc8 pm8 an8 cd8 ct8), (PySem.W.fnOf "is_variable" "is_variable" (defArgs (topS 1)) (defBody (topS 1)) (defScope (topS 1)) .none kV9 dc9 pm9 an9 cd9 ct9), (PySem.W.fnOf "match" "match" (defArgs (topS 3)) (defBody (topS 3)) (defScope (topS 3)) .none kV10 dc10 pm10 an10 cd10 ct10), (PySem.W.fnOf "_law_put_there" "_law_put_there" (defArgs (topS 13)) (defBody (topS 13)) (defScope (topS 13)) .none kV11 dc11 pm11 an11 cd11 ct11), (PySem.W.fnOf "_law_pairs" "_law_pairs" (defArgs (topS 14)) (defBody (topS 14)) (defScope (topS 14)) .none kV12 dc12 pm12 an12 cd12 ct12), (PySem.W.fnOf "_law_drawn_pairs" "_law_drawn_pairs" (defArgs (topS 15)) (defBody (topS 15)) (defScope (topS 15)) .none kV13 dc13 pm13 an13 cd13 ct13), (PySem.W.fnOf "_law_paths" "_law_paths" (defArgs (topS 12)) (defBody (topS 12)) (defScope (topS 12)) .none kV14 dc14 pm14 an14 cd14 ct14), (PySem.W.fnOf "law" "law" (defArgs (topS 17)) (defBody (topS 17)) (defScope (topS 17)) .none kV15 dc15 pm15 an15 cd15 ct15)]⟩
  have O : TabOk T mg := by
    refine ⟨fun f F h => ?_, ?_⟩
    · match f, h with
      | 0, h => exact (Option.some.inj (show some l_pen_f = some F from h)) ▸ l_pen_d (T := T) (f := 0) rfl F0 (PySem.W.mg_of X G a0)
      | 1, h => exact (Option.some.inj (show some l_draw_f = some F from h)) ▸ l_draw_d (T := T) (f := 1) rfl F1 (PySem.W.mg_of X G a1)
      | 2, h => exact (Option.some.inj (show some l_pick_f = some F from h)) ▸ l_pick_d (T := T) (f := 2) rfl F2 (PySem.W.mg_of X G a2)
      | 3, h => exact (Option.some.inj (show some l_drawn_order_f = some F from h)) ▸ l_drawn_order_d (T := T) (f := 3) rfl F3 (PySem.W.mg_of X G a3)
      | 4, h => exact (Option.some.inj (show some l_drawn_term_f = some F from h)) ▸ l_drawn_term_d (T := T) (f := 4) rfl F4 (PySem.W.mg_of X G a4)
      | 5, h => exact (Option.some.inj (show some l_is_var_f = some F from h)) ▸ l_is_var_d (T := T) (f := 5) rfl F5 (PySem.W.mg_of X G a5)
      | 6, h => exact (Option.some.inj (show some l_put_f = some F from h)) ▸ l_put_d (T := T) (f := 6) rfl F6 (PySem.W.mg_of X G a6)
      | 7, h => exact (Option.some.inj (show some l_matched_f = some F from h)) ▸ l_matched_d (T := T) (f := 7) rfl F7 (PySem.W.mg_of X G a7)
      | 8, h => exact (Option.some.inj (show some p_pairs_of_f = some F from h)) ▸ p_pairs_of_d (T := T) (f := 8) rfl F8 (PySem.W.mg_of X G a8)
      | 9, h => exact (Option.some.inj (show some p_is_variable_f = some F from h)) ▸ p_is_variable_d (T := T) (f := 9) rfl F9 (PySem.W.mg_of X G a9)
      | 10, h => exact (Option.some.inj (show some p_match_f = some F from h)) ▸ p_match_d (T := T) (f := 10) rfl F10 (PySem.W.mg_of X G a10)
      | 11, h => exact (Option.some.inj (show some l_put_there_f = some F from h)) ▸ l_put_there_d (T := T) (f := 11) rfl F11 (PySem.W.mg_of X G a11)
      | 12, h => exact (Option.some.inj (show some l_pairs_f = some F from h)) ▸ l_pairs_d (T := T) (f := 12) rfl F12 (PySem.W.mg_of X G a12)
      | 13, h => exact (Option.some.inj (show some l_drawn_pairs_f = some F from h)) ▸ l_drawn_pairs_d (T := T) (f := 13) rfl F13 (PySem.W.mg_of X G a13)
      | 14, h => exact (Option.some.inj (show some l_paths_f = some F from h)) ▸ l_paths_d (T := T) (f := 14) rfl F14 (PySem.W.mg_of X G a14)
      | 15, h => exact (Option.some.inj (show some p_law_f = some F from h)) ▸ p_law_d (T := T) (f := 15) rfl F15 (PySem.W.mg_of X G a15)
      | f + 16, h => exact absurd (show (none : Option Fn) = some F from h) (by simp)
    · intro x hx
      simp only [List.mem_cons, List.not_mem_nil, or_false] at hx
      rcases hx with rfl | rfl | rfl | rfl | rfl | rfl | rfl | rfl | rfl | rfl | rfl | rfl | rfl | rfl | rfl | rfl | rfl | rfl | rfl
      · exact PySem.W.mg_none_of X G z0
      · exact PySem.W.mg_none_of X G z1
      · exact PySem.W.mg_none_of X G z2
      · exact PySem.W.mg_none_of X G z3
      · exact PySem.W.mg_none_of X G z4
      · exact PySem.W.mg_none_of X G z5
      · exact PySem.W.mg_none_of X G z6
      · exact PySem.W.mg_none_of X G z7
      · exact PySem.W.mg_none_of X G z8
      · exact PySem.W.mg_none_of X G z9
      · exact PySem.W.mg_none_of X G z10
      · exact PySem.W.mg_none_of X G z11
      · exact PySem.W.mg_none_of X G z12
      · exact PySem.W.mg_none_of X G z13
      · exact PySem.W.mg_none_of X G z14
      · exact PySem.W.mg_none_of X G z15
      · exact PySem.W.mg_none_of X G z16
      · exact PySem.W.mg_none_of X G z17
      · exact PySem.W.mg_none_of X G z18
  refine ⟨(PySem.W.fnOf "law" "law" (defArgs (topS 17)) (defBody (topS 17)) (defScope (topS 17)) .none kV15 dc15 pm15 an15 cd15 ct15), fun s v => .of_eq rfl, fun base _ _ => ?_⟩
  exact law_fn (T := T) O (f := 15) (n := 100) (m := 63) (F := p_law_f) rfl rfl plain
end K07
open PySem PySem.W PyProof.Rows
set_option maxHeartbeats 0 in
theorem PySem.Challenge.cw_downtoground_k07_whole_matching_holds : PySem.Challenge.rw_downtoground_k07_whole_matching.Holds := by
  w_on; o_law; k_head; (case hw => w_witness2)
  k_fill
  refine Iv.walkG (l := PySem.Challenge.rw_downtoground_k07_whole_matching) (n := 63) (k := 200) (x := "_law_script") rfl (by decide) rfl ⟨rfl, by decide, by decide⟩ (fun w h Y => PySem.W.kIn_of Y) ?F
  case F =>
    intro w mg fa h KX G hmg
    refine' K07.all_mk KX G hmg ?a0 ?l0 ?c0 ?k0 ?a1 ?l1 ?c1 ?k1 ?a2 ?l2 ?c2 ?k2 ?a3 ?l3 ?c3 ?k3 ?a4 ?l4 ?c4 ?k4 ?a5 ?l5 ?c5 ?k5 ?a6 ?l6 ?c6 ?k6 ?a7 ?l7 ?c7 ?k7 ?a8 ?l8 ?c8 ?k8 ?a9 ?l9 ?c9 ?k9 ?a10 ?l10 ?c10 ?k10 ?a11 ?l11 ?c11 ?k11 ?a12 ?l12 ?c12 ?k12 ?a13 ?l13 ?c13 ?k13 ?a14 ?l14 ?c14 ?k14 ?a15 ?l15 ?c15 ?k15 ?z0 ?z1 ?z2 ?z3 ?z4 ?z5 ?z6 ?z7 ?z8 ?z9 ?z10 ?z11 ?z12 ?z13 ?z14 ?z15 ?z16 ?z17 ?z18
    (case a0 => k_is); (case l0 => k_is); (case c0 => k_is); (case k0 => k_is)
    (case a1 => k_is); (case l1 => k_is); (case c1 => k_is); (case k1 => k_is)
    (case a2 => k_is); (case l2 => k_is); (case c2 => k_is); (case k2 => k_is)
    (case a3 => k_is); (case l3 => k_is); (case c3 => k_is); (case k3 => k_is)
    (case a4 => k_is); (case l4 => k_is); (case c4 => k_is); (case k4 => k_is)
    (case a5 => k_is); (case l5 => k_is); (case c5 => k_is); (case k5 => k_is)
    (case a6 => k_is); (case l6 => k_is); (case c6 => k_is); (case k6 => k_is)
    (case a7 => k_is); (case l7 => k_is); (case c7 => k_is); (case k7 => k_is)
    (case a8 => k_is); (case l8 => k_is); (case c8 => k_is); (case k8 => k_is)
    (case a9 => k_is); (case l9 => k_is); (case c9 => k_is); (case k9 => k_is)
    (case a10 => k_is); (case l10 => k_is); (case c10 => k_is); (case k10 => k_is)
    (case a11 => k_is); (case l11 => k_is); (case c11 => k_is); (case k11 => k_is)
    (case a12 => k_is); (case l12 => k_is); (case c12 => k_is); (case k12 => k_is)
    (case a13 => k_is); (case l13 => k_is); (case c13 => k_is); (case k13 => k_is)
    (case a14 => k_is); (case l14 => k_is); (case c14 => k_is); (case k14 => k_is)
    (case a15 => k_is); (case l15 => k_is); (case c15 => k_is); (case k15 => k_is)
    (case z0 => k_is); (case z1 => k_is); (case z2 => k_is); (case z3 => k_is); (case z4 => k_is); (case z5 => k_is); (case z6 => k_is); (case z7 => k_is); (case z8 => k_is); (case z9 => k_is); (case z10 => k_is); (case z11 => k_is); (case z12 => k_is); (case z13 => k_is); (case z14 => k_is); (case z15 => k_is); (case z16 => k_is); (case z17 => k_is); (case z18 => k_is)
