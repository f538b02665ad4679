import PyProof.Rows.All
import Wide.All
import OpenK.AllK
import Wide.FinOn
import HandS.ForMost
import HandS.Exc
import HandS.Flow
import HandS.Wide
import HandS.Style
import HandS.IsInst
import HandS.NoneIn
import HandS.TupMul
import HandS.SortInts
import HandS.TupAny
import HandS.Deep
import HandS.Walk
import HandS.Zip
import HandS.CallSlots
import HandS.ExcSuper
import HandS.ExcIs
import HandS.Small
import HandS.WordsExc
import HandS.SortOrd
import HandS.TupSets
import HandS.NamedTupSort
import KE.KSortTupAny
import KE.KTupSum
import KE.GoesMore
import KE.GoesEnum
import PySem.Challenge.RW_tentfalls_k62_main_subgroups_of_one_row
set_option Elab.async false
set_option linter.all false
set_option maxRecDepth 100000
/-! Ev1: an own small language of trees (what the bodies of the program come down to), and what it yields: values without addresses, a store of the objects that change. -/
namespace Ev
open PySem

/-- a value: lists that never change again are values, those that change stand in the store -/
inductive U where
  | non | bl (b : Bool) | int (i : Int) | str (x : Str) | tup (xs : List U) | lst (xs : List U) | fz (xs : List U) | ref (n : Nat) | exc (c : Nat)

/-- what stands in the store -/
inductive O where
  | lst (xs : List U)
  | dct (kvs : List (Int × U))

/-- a place: alive; locked (walked just now: read, not changed); the script's list, never changed; dead -/
inductive C where
  | liv (o : O)
  | lck (o : O)
  | frz (xs : List U)
  | ded

abbrev Sto := List C

inductive Op where | add | sub | mul | fdiv | mod | pow
inductive Cp where | lt | le | gt | ge | eq | ne | is | isnot | isin | notin
inductive Ty where | int | bool | str | list | tuple
inductive Bi where | abs | int | len | min2 | max2 | tuple | all | any | sum | minL | maxL
inductive Mt where | append | extend | pop0 | pop1

mutual
inductive EX where
  | var (i : Nat)
  | cst (u : U)
  | tup (es : List EX)
  | bin (o : Op) (a b : EX)
  | cmp (o : Cp) (a b : EX)
  | ch2 (o p : Cp) (a b c : EX)
  | and (a b : EX)
  | or (a b : EX)
  | not (a : EX)
  | ite (c a b : EX)
  | ix (a b : EX)
  | sl (a : EX) (lo hi : Option EX)
  | rev (a : EX)
  | call (f : Nat) (es : List EX)
  | bi (b : Bi) (es : List EX)
  | ist (a : EX) (ts : List Ty)
  | mth (m : Mt) (a : EX) (es : List EX)
  | qv (q : QX)
  | qn (q : QX)
  | frz (a : EX)
  | dnew
  | dget (a b c : EX)
inductive QX where
  | disp (es : List EX)
  | comp (tg : TX) (it : IX) (cd : Option EX) (el : EX) (own : List Nat)
  | compK (i : Nat) (tg : TX) (cd : Option EX) (el : EX) (own : List Nat)
  | lof (a : EX)
  | srt (a : EX)
  | rep (es : List EX) (n : EX)
inductive IX where
  | val (a : EX)
  | rng1 (a : EX)
  | rng2 (a b : EX)
  | rng3 (a b c : EX)
  | enum (a : EX)
  | zip2 (a b : EX)
  | zip3 (a b c : EX)
inductive TX where
  | nm (i : Nat)
  | tp (ts : List TX)
  | ix (a b : EX)
end

inductive SX where
  | ex (e : EX)
  | set (t : TX) (e : EX)
  | par (is : List Nat) (es : List EX)
  | aug (i : Nat) (o : Op) (e : EX)
  | augs (a b : EX) (o : Op) (e : EX)
  | ife (c : EX) (a b : List SX)
  | fo (t : TX) (it : IX) (b : List SX)
  | wh (c : EX) (b : List SX)
  | ret (e : EX)
  | retN
  | brk
  | cnt
  | pass
  | rai (c : Nat)
  | no
  | tryx (b : List SX) (c i : Nat) (h : List SX)

/-- a result -/
inductive R (α : Type) where
  | ok (a : α) (S : Sto)
  | ex (c : Nat) (S : Sto)
  | stuck

def R.bind {α β : Type} (r : R α) (f : α → Sto → R β) : R β :=
  match r with
  | .ok a S => f a S
  | .ex c S => .ex c S
  | .stuck => .stuck

abbrev Rho := List (Option U)

/-! ### values -/
mutual
def eqU : U → U → Bool
  | .non, .non => true
  | .bl a, .bl b => a == b
  | .bl a, .int b => (if a then 1 else 0) == b
  | .int a, .bl b => a == (if b then 1 else 0)
  | .int a, .int b => a == b
  | .str a, .str b => a == b
  | .tup xs, .tup ys => eqUs xs ys
  | .lst xs, .lst ys => eqUs xs ys
  | _, _ => false
def eqUs : List U → List U → Bool
  | [], [] => true
  | x :: xs, y :: ys => eqU x y && eqUs xs ys
  | _, _ => false
end
mutual
/-- of depth k at most, of plain things alone -/
def okD : Nat → U → Bool
  | _, .non => true
  | _, .bl _ => true
  | _, .int _ => true
  | _, .str x => PyData.strOk x
  | k + 1, .tup xs => okDs k xs
  | k + 1, .lst xs => okDs k xs
  | _, _ => false
def okDs : Nat → List U → Bool
  | _, [] => true
  | k, x :: xs => okD k x && okDs k xs
end
def eqV? (u v : U) : Option Bool := if okD 20 u = true ∧ okD 20 v = true then some (eqU u v) else none

/-- the list at a ref is read -/
def rd (S : Sto) : U → U
  | .ref n => match S[n]? with
    | some (.liv (.lst xs)) => .lst xs
    | some (.lck (.lst xs)) => .lst xs
    | some (.frz xs) => .fz xs
    | _ => .ref n
  | u => u

def seqOf (S : Sto) (u : U) : Option (List U) :=
  match rd S u with
  | .tup xs => some xs
  | .lst xs => some xs
  | .fz xs => some xs
  | _ => none

def intOf : U → Option Int
  | .int i => some i
  | _ => none
def intsOf : List U → Option (List Int)
  | [] => some []
  | .int i :: r => (intsOf r).map (i :: ·)
  | _ :: _ => none
def blsOf : List U → Option (List Bool)
  | [] => some []
  | .bl b :: r => (blsOf r).map (b :: ·)
  | _ :: _ => none

/-- sizeLine -/
abbrev lim : Nat := 16777216

def mulOk (i j : Int) : Bool := (decide (-(2 ^ 64) < i) && decide (i < 2 ^ 64)) || (decide (-(2 ^ 64) < j) && decide (j < 2 ^ 64))

def addU : U → U → Option U
  | .int i, .int j => some (.int (i + j))
  | .tup xs, .tup ys => if xs.length + ys.length ≤ lim then some (.tup (xs ++ ys)) else none
  | .lst xs, .lst ys => if xs.length + ys.length ≤ lim then some (.lst (xs ++ ys)) else none
  | _, _ => none
def mulU : U → U → Option U
  | .int i, .int j => if mulOk i j = true then some (.int (i * j)) else none
  | .tup xs, .int k => if xs.length ≤ 1000 ∧ k ≤ 1000 ∧ -(2 ^ 62) ≤ k then some (.tup (List.replicate k.toNat xs).flatten) else none
  | _, _ => none
def int2 (f : Int → Int → Option U) : U → U → Option U
  | .int i, .int j => f i j
  | _, _ => none
def binU (S : Sto) (o : Op) (u v : U) : Option U :=
  match o with
  | .add => addU (rd S u) (rd S v)
  | .mul => mulU (rd S u) (rd S v)
  | .sub => int2 (fun i j => some (.int (i - j))) (rd S u) (rd S v)
  | .fdiv => int2 (fun i j => if 0 < j ∧ j.natAbs.log2 < 9000 then some (.int (i / j)) else none) (rd S u) (rd S v)
  | .mod => int2 (fun i j => if 0 < j then some (.int (i % j)) else none) (rd S u) (rd S v)
  | .pow => int2 (fun i j => if 0 ≤ j ∧ j ≤ 1000000 ∧ i.natAbs < 2 ^ 64 then some (.int (i ^ j.toNat)) else none) (rd S u) (rd S v)

/-- one of a list by ==, none where something can't be compared -/
def memU (x : U) : List U → Option Bool
  | [] => some false
  | y :: ys => match eqV? y x, memU x ys with
    | some a, some b => some (a || b)
    | _, _ => none

def cmpU (S : Sto) (o : Cp) (u v : U) : Option Bool :=
  match o with
  | .lt => match u, v with | .int i, .int j => some (decide (i < j)) | _, _ => none
  | .le => match u, v with | .int i, .int j => some (decide (i ≤ j)) | _, _ => none
  | .gt => match u, v with | .int i, .int j => some (decide (j < i)) | _, _ => none
  | .ge => match u, v with | .int i, .int j => some (decide (j ≤ i)) | _, _ => none
  | .eq => eqV? (rd S u) (rd S v)
  | .ne => (eqV? (rd S u) (rd S v)).map (!·)
  | .is => match v with
    | .non => some (match u with | .non => true | _ => false)
    | .bl b => some (match u with | .bl a => a == b | _ => false)
    | _ => none
  | .isnot => match v with
    | .non => some (match u with | .non => false | _ => true)
    | .bl b => some (match u with | .bl a => !(a == b) | _ => true)
    | _ => none
  | .isin => match seqOf S v with
    | some xs => memU u xs
    | none => none
  | .notin => match seqOf S v with
    | some xs => (memU u xs).map (!·)
    | none => none

def ixN (n : Nat) (i : Int) : Option Nat := if 0 ≤ i then (if i < n then some i.toNat else none) else if -(n : Int) ≤ i then some (i + n).toNat else none
def atU (xs : List U) (i : Int) : Option U := (ixN xs.length i).bind fun j => xs[j]?
def sIx (n d : Nat) : Option Int → Nat
  | none => d
  | some v => if v < 0 then (v + (n : Int)).toNat else min v.toNat n
def cutU (xs : List U) (lo hi : Option Int) : List U := (xs.drop (sIx xs.length 0 lo)).take (sIx xs.length xs.length hi - sIx xs.length 0 lo)

/-! dicts with whole numbers as keys -/
def dvalU (kvs : List (Int × U)) (k : Int) : Option U := (kvs.find? fun kv => decide (kv.1 = k)).map (·.2)
def dputU (kvs : List (Int × U)) (k : Int) (v : U) : List (Int × U) :=
  if (kvs.any fun kv => decide (kv.1 = k)) = true then kvs.map (fun kv => if kv.1 = k then (kv.1, v) else kv) else kvs ++ [(k, v)]
def dctOf (S : Sto) : U → Option (List (Int × U))
  | .ref n => match S[n]? with
    | some (.liv (.dct kvs)) => some kvs
    | some (.lck (.dct kvs)) => some kvs
    | _ => none
  | _ => none
def ixU (S : Sto) (u v : U) : Option U :=
  match v with
  | .int i => match dctOf S u with
    | some kvs => dvalU kvs i
    | none => match seqOf S u with
      | some xs => atU xs i
      | none => none
  | _ => none
def dgetU (S : Sto) (u k d : U) : Option U :=
  match k, dctOf S u with
  | .int i, some kvs => some ((dvalU kvs i).getD d)
  | _, _ => none
def slU (S : Sto) (u : U) (lo hi : Option Int) : Option U :=
  match rd S u with
  | .tup xs => some (.tup (cutU xs lo hi))
  | .lst xs => some (.lst (cutU xs lo hi))
  | .fz xs => some (.lst (cutU xs lo hi))
  | _ => none
def revU (S : Sto) (u : U) : Option U :=
  match rd S u with
  | .tup xs => some (.tup xs.reverse)
  | .lst xs => some (.lst xs.reverse)
  | _ => none

/-- truth -/
def truU (S : Sto) (u : U) : Option Bool :=
  match rd S u with
  | .bl b => some b
  | .int i => some (decide (i ≠ 0))
  | .tup xs => some (!xs.isEmpty)
  | .lst xs => some (!xs.isEmpty)
  | .non => some false
  | _ => none

/-- of what kind a value is -/
inductive Vt where | non | bl | int | str | tup | lst
def vtU (S : Sto) (u : U) : Option Vt :=
  match rd S u with
  | .non => some .non
  | .bl _ => some .bl
  | .int _ => some .int
  | .str _ => some .str
  | .tup _ => some .tup
  | .lst _ => some .lst
  | _ => none
def Vt.is : Vt → Ty → Bool
  | .bl, .bool => true
  | .bl, .int => true
  | .int, .int => true
  | .str, .str => true
  | .tup, .tuple => true
  | .lst, .list => true
  | _, _ => false

def biU (S : Sto) (b : Bi) (us : List U) : Option U :=
  match b, us with
  | .abs, [.int i] => some (.int (if i < 0 then -i else i))
  | .int, [.int i] => some (.int i)
  | .int, [.bl k] => some (.int (if k then 1 else 0))
  | .len, [u] => (seqOf S u).map fun xs => .int xs.length
  | .min2, [.int i, .int j] => some (.int (if j < i then j else i))
  | .max2, [.int i, .int j] => some (.int (if j > i then j else i))
  | .tuple, [u] => (seqOf S u).map fun xs => .tup xs
  | .all, [u] => match rd S u with
    | .lst xs => (blsOf xs).map fun bs => .bl (bs.all id)
    | _ => none
  | .any, [u] => match rd S u with
    | .lst xs => (blsOf xs).map fun bs => .bl (bs.any id)
    | _ => none
  | .sum, [u] => match seqOf S u with
    | some xs => (intsOf xs).map fun ns => .int ns.sum
    | none => none
  | _, _ => none

/-- ints sorted -/
def insI (x : Int) : List Int → List Int
  | [] => [x]
  | y :: ys => if x ≤ y then x :: y :: ys else y :: insI x ys
def srtI : List Int → List Int
  | [] => []
  | x :: xs => insI x (srtI xs)

/-! tuples of ints sorted -/
def tupsI : List U → Option (List (List Int))
  | [] => some []
  | .tup xs :: r => match intsOf xs, tupsI r with
    | some ns, some ts => some (ns :: ts)
    | _, _ => none
  | _ :: _ => none
def insT (x : List Int) : List (List Int) → List (List Int)
  | [] => [x]
  | y :: ys => if HT.lexLt y x = true then y :: insT x ys else x :: y :: ys
def srtT : List (List Int) → List (List Int)
  | [] => []
  | x :: xs => insT x (srtT xs)
/-- sorted: of ints, of tuples of ints, of one thing -/
def srtU (xs : List U) : Option (List U) :=
  if xs.length < 2 then some xs else match intsOf xs with
    | some ns => some ((srtI ns).map U.int)
    | none => match tupsI xs with
      | some ts => if ts.all (fun t => !t.isEmpty) = true then some ((srtT ts).map fun t => .tup (t.map U.int)) else none
      | none => none

def iotaU (lo : Int) : Nat → List U
  | 0 => []
  | n + 1 => .int lo :: iotaU (lo + 1) n
def iotaC (lo c : Int) : Nat → List U
  | 0 => []
  | n + 1 => .int lo :: iotaC (lo + c) c n
def enumU (k : Nat) : List U → List U
  | [] => []
  | x :: xs => .tup [.int k, x] :: enumU (k + 1) xs
def zipU : List U → List U → List U
  | x :: xs, y :: ys => .tup [x, y] :: zipU xs ys
  | _, _ => []

def small (i : Int) : Bool := decide (-(2 ^ 62) ≤ i) && decide (i < 2 ^ 62)

def getR (ρ : Rho) (i : Nat) : Option U := (ρ[i]?).join
def unpack (n : Nat) (u : U) (S : Sto) : Option (List U) :=
  match seqOf S u with
  | some xs => if xs.length = n then some xs else none
  | none => none

def wipeR (ρ : Rho) : List Nat → Rho
  | [] => ρ
  | v :: vs => (wipeR ρ vs).set v none

def mthU (S : Sto) (m : Mt) (u : U) (us : List U) : Option (U × Sto) :=
  match u with
  | .ref n => match S[n]? with
    | some (.liv (.lst xs)) => match m, us with
      | .append, [v] => if xs.length < lim then some (.non, S.set n (.liv (.lst (xs ++ [v])))) else none
      | .extend, [v] => match rd S v with
        | .lst ys => if xs.length + ys.length ≤ lim then some (.non, S.set n (.liv (.lst (xs ++ ys)))) else none
        | _ => none
      | .pop0, [] => match xs.getLast? with
        | some y => some (y, S.set n (.liv (.lst xs.dropLast)))
        | none => none
      | .pop1, [.int i] => if small i = true then match ixN xs.length i with
          | some k => match xs[k]? with
            | some y => some (y, S.set n (.liv (.lst (xs.eraseIdx k))))
            | none => none
          | none => none
        else none
      | _, _ => none
    | _ => none
  | _ => none

def mtOk (S : Sto) (_ : Mt) (u : U) : Bool :=
  match rd S u with
  | .lst _ => true
  | _ => false
def mthR : Option (U × Sto) → R U
  | some (v, S) => .ok v S
  | none => .stuck

/-! ### what a tree yields. F: the calls of the program's own defs -/
section
variable (F : Nat → List U → Sto → R U)

/-- nothing is raised through a comprehension -/
def noEx {α : Type} : R α → R α
  | .ok a S => .ok a S
  | _ => .stuck
/-- while the place n is locked -/
def lockd {α : Type} (S : Sto) (l : Option Nat) (f : Sto → R α) : R α :=
  match l with
  | none => f S
  | some n => match S[n]? with
    | some (.liv (.lst us)) => (f (S.set n (.lck (.lst us)))).bind fun a S2 => .ok a (S2.set n (.liv (.lst us)))
    | _ => .stuck
/-- a comprehension's turns -/
def compL (step : U → Sto → R (Option U)) : List U → Sto → R (List U)
  | [], S => .ok [] S
  | x :: xs, S => (noEx (step x S)).bind fun o S1 => (compL step xs S1).bind fun ys S2 => .ok (match o with | some y => y :: ys | none => ys) S2

inductive Out where
  | nx (ρ : Rho)
  | rt (u : U)
  | bk (ρ : Rho)
  | ct (ρ : Rho)
  | ex (c : Nat) (ρ : Rho)

inductive SR where
  | ok (o : Out) (S : Sto)
  | stuck

def lockdS (S : Sto) (l : Option Nat) (f : Sto → SR) : SR :=
  match l with
  | none => f S
  | some n => match S[n]? with
    | some (.liv (.lst us)) => (match f (S.set n (.lck (.lst us))) with
      | .ok a S2 => .ok a (S2.set n (.liv (.lst us)))
      | .stuck => .stuck)
    | _ => .stuck
/-- a for's turns -/
def forL (step : U → Rho → Sto → SR) : List U → Rho → Sto → SR
  | [], ρ, S => .ok (.nx ρ) S
  | x :: xs, ρ, S => match step x ρ S with
    | .ok (.nx ρ1) S1 => forL step xs ρ1 S1
    | .ok (.ct ρ1) S1 => forL step xs ρ1 S1
    | .ok (.bk ρ1) S1 => .ok (.nx ρ1) S1
    | r => r
/-- a while's turns -/
def whL (c : Rho → Sto → R U) (step : Rho → Sto → SR) : Nat → Rho → Sto → SR
  | 0, _, _ => .stuck
  | w + 1, ρ, S => match c ρ S with
    | .ok u S0 => (match truU S0 u with
      | some true => (match step ρ S0 with
        | .ok (.nx ρ1) S1 => whL c step w ρ1 S1
        | .ok (.ct ρ1) S1 => whL c step w ρ1 S1
        | .ok (.bk ρ1) S1 => .ok (.nx ρ1) S1
        | r => r)
      | some false => .ok (.nx ρ) S0
      | none => .stuck)
    | .ex k S0 => .ok (.ex k ρ) S0
    | .stuck => .stuck

/-- what a walk walks: its items, and the place of the store that is locked meanwhile -/
def lockOf (S : Sto) (u : U) : Option (List U × Option Nat) :=
  match u with
  | .ref n => match S[n]? with
    | some (.liv (.lst xs)) => some (xs, some n)
    | some (.lck (.lst xs)) => some (xs, none)
    | _ => none
  | .tup xs => some (xs, none)
  | .lst xs => some (xs, none)
  | _ => none

def lockS (S : Sto) (n : Nat) : Sto :=
  match S[n]? with
  | some (.liv (.lst us)) => S.set n (.lck (.lst us))
  | _ => S

def optR {α : Type} (S : Sto) : Option α → R α
  | some a => .ok a S
  | none => .stuck

mutual
def evE : EX → Rho → Sto → R U
  | .var i, ρ, S => optR S (getR ρ i)
  | .cst u, _, S => .ok u S
  | .tup es, ρ, S => (evEs es ρ S).bind fun us S1 => .ok (.tup us) S1
  | .bin o a b, ρ, S => (evE a ρ S).bind fun u S1 => (evE b ρ S1).bind fun v S2 => optR S2 (binU S2 o u v)
  | .cmp o a b, ρ, S => (evE a ρ S).bind fun u S1 => (evE b ρ S1).bind fun v S2 => optR S2 ((cmpU S2 o u v).map U.bl)
  | .ch2 o p a b c, ρ, S => (evE a ρ S).bind fun u S1 => (evE b ρ S1).bind fun v S2 => match cmpU S2 o u v with
    | some true => (evE c ρ S2).bind fun w S3 => optR S3 ((cmpU S3 p v w).map U.bl)
    | some false => .ok (.bl false) S2
    | none => .stuck
  | .and a b, ρ, S => (evE a ρ S).bind fun u S1 => match truU S1 u with
    | some true => evE b ρ S1
    | some false => .ok u S1
    | none => .stuck
  | .or a b, ρ, S => (evE a ρ S).bind fun u S1 => match truU S1 u with
    | some true => .ok u S1
    | some false => evE b ρ S1
    | none => .stuck
  | .not a, ρ, S => (evE a ρ S).bind fun u S1 => optR S1 ((truU S1 u).map fun k => .bl (!k))
  | .ite c a b, ρ, S => (evE c ρ S).bind fun u S1 => match truU S1 u with
    | some true => evE a ρ S1
    | some false => evE b ρ S1
    | none => .stuck
  | .ix a b, ρ, S => (evE a ρ S).bind fun u S1 => (evE b ρ S1).bind fun v S2 => optR S2 (ixU S2 u v)
  | .sl a lo hi, ρ, S => (evE a ρ S).bind fun u S1 => (evO lo ρ S1).bind fun l S2 => (evO hi ρ S2).bind fun h S3 => optR S3 (slU S3 u l h)
  | .rev a, ρ, S => (evE a ρ S).bind fun u S1 => optR S1 (revU S1 u)
  | .call f es, ρ, S => (evEs es ρ S).bind fun us S1 => F f us S1
  | .bi b es, ρ, S => (evEs es ρ S).bind fun us S1 => optR S1 (biU S1 b us)
  | .ist a ts, ρ, S => (evE a ρ S).bind fun u S1 => optR S1 ((vtU S1 u).map fun k => .bl (ts.any k.is))
  | .mth m a es, ρ, S => (evE a ρ S).bind fun u S1 => if mtOk S1 m u = true then (evEs es ρ S1).bind fun us S2 => mthR (mthU S2 m u us) else .stuck
  | .qv q, ρ, S => (evQ q ρ S).bind fun us S1 => .ok (.lst us) S1
  | .qn q, ρ, S => (evQ q ρ S).bind fun us S1 => .ok (.ref S1.length) (S1 ++ [.liv (.lst us)])
  | .frz a, ρ, S => (evE a ρ S).bind fun u S1 => match u with
    | .ref n => match S1[n]? with
      | some (.liv (.lst xs)) => .ok (.lst xs) (S1.set n .ded)
      | _ => .stuck
    | _ => .ok u S1
  | .dnew, _, S => .ok (.ref S.length) (S ++ [.liv (.dct [])])
  | .dget a b c, ρ, S => (evE a ρ S).bind fun u S1 => if (dctOf S1 u).isSome = true then (evE b ρ S1).bind fun v S2 => (evE c ρ S2).bind fun w S3 => optR S3 (dgetU S3 u v w) else .stuck
def evEs : List EX → Rho → Sto → R (List U)
  | [], _, S => .ok [] S
  | e :: es, ρ, S => (evE e ρ S).bind fun u S1 => (evEs es ρ S1).bind fun us S2 => .ok (u :: us) S2
def evO : Option EX → Rho → Sto → R (Option Int)
  | none, _, S => .ok none S
  | some e, ρ, S => (evE e ρ S).bind fun u S1 => match u with
    | .int i => .ok (some i) S1
    | _ => .stuck
def evQ : QX → Rho → Sto → R (List U)
  | .disp es, ρ, S => evEs es ρ S
  | .comp tg it cd el own, ρ, S => (evI it ρ S).bind fun p S1 =>
    if p.1.length ≤ lim then
      lockd S1 p.2 fun S2 => compL (fun x S => match evT tg x (wipeR ρ own) S with
          | some (ρ1, S1) => (evC cd ρ1 S1).bind fun k S2 => if k = true then (evE el ρ1 S2).bind fun y S3 => .ok (some y) S3 else .ok none S2
          | none => .stuck) p.1 S2
    else .stuck
  | .compK i tg cd el own, ρ, S => match getR ρ i with
    | some (.ref n) => match S[n]? with
      | some (.liv (.dct kvs)) => if kvs.length ≤ lim then
          (compL (fun x S => match evT tg x (wipeR ρ own) S with
            | some (ρ1, S1) => (evC cd ρ1 S1).bind fun k S2 => if k = true then (evE el ρ1 S2).bind fun y S3 => .ok (some y) S3 else .ok none S2
            | none => .stuck) (kvs.map fun kv => .int kv.1) (S.set n (.lck (.dct kvs)))).bind fun ys S2 => .ok ys (S2.set n (.liv (.dct kvs)))
        else .stuck
      | _ => .stuck
    | _ => .stuck
  | .lof a, ρ, S => (evE a ρ S).bind fun u S1 => optR S1 (seqOf S1 u)
  | .srt a, ρ, S => (evE a ρ S).bind fun u S1 => match seqOf S1 u with
    | some xs => optR S1 (srtU xs)
    | none => .stuck
  | .rep es n, ρ, S => (evEs es ρ S).bind fun us S1 => (evE n ρ S1).bind fun v S2 => match v with
    | .int k => if us.length * k.toNat ≤ lim ∧ -(2 ^ 63) ≤ k ∧ k < 2 ^ 63 then .ok (List.replicate k.toNat us).flatten S2 else .stuck
    | _ => .stuck
def evC : Option EX → Rho → Sto → R Bool
  | none, _, S => .ok true S
  | some e, ρ, S => (evE e ρ S).bind fun u S1 => optR S1 (truU S1 u)
def evI : IX → Rho → Sto → R (List U × Option Nat)
  | .val a, ρ, S => (evE a ρ S).bind fun u S1 => optR S1 (lockOf S1 u)
  | .rng1 a, ρ, S => (evE a ρ S).bind fun u S1 => match u with
    | .int j => if small j = true then .ok (iotaU 0 j.toNat, none) S1 else .stuck
    | _ => .stuck
  | .rng2 a b, ρ, S => (evE a ρ S).bind fun u S1 => (evE b ρ S1).bind fun v S2 => match u, v with
    | .int i, .int j => if small i = true ∧ small j = true then .ok (iotaU i (j - i).toNat, none) S2 else .stuck
    | _, _ => .stuck
  | .rng3 a b c, ρ, S => (evE a ρ S).bind fun u S1 => (evE b ρ S1).bind fun v S2 => (evE c ρ S2).bind fun w S3 => match u, v, w with
    | .int i, .int j, .int (-1) => if small i = true ∧ small j = true then .ok (iotaC i (-1) (i - j).toNat, none) S3 else .stuck
    | _, _, _ => .stuck
  | .enum a, ρ, S => (evE a ρ S).bind fun u S1 => match lockOf S1 u with
    | some (xs, l) => .ok (enumU 0 xs, l) S1
    | none => .stuck
  | .zip2 a b, ρ, S => (evE a ρ S).bind fun u S1 => (evE b ρ S1).bind fun v S2 => match u, v with
    | .tup xs, .tup ys => .ok (zipU xs ys, none) S2
    | .lst xs, .lst ys => .ok (zipU xs ys, none) S2
    | _, _ => .stuck
  | .zip3 _ _ _, _, _ => .stuck
/-- a value is put to a target -/
def evT : TX → U → Rho → Sto → Option (Rho × Sto)
  | .nm i, u, ρ, S => if i < ρ.length then some (ρ.set i (some u), S) else none
  | .tp ts, u, ρ, S => match unpack ts.length u S with
    | some us => evTs ts us ρ S
    | none => none
  | .ix a b, v, ρ, S => match evE a ρ S with
    | .ok (.ref n) S1 => match evE b ρ S1 with
      | .ok (.int i) S2 => match S2[n]? with
        | some (.liv (.lst xs)) => match ixN xs.length i with
          | some k => some (ρ, S2.set n (.liv (.lst (xs.set k v))))
          | none => none
        | some (.liv (.dct kvs)) => if kvs.length < lim then some (ρ, S2.set n (.liv (.dct (dputU kvs i v)))) else none
        | _ => none
      | _ => none
    | _ => none
def evTs : List TX → List U → Rho → Sto → Option (Rho × Sto)
  | [], [], ρ, S => some (ρ, S)
  | t :: ts, u :: us, ρ, S => match evT t u ρ S with
    | some (ρ1, S1) => evTs ts us ρ1 S1
    | none => none
  | _, _, _, _ => none
end

def R.toS (ρ : Rho) {α : Type} (r : R α) (f : α → Sto → SR) : SR :=
  match r with
  | .ok a S => f a S
  | .ex c S => .ok (.ex c ρ) S
  | .stuck => .stuck

def setAll : List Nat → List U → Rho → Rho
  | i :: is, u :: us, ρ => setAll is us (ρ.set i (some u))
  | _, _, ρ => ρ

variable (w : Nat)
mutual
def evS : SX → Rho → Sto → SR
  | .ex e, ρ, S => (evE F e ρ S).toS ρ fun _ S1 => .ok (.nx ρ) S1
  | .set t e, ρ, S => (evE F e ρ S).toS ρ fun u S1 => match evT F t u ρ S1 with
    | some (ρ1, S2) => .ok (.nx ρ1) S2
    | none => .stuck
  | .par is es, ρ, S => (evEs F es ρ S).toS ρ fun us S1 => if is.length = us.length ∧ is.all (· < ρ.length) = true then .ok (.nx (setAll is us ρ)) S1 else .stuck
  | .aug i o e, ρ, S => match getR ρ i with
    | some x => (evE F e ρ S).toS ρ fun y S1 => match binU S1 o x y with
      | some (.int z) => .ok (.nx (ρ.set i (some (.int z)))) S1
      | _ => .stuck
    | none => .stuck
  | .augs a b o e, ρ, S => (evE F a ρ S).toS ρ fun u S1 => (evE F b ρ S1).toS ρ fun i S2 => match u, i with
    | .ref n, .int i => match S2[n]? with
      | some (.liv (.lst xs)) => match atU xs i, ixN xs.length i with
        | some x, some k => (evE F e ρ S2).toS ρ fun y S3 => match binU S3 o x y, S3[n]? with
          | some (.int z), some (.liv (.lst ys)) => if ys.length = xs.length then .ok (.nx ρ) (S3.set n (.liv (.lst (ys.set k (.int z))))) else .stuck
          | _, _ => .stuck
        | _, _ => .stuck
      | _ => .stuck
    | _, _ => .stuck
  | .ife c a b, ρ, S => (evE F c ρ S).toS ρ fun u S1 => match truU S1 u with
    | some true => evSs a ρ S1
    | some false => evSs b ρ S1
    | none => .stuck
  | .fo t it b, ρ, S => (evI F it ρ S).toS ρ fun p S1 => lockdS S1 p.2 fun S2 => forL (fun x ρ S => match evT F t x ρ S with
        | some (ρ1, S1) => evSs b ρ1 S1
        | none => .stuck) p.1 ρ S2
  | .wh c b, ρ, S => whL (fun ρ S => evE F c ρ S) (fun ρ S => evSs b ρ S) w ρ S
  | .ret e, ρ, S => (evE F e ρ S).toS ρ fun u S1 => .ok (.rt u) S1
  | .retN, _, S => .ok (.rt .non) S
  | .brk, ρ, S => .ok (.bk ρ) S
  | .cnt, ρ, S => .ok (.ct ρ) S
  | .pass, ρ, S => .ok (.nx ρ) S
  | .rai c, ρ, S => .ok (.ex c ρ) S
  | .no, _, _ => .stuck
  | .tryx b c i h, ρ, S => match evSs b ρ S with
    | .ok (.ex c' ρ1) S1 => if c' = c then (match evSs h (ρ1.set i (some (.exc c'))) S1 with
        | .ok (.nx ρ2) S2 => .ok (.nx (ρ2.set i none)) S2
        | .ok (.ct ρ2) S2 => .ok (.ct (ρ2.set i none)) S2
        | .ok (.bk ρ2) S2 => .ok (.bk (ρ2.set i none)) S2
        | .ok (.rt u) S2 => .ok (.rt u) S2
        | _ => .stuck)
      else .ok (.ex c' ρ1) S1
    | r => r
def evSs : List SX → Rho → Sto → SR
  | [], ρ, S => .ok (.nx ρ) S
  | s :: ss, ρ, S => match evS s ρ S with
    | .ok (.nx ρ1) S1 => evSs ss ρ1 S1
    | r => r
end
end

/-- a def: its names, its body -/
structure Fd where
  np : Nat
  nn : Nat
  body : List SX

/-- the defs, by level -/
def run (D : List Fd) (w : Nat) : Nat → Nat → List U → Sto → R U
  | 0, _, _, _ => .stuck
  | d + 1, f, us, S => match D[f]? with
    | some fd => if us.length = fd.np then
        (match evSs (run D w d) w fd.body (us.map some ++ List.replicate (fd.nn - fd.np) none) S with
        | .ok (.rt u) S1 => .ok u S1
        | .ok (.nx _) S1 => .ok .non S1
        | .ok (.ex c _) S1 => .ex c S1
        | _ => .stuck)
      else .stuck
    | none => .stuck
end Ev
set_option Elab.async false
set_option linter.all false
set_option maxRecDepth 100000
/-! Ev2: values U against the layer's values V over the abstract heap; the store against it. -/
namespace Ev
open PySem PySem.Spec PyProof.Rows L2

def Live (fm : List Addr) (S : Sto) (a : Addr) : Prop := ∃ (n : Nat) (c : C), fm[n]? = some a ∧ S[n]? = some c ∧ c ≠ C.ded

/-- a tuple of the written part -/
def TupK (K : PySem.W.Frag) (a : Addr) (xs : List V) : Prop :=
  ∃ (o : Obj) (its : Array Value) (n : Nat), K.lookup a = some o ∧ o.cls = .type "tuple" ∧ o.data = .seq its n ∧ its.size ≤ sizeLine ∧ Vals xs its.toList

/-- a list that is read alone -/
def FzL (K : PySem.W.Frag) (H : Hp) (a : Addr) (xs : List V) : Prop :=
  (∃ o, H a = some (.frz o (.lst xs))) ∨
    ∃ (o : Obj) (its : Array Value) (n : Nat), K.lookup a = some o ∧ o.cls = .type "list" ∧ o.dict = none ∧ o.data = .seq its n ∧ its.size ≤ sizeLine ∧ Vals xs its.toList
/-- a list of the written part -/
def ListK (K : PySem.W.Frag) (a : Addr) (xs : List V) : Prop :=
  ∃ (o : Obj) (its : Array Value) (n : Nat), K.lookup a = some o ∧ o.cls = .type "list" ∧ o.dict = none ∧ o.data = .seq its n ∧ its.size ≤ sizeLine ∧ Vals xs its.toList
theorem FzL.sq {K : PySem.W.Frag} {H : Hp} {a : Addr} {xs : List V} : FzL K H a xs → SqL K H a xs
  | .inl h => .inl (.inr h)
  | .inr h => .inr h

mutual
inductive Rp (K : PySem.W.Frag) (fm : List Addr) (S : Sto) (H : Hp) : U → V → Prop
  | non : Rp K fm S H .non .non
  | bl (b : Bool) : Rp K fm S H (.bl b) (.bl b)
  | int (i : Int) : Rp K fm S H (.int i) (.int i)
  | str (x : Str) : Rp K fm S H (.str x) (.str x)
  | tup {a : Addr} {us : List U} {vs : List V} : H a = some (.tup vs) → ¬ Live fm S a → Rps K fm S H us vs → Rp K fm S H (.tup us) (.ref a)
  | tupK {a : Addr} {us : List U} {vs : List V} : TupK K a vs → Rps K fm S H us vs → Rp K fm S H (.tup us) (.ref a)
  | lst {a : Addr} {us : List U} {vs : List V} : H a = some (.lst vs) → ¬ Live fm S a → Rps K fm S H us vs → Rp K fm S H (.lst us) (.ref a)
  | fzK {a : Addr} {us : List U} {vs : List V} : ListK K a vs → Rps K fm S H us vs → Rp K fm S H (.fz us) (.ref a)
  | ref {a : Addr} {n : Nat} : fm[n]? = some a → Rp K fm S H (.ref n) (.ref a)
  | exc {a : Addr} {c : Nat} : Rp K fm S H (.exc c) (.ref a)
inductive Rps (K : PySem.W.Frag) (fm : List Addr) (S : Sto) (H : Hp) : List U → List V → Prop
  | nil : Rps K fm S H [] []
  | cons {u : U} {v : V} {us : List U} {vs : List V} : Rp K fm S H u v → Rps K fm S H us vs → Rps K fm S H (u :: us) (v :: vs)
end

def Fre : HO → Prop
  | .frz _ _ => False
  | _ => True
/-- what values lean on -/
structure Gr (fm : List Addr) (S : Sto) (H : Hp) (fm' : List Addr) (S' : Sto) (H' : Hp) : Prop where
  ext : ∀ (n : Nat) (a : Addr), fm[n]? = some a → fm'[n]? = some a
  keep : ∀ (a : Addr) (o : HO), Fre o → H a = some o → ¬ Live fm S a → H' a = some o ∧ ¬ Live fm' S' a
/-- a step of the world -/
structure Stp (fm : List Addr) (S : Sto) (H : Hp) (fm' : List Addr) (S' : Sto) (H' : Hp) : Prop where
  ext : ∀ (n : Nat) (a : Addr), fm[n]? = some a → fm'[n]? = some a
  keep : ∀ (a : Addr) (o : HO), H a = some o → ¬ Live fm S a → H' a = some o ∧ ¬ Live fm' S' a
  frz : ∀ (a : Addr) (o : Obj) (u : HO), H a = some (.frz o u) → H' a = some (.frz o u)
  lk : ∀ (n : Nat) (a : Addr) (o : O), fm[n]? = some a → S[n]? = some (.lck o) → S'[n]? = some (.lck o) ∧ H' a = H a
  there : ∀ (a : Addr), H a ≠ none → H' a ≠ none
  new : ∀ (n : Nat) (a : Addr), fm'[n]? = some a → fm[n]? = some a ∨ H a = none

/-- a dict's pairs -/
inductive RK (K : PySem.W.Frag) (fm : List Addr) (S : Sto) (H : Hp) : List (Int × U) → List (Key × V) → Prop
  | nil : RK K fm S H [] []
  | cons {k : Int} {u : U} {v : V} {us : List (Int × U)} {vs : List (Key × V)} : Rp K fm S H u v → RK K fm S H us vs → RK K fm S H ((k, u) :: us) ((.inl k, v) :: vs)
def ObjR (K : PySem.W.Frag) (fm : List Addr) (S : Sto) (H : Hp) (a : Addr) : O → Prop
  | .lst us => ∃ vs, H a = some (.lst vs) ∧ Rps K fm S H us vs
  | .dct us => ∃ vs, H a = some (.dK vs) ∧ RK K fm S H us vs
/-- the same while it is locked -/
def LckR (K : PySem.W.Frag) (fm : List Addr) (S : Sto) (H : Hp) (a : Addr) : O → Prop
  | .lst us => ∃ vs, H a = some (.lst vs) ∧ Rps K fm S H us vs
  | .dct us => ∃ o vs, H a = some (.frz o (.dK vs)) ∧ RK K fm S H us vs
/-- what a place says of the object -/
def CelR (K : PySem.W.Frag) (fm : List Addr) (S : Sto) (H : Hp) (a : Addr) : C → Prop
  | .liv o => ObjR K fm S H a o
  | .lck o => LckR K fm S H a o
  | .frz us => ∃ vs, FzL K H a vs ∧ Rps K fm S H us vs
  | .ded => True

structure StOk (K : PySem.W.Frag) (fm : List Addr) (S : Sto) (H : Hp) : Prop where
  len : fm.length = S.length
  inj : ∀ (n m : Nat) (a : Addr), fm[n]? = some a → fm[m]? = some a → n = m
  here : ∀ (n : Nat) (a : Addr), fm[n]? = some a → H a ≠ none
  obj : ∀ (n : Nat) (a : Addr) (c : C), fm[n]? = some a → S[n]? = some c → CelR K fm S H a c

section
variable {K : PySem.W.Frag} {fm fm' fm1 fm2 : List Addr} {S S' S1 S2 : Sto} {H H' H1 H2 : Hp}

theorem Stp.refl : Stp fm S H fm S H := ⟨fun _ _ h => h, fun _ _ h n => ⟨h, n⟩, fun _ _ _ h => h, fun _ _ _ _ h => ⟨h, rfl⟩, fun _ h => h, fun _ _ h => .inl h⟩
theorem Stp.trans (x : Stp fm S H fm1 S1 H1) (y : Stp fm1 S1 H1 fm2 S2 H2) : Stp fm S H fm2 S2 H2 where
  ext := fun n a h => y.ext n a (x.ext n a h)
  keep := fun a o h n => let ⟨h1, n1⟩ := x.keep a o h n; y.keep a o h1 n1
  frz := fun a o u h => y.frz a o u (x.frz a o u h)
  lk := fun n a o h1 h2 => let ⟨s1, e1⟩ := x.lk n a o h1 h2; let ⟨s2, e2⟩ := y.lk n a o (x.ext n a h1) s1; ⟨s2, e2.trans e1⟩
  there := fun a h => y.there a (x.there a h)
  new := fun n a h => (y.new n a h).elim (fun h => x.new n a h) fun h => .inr (Classical.byContradiction fun z => x.there a z h)
theorem Stp.toGr (x : Stp fm S H fm' S' H') : Gr fm S H fm' S' H' := ⟨x.ext, fun a o _ h n => x.keep a o h n⟩
theorem FzL.mono {a : Addr} {xs : List V} (e : H' a = H a) : FzL K H a xs → FzL K H' a xs
  | .inl ⟨o, h⟩ => .inl ⟨o, e.trans h⟩
  | .inr h => .inr h
mutual
theorem Rp.mono (x : Gr fm S H fm' S' H') : ∀ {u : U} {v : V}, Rp K fm S H u v → Rp K fm' S' H' u v
  | _, _, .non => .non
  | _, _, .bl b => .bl b
  | _, _, .int i => .int i
  | _, _, .str z => .str z
  | _, _, .tup h n t => let ⟨h1, n1⟩ := x.keep _ (.tup _) trivial h n; .tup h1 n1 (Rps.mono x t)
  | _, _, .tupK h t => .tupK h (Rps.mono x t)
  | _, _, .lst h n t => let ⟨h1, n1⟩ := x.keep _ (.lst _) trivial h n; .lst h1 n1 (Rps.mono x t)
  | _, _, .fzK h t => .fzK h (Rps.mono x t)
  | _, _, .ref h => .ref (x.ext _ _ h)
  | _, _, .exc => .exc
theorem Rps.mono (x : Gr fm S H fm' S' H') : ∀ {us : List U} {vs : List V}, Rps K fm S H us vs → Rps K fm' S' H' us vs
  | _, _, .nil => .nil
  | _, _, .cons h t => .cons (Rp.mono x h) (Rps.mono x t)
end

theorem RK.mono (x : Gr fm S H fm' S' H') : ∀ {us : List (Int × U)} {vs : List (Key × V)}, RK K fm S H us vs → RK K fm' S' H' us vs
  | _, _, .nil => .nil
  | _, _, .cons h t => .cons (h.mono x) (RK.mono x t)
theorem Rps.length : ∀ {us : List U} {vs : List V}, Rps K fm S H us vs → us.length = vs.length
  | _, _, .nil => rfl
  | _, _, .cons _ t => congrArg (· + 1) (Rps.length t)
theorem Rps.get : ∀ {us : List U} {vs : List V} {i : Nat} {u : U}, Rps K fm S H us vs → us[i]? = some u → ∃ v, vs[i]? = some v ∧ Rp K fm S H u v
  | _, _, _, _, .nil, e => by simp at e
  | _, _, 0, _, .cons h _, e => by simp at e; subst e; exact ⟨_, rfl, h⟩
  | _, _, i + 1, _, .cons _ t, e => by
    obtain ⟨v, e1, r⟩ := Rps.get (i := i) t (by simpa using e)
    exact ⟨v, by simpa using e1, r⟩
theorem Rps.getV : ∀ {us : List U} {vs : List V} {i : Nat} {v : V}, Rps K fm S H us vs → vs[i]? = some v → ∃ u, us[i]? = some u ∧ Rp K fm S H u v
  | _, _, _, _, .nil, e => by simp at e
  | _, _, 0, _, .cons h _, e => by simp at e; subst e; exact ⟨_, rfl, h⟩
  | _, _, i + 1, _, .cons _ t, e => by
    obtain ⟨v, e1, r⟩ := Rps.getV (i := i) t (by simpa using e)
    exact ⟨v, by simpa using e1, r⟩
theorem Rps.append : ∀ {us us' : List U} {vs vs' : List V}, Rps K fm S H us vs → Rps K fm S H us' vs' → Rps K fm S H (us ++ us') (vs ++ vs')
  | _, _, _, _, .nil, s => s
  | _, _, _, _, .cons h t, s => .cons h (Rps.append t s)
theorem Rps.take : ∀ {us : List U} {vs : List V} (n : Nat), Rps K fm S H us vs → Rps K fm S H (us.take n) (vs.take n)
  | _, _, 0, _ => .nil
  | _, _, _ + 1, .nil => .nil
  | _, _, n + 1, .cons h t => .cons h (Rps.take n t)
theorem Rps.drop : ∀ {us : List U} {vs : List V} (n : Nat), Rps K fm S H us vs → Rps K fm S H (us.drop n) (vs.drop n)
  | _, _, 0, r => r
  | _, _, _ + 1, .nil => .nil
  | _, _, n + 1, .cons _ t => Rps.drop n t
theorem Rps.set {u : U} {v : V} (r : Rp K fm S H u v) : ∀ {us : List U} {vs : List V} (i : Nat), Rps K fm S H us vs → Rps K fm S H (us.set i u) (vs.set i v)
  | _, _, _, .nil => .nil
  | _, _, 0, .cons _ t => .cons r t
  | _, _, i + 1, .cons h t => .cons h (Rps.set r i t)
theorem Rps.reverse : ∀ {us : List U} {vs : List V}, Rps K fm S H us vs → Rps K fm S H us.reverse vs.reverse
  | _, _, .nil => .nil
  | _, _, .cons h t => by rw [List.reverse_cons, List.reverse_cons]; exact Rps.append (Rps.reverse t) (.cons h .nil)
theorem Rps.dropLast : ∀ {us : List U} {vs : List V}, Rps K fm S H us vs → Rps K fm S H us.dropLast vs.dropLast := fun h => by
  rw [List.dropLast_eq_take, List.dropLast_eq_take, h.length]; exact h.take _
theorem Rps.eraseIdx : ∀ {us : List U} {vs : List V} (i : Nat), Rps K fm S H us vs → Rps K fm S H (us.eraseIdx i) (vs.eraseIdx i)
  | _, _, _, .nil => .nil
  | _, _, 0, .cons _ t => t
  | _, _, i + 1, .cons h t => .cons h (Rps.eraseIdx i t)
theorem Rps.rep {us : List U} {vs : List V} (h : Rps K fm S H us vs) : ∀ k : Nat, Rps K fm S H (List.replicate k us).flatten (List.replicate k vs).flatten
  | 0 => .nil
  | k + 1 => by rw [List.replicate_succ, List.replicate_succ, List.flatten_cons, List.flatten_cons]; exact h.append (h.rep k)
theorem Rps.ints : ∀ {us : List U} {vs : List V} {ns : List Int}, Rps K fm S H us vs → intsOf us = some ns → vs = ns.map V.int
  | _, _, _, .nil, e => by simp [intsOf] at e; subst e; rfl
  | _, _, ns, .cons h t, e => by
    cases h <;> simp [intsOf] at e
    obtain ⟨ms, e1, rfl⟩ := e
    rw [Rps.ints t e1]; rfl
theorem Rps.bls : ∀ {us : List U} {vs : List V} {bs : List Bool}, Rps K fm S H us vs → blsOf us = some bs → vs = bs.map V.bl
  | _, _, _, .nil, e => by simp [blsOf] at e; subst e; rfl
  | _, _, ns, .cons h t, e => by
    cases h <;> simp [blsOf] at e
    obtain ⟨ms, e1, rfl⟩ := e
    rw [Rps.bls t e1]; rfl
theorem Rps.of_ints : ∀ (ns : List Int), Rps K fm S H (ns.map U.int) (ns.map V.int)
  | [] => .nil
  | n :: ns => .cons (.int n) (Rps.of_ints ns)

theorem StOk.fresh (so : StOk K fm S H) {p : Addr} (h : H p = none) : ¬ Live fm S p := fun ⟨n, _, e, _⟩ => so.here n p e h
theorem StOk.notin (so : StOk K fm S H) {p : Addr} (h : H p = none) (n : Nat) : fm[n]? ≠ some p := fun e => so.here n p e h

/-- a new object beside the store -/
theorem stp_new (so : StOk K fm S H) {p : Addr} {o : HO} (h : H p = none) : Stp fm S H fm S (upd H p o) where
  ext := fun _ _ h => h
  keep := fun a o' e n => ⟨by rw [upd_ne (ne_of_none e h)]; exact e, n⟩
  frz := fun a o u e => by rw [upd_ne (ne_of_none e h)]; exact e
  lk := fun n a o' e1 e2 => ⟨e2, upd_ne fun z => so.notin h n (z ▸ e1)⟩
  there := fun a e => by
    by_cases z : a = p
    · subst z; exact absurd h e
    · rw [upd_ne z]; exact e
  new := fun _ _ h => .inl h
theorem ObjR.mono {a : Addr} (x : Gr fm S H fm' S' H') (e : H' a = H a) : ∀ {o : O}, ObjR K fm S H a o → ObjR K fm' S' H' a o
  | .lst us, ⟨vs, h, r⟩ => ⟨vs, e.trans h, r.mono x⟩
  | .dct us, ⟨vs, h, r⟩ => ⟨vs, e.trans h, r.mono x⟩
theorem LckR.mono {a : Addr} (x : Gr fm S H fm' S' H') (e : H' a = H a) : ∀ {o : O}, LckR K fm S H a o → LckR K fm' S' H' a o
  | .lst us, ⟨vs, h, r⟩ => ⟨vs, e.trans h, r.mono x⟩
  | .dct us, ⟨o, vs, h, r⟩ => ⟨o, vs, e.trans h, r.mono x⟩
theorem CelR.mono {a : Addr} (x : Gr fm S H fm' S' H') (e : H' a = H a) : ∀ {c : C}, CelR K fm S H a c → CelR K fm' S' H' a c
  | .liv _, h => ObjR.mono (K := K) x e h
  | .lck _, h => LckR.mono (K := K) x e h
  | .frz _, ⟨vs, h, r⟩ => ⟨vs, h.mono e, r.mono x⟩
  | .ded, _ => trivial
theorem ok_new (so : StOk K fm S H) {p : Addr} {o : HO} (h : H p = none) : StOk K fm S (upd H p o) where
  len := so.len
  inj := so.inj
  here := fun n a e => (stp_new so h).there a (so.here n a e)
  obj := fun n a c e1 e2 => CelR.mono (stp_new so h).toGr (upd_ne fun z => so.notin h n (z ▸ e1)) (so.obj n a c e1 e2)
theorem rp_newT (so : StOk K fm S H) {p : Addr} {us : List U} {vs : List V} (h : H p = none) (r : Rps K fm S H us vs) : Rp K fm S (upd H p (.tup vs)) (.tup us) (.ref p) :=
  .tup upd_same (so.fresh h) (r.mono (stp_new so h).toGr)
theorem rp_newL (so : StOk K fm S H) {p : Addr} {us : List U} {vs : List V} (h : H p = none) (r : Rps K fm S H us vs) : Rp K fm S (upd H p (.lst vs)) (.lst us) (.ref p) :=
  .lst upd_same (so.fresh h) (r.mono (stp_new so h).toGr)

/-! ### a new list in the store -/
theorem get_app {α : Type} {l : List α} {x y : α} {n : Nat} (h : (l ++ [x])[n]? = some y) : (l[n]? = some y ∧ n < l.length) ∨ (n = l.length ∧ y = x) := by
  by_cases hn : n < l.length
  · rw [List.getElem?_append_left hn] at h; exact .inl ⟨h, hn⟩
  · rw [List.getElem?_append_right (by omega)] at h
    have : n - l.length = 0 := by
      cases q : n - l.length with
      | zero => rfl
      | succ m => rw [q] at h; simp at h
    rw [this] at h
    simp at h
    exact .inr ⟨by omega, h.symm⟩
theorem stp_put (so : StOk K fm S H) {p : Addr} {o : HO} {c : C} (h : H p = none) : Stp fm S H (fm ++ [p]) (S ++ [c]) (upd H p o) where
  ext := fun n a e => by
    have : n < fm.length := (List.getElem?_eq_some_iff.mp e).1
    rw [List.getElem?_append_left this]; exact e
  keep := fun a o' e nl => ⟨by rw [upd_ne (ne_of_none e h)]; exact e, fun ⟨n, c', e1, e2, e3⟩ => by
    rcases get_app e1 with ⟨e1, hn⟩ | ⟨_, e1⟩
    · rw [List.getElem?_append_left (by rw [← so.len]; exact hn)] at e2
      exact nl ⟨n, c', e1, e2, e3⟩
    · subst e1; rw [h] at e; cases e⟩
  frz := fun a o u e => by rw [upd_ne (ne_of_none e h)]; exact e
  lk := fun n a o' e1 e2 => ⟨by
    have : n < S.length := (List.getElem?_eq_some_iff.mp e2).1
    rw [List.getElem?_append_left this]; exact e2, upd_ne fun z => so.notin h n (z ▸ e1)⟩
  there := fun a e => by
    by_cases z : a = p
    · subst z; exact absurd h e
    · rw [upd_ne z]; exact e
  new := fun n a e => by
    rcases get_app e with ⟨e, _⟩ | ⟨_, e⟩
    · exact .inl e
    · subst e; exact .inr h
theorem ok_putO (so : StOk K fm S H) {p : Addr} {o : O} {ho : HO} (h : H p = none) (r : ObjR K (fm ++ [p]) (S ++ [.liv o]) (upd H p ho) p o) : StOk K (fm ++ [p]) (S ++ [.liv o]) (upd H p ho) where
  len := by simp [so.len]
  inj := fun n m a e1 e2 => by
    rcases get_app e1 with ⟨q1, hn⟩ | ⟨hn, q1⟩ <;> rcases get_app e2 with ⟨q2, hm⟩ | ⟨hm, q2⟩
    · exact so.inj n m a q1 q2
    · rw [q2] at q1; exact absurd q1 (so.notin h n)
    · rw [q1] at q2; exact absurd q2 (so.notin h m)
    · omega
  here := fun n a e => by
    rcases get_app e with ⟨e, _⟩ | ⟨_, e⟩
    · exact (stp_new so h).there a (so.here n a e)
    · subst e; rw [upd_same]; simp
  obj := fun n a c e1 e2 => by
    have x := stp_put (o := ho) (c := .liv o) so h
    rcases get_app e1 with ⟨e1, hn⟩ | ⟨hn, e1⟩
    · rw [List.getElem?_append_left (by rw [← so.len]; exact hn)] at e2
      exact CelR.mono x.toGr (upd_ne fun z => so.notin h n (z ▸ e1)) (so.obj n a c e1 e2)
    · subst e1
      rcases get_app e2 with ⟨_, hm⟩ | ⟨_, e2⟩
      · rw [← so.len] at hm; omega
      · subst e2; exact r
theorem ok_put (so : StOk K fm S H) {p : Addr} {us : List U} {vs : List V} (h : H p = none) (r : Rps K fm S H us vs) : StOk K (fm ++ [p]) (S ++ [.liv (.lst us)]) (upd H p (.lst vs)) :=
  ok_putO so h ⟨vs, upd_same, r.mono (stp_put so h).toGr⟩

/-! ### a list of the store changed -/
theorem live_set {n : Nat} {c c' : C} (h : S[n]? = some c) (hc : c ≠ C.ded) (hc' : c' ≠ .ded) {a : Addr} : Live fm (S.set n c') a ↔ Live fm S a := by
  have hn : n < S.length := (List.getElem?_eq_some_iff.mp h).1
  constructor
  · rintro ⟨m, d, e1, e2, e3⟩
    by_cases z : m = n
    · subst z; exact ⟨m, c, e1, h, hc⟩
    · rw [List.getElem?_set_ne (Ne.symm z)] at e2; exact ⟨m, d, e1, e2, e3⟩
  · rintro ⟨m, d, e1, e2, e3⟩
    by_cases z : m = n
    · subst z; exact ⟨m, c', e1, List.getElem?_set_self hn, hc'⟩
    · exact ⟨m, d, e1, by rw [List.getElem?_set_ne (Ne.symm z)]; exact e2, e3⟩
theorem ObjR.nofrz {a : Addr} {ob : Obj} {u : HO} : ∀ {o : O}, ObjR K fm S H a o → H a ≠ some (.frz ob u)
  | .lst us, ⟨vs, h, _⟩, e => by rw [h] at e; cases e
  | .dct us, ⟨vs, h, _⟩, e => by rw [h] at e; cases e
theorem stp_set (so : StOk K fm S H) {n : Nat} {a : Addr} {o o' : O} {ho : HO} (hf : fm[n]? = some a) (hs : S[n]? = some (.liv o)) : Stp fm S H fm (S.set n (.liv o')) (upd H a ho) where
  ext := fun _ _ h => h
  keep := fun b o1 e nl => ⟨by
    rw [upd_ne]; exact e
    intro z; subst z
    exact nl ⟨n, _, hf, hs, by simp⟩, fun l => nl ((live_set hs (by simp) (by simp)).mp l)⟩
  frz := fun b ob u e => by
    rw [upd_ne]; exact e
    intro z; subst z
    exact ObjR.nofrz (so.obj n _ _ hf hs) e
  lk := fun m b o1 e1 e2 => by
    have z : m ≠ n := by rintro rfl; rw [hs] at e2; cases e2
    refine ⟨by rw [List.getElem?_set_ne (Ne.symm z)]; exact e2, upd_ne ?_⟩
    intro q; subst q
    exact z (so.inj _ _ _ e1 hf)
  there := fun b e => by
    by_cases z : b = a
    · subst z; rw [upd_same]; simp
    · rw [upd_ne z]; exact e
  new := fun _ _ h => .inl h
theorem ok_setO (so : StOk K fm S H) {n : Nat} {a : Addr} {o o' : O} {ho : HO} (hf : fm[n]? = some a) (hs : S[n]? = some (.liv o)) (r : ObjR K fm (S.set n (.liv o')) (upd H a ho) a o') :
    StOk K fm (S.set n (.liv o')) (upd H a ho) where
  len := by simp [so.len]
  inj := so.inj
  here := fun m b e => (stp_set (ho := ho) (o' := o') so hf hs).there b (so.here m b e)
  obj := fun m b c e1 e2 => by
    have x := stp_set (ho := ho) (o' := o') so hf hs
    have hn : n < S.length := (List.getElem?_eq_some_iff.mp hs).1
    by_cases z : m = n
    · subst z
      rw [List.getElem?_set_self hn] at e2
      cases e2
      rw [hf] at e1; cases e1
      exact r
    · rw [List.getElem?_set_ne (Ne.symm z)] at e2
      refine CelR.mono x.toGr (upd_ne ?_) (so.obj m b c e1 e2)
      intro q; subst q
      exact z (so.inj _ _ _ e1 hf)
theorem ok_set (so : StOk K fm S H) {n : Nat} {a : Addr} {o : O} {us : List U} {vs : List V} (hf : fm[n]? = some a) (hs : S[n]? = some (.liv o)) (r : Rps K fm S H us vs) :
    StOk K fm (S.set n (.liv (.lst us))) (upd H a (.lst vs)) := ok_setO so hf hs ⟨vs, upd_same, r.mono (stp_set so hf hs).toGr⟩

/-! ### locked, let go, dead -/
theorem stp_cell (so : StOk K fm S H) {n : Nat} {o : O} {c' : C} (hs : S[n]? = some (.liv o)) : Stp fm S H fm (S.set n c') H where
  ext := fun _ _ h => h
  keep := fun b o1 e nl => ⟨e, fun ⟨m, d, e1, e2, e3⟩ => by
    by_cases z : m = n
    · subst z; exact nl ⟨m, _, e1, hs, by simp⟩
    · rw [List.getElem?_set_ne (Ne.symm z)] at e2; exact nl ⟨m, d, e1, e2, e3⟩⟩
  frz := fun _ _ _ e => e
  lk := fun m b o1 e1 e2 => by
    have z : m ≠ n := by rintro rfl; rw [hs] at e2; cases e2
    exact ⟨by rw [List.getElem?_set_ne (Ne.symm z)]; exact e2, rfl⟩
  there := fun _ e => e
  new := fun _ _ h => .inl h
theorem ok_cell (so : StOk K fm S H) {n : Nat} {us : List U} {c' : C} (hs : S[n]? = some (.liv (.lst us))) (hc : c' = .lck (.lst us) ∨ c' = .ded) : StOk K fm (S.set n c') H where
  len := by simp [so.len]
  inj := so.inj
  here := so.here
  obj := fun m b c e1 e2 => by
    have x := stp_cell (c' := c') so hs
    have hn : n < S.length := (List.getElem?_eq_some_iff.mp hs).1
    by_cases z : m = n
    · subst z
      rw [List.getElem?_set_self hn] at e2
      cases e2
      rcases hc with rfl | rfl
      · exact LckR.mono (K := K) (o := .lst us) x.toGr rfl (so.obj m b _ e1 hs)
      · trivial
    · rw [List.getElem?_set_ne (Ne.symm z)] at e2
      exact CelR.mono x.toGr rfl (so.obj m b c e1 e2)
/-! ### an object beside the store, changed: D, locked just now -/
structure Off (D : Addr) (H H' : Hp) : Prop where
  off : ∀ a, a ≠ D → H' a = H a
theorem gr_off {D : Addr} {od : Obj} {u : HO} (hD : H D = some (.frz od u)) (e : Off D H H') : Gr fm S H fm S H' where
  ext := fun _ _ h => h
  keep := fun a o f h nl => ⟨by
    rw [e.off a]; exact h
    intro z; subst z; rw [hD] at h; cases h; exact f, nl⟩
theorem ok_off {D : Addr} {od : Obj} {u : HO} (so : StOk K fm S H) (hD : H D = some (.frz od u)) (hn : ∀ n : Nat, fm[n]? ≠ some D) (e : Off D H H') : StOk K fm S H' where
  len := so.len
  inj := so.inj
  here := fun n a h => by
    rw [e.off a (fun z => hn n (z ▸ h))]
    exact so.here n a h
  obj := fun n a c h1 h2 => CelR.mono (gr_off hD e) (e.off a fun z => hn n (z ▸ h1)) (so.obj n a c h1 h2)
theorem stp_off {D : Addr} (so1 : StOk K fm1 S1 H1) (st : Stp fm1 S1 H1 fm S H) (h1 : H1 D = none) (e : Off D H H') : Stp fm1 S1 H1 fm S H' where
  ext := st.ext
  keep := fun a o h nl => by
    rw [e.off a (fun z => by subst z; rw [h1] at h; cases h)]
    exact st.keep a o h nl
  frz := fun a o u h => by
    rw [e.off a (fun z => by subst z; rw [h1] at h; cases h)]
    exact st.frz a o u h
  lk := fun n a o e1 e2 => by
    rw [e.off a (fun z => by subst z; exact so1.here n _ e1 h1)]
    exact st.lk n a o e1 e2
  there := fun a h => by
    rw [e.off a (fun z => by subst z; exact h h1)]
    exact st.there a h
  new := st.new
/-- from ahead of the lock to behind its opening -/
theorem stp_lock {n : Nat} {a : Addr} {us : List U} (hs : S[n]? = some (.liv (.lst us))) (hf : fm[n]? = some a) (x : Stp fm (S.set n (.lck (.lst us))) H fm' S' H') (so' : StOk K fm' S' H') :
    S'[n]? = some (.lck (.lst us)) ∧ Stp fm S H fm' (S'.set n (.liv (.lst us))) H' ∧ Gr fm' S' H' fm' (S'.set n (.liv (.lst us))) H' ∧ StOk K fm' (S'.set n (.liv (.lst us))) H' := by
  obtain ⟨o, ho⟩ : ∃ o : O, o = .lst us := ⟨_, rfl⟩
  rw [← ho] at hs x ⊢
  have hn : n < S.length := (List.getElem?_eq_some_iff.mp hs).1
  have h0 : (S.set n (.lck o))[n]? = some (.lck o) := List.getElem?_set_self hn
  obtain ⟨h1, h2⟩ := x.lk n a o hf h0
  have hn' : n < S'.length := (List.getElem?_eq_some_iff.mp h1).1
  have hf' := x.ext n a hf
  have l' : ∀ b, Live fm' (S'.set n (.liv o)) b ↔ Live fm' S' b := fun b => live_set h1 (by simp) (by simp)
  have l0 : ∀ b, Live fm (S.set n (.lck o)) b ↔ Live fm S b := fun b => live_set hs (by simp) (by simp)
  have g : Gr fm' S' H' fm' (S'.set n (.liv o)) H' := ⟨fun _ _ h => h, fun b o1 _ e nl => ⟨e, fun z => nl ((l' b).mp z)⟩⟩
  refine ⟨h1, ⟨x.ext, fun b o1 e nl => ?_, x.frz, fun m b o1 e1 e2 => ?_, x.there, x.new⟩, g, ?_⟩
  · obtain ⟨q1, q2⟩ := x.keep b o1 e (fun z => nl ((l0 b).mp z))
    exact ⟨q1, fun z => q2 ((l' b).mp z)⟩
  · have z : m ≠ n := by rintro rfl; rw [hs] at e2; cases e2
    obtain ⟨q1, q2⟩ := x.lk m b o1 e1 (by rw [List.getElem?_set_ne (Ne.symm z)]; exact e2)
    exact ⟨by rw [List.getElem?_set_ne (Ne.symm z)]; exact q1, q2⟩
  · refine ⟨by simp [so'.len], so'.inj, so'.here, fun m b c e1 e2 => ?_⟩
    by_cases z : m = n
    · subst z
      rw [List.getElem?_set_self hn'] at e2
      cases e2
      subst ho; exact ObjR.mono (K := K) (o := .lst us) g rfl (so'.obj m b _ e1 h1)
    · rw [List.getElem?_set_ne (Ne.symm z)] at e2
      exact CelR.mono g rfl (so'.obj m b c e1 e2)
/-- a dict: locked in the heap, too -/
theorem stp_dlock {n : Nat} {a : Addr} {us : List (Int × U)} {vs : List (Key × V)} {od : Obj} (so : StOk K fm S H) (hs : S[n]? = some (.liv (.dct us))) (hf : fm[n]? = some a) (hA : H a = some (.dK vs)) (rk : RK K fm S H us vs) :
    StOk K fm (S.set n (.lck (.dct us))) (upd H a (.frz od (.dK vs))) ∧ Gr fm S H fm (S.set n (.lck (.dct us))) (upd H a (.frz od (.dK vs))) := by
  have hn : n < S.length := (List.getElem?_eq_some_iff.mp hs).1
  have hl : Live fm S a := ⟨n, _, hf, hs, by simp⟩
  have g : Gr fm S H fm (S.set n (.lck (.dct us))) (upd H a (.frz od (.dK vs))) := ⟨fun _ _ h => h, fun b o f e nl => ⟨by
    rw [upd_ne]; exact e
    intro z; subst z; exact nl hl, fun l => nl ((live_set hs (by simp) (by simp)).mp l)⟩⟩
  refine ⟨⟨by simp [so.len], so.inj, fun m b e => ?_, fun m b c e1 e2 => ?_⟩, g⟩
  · by_cases z : b = a
    · subst z; rw [upd_same]; simp
    · rw [upd_ne z]; exact so.here m b e
  · by_cases z : m = n
    · subst z
      rw [List.getElem?_set_self hn] at e2
      cases e2
      rw [hf] at e1; cases e1
      exact ⟨od, vs, upd_same, rk.mono g⟩
    · rw [List.getElem?_set_ne (Ne.symm z)] at e2
      refine CelR.mono g (upd_ne ?_) (so.obj m b c e1 e2)
      intro q; subst q
      exact z (so.inj _ _ _ e1 hf)
theorem stp_dopen {n : Nat} {a : Addr} {us : List (Int × U)} {vs : List (Key × V)} {od : Obj} (so : StOk K fm S H) (hs : S[n]? = some (.liv (.dct us))) (hf : fm[n]? = some a) (hA : H a = some (.dK vs)) (rk : RK K fm S H us vs)
    (x : Stp fm (S.set n (.lck (.dct us))) (upd H a (.frz od (.dK vs))) fm' S' H') (so' : StOk K fm' S' H') :
    H' a = some (.frz od (.dK vs)) ∧ Stp fm S H fm' (S'.set n (.liv (.dct us))) (upd H' a (.dK vs)) ∧ Gr fm' S' H' fm' (S'.set n (.liv (.dct us))) (upd H' a (.dK vs)) ∧ StOk K fm' (S'.set n (.liv (.dct us))) (upd H' a (.dK vs)) := by
  have hn : n < S.length := (List.getElem?_eq_some_iff.mp hs).1
  have hl : Live fm S a := ⟨n, _, hf, hs, by simp⟩
  have h0 : (S.set n (.lck (.dct us)))[n]? = some (.lck (.dct us)) := List.getElem?_set_self hn
  obtain ⟨h1, h2⟩ := x.lk n a _ hf h0
  rw [upd_same] at h2
  have hn' : n < S'.length := (List.getElem?_eq_some_iff.mp h1).1
  have hf' := x.ext n a hf
  have l' : ∀ b, Live fm' (S'.set n (.liv (.dct us))) b ↔ Live fm' S' b := fun b => live_set h1 (by simp) (by simp)
  have l0 : ∀ b, Live fm (S.set n (.lck (.dct us))) b ↔ Live fm S b := fun b => live_set hs (by simp) (by simp)
  have g : Gr fm' S' H' fm' (S'.set n (.liv (.dct us))) (upd H' a (.dK vs)) := ⟨fun _ _ h => h, fun b o1 f e nl => ⟨by
    rw [upd_ne]; exact e
    intro z; subst z; rw [h2] at e; cases e; exact f, fun z => nl ((l' b).mp z)⟩⟩
  refine ⟨h2, ⟨x.ext, fun b o1 e nl => ?_, fun b o u e => ?_, fun m b o1 e1 e2 => ?_, fun b e => ?_, fun m b e => ?_⟩, g, ⟨by simp [so'.len], so'.inj, fun m b e => ?_, fun m b c e1 e2 => ?_⟩⟩
  · have hb : b ≠ a := fun z => nl (z ▸ hl)
    obtain ⟨q1, q2⟩ := x.keep b o1 (by rw [upd_ne hb]; exact e) (fun z => nl ((l0 b).mp z))
    exact ⟨by rw [upd_ne hb]; exact q1, fun z => q2 ((l' b).mp z)⟩
  · have hb : b ≠ a := fun z => by subst z; rw [hA] at e; cases e
    rw [upd_ne hb]
    exact x.frz b o u (by rw [upd_ne hb]; exact e)
  · have z : m ≠ n := by rintro rfl; rw [hs] at e2; cases e2
    have hb : b ≠ a := fun q => by subst q; exact z (so.inj _ _ _ e1 hf)
    obtain ⟨q1, q2⟩ := x.lk m b o1 e1 (by rw [List.getElem?_set_ne (Ne.symm z)]; exact e2)
    exact ⟨by rw [List.getElem?_set_ne (Ne.symm z)]; exact q1, by rw [upd_ne hb, q2, upd_ne hb]⟩
  · by_cases z : b = a
    · subst z; rw [upd_same]; simp
    · rw [upd_ne z]; exact x.there b (by rw [upd_ne z]; exact e)
  · rcases x.new m b e with h | h
    · exact .inl h
    · refine .inr ?_
      have hb : b ≠ a := fun z => by subst z; rw [upd_same] at h; cases h
      rw [upd_ne hb] at h; exact h
  · by_cases z : b = a
    · subst z; rw [upd_same]; simp
    · rw [upd_ne z]; exact so'.here m b e
  · by_cases z : m = n
    · subst z
      rw [List.getElem?_set_self hn'] at e2
      cases e2
      have : b = a := by rw [hf'] at e1; exact (Option.some.inj e1).symm
      subst this
      obtain ⟨o2, vs2, q1, q2⟩ := so'.obj m b _ e1 h1
      rw [h2] at q1; cases q1
      exact ⟨vs, upd_same, q2.mono g⟩
    · rw [List.getElem?_set_ne (Ne.symm z)] at e2
      refine CelR.mono g (upd_ne ?_) (so'.obj m b c e1 e2)
      intro q; subst q
      exact z (so'.inj _ _ _ e1 hf')
end
end Ev
set_option Elab.async false
set_option linter.all false
set_option maxRecDepth 100000
set_option maxHeartbeats 2000000
/-! Ev3: operators, comparisons, built-ins by values. -/
namespace Ev
open PySem PySem.Spec PyProof.Rows L2

section
variable {K : PySem.W.Frag} {fm fm' : List Addr} {S S' : Sto} {H H' : Hp} {u : U} {v : V}

theorem rd_cases (S : Sto) (u : U) : rd S u = u ∨ (∃ (n : Nat) (xs : List U), u = .ref n ∧ (S[n]? = some (.liv (.lst xs)) ∨ S[n]? = some (.lck (.lst xs))) ∧ rd S u = .lst xs) ∨ ∃ (n : Nat) (xs : List U), u = .ref n ∧ S[n]? = some (.frz xs) ∧ rd S u = .fz xs := by
  cases u with
  | ref n =>
    cases e : S[n]? with
    | none => left; simp [rd, e]
    | some c =>
      cases c with
      | liv o =>
        cases o with
        | lst xs => right; left; exact ⟨n, xs, rfl, .inl e, by simp [rd, e]⟩
        | dct _ => left; simp [rd, e]
      | lck o =>
        cases o with
        | lst xs => right; left; exact ⟨n, xs, rfl, .inr e, by simp [rd, e]⟩
        | dct _ => left; simp [rd, e]
      | frz xs => right; right; exact ⟨n, xs, rfl, e, by simp [rd, e]⟩
      | ded => left; simp [rd, e]
  | _ => left; rfl
theorem rp_lst (so : StOk K fm S H) (r : Rp K fm S H u v) {us : List U} (e : rd S u = .lst us) : ∃ a vs, v = .ref a ∧ H a = some (.lst vs) ∧ Rps K fm S H us vs := by
  rcases rd_cases S u with h | ⟨n, xs, rfl, h, h2⟩ | ⟨n, xs, rfl, h, h2⟩
  · rw [h] at e; subst e
    cases r with
    | lst h1 _ h3 => exact ⟨_, _, rfl, h1, h3⟩
  · rw [h2] at e; cases e
    cases r with
    | ref hf =>
      rcases h with h | h
      · obtain ⟨vs, h1, h3⟩ := so.obj _ _ _ hf h; exact ⟨_, vs, rfl, h1, h3⟩
      · obtain ⟨vs, h1, h3⟩ := so.obj _ _ _ hf h; exact ⟨_, vs, rfl, h1, h3⟩
  · rw [h2] at e; cases e
theorem rp_tup (r : Rp K fm S H u v) {us : List U} (e : rd S u = .tup us) : ∃ a vs, v = .ref a ∧ SqT K H a vs ∧ Rps K fm S H us vs := by
  rcases rd_cases S u with h | ⟨n, xs, rfl, h, h2⟩ | ⟨n, xs, rfl, h, h2⟩
  · rw [h] at e; subst e
    cases r with
    | tup h1 _ h3 => exact ⟨_, _, rfl, .inl (.inl h1), h3⟩
    | tupK h1 h3 => exact ⟨_, _, rfl, .inr h1, h3⟩
  · rw [h2] at e; cases e
  · rw [h2] at e; cases e
theorem rp_fz (so : StOk K fm S H) (r : Rp K fm S H u v) {us : List U} (e : rd S u = .fz us) : ∃ a vs, v = .ref a ∧ SqL K H a vs ∧ Rps K fm S H us vs := by
  rcases rd_cases S u with h | ⟨n, xs, rfl, h, h2⟩ | ⟨n, xs, rfl, h, h2⟩
  · rw [h] at e; subst e
    cases r with
    | fzK h1 h3 => exact ⟨_, _, rfl, .inr h1, h3⟩
  · rw [h2] at e; cases e
  · rw [h2] at e; cases e
    cases r with
    | ref hf => obtain ⟨vs, h1, h3⟩ := so.obj _ _ _ hf h; exact ⟨_, vs, rfl, h1.sq, h3⟩
theorem rp_int (r : Rp K fm S H u v) {i : Int} (e : rd S u = .int i) : v = .int i := by
  rcases rd_cases S u with h | ⟨n, xs, rfl, h, h2⟩ | ⟨n, xs, rfl, h, h2⟩
  · rw [h] at e; subst e; cases r; rfl
  · rw [h2] at e; cases e
  · rw [h2] at e; cases e
theorem rp_bl (r : Rp K fm S H u v) {b : Bool} (e : rd S u = .bl b) : v = .bl b := by
  rcases rd_cases S u with h | ⟨n, xs, rfl, h, h2⟩ | ⟨n, xs, rfl, h, h2⟩
  · rw [h] at e; subst e; cases r; rfl
  · rw [h2] at e; cases e
  · rw [h2] at e; cases e
theorem rp_str (r : Rp K fm S H u v) {b : Str} (e : rd S u = .str b) : v = .str b := by
  rcases rd_cases S u with h | ⟨n, xs, rfl, h, h2⟩ | ⟨n, xs, rfl, h, h2⟩
  · rw [h] at e; subst e; cases r; rfl
  · rw [h2] at e; cases e
  · rw [h2] at e; cases e
theorem rp_non (r : Rp K fm S H u v) (e : rd S u = .non) : v = .non := by
  rcases rd_cases S u with h | ⟨n, xs, rfl, h, h2⟩ | ⟨n, xs, rfl, h, h2⟩
  · rw [h] at e; subst e; cases r; rfl
  · rw [h2] at e; cases e
  · rw [h2] at e; cases e
theorem rp_seq (so : StOk K fm S H) (r : Rp K fm S H u v) {us : List U} (e : seqOf S u = some us) : ∃ a vs, v = .ref a ∧ (SqL K H a vs ∨ SqT K H a vs) ∧ Rps K fm S H us vs := by
  unfold seqOf at e
  split at e
  · rename_i xs h; cases e
    obtain ⟨a, vs, h1, h2, h3⟩ := rp_tup r h; exact ⟨a, vs, h1, .inr h2, h3⟩
  · rename_i xs h; cases e
    obtain ⟨a, vs, h1, h2, h3⟩ := rp_lst so r h; exact ⟨a, vs, h1, .inl (SqL.of h2), h3⟩
  · rename_i xs h; cases e
    obtain ⟨a, vs, h1, h2, h3⟩ := rp_fz so r h; exact ⟨a, vs, h1, .inl h2, h3⟩
  · cases e

/-- a value has come, nothing else -/
def VRes (K : PySem.W.Frag) (fm : List Addr) (S : Sto) (H : Hp) (z : U) (Q : VK) : Prop :=
  ∀ (fm' : List Addr) (H' : Hp) (v : V), Stp fm S H fm' S H' → StOk K fm' S H' → Rp K fm' S H' z v → Q v H'
theorem VRes.here {z : U} {Q : VK} (h : VRes K fm S H z Q) (so : StOk K fm S H) (r : Rp K fm S H z v) : Q v H := h fm H v .refl so r
theorem VRes.tup {us : List U} {vs : List V} {Q : VK} (h : VRes K fm S H (.tup us) Q) (so : StOk K fm S H) (r : Rps K fm S H us vs) : ∀ p, H p = none → Q (.ref p) (upd H p (.tup vs)) :=
  fun p hp => h fm _ _ (stp_new so hp) (ok_new so hp) (rp_newT so hp r)
theorem VRes.lst {us : List U} {vs : List V} {Q : VK} (h : VRes K fm S H (.lst us) Q) (so : StOk K fm S H) (r : Rps K fm S H us vs) : ∀ p, H p = none → Q (.ref p) (upd H p (.lst vs)) :=
  fun p hp => h fm _ _ (stp_new so hp) (ok_new so hp) (rp_newL so hp r)
end

section
variable {X : Cx}
/-! ### operators -/
def rBin (K : PySem.W.Frag) (o : Op) : R2 := fun x y H Q => ∃ fm S u v z, StOk K fm S H ∧ Rp K fm S H u x ∧ Rp K fm S H v y ∧ binU S o u v = some z ∧ VRes K fm S H z Q

theorem mulOk_of {i j : Int} (h : mulOk i j = true) : CMul i j := by
  unfold mulOk at h
  simp only [Bool.or_eq_true, Bool.and_eq_true, decide_eq_true_eq] at h
  exact h
theorem int2_some {f : Int → Int → Option U} {a b z : U} (h : int2 f a b = some z) : ∃ i j, a = .int i ∧ b = .int j ∧ f i j = some z := by
  unfold int2 at h
  split at h
  · exact ⟨_, _, rfl, rfl, h⟩
  · cases h
theorem op_subU : OpR X (binaryOp .Sub) (rBin X.K .sub) := by
  intro pins s σ H x y v u Q I r1 r2 ⟨fm, S, a, b, z, so, ra, rb, e, q⟩
  obtain ⟨i, j, h1, h2, e⟩ := int2_some e
  cases e
  rw [rp_int ra h1] at r1
  rw [rp_int rb h2] at r2
  exact op_sub pins s σ H _ _ v u Q I r1 r2 ⟨i, j, rfl, rfl, q.here so (.int _)⟩
theorem op_modU : OpR X (binaryOp .Mod) (rBin X.K .mod) := by
  intro pins s σ H x y v u Q I r1 r2 ⟨fm, S, a, b, z, so, ra, rb, e, q⟩
  obtain ⟨i, j, h1, h2, e⟩ := int2_some e
  rw [rp_int ra h1] at r1
  rw [rp_int rb h2] at r2
  split at e
  · rename_i hj; cases e
    exact op_mod pins s σ H _ _ v u Q I r1 r2 ⟨i, j, rfl, rfl, hj, q.here so (.int _)⟩
  · cases e
theorem op_fdivU : OpR X (binaryOp .FloorDiv) (rBin X.K .fdiv) := by
  intro pins s σ H x y v u Q I r1 r2 ⟨fm, S, a, b, z, so, ra, rb, e, q⟩
  obtain ⟨i, j, h1, h2, e⟩ := int2_some e
  rw [rp_int ra h1] at r1
  rw [rp_int rb h2] at r2
  split at e
  · rename_i hj; cases e
    exact op_fdivW pins s σ H _ _ v u Q I r1 r2 ⟨i, j, rfl, rfl, hj, q.here so (.int _)⟩
  · cases e
theorem op_powU : OpR X (binaryOp .Pow) (rBin X.K .pow) := by
  intro pins s σ H x y v u Q I r1 r2 ⟨fm, S, a, b, z, so, ra, rb, e, q⟩
  obtain ⟨i, j, h1, h2, e⟩ := int2_some e
  rw [rp_int ra h1] at r1
  rw [rp_int rb h2] at r2
  split at e
  · rename_i hj; cases e
    exact op_pow pins s σ H _ _ v u Q I r1 r2 ⟨i, j, rfl, rfl, hj, q.here so (.int _)⟩
  · cases e
theorem lim_eq : lim = sizeLine := by rw [sizeLine_eq]
theorem rp_tupU {K : PySem.W.Frag} {fm : List Addr} {S : Sto} {H : Hp} {u : U} {v : V} {us : List U} (r : Rp K fm S H u v) (e : rd S u = .tup us) : Rp K fm S H (.tup us) v := by
  rcases rd_cases S u with h | ⟨n, xs, rfl, h, h2⟩ | ⟨n, xs, rfl, h, h2⟩
  · rw [h] at e; subst e; exact r
  · rw [h2] at e; cases e
  · rw [h2] at e; cases e
theorem cat_tup0 {prog : Program} {w : World} {A : Around} {E : Value → Shared → Prop} {s : Shared} {t b : Addr} {ws : List Value} {Q : Value → Shared → Prop} (ht : IsTup s.heap t #[]) (hb : IsTup s.heap b ws.toArray)
    (h1 : Q (.ref b) s) : wpAny (model prog w) A (binaryOp .Add (.ref t) (.ref b)) Q E s := by
  obtain ⟨⟨cls, dd, data, sl⟩, ho, hc, n, hd⟩ := id ht
  obtain ⟨⟨cls2, dd2, data2, sl2⟩, ho2, hc2, n2, hd2⟩ := id hb
  simp only at hc hd hc2 hd2
  subst hc hd hc2 hd2
  exact concat_meets ⟨_, ho, rfl⟩ ⟨_, ho2, rfl⟩ noFill_tuple_add seq_tuple_add PySem.F.slot_tuple_add PySem.F.entry_tuple_add (PySem.F.args_tuple_add_2 _ _)
      (tuple_addW0 t b #[] ws.toArray n n2 dd dd2 sl sl2 rfl) ⟨ho, ho2, h1⟩
theorem op_addU : OpR X (binaryOp .Add) (rBin X.K .add) := by
  intro pins s σ H x y v u Q I r1 r2 ⟨fm, S, a, b, z, so, ra, rb, e, q⟩
  replace e : addU (rd S a) (rd S b) = some z := e
  unfold addU at e
  split at e
  · rename_i i j h1 h2; cases e
    rw [rp_int ra h1] at r1
    rw [rp_int rb h2] at r2
    exact op_add pins s σ H _ _ v u Q I r1 r2 ⟨i, j, rfl, rfl, q.here so (.int _)⟩
  · rename_i xs ys h1 h2
    split at e
    · rename_i hl; cases e
      obtain ⟨p, vs, rfl, t1, k1⟩ := rp_tup ra h1
      obtain ⟨p', vs', rfl, t2, k2⟩ := rp_tup rb h2
      have hz : vs.length + vs'.length ≤ sizeLine := by rw [← k1.length, ← k2.length, ← lim_eq]; exact hl
      cases vs with
      | nil =>
        cases k1
        cases r1
        cases r2
        obtain ⟨its, rv, p1, _⟩ := I.tuple t1
        cases rv
        obtain ⟨its2, rv2, p2, _⟩ := I.tuple t2
        exact cat_tup0 p1 p2 ⟨.ref p', H, I, rfl, q.here so (rp_tupU rb h2)⟩
      | cons v0 vr =>
        refine op_catT pins s σ H _ _ v u Q I r1 r2 ⟨p, p', v0 :: vr, vs', rfl, rfl, t1, t2, by simp, hz, fun e => ?_, fun _ => q.tup so (k1.append k2)⟩
        subst e
        cases k2
        rw [List.append_nil] at q
        exact q.here so (rp_tupU ra h1)
    · cases e
  · rename_i xs ys h1 h2
    split at e
    · rename_i hl; cases e
      obtain ⟨p, vs, rfl, t1, k1⟩ := rp_lst so ra h1
      obtain ⟨p', vs', rfl, t2, k2⟩ := rp_lst so rb h2
      have hz : vs.length + vs'.length ≤ sizeLine := by rw [← k1.length, ← k2.length, ← lim_eq]; exact hl
      exact op_cat pins s σ H _ _ v u Q I r1 r2 ⟨p, p', vs, vs', rfl, rfl, t1, t2, hz, q.lst so (k1.append k2)⟩
    · cases e
  · cases e

/-! ### t * k -/
theorem tuple_mulW0 (l : Addr) (items : Array Value) (n : Nat) (dd : Option Addr) (sl : Array (Option Value)) (x : Int) (u : Tok) (c0 : (decide (x < -(2 ^ 63)) || decide (x ≥ 2 ^ 63)) = false) (c1 : (items.isEmpty || x == 1) = true) :
    Meets (Builtin.«tuple.__mul__» ⟨[.ref l, .int x u], []⟩) (fun _ R s => s.heap.get? l = some { cls := .type "tuple", dict := dd, data := .seq items n, slots := sl } ∧ R (.ok (.ret (Value.ref l))) s) :=
  .of_wp fun prog w A R s h => by
    obtain ⟨hp, g, d, tk, os⟩ := s
    obtain ⟨hl, h⟩ := h
    have f1 := AutoSeq1.idx_int
    wp_walk using wpAny_loadPart' hl
    repeat (first
      | (refine wpAny_ite_false (decide_eq_false (by rw [c0]; exact Bool.false_ne_true)) ?_; wp_walk using wpAny_loadPart' hl)
      | (refine wpAny_ite_true (decide_eq_true (by rw [c1])) ?_; wp_walk using wpAny_loadPart' hl))
    exact ⟨_, rfl, h⟩
theorem tuple_mulW1 (l : Addr) (items : Array Value) (n : Nat) (dd : Option Addr) (sl : Array (Option Value)) (x : Int) (u : Tok) (c0 : (decide (x < -(2 ^ 63)) || decide (x ≥ 2 ^ 63)) = false) (c1 : (items.isEmpty || x == 1) = false) (c2 : (decide (x ≤ 0) || items.isEmpty) = true) :
    Meets (Builtin.«tuple.__mul__» ⟨[.ref l, .int x u], []⟩) (fun _ R s => s.heap.get? l = some { cls := .type "tuple", dict := dd, data := .seq items n, slots := sl } ∧
      R (.ok (.ret (Value.ref s.heap.objs.size))) { s with heap := s.heap.push { cls := Value.type "tuple", data := Data.seq #[] }, toks := s.toks }) :=
  .of_wp fun prog w A R s h => by
    obtain ⟨hp, g, d, tk, os⟩ := s
    obtain ⟨hl, h⟩ := h
    have f1 := AutoSeq1.idx_int
    wp_walk using wpAny_loadPart' hl
    repeat (first
      | (refine wpAny_ite_false (decide_eq_false (by rw [c0]; exact Bool.false_ne_true)) ?_; wp_walk using wpAny_loadPart' hl)
      | (refine wpAny_ite_false (decide_eq_false (by rw [c1]; exact Bool.false_ne_true)) ?_; wp_walk using wpAny_loadPart' hl)
      | (refine wpAny_ite_true (decide_eq_true (by rw [c2])) ?_; wp_walk using wpAny_loadPart' hl))
    exact ⟨_, rfl, h⟩
end
end Ev
set_option Elab.async false
set_option linter.all false
set_option maxRecDepth 100000
set_option maxHeartbeats 2000000
/-! Ev4: products, comparisons by values. -/
namespace Ev
open PySem PySem.Spec PyProof.Rows L2
section
variable {X : Cx}
theorem rep_le {α : Type} (xs : List α) (k : Nat) : (List.replicate k xs).flatten.length = k * xs.length := PyProof.Rows.lm_len_rep_flat ..
theorem op_mulU : OpR X (binaryOp .Mult) (rBin X.K .mul) := by
  intro pins s σ H x y v u Q I r1 r2 ⟨fm, S, a, b, z, so, ra, rb, e, q⟩
  replace e : mulU (rd S a) (rd S b) = some z := e
  unfold mulU at e
  split at e
  · rename_i i j h1 h2
    split at e
    · rename_i hm; cases e
      rw [rp_int ra h1] at r1
      rw [rp_int rb h2] at r2
      exact op_mul pins s σ H _ _ v u Q I r1 r2 ⟨i, j, rfl, rfl, mulOk_of hm, q.here so (.int _)⟩
    · cases e
  · rename_i us k h1 h2
    split at e
    · rename_i hl; cases e
      obtain ⟨l, xs, rfl, hT, k1⟩ := rp_tup ra h1
      rw [rp_int rb h2] at r2
      obtain ⟨hz, h2k, h1k⟩ := hl
      rw [k1.length] at hz
      by_cases hgood : xs ≠ [] ∧ 2 ≤ k
      · exact op_repT pins s σ H _ _ v u Q I r1 r2 ⟨l, k, xs, rfl, rfl, hT, hgood.1, hgood.2, h2k, hz, q.tup so (k1.rep _)⟩
      · cases r1
        obtain ⟨t, rfl⟩ := r2
        have hT' := hT
        obtain ⟨its, r, ⟨⟨cls, dd, data, sl⟩, ho, hc, n, hd⟩, hs⟩ := I.tuple hT
        simp only at hc hd
        subst hc hd
        have hle : its.length = xs.length := r.length.symm
        have c0 : (decide (k < -(2 ^ 63)) || decide (k ≥ 2 ^ 63)) = false := by
          rw [decide_eq_false (by omega), decide_eq_false (by omega)] <;> rfl
        by_cases c1 : (its.toArray.isEmpty || k == 1) = true
        · refine wpAny_binaryOp_repeat_ref (T := "tuple") (U := "int") (by decide) ⟨_, ho, rfl⟩ (fun s' => typeIs_int s' k t) noFill_tuple_mul F.fills_int_mul F.slot_int_rmul repeat_tuple F.slot_int_index.lookup
            (call_meets F.slot_int_rmul (typeIs_int s k t) F.entry_int_rmul (F.args_int_rmul_2 _ _) (int_rmul_tuple k t l its.toArray n dd sl)
              ⟨ho, rfl, ⟨_, ho, rfl⟩, call_meets F.slot_tuple_mul ⟨_, ho, rfl⟩ F.entry_tuple_mul (F.args_tuple_mul_2 _ _) (tuple_mulW0 l its.toArray n dd sl k t c0 c1) ⟨ho, ?_⟩⟩)
          refine ⟨.ref l, H, I, rfl, ?_⟩
          have e2 : (List.replicate k.toNat us).flatten = us := by
            rw [Bool.or_eq_true] at c1
            rcases c1 with c1 | c1
            · have : us = [] := by
                have z : its = [] := by simpa using c1
                rw [z] at hle
                exact List.eq_nil_of_length_eq_zero (by rw [k1.length, ← hle]; rfl)
              subst this
              simp
            · have : k = 1 := eq_of_beq c1
              subst this
              show (List.replicate 1 us).flatten = us
              simp
          rw [e2] at q
          exact q.here so (rp_tupU ra h1)
        · have c1 : (its.toArray.isEmpty || k == 1) = false := by simpa using c1
          have c1' := c1
          rw [Bool.or_eq_false_iff] at c1'
          have hne : xs ≠ [] := by
            rintro rfl
            have : its = [] := List.eq_nil_of_length_eq_zero hle
            rw [this] at c1'
            simp at c1'
          have hk1 : k ≠ 1 := by simpa using c1'.2
          have hk : k ≤ 0 := by
            have : ¬ 2 ≤ k := fun z => hgood ⟨hne, z⟩
            omega
          have c2 : (decide (k ≤ 0) || its.toArray.isEmpty) = true := by rw [decide_eq_true hk]; rfl
          refine wpAny_binaryOp_repeat_ref (T := "tuple") (U := "int") (by decide) ⟨_, ho, rfl⟩ (fun s' => typeIs_int s' k t) noFill_tuple_mul F.fills_int_mul F.slot_int_rmul repeat_tuple F.slot_int_index.lookup
            (call_meets F.slot_int_rmul (typeIs_int s k t) F.entry_int_rmul (F.args_int_rmul_2 _ _) (int_rmul_tuple k t l its.toArray n dd sl)
              ⟨ho, rfl, ⟨_, ho, rfl⟩, call_meets F.slot_tuple_mul ⟨_, ho, rfl⟩ F.entry_tuple_mul (F.args_tuple_mul_2 _ _) (tuple_mulW1 l its.toArray n dd sl k t c0 c1 c2) ⟨ho, ?_⟩⟩)
          have e2 : (List.replicate k.toNat us).flatten = [] := by
            have : k.toNat = 0 := by omega
            rw [this]; rfl
          rw [e2] at q
          refine ⟨.ref s.heap.objs.size, _, I.laid (t' := s.toks) (o := .tup []) (fun b ob q => Heap.get?_push_of_some _ q) (Nat.le_refl _) ?_, rfl, q.tup so .nil _ (I.hok.fresh (Nat.le_refl _))⟩
          exact ⟨Nat.zero_le _, [], .nil, IsTup.new _ _⟩
    · cases e
  · cases e

/-! ### comparisons -/
def rCmp (K : PySem.W.Frag) (o : Cp) : R2 := fun x y H Q => ∃ fm S u v b, StOk K fm S H ∧ Rp K fm S H u x ∧ Rp K fm S H v y ∧ cmpU S o u v = some b ∧ Q (.bl b) H

theorem op_ltU : OpR X (compareOp .Lt) (rCmp X.K .lt) := by
  intro pins s σ H x y v u Q I r1 r2 ⟨fm, S, a, b, k, so, ra, rb, e, q⟩
  simp only [cmpU] at e
  split at e
  · cases e; cases ra; cases rb
    exact op_lt pins s σ H _ _ v u Q I r1 r2 ⟨_, _, rfl, rfl, q⟩
  · cases e
theorem op_leU : OpR X (compareOp .LtE) (rCmp X.K .le) := by
  intro pins s σ H x y v u Q I r1 r2 ⟨fm, S, a, b, k, so, ra, rb, e, q⟩
  simp only [cmpU] at e
  split at e
  · cases e; cases ra; cases rb
    exact op_le pins s σ H _ _ v u Q I r1 r2 ⟨_, _, rfl, rfl, q⟩
  · cases e
theorem op_gtU : OpR X (compareOp .Gt) (rCmp X.K .gt) := by
  intro pins s σ H x y v u Q I r1 r2 ⟨fm, S, a, b, k, so, ra, rb, e, q⟩
  simp only [cmpU] at e
  split at e
  · cases e; cases ra; cases rb
    exact op_gt pins s σ H _ _ v u Q I r1 r2 ⟨_, _, rfl, rfl, q⟩
  · cases e
theorem op_geU : OpR X (compareOp .GtE) (rCmp X.K .ge) := by
  intro pins s σ H x y v u Q I r1 r2 ⟨fm, S, a, b, k, so, ra, rb, e, q⟩
  simp only [cmpU] at e
  split at e
  · cases e; cases ra; cases rb
    exact op_ge pins s σ H _ _ v u Q I r1 r2 ⟨_, _, rfl, rfl, q⟩
  · cases e

/-! ### == of anything -/
mutual
def toD : U → PyData
  | .bl b => .bool b
  | .int i => .int i
  | .str x => .str x
  | .tup xs => .tuple (toDs xs)
  | .lst xs => .list (toDs xs)
  | _ => .none
def toDs : List U → List PyData
  | [] => []
  | x :: xs => toD x :: toDs xs
end
variable {K : PySem.W.Frag} {fm : List Addr} {S : Sto} {H : Hp}
mutual
theorem toD_dp : ∀ (k : Nat) {u : U} {v : V}, okD k u = true → Rp K fm S H u v → Dp K H v (toD u)
  | k, .non, _, _, .non => by simp only [toD]; exact .non
  | k, .bl _, _, _, .bl b => by simp only [toD]; exact .bl b
  | k, .int _, _, _, .int b => by simp only [toD]; exact .int b
  | k, .str _, _, _, .str b => by simp only [toD]; exact .str b
  | k + 1, .tup us, _, h, .tup h1 _ h3 => by simp only [toD]; exact .tup (SqT.of h1) (toDs_dp k (by simpa [okD] using h) h3)
  | k + 1, .tup us, _, h, .tupK h1 h3 => by simp only [toD]; exact .tup (.inr h1) (toDs_dp k (by simpa [okD] using h) h3)
  | k + 1, .lst us, _, h, .lst h1 _ h3 => by simp only [toD]; exact .lst (SqL.of h1) (toDs_dp k (by simpa [okD] using h) h3)
  | 0, .tup us, _, h, _ => by simp [okD] at h
  | 0, .lst us, _, h, _ => by simp [okD] at h
  | k, .fz _, _, h, _ => by simp [okD] at h
  | k, .ref _, _, h, _ => by simp [okD] at h
  | k, .exc _, _, h, _ => by simp [okD] at h
theorem toDs_dp : ∀ (k : Nat) {us : List U} {vs : List V}, okDs k us = true → Rps K fm S H us vs → DpAll K H vs (toDs us)
  | k, [], _, _, .nil => by simp only [toDs]; exact .nil
  | k, u :: us, _, h, .cons h1 h2 => by
    simp only [okDs, Bool.and_eq_true] at h
    simp only [toDs]
    exact .cons (toD_dp k h.1 h1) (toDs_dp k h.2 h2)
end
mutual
theorem toD_lay : ∀ (k : Nat) {u : U}, okD k u = true → (toD u).canLay0 = true ∧ (toD u).depth ≤ k
  | k, .non, _ => by simp only [toD]; exact ⟨rfl, Nat.zero_le _⟩
  | k, .bl _, _ => by simp only [toD]; exact ⟨rfl, Nat.zero_le _⟩
  | k, .int _, _ => by simp only [toD]; exact ⟨rfl, Nat.zero_le _⟩
  | k, .str x, h => by simp only [toD]; exact ⟨by simpa [okD, PyData.canLay0] using h, Nat.zero_le _⟩
  | k + 1, .tup us, h => by
    have := toDs_lay k (us := us) (by simpa [okD] using h)
    simp only [toD]
    exact ⟨by simpa [PyData.canLay0] using this.1, by simp only [PyData.depth]; have := this.2; omega⟩
  | k + 1, .lst us, h => by
    have := toDs_lay k (us := us) (by simpa [okD] using h)
    simp only [toD]
    exact ⟨by simpa [PyData.canLay0] using this.1, by simp only [PyData.depth]; have := this.2; omega⟩
  | 0, .tup us, h => by simp [okD] at h
  | 0, .lst us, h => by simp [okD] at h
  | k, .fz _, h => by simp [okD] at h
  | k, .ref _, h => by simp [okD] at h
  | k, .exc _, h => by simp [okD] at h
theorem toDs_lay : ∀ (k : Nat) {us : List U}, okDs k us = true → PyData.canLayAll0 (toDs us) = true ∧ PyData.depthAll (toDs us) ≤ k
  | k, [], _ => by simp only [toDs]; exact ⟨rfl, Nat.zero_le _⟩
  | k, u :: us, h => by
    simp only [okDs, Bool.and_eq_true] at h
    have h1 := toD_lay k h.1
    have h2 := toDs_lay k h.2
    simp only [toDs]
    exact ⟨by simp [PyData.canLayAll0, h1.1, h2.1], by simp only [PyData.depthAll]; have := h1.2; have := h2.2; omega⟩
end
end
end Ev
set_option Elab.async false
set_option linter.all false
set_option maxRecDepth 100000
set_option maxHeartbeats 2000000
/-! Ev5: ==, is, built-ins by values. -/
namespace Ev
open PySem PySem.Spec PyProof.Rows L2
mutual
theorem eqv_toD : ∀ (k : Nat) (u v : U), okD k u = true → okD k v = true → PyData.eqv (toD u) (toD v) = eqU u v := by
  intro k u v h1 h2
  cases u <;> cases v <;> first
    | (simp [okD] at h1; done) | (simp [okD] at h2; done)
    | (simp [toD, PyData.eqv, eqU]; done)
    | skip
  · rename_i xs ys
    cases k with
    | zero => simp [okD] at h1
    | succ k =>
      simp only [toD, PyData.eqv, eqU]
      exact eqv_toDs k xs ys (by simpa [okD] using h1) (by simpa [okD] using h2)
  · rename_i xs ys
    cases k with
    | zero => simp [okD] at h1
    | succ k =>
      simp only [toD, PyData.eqv, eqU]
      exact eqv_toDs k xs ys (by simpa [okD] using h1) (by simpa [okD] using h2)
theorem eqv_toDs : ∀ (k : Nat) (us vs : List U), okDs k us = true → okDs k vs = true → PyData.eqvAll (toDs us) (toDs vs) = eqUs us vs := by
  intro k us vs h1 h2
  cases us with
  | nil => cases vs <;> simp [toDs, PyData.eqvAll, eqUs]
  | cons u us =>
    cases vs with
    | nil => simp [toDs, PyData.eqvAll, eqUs]
    | cons v vs =>
      simp only [okDs, Bool.and_eq_true] at h1 h2
      simp only [toDs, PyData.eqvAll, eqUs]
      rw [eqv_toD k u v h1.1 h2.1, eqv_toDs k us vs h1.2 h2.2]
end
section
variable {X : Cx}
theorem rp_rd {K : PySem.W.Frag} {fm : List Addr} {S : Sto} {H : Hp} {u : U} {v : V} (so : StOk K fm S H) (r : Rp K fm S H u v) : rd S u = u ∨ (∃ us vs a, rd S u = .lst us ∧ v = .ref a ∧ H a = some (.lst vs) ∧ Rps K fm S H us vs) ∨ ∃ us, rd S u = .fz us := by
  rcases rd_cases S u with h | ⟨n, xs, rfl, h, h2⟩ | ⟨n, xs, rfl, h, h2⟩
  · exact .inl h
  · obtain ⟨a, vs, e, h1, h3⟩ := rp_lst so r h2
    exact .inr (.inl ⟨xs, vs, a, h2, e, h1, h3⟩)
  · exact .inr (.inr ⟨xs, h2⟩)
theorem dp_rd {K : PySem.W.Frag} {fm : List Addr} {S : Sto} {H : Hp} {u : U} {v : V} (so : StOk K fm S H) (r : Rp K fm S H u v) (h : okD 20 (rd S u) = true) : Dp K H v (toD (rd S u)) := by
  rcases rp_rd so r with e | ⟨us, vs, a, e, rfl, h1, h3⟩ | ⟨us, e⟩
  · rw [e] at h ⊢; exact toD_dp 20 h r
  · rw [e] at h ⊢
    simp only [toD]
    exact .lst (SqL.of h1) (toDs_dp 19 (by simpa [okD] using h) h3)
  · rw [e] at h; simp [okD] at h
theorem eqV_some {u v : U} {b : Bool} (h : eqV? u v = some b) : okD 20 u = true ∧ okD 20 v = true ∧ eqU u v = b := by
  unfold eqV? at h
  split at h
  · rename_i c; cases h; exact ⟨c.1, c.2, rfl⟩
  · cases h
theorem shaped_of {u : U} (h : okD 20 u = true) : SeqAt.shaped (toD u) = true := by
  have := toD_lay 20 h
  unfold SeqAt.shaped
  rw [this.1, decide_eq_true (by have := this.2; omega)]; rfl
theorem op_eqU (hu : X.A.units + 64 < cLine) : OpR X (compareOp .Eq) (rCmp X.K .eq) := by
  intro pins s σ H x y v u Q I r1 r2 ⟨fm, S, a, b, k, so, ra, rb, e, q⟩
  obtain ⟨h1, h2, h3⟩ := eqV_some (show eqV? (rd S a) (rd S b) = some k from e)
  subst h3
  rw [← eqv_toD 20 _ _ h1 h2] at q
  exact op_eqD hu pins s σ H _ _ v u Q I r1 r2 ⟨_, _, dp_rd so ra h1, dp_rd so rb h2, shaped_of h1, shaped_of h2, q⟩
theorem op_neU (hu : X.A.units + 64 < cLine) : OpR X (compareOp .NotEq) (rCmp X.K .ne) := by
  intro pins s σ H x y v u Q I r1 r2 ⟨fm, S, a, b, k, so, ra, rb, e, q⟩
  replace e : (eqV? (rd S a) (rd S b)).map (!·) = some k := e
  obtain ⟨k', e', rfl⟩ := Option.map_eq_some_iff.mp e
  obtain ⟨h1, h2, h3⟩ := eqV_some e'
  subst h3
  rw [← eqv_toD 20 _ _ h1 h2] at q
  exact op_neD hu pins s σ H _ _ v u Q I r1 r2 ⟨_, _, dp_rd so ra h1, dp_rd so rb h2, shaped_of h1, shaped_of h2, q⟩

/-! ### is -/
theorem V.ref_ne_bl {a : Addr} {b : Bool} {w : Value} (h : RelV (.ref a) w) : w ≠ .bool b := by cases h; exact fun z => nomatch z
theorem relV_bool {x : V} {w : Value} {b : Bool} (h : RelV x w) : w = .bool b ↔ x = .bl b := by
  cases x with
  | non => cases h; exact ⟨(fun z => nomatch z), (fun z => nomatch z)⟩
  | bl c => cases (show w = Value.bool c from h); exact ⟨fun z => by cases z; rfl, fun z => by cases z; rfl⟩
  | int i => obtain ⟨t, rfl⟩ := h; exact ⟨(fun z => nomatch z), (fun z => nomatch z)⟩
  | str i => obtain ⟨t, rfl⟩ := h; exact ⟨(fun z => nomatch z), (fun z => nomatch z)⟩
  | byt i => obtain ⟨t, rfl⟩ := h; exact ⟨(fun z => nomatch z), (fun z => nomatch z)⟩
  | flt i => obtain ⟨t, rfl⟩ := h; exact ⟨(fun z => nomatch z), (fun z => nomatch z)⟩
  | ref i => cases h; exact ⟨(fun z => nomatch z), (fun z => nomatch z)⟩
  | ty i => cases h; exact ⟨(fun z => nomatch z), (fun z => nomatch z)⟩
theorem rCmpIs {K : PySem.W.Frag} {fm : List Addr} {S : Sto} {H : Hp} {a b : U} {x y : V} {k : Bool} (ra : Rp K fm S H a x) (rb : Rp K fm S H b y) (e : cmpU S .is a b = some k) :
    (y = .non ∧ k = decide (x = .non)) ∨ ∃ c, y = .bl c ∧ k = decide (x = .bl c) := by
  simp only [cmpU] at e
  cases b <;> simp only [reduceCtorEq] at e
  · cases rb
    left
    cases ra <;> simp_all
  · rename_i c
    cases rb
    right
    refine ⟨c, rfl, ?_⟩
    cases ra <;> simp_all
    cases k <;> simp_all
    all_goals (first | (cases c <;> simp_all) | skip)
theorem op_isU : OpR X (compareOp .Is) (rCmp X.K .is) := by
  intro pins s σ H x y v u Q I r1 r2 ⟨fm, S, a, b, k, so, ra, rb, e, q⟩
  rcases rCmpIs ra rb e with ⟨rfl, rfl⟩ | ⟨c, rfl, rfl⟩
  · exact op_isN pins s σ H _ _ v u Q I r1 r2 ⟨rfl, q⟩
  · cases (show u = Value.bool c from r2)
    by_cases h : x = .bl c
    · subst h
      cases (show v = Value.bool c from r1)
      exact wpAny_is_self rfl ⟨.bl true, H, I, rfl, by simpa using q⟩
    · have hv : v ≠ .bool c := fun z => h ((relV_bool r1).mp z)
      refine wpAny_is_other ?_ hv ⟨.bl false, H, I, rfl, by simpa [h] using q⟩
      cases x <;> first | (cases r1; rfl) | (obtain ⟨t, rfl⟩ := r1; rfl) | (cases (show v = Value.bool _ from r1); rfl)
theorem op_isnotU : OpR X (compareOp .IsNot) (rCmp X.K .isnot) := by
  intro pins s σ H x y v u Q I r1 r2 ⟨fm, S, a, b, k, so, ra, rb, e, q⟩
  have e' : cmpU S .is a b = some (!k) := by
    simp only [cmpU] at e ⊢
    cases b <;> simp only [reduceCtorEq] at e ⊢
    · cases a <;> simp_all
    · cases a <;> simp_all <;> (cases k <;> simp_all)
  rcases rCmpIs ra rb e' with ⟨rfl, h0⟩ | ⟨c, rfl, h0⟩
  · have : k = !decide (x = .non) := by rw [← h0]; simp
    subst this
    exact op_notN pins s σ H _ _ v u Q I r1 r2 ⟨rfl, q⟩
  · have : k = !decide (x = .bl c) := by rw [← h0]; simp
    subst this
    cases (show u = Value.bool c from r2)
    by_cases h : x = .bl c
    · subst h
      cases (show v = Value.bool c from r1)
      exact wpAny_isNot_self rfl ⟨.bl false, H, I, rfl, by simpa using q⟩
    · have hv : v ≠ .bool c := fun z => h ((relV_bool r1).mp z)
      refine wpAny_isNot_other ?_ hv ⟨.bl true, H, I, rfl, by simpa [h] using q⟩
      cases x <;> first | (cases r1; rfl) | (obtain ⟨t, rfl⟩ := r1; rfl) | (cases (show v = Value.bool _ from r1); rfl)
end
end Ev
set_option Elab.async false
set_option linter.all false
set_option maxRecDepth 100000
set_option maxHeartbeats 2000000
/-! Ev6: built-ins by values. -/
namespace Ev
open PySem PySem.Spec PyProof.Rows L2
section
variable {X : Cx}
def rBi (K : PySem.W.Frag) (b : Bi) : List V → Hp → VK → Prop := fun xs H Q => ∃ fm S us z, StOk K fm S H ∧ Rps K fm S H us xs ∧ biU S b us = some z ∧ VRes K fm S H z Q
theorem rps1 {K : PySem.W.Frag} {fm : List Addr} {S : Sto} {H : Hp} {u : U} {xs : List V} (h : Rps K fm S H [u] xs) : ∃ x, xs = [x] ∧ Rp K fm S H u x := by
  cases h with
  | cons a b => cases b; exact ⟨_, rfl, a⟩
theorem rps2 {K : PySem.W.Frag} {fm : List Addr} {S : Sto} {H : Hp} {u v : U} {xs : List V} (h : Rps K fm S H [u, v] xs) : ∃ x y, xs = [x, y] ∧ Rp K fm S H u x ∧ Rp K fm S H v y := by
  cases h with
  | cons a b => obtain ⟨y, rfl, r⟩ := rps1 b; exact ⟨_, _, rfl, a, r⟩

theorem cr_absU : CallR X (.builtin "abs") (rBi X.K .abs) := by
  intro pins s σ H xs us Q I r ⟨fm, S, ws, z, so, rr, e, q⟩
  unfold biU at e
  split at e <;> first | contradiction | skip
  rename_i i h
  cases e
  obtain ⟨x, rfl, rx⟩ := rps1 rr
  cases rx
  exact call_abs pins s σ H _ us Q I r ⟨i, rfl, q.here so (.int _)⟩
theorem cr_intU : CallR X (.type "int") (rBi X.K .int) := by
  intro pins s σ H xs us Q I r ⟨fm, S, ws, z, so, rr, e, q⟩
  unfold biU at e
  split at e <;> first | contradiction | skip
  · rename_i i h; cases e
    obtain ⟨x, rfl, rx⟩ := rps1 rr
    cases rx
    exact call_int1 pins s σ H _ us Q I r (.inl ⟨i, rfl, q.here so (.int _)⟩)
  · rename_i i h; cases e
    obtain ⟨x, rfl, rx⟩ := rps1 rr
    cases rx
    exact call_int1 pins s σ H _ us Q I r (.inr ⟨i, rfl, q.here so (.int _)⟩)
theorem cr_lenU : CallR X (.builtin "len") (rBi X.K .len) := by
  intro pins s σ H xs us Q I r ⟨fm, S, ws, z, so, rr, e, q⟩
  unfold biU at e
  split at e <;> first | contradiction | skip
  rename_i u h
  obtain ⟨x, rfl, rx⟩ := rps1 rr
  obtain ⟨ys, e', rfl⟩ := Option.map_eq_some_iff.mp e
  obtain ⟨a, vs, rfl, hs, rv⟩ := rp_seq so rx e'
  rw [rv.length] at q
  exact call_len_seq pins s σ H _ us Q I r ⟨a, vs, rfl, hs, q.here so (.int _)⟩
theorem cr_min2U (hc : X.calm = true) : CallR X (.builtin "min") (rBi X.K .min2) := by
  intro pins s σ H xs us Q I r ⟨fm, S, ws, z, so, rr, e, q⟩
  unfold biU at e
  split at e <;> first | contradiction | skip
  rename_i i j h
  cases e
  obtain ⟨x, y, rfl, rx, ry⟩ := rps2 rr
  cases rx; cases ry
  exact call_min2 hc pins s σ H _ us Q I r ⟨i, j, rfl, q.here so (.int _)⟩
theorem cr_max2U (hc : X.calm = true) : CallR X (.builtin "max") (rBi X.K .max2) := by
  intro pins s σ H xs us Q I r ⟨fm, S, ws, z, so, rr, e, q⟩
  unfold biU at e
  split at e <;> first | contradiction | skip
  rename_i i j h
  cases e
  obtain ⟨x, y, rfl, rx, ry⟩ := rps2 rr
  cases rx; cases ry
  exact call_max2 hc pins s σ H _ us Q I r ⟨i, j, rfl, q.here so (.int _)⟩
theorem rp_seqT {K : PySem.W.Frag} {fm : List Addr} {S : Sto} {H : Hp} {u : U} {v : V} (so : StOk K fm S H) (r : Rp K fm S H u v) {us : List U} (e : seqOf S u = some us) :
    ∃ a vs, v = .ref a ∧ Rps K fm S H us vs ∧ (SqL K H a vs ∨ (SqT K H a vs ∧ Rp K fm S H (.tup us) (.ref a))) := by
  unfold seqOf at e
  split at e
  · rename_i xs h; cases e
    obtain ⟨a, vs, h1, h2, h3⟩ := rp_tup r h
    subst h1
    exact ⟨a, vs, rfl, h3, .inr ⟨h2, rp_tupU r h⟩⟩
  · rename_i xs h; cases e
    obtain ⟨a, vs, h1, h2, h3⟩ := rp_lst so r h; exact ⟨a, vs, h1, h3, .inl (SqL.of h2)⟩
  · rename_i xs h; cases e
    obtain ⟨a, vs, h1, h2, h3⟩ := rp_fz so r h; exact ⟨a, vs, h1, h3, .inl h2⟩
  · cases e
theorem cr_tupleU : CallR X (.type "tuple") (rBi X.K .tuple) := by
  intro pins s σ H xs us Q I r ⟨fm, S, ws, z, so, rr, e, q⟩
  unfold biU at e
  split at e <;> first | contradiction | skip
  rename_i u h
  obtain ⟨x, rfl, rx⟩ := rps1 rr
  obtain ⟨ys, e', rfl⟩ := Option.map_eq_some_iff.mp e
  obtain ⟨a, vs, rfl, rv, hs⟩ := rp_seqT so rx e'
  refine call_tuple_of pins s σ H _ us Q I r ⟨a, vs, rfl, ?_⟩
  rcases hs with hs | ⟨hs, ht⟩
  · exact .inl ⟨hs, q.tup so rv⟩
  · exact .inr ⟨hs, q.here so ht⟩
theorem cr_allU (hc : X.calm = true) : CallR X (.builtin "all") (rBi X.K .all) := by
  intro pins s σ H xs us Q I r ⟨fm, S, ws, z, so, rr, e, q⟩
  unfold biU at e
  split at e <;> first | contradiction | skip
  rename_i u h
  split at e <;> first | contradiction | skip
  rename_i ys h2
  obtain ⟨x, rfl, rx⟩ := rps1 rr
  obtain ⟨bs, e', rfl⟩ := Option.map_eq_some_iff.mp e
  obtain ⟨a, vs, rfl, hs, rv⟩ := rp_lst so rx h2
  rw [rv.bls e'] at hs
  exact cr_all hc pins s σ H _ us Q I r ⟨a, bs, rfl, SqL.of hs, q.here so (.bl _)⟩
theorem cr_anyU (hc : X.calm = true) : CallR X (.builtin "any") (rBi X.K .any) := by
  intro pins s σ H xs us Q I r ⟨fm, S, ws, z, so, rr, e, q⟩
  unfold biU at e
  split at e <;> first | contradiction | skip
  rename_i u h
  split at e <;> first | contradiction | skip
  rename_i ys h2
  obtain ⟨x, rfl, rx⟩ := rps1 rr
  obtain ⟨bs, e', rfl⟩ := Option.map_eq_some_iff.mp e
  obtain ⟨a, vs, rfl, hs, rv⟩ := rp_lst so rx h2
  rw [rv.bls e'] at hs
  exact cr_any hc pins s σ H _ us Q I r ⟨a, bs, rfl, SqL.of hs, q.here so (.bl _)⟩

/-! ### sum of a tuple -/
theorem sum_tupT {pins : List (Addr × Obj)} {σ : L2.St} {H : Hp} {s : Shared} {a : Addr} {ns : List Int} {Q : VK} (hc : X.calm = true) (I : Inv X pins σ H s) (h : SqT X.K H a (ns.map V.int)) (q : Q (.int ns.sum) H) :
    wpAny (model X.prog X.w) X.A (call (.builtin "sum") [.ref a]) (EP X pins σ Q) X.xe s := by
  obtain ⟨its, rv, ht, hz⟩ := I.tuple h
  have hi : IntsAre its ns := rv.ints
  have hl : s.heap.IsTuple a its.toArray := ht
  obtain ⟨xs, hx⟩ := hi.allInts.items
  have hn : numsOf its.toArray.toList = ns := by rw [show its.toArray.toList = its from rfl, hi.numsOf]
  rw [hx] at hl hn
  rw [nums_intItems] at hn
  refine PySem.W.ktm_sumG (I.ok.hd hc) hl fun h' tk t' hk => ?_
  refine ⟨.int ns.sum, H, I.kept (t' := tk) hk, ⟨t', ?_⟩, q⟩
  rw [preSum_eq, List.take_of_length_le (by simp), hn]
theorem cr_sumU (hc : X.calm = true) : CallR X (.builtin "sum") (rBi X.K .sum) := by
  intro pins s σ H xs us Q I r ⟨fm, S, ws, z, so, rr, e, q⟩
  unfold biU at e
  split at e <;> first | contradiction | skip
  rename_i u h
  split at e <;> first | contradiction | skip
  rename_i ys h2
  obtain ⟨x, rfl, rx⟩ := rps1 rr
  obtain ⟨ns, e', rfl⟩ := Option.map_eq_some_iff.mp e
  obtain ⟨a, vs, rfl, hs, rv⟩ := rp_seq so rx h2
  rw [rv.ints e'] at hs
  rcases hs with hs | hs
  · exact cr_sum hc pins s σ H _ us Q I r ⟨a, ns, rfl, hs, q.here so (.int _)⟩
  · rw [Vals.ref1 r]
    exact sum_tupT hc I hs (q.here so (.int _))
end
end Ev
set_option Elab.async false
set_option linter.all false
set_option maxRecDepth 100000
set_option maxHeartbeats 2000000
/-! Ev7: places, slices, methods by values. -/
namespace Ev
open PySem PySem.Spec PyProof.Rows L2
theorem sIx_eq (n d : Nat) (o : Option Int) : Ev.sIx n d o = HT.sIx n d o := by cases o <;> rfl
theorem ixN_eq (n : Nat) (i : Int) : Ev.ixN n i = L2.ixN n i := rfl
section
variable {X : Cx} {K : PySem.W.Frag} {fm : List Addr} {S : Sto} {H : Hp}
theorem Rps.cut {us : List U} {vs : List V} (r : Rps K fm S H us vs) (lo hi : Option Int) : Rps K fm S H (cutU us lo hi) (cutV vs lo hi) := by
  unfold cutU cutV
  rw [sIx_eq, sIx_eq, r.length]
  exact (r.drop _).take _
theorem Rps.at {us : List U} {vs : List V} {i : Int} {u : U} (r : Rps K fm S H us vs) (e : atU us i = some u) : ∃ v, atI vs i = some v ∧ Rp K fm S H u v := by
  unfold atU at e
  unfold atI
  rw [ixN_eq, r.length] at e
  cases q : L2.ixN vs.length i with
  | none => rw [q] at e; cases e
  | some j =>
    rw [q] at e
    exact r.get e

/-! ### a[b] -/
def rIxU (K : PySem.W.Frag) : R2 := fun x y H Q => ∃ fm S u us i z, StOk K fm S H ∧ Rp K fm S H u x ∧ y = .int i ∧ seqOf S u = some us ∧ atU us i = some z ∧ VRes K fm S H z Q
theorem ix_U : IxR X (rIxU X.K) := by
  intro value slice pins s σ H x y v u Q I r1 r2 h hs
  obtain ⟨fm, S, a, us, i, z, so, ra, ey, e, e2, q⟩ := h
  subst ey
  obtain ⟨p, vs, rfl, h, rv⟩ := rp_seq so ra e
  obtain ⟨w, hw, rw'⟩ := rv.at e2
  rcases h with h | h
  · exact ix_list value slice pins s σ H _ _ v u Q I r1 r2 ⟨p, vs, i, w, rfl, rfl, h, hw, q.here so rw'⟩ hs
  · exact ix_tup value slice pins s σ H _ _ v u Q I r1 r2 ⟨p, vs, i, w, rfl, rfl, h, hw, q.here so rw'⟩ hs

/-! ### a[lo:hi] -/
def rSlU (K : PySem.W.Frag) : V → Option Int → Option Int → Hp → VK → Prop := fun x lo hi H Q => ∃ fm S u z, StOk K fm S H ∧ Rp K fm S H u x ∧ slU S u lo hi = some z ∧ VRes K fm S H z Q
theorem sl_U : SlR X (rSlU X.K) := by
  intro pins s σ H x v vl vu lo hi sl Q I rx hs pl pu ⟨fm, S, a, z, so, ra, e, q⟩
  unfold slU at e
  split at e
  · rename_i us h; cases e
    obtain ⟨p, vs, rfl, ht, rv⟩ := rp_tup ra h
    refine sl_tupA pins s σ H _ v vl vu lo hi sl Q I rx hs pl pu ⟨p, vs, rfl, ht, fun hw => ?_, fun _ => q.tup so (rv.cut lo hi)⟩
    have : cutU us lo hi = us := by
      unfold cutU
      rw [sIx_eq, sIx_eq, rv.length, hw.1, hw.2, List.drop_zero, Nat.sub_zero, ← rv.length, List.take_length]
    rw [this] at q
    exact q.here so (rp_tupU ra h)
  · rename_i us h; cases e
    obtain ⟨p, vs, rfl, ht, rv⟩ := rp_lst so ra h
    exact sl_list pins s σ H _ v vl vu lo hi sl Q I rx hs pl pu ⟨p, vs, rfl, SqL.of ht, q.lst so (rv.cut lo hi)⟩
  · rename_i us h; cases e
    obtain ⟨p, vs, rfl, ht, rv⟩ := rp_fz so ra h
    exact sl_list pins s σ H _ v vl vu lo hi sl Q I rx hs pl pu ⟨p, vs, rfl, ht, q.lst so (rv.cut lo hi)⟩
  · cases e

/-! ### a[::-1] -/
def tRevU (K : PySem.W.Frag) (te : TE) : TE := fun σ H Q => te σ H fun x H1 => ∃ fm S u z, StOk K fm S H1 ∧ Rp K fm S H1 u x ∧ revU S u = some z ∧ VRes K fm S H1 z Q
theorem adjust_rev (n : Nat) : Builtin.Slice.sliceAdjust none none (-1) (n : Int) = ((n : Int) - 1, -1) := by
  unfold Builtin.Slice.sliceAdjust
  simp
theorem places_rev (n : Nat) : Builtin.Slice.slicePlaces ((n : Int) - 1) (-1) (-1) = n := by
  unfold Builtin.Slice.slicePlaces
  simp
  omega
theorem pick_rev (xs : Array Value) : ((List.range xs.size).filterMap fun (m : Nat) => xs[(((xs.size : Int) - 1) + (m : Int) * (-1)).toNat]?).toArray = xs.toList.reverse.toArray := by
  have key : ∀ (l : List Value) (k : Nat), k ≤ l.length → ((List.range k).filterMap fun (m : Nat) => l[l.length - 1 - m]?) = (l.drop (l.length - k)).reverse := by
    intro l k
    induction k with
    | zero => intro _; simp
    | succ k ih =>
      intro hk
      rw [List.range_succ, List.filterMap_append, ih (by omega)]
      have e1 : l[l.length - 1 - k]? = some (l[l.length - (k + 1)]'(by omega)) := by
        rw [List.getElem?_eq_getElem (by omega)]
        congr 1
        congr 1
        omega
      have e2 : l.drop (l.length - (k + 1)) = (l[l.length - (k + 1)]'(by omega)) :: l.drop (l.length - k) := by
        rw [List.drop_eq_getElem_cons (by omega)]
        congr 2
        omega
      rw [e2, List.reverse_cons, List.filterMap_cons, List.filterMap_nil, e1]
  have := key xs.toList xs.size (by simp)
  rw [show xs.toList.length = xs.size by simp, Nat.sub_self, List.drop_zero] at this
  rw [← this]
  congr 1
  congr 1
  funext m
  have e : (((xs.size : Int) - 1) + (m : Int) * (-1)).toNat = xs.size - 1 - m := by omega
  rw [e]
  simp
theorem getItem_tuple_rev {prog : Program} {w : World} {A : Around} {E : Value → Shared → Prop} {s : Shared} {t sl : Addr} {items : Array Value} {vl vu vs : Value} {Q : Value → Shared → Prop} (ht : IsTup s.heap t items) (hs : s.heap.IsSliceOf sl vl vu vs) (pl : IsPart vl none) (pu : IsPart vu none) (ps : IsPart vs (some (-1)))
    (h : Q (.ref s.heap.objs.size) { s with heap := s.heap.push { cls := .type "tuple", data := .seq items.toList.reverse.toArray } })
    (hsz : items.size ≤ sizeLine) : wpAny (model prog w) A (getItem (.ref t) (.ref sl)) Q E s := by
  have htake : sizeOk (.seq items.toList.reverse.toArray) := by
    show (items.toList.reverse.toArray).size ≤ sizeLine
    rw [List.size_toArray, List.length_reverse, Array.length_toList]
    exact hsz
  obtain ⟨os, hos, hcs, hds⟩ := id hs
  have hTs : s.TypeIs (.ref sl) "slice" := ⟨os, hos, hcs⟩
  unfold getItem
  try with_reducible refine wpAny_holding ?_
  first | refine wpAny_bind (wpAny_pure ?_) | skip
  refine wpAny_bind (wpAny_sequenceKey ht.typeIs (by decide) ?_)
  refine wpAny_bind (wpAny_callSpecial?_slot (name := Str.ofString "__getitem__") ht.typeIs PyProof.Rows.slot_tuple_getitem
    (wpAny_call_entry PyProof.Rows.slot_tuple_getitem ht.typeIs entry_tuple_getitem ?_ (args_tuple_getitem _ _)))
  show wpAny _ _ (Builtin.Tuple.tupleItemsOf (.ref t) >>= _) _ _ s
  refine wpAny_bind (tupleItemsOf_ ht ?_)
  refine wpAny_bind (wpAny_typeOf hTs ?_)
  rw [if_pos (by decide)]
  unfold Builtin.Slice.sliceApplied Builtin.Slice.sliceFields
  refine wpAny_bind (wpAny_bind (wpAny_bind (wpAny_field hos hds (x := vl) rfl (wpAny_bind (wpAny_field hos hds (x := vu) rfl (wpAny_bind (wpAny_field hos hds (x := vs) rfl (wpAny_pure ?_))))))))
  refine wpAny_bind (HT.slicePart_ ps ?_)
  show wpAny _ _ (if ((-1 : Int) == 0) = true then _ else _) _ _ s
  rw [if_neg (by decide)]
  refine wpAny_bind (HT.slicePart_ pl (wpAny_bind (HT.slicePart_ pu (wpAny_bind (wpAny_pure ?_)))))
  show wpAny _ _ (match Builtin.Slice.sliceAdjust none none (-1) (items.size : Int) with | (lo, hi) => pure (lo, (-1 : Int), Builtin.Slice.slicePlaces lo hi (-1))) _ _ s
  rw [adjust_rev]
  show wpAny _ _ (pure ((items.size : Int) - 1, (-1 : Int), Builtin.Slice.slicePlaces ((items.size : Int) - 1) (-1) (-1))) _ _ s
  rw [places_rev]
  refine wpAny_pure ?_
  have hno : ¬ ((((items.size : Int) - 1 : Int) == 0 && (-1 : Int) == 1 && items.size == items.size) = true) := by
    simp
  show wpAny _ _ (if (((items.size : Int) - 1 : Int) == 0 && (-1 : Int) == 1 && items.size == items.size) = true then _ else _) _ _ s
  rw [if_neg hno, pick_rev]
  first
    | exact wpAny_bind (m := Builtin.Tuple.tupleExact _) (wpAny_newObj_type (wpAny_pure ⟨_, rfl, wpAny_pure h⟩) htake)
    | exact wpAny_bind (m := Builtin.Tuple.tupleExact _) (wpAny_newObj_type (wpAny_bind (wpAny_pure (wpAny_pure ⟨_, rfl, wpAny_pure h⟩))) htake)
    | exact wpAny_bind (wpAny_bind (m := Builtin.Tuple.tupleExact _) (wpAny_newObj_type (wpAny_pure (wpAny_pure ⟨_, rfl, wpAny_pure h⟩)) htake))
    | exact wpAny_bind (wpAny_bind (m := Builtin.Tuple.tupleExact _) (wpAny_newObj_type (wpAny_pure ⟨_, rfl, wpAny_pure h⟩) htake))
theorem pe_revU {e : Expr} {te : TE} {k : Nat} {p1 p2 p3 pos : Pos} (he : PE X e te) : PE X (.Subscript e (.Slice none none (some (.UnaryOp .USub (.Constant (.int 1) k p1) p2)) p3) pos) (tRevU X.K te) := by
  refine ⟨fun pins s σ H Q I h => ?_⟩
  refine Subscript_ (thn (he.run pins s σ H _ I h) fun v s1 ⟨x, H1, I1, r1, q1⟩ => ?_)
  obtain ⟨fm, S, u, z, so, ru, e, q⟩ := q1
  have hst : PO X (some (.UnaryOp .USub (.Constant (.int 1) k p1) p2)) (tPart (tUn (rU fun i => .int (-i)) (tC (.int 1)))) := po_some (pe_un un_neg pe_int)
  refine wpAny_Slice (thn (po_none.run pins s1 σ H1 (fun o H2 => o = none ∧ H2 = H1) I1 ⟨rfl, rfl⟩) fun vl s2 ⟨l, H2, I2, pl, el, e2⟩ => ?_)
  subst el e2
  refine thn (po_none.run pins s2 σ H2 (fun o H3 => o = none ∧ H3 = H2) I2 ⟨rfl, rfl⟩) fun vu s3 ⟨u', H3, I3, pu, eu, e3⟩ => ?_
  subst eu e3
  refine thn (hst.run pins s3 σ H3 (fun o H4 => o = some (-1) ∧ H4 = H3) I3 ⟨1, rfl, -1, rfl, rfl, rfl⟩) fun vs s4 ⟨o, H4, I4, ps, eo, e4⟩ => ?_
  subst eo e4
  have I5 : Inv X pins σ H4 { s4 with heap := s4.heap.push { cls := .type "slice", data := .fields #[vl, vu, vs] } } := I4.kept (t' := s4.toks) fun b ob q => Heap.get?_push_of_some _ q
  show wpAny (model X.prog X.w) X.A (subscriptTail _ (.Slice none none (some (.UnaryOp .USub (.Constant (.int 1) k p1) p2)) p3) v (.ref s4.heap.objs.size)) (EP X pins σ Q) X.xe { s4 with heap := s4.heap.push { cls := .type "slice", data := .fields #[vl, vu, vs] } }
  unfold revU at e
  split at e
  · rename_i us h; cases e
    obtain ⟨a, xs, rfl, hx, rv⟩ := rp_tup ru h
    cases r1
    obtain ⟨its, r, ht, hz⟩ := I5.tuple hx
    have hlen := r.length
    refine tail_any (ops := [.ref a, .ref s4.heap.objs.size]) ht.typeIs (PyProof.Rows.slot_tuple_getitem.lookup) ?_ (by with_unfolding_all rfl)
    refine getItem_tuple_rev ht (Heap.IsSliceOf.new _ vl vu vs) pl pu ps ?_ (by rw [List.size_toArray]; omega)
    refine ⟨.ref _, _, I5.laid (t' := s4.toks) (o := .tup xs.reverse) (fun b ob q => Heap.get?_push_of_some _ q) (Nat.le_refl _) ?_, rfl, q.tup so rv.reverse _ (I5.hok.fresh (Nat.le_refl _))⟩
    exact ⟨by rw [List.length_reverse]; exact hz, _, r.reverse, IsTup.new _ _⟩
  · rename_i us h; cases e
    obtain ⟨a, xs, rfl, hx, rv⟩ := rp_lst so ru h
    cases r1
    obtain ⟨its, r, ht, hz⟩ := I5.list (SqL.of hx)
    have hlen := r.length
    refine tail_any (ops := [.ref a, .ref s4.heap.objs.size]) ht.isList.typeIs (PySem.slot_list_getitem.lookup) ?_ (by with_unfolding_all rfl)
    refine wpAny_getItem_list_slice ht.isList (Heap.IsSliceOf.new _ vl vu vs) pl pu ps (by decide) ?_ (by rw [List.size_toArray]; omega)
    rw [PySem.W.krv_pick]
    refine ⟨.ref _, _, I5.laid (t' := s4.toks) (o := .lst xs.reverse) (fun b ob q => Heap.get?_push_of_some _ q) (Nat.le_refl _) ?_, rfl, q.lst so rv.reverse _ (I5.hok.fresh (Nat.le_refl _))⟩
    exact ⟨by rw [List.length_reverse]; exact hz, _, 0, r.reverse, Heap.get?_push_size _ rfl⟩
  · cases e

/-! ### methods of lists -/
def rMt (K : PySem.W.Frag) (m : Mt) : V → List V → Hp → VK → Prop := fun x xs H Q => ∃ fm S u us z S', StOk K fm S H ∧ Rp K fm S H u x ∧ Rps K fm S H us xs ∧ mthU S m u us = some (z, S') ∧
  ∀ fm' H' v, Stp fm S H fm' S' H' → StOk K fm' S' H' → Rp K fm' S' H' z v → Q v H'
theorem mthU_lst {S : Sto} {m : Mt} {u : U} {us : List U} {r : U × Sto} (e : mthU S m u us = some r) : ∃ n xs, u = .ref n ∧ S[n]? = some (.liv (.lst xs)) := by
  unfold mthU at e
  split at e
  · split at e
    · rename_i n _ xs h; exact ⟨n, xs, rfl, h⟩
    · cases e
  · cases e
/-- the list at n behind a method -/
theorem mt_wr {fm : List Addr} {S : Sto} {H : Hp} {n : Nat} {a : Addr} {us us' : List U} {vs' : List V} {z : U} {w : V} {Q : VK} (so : StOk K fm S H) (hf : fm[n]? = some a) (hs : S[n]? = some (.liv (.lst us)))
    (q : ∀ fm' H' v, Stp fm S H fm' (S.set n (.liv (.lst us'))) H' → StOk K fm' (S.set n (.liv (.lst us'))) H' → Rp K fm' (S.set n (.liv (.lst us'))) H' z v → Q v H') (r : Rps K fm S H us' vs') (rz : Rp K fm S H z w) :
    Q w (upd H a (.lst vs')) := by
  have st := stp_set (o' := .lst us') (ho := .lst vs') so hf hs
  exact q fm _ w st (ok_set so hf hs r) (rz.mono st.toGr)
theorem mt_appU : MtM X "list.append" (rMt X.K .append) := by
  intro pins s σ H x xs v us Q I rx rxs ⟨fm, S, a, ws, z, S', so, ra, rr, e, q⟩
  obtain ⟨n, ls, rfl, hs⟩ := mthU_lst e
  simp only [mthU, hs] at e
  split at e <;> first | contradiction | skip
  rename_i u _
  split at e
  · rename_i hl; cases e
    obtain ⟨y, rfl, ry⟩ := rps1 rr
    cases ra with
    | ref hf =>
      obtain ⟨vs, h1, rv⟩ := so.obj _ _ _ hf hs
      exact mt_append pins s σ H _ _ v us Q I rx rxs ⟨_, vs, y, rfl, rfl, h1, by rw [← rv.length, ← lim_eq]; exact hl, mt_wr so hf hs q (rv.append (.cons ry .nil)) .non⟩
  · cases e
theorem mt_extU : MtM X "list.extend" (rMt X.K .extend) := by
  intro pins s σ H x xs v us Q I rx rxs ⟨fm, S, a, ws, z, S', so, ra, rr, e, q⟩
  obtain ⟨n, ls, rfl, hs⟩ := mthU_lst e
  simp only [mthU, hs] at e
  split at e <;> first | contradiction | skip
  rename_i u _
  split at e <;> first | contradiction | skip
  rename_i ys h2
  split at e
  · rename_i hl; cases e
    obtain ⟨y, rfl, ry⟩ := rps1 rr
    obtain ⟨b, vs2, rfl, h3, rv2⟩ := rp_lst so ry h2
    cases ra with
    | ref hf =>
      obtain ⟨vs, h1, rv⟩ := so.obj _ _ _ hf hs
      exact mt_extend pins s σ H _ _ v us Q I rx rxs ⟨_, b, vs, vs2, rfl, rfl, h1, h3, by rw [← rv.length, ← rv2.length, ← lim_eq]; exact hl, mt_wr so hf hs q (rv.append rv2) .non⟩
  · cases e
theorem getLast_get {α : Type} {l : List α} {y : α} (h : l.getLast? = some y) : l[l.length - 1]? = some y := by rw [← h, List.getLast?_eq_getElem?]
theorem mt_pop0U : MtM X "list.pop" (rMt X.K .pop0) := by
  intro pins s σ H x xs v us Q I rx rxs ⟨fm, S, a, ws, z, S', so, ra, rr, e, q⟩
  obtain ⟨n, ls, rfl, hs⟩ := mthU_lst e
  simp only [mthU, hs] at e
  split at e <;> first | contradiction | skip
  split at e <;> first | contradiction | skip
  rename_i y hy
  cases e
  cases rr
  cases ra with
  | ref hf =>
    obtain ⟨vs, h1, rv⟩ := so.obj _ _ _ hf hs
    obtain ⟨w, hw, rw'⟩ := rv.get (getLast_get hy)
    rw [rv.length] at hw
    exact mt_pop pins s σ H _ _ v us Q I rx rxs ⟨_, vs, w, rfl, rfl, h1, hw, mt_wr so hf hs q rv.dropLast rw'⟩
theorem mt_pop1U : MtM X "list.pop" (rMt X.K .pop1) := by
  intro pins s σ H x xs v us Q I rx rxs ⟨fm, S, a, ws, z, S', so, ra, rr, e, q⟩
  obtain ⟨n, ls, rfl, hs⟩ := mthU_lst e
  simp only [mthU, hs] at e
  split at e <;> first | contradiction | skip
  rename_i i _
  split at e <;> first | contradiction | skip
  rename_i hsm
  split at e <;> first | contradiction | skip
  rename_i k hk
  split at e <;> first | contradiction | skip
  rename_i y hy
  cases e
  obtain ⟨w, rfl, ry⟩ := rps1 rr
  cases ry
  cases ra with
  | ref hf =>
    obtain ⟨vs, h1, rv⟩ := so.obj _ _ _ hf hs
    obtain ⟨w, hw, rw'⟩ := rv.get hy
    rw [ixN_eq, rv.length] at hk
    have hsm' : -(2 ^ 62) ≤ i ∧ i < 2 ^ 62 := by
      unfold small at hsm
      simpa only [Bool.and_eq_true, decide_eq_true_eq] using hsm
    exact mt_popAt pins s σ H _ _ v us Q I rx rxs ⟨_, vs, i, k, w, rfl, rfl, h1, by omega, by omega, (ixN_seq hk).1, hw, mt_wr so hf hs q (rv.eraseIdx k) rw'⟩
/-! ### list(..), sorted(..): new lists -/
/-- a new list has come -/
def QRes (K : PySem.W.Frag) (fm : List Addr) (S : Sto) (H : Hp) (us : List U) (Q : VK) : Prop :=
  ∀ (fm' : List Addr) (H' : Hp) (vs : List V) (p : Addr), Stp fm S H fm' S H' → StOk K fm' S H' → Rps K fm' S H' us vs → H' p = none → Q (.ref p) (upd H' p (.lst vs))
def rLof (K : PySem.W.Frag) : List V → Hp → VK → Prop := fun xs H Q => ∃ fm S u us, StOk K fm S H ∧ Rps K fm S H [u] xs ∧ seqOf S u = some us ∧ QRes K fm S H us Q
theorem cr_lofU : CallR X (.type "list") (rLof X.K) := by
  intro pins s σ H xs us Q I r ⟨fm, S, u, ws, so, rr, e, q⟩
  obtain ⟨x, rfl, rx⟩ := rps1 rr
  obtain ⟨a, vs, rfl, hs, rv⟩ := rp_seq so rx e
  exact call_list_of pins s σ H _ us Q I r ⟨a, vs, rfl, hs, fun l hl => q fm H vs l .refl so rv hl⟩
end

/-! ### dicts -/
section
variable {X : Cx} {K : PySem.W.Frag} {fm : List Addr} {S : Sto} {H : Hp}
theorem RK.length : ∀ {us : List (Int × U)} {vs : List (Key × V)}, RK K fm S H us vs → us.length = vs.length
  | _, _, .nil => rfl
  | _, _, .cons _ t => congrArg (· + 1) t.length
theorem RK.keys : ∀ {us : List (Int × U)} {vs : List (Key × V)} {i : Nat} {k : Key} {v : V}, RK K fm S H us vs → vs[i]? = some (k, v) → ∃ j u, us[i]? = some (j, u) ∧ k = .inl j
  | _, _, _, _, _, .nil, e => by simp at e
  | _, _, 0, _, _, .cons _ _, e => by simp at e; obtain ⟨rfl, rfl⟩ := e; exact ⟨_, _, rfl, rfl⟩
  | _, _, i + 1, _, _, .cons _ t, e => by
    obtain ⟨j, u, e1, e2⟩ := RK.keys (i := i) t (by simpa using e)
    exact ⟨j, u, by simpa using e1, e2⟩
theorem inl_dec (a b : Int) : decide ((Sum.inl a : Key) = .inl b) = decide (a = b) := by
  by_cases h : a = b
  · subst h; simp
  · rw [decide_eq_false h, decide_eq_false (fun z => h (Sum.inl.inj z))]
theorem RK.val {k : Int} : ∀ {us : List (Int × U)} {vs : List (Key × V)}, RK K fm S H us vs → (∃ u v, dvalU us k = some u ∧ valV vs (.inl k) = some v ∧ Rp K fm S H u v) ∨ (dvalU us k = none ∧ valV vs (.inl k) = none)
  | _, _, .nil => .inr ⟨rfl, rfl⟩
  | _, _, .cons (k := j) (u := u) (v := v) h t => by
    by_cases e : j = k
    · exact .inl ⟨u, v, by simp [dvalU, e], valV_pos (by rw [e]), h⟩
    · have ne : ¬ (Sum.inl j : Key) = .inl k := fun z => e (Sum.inl.inj z)
      have e1 : ∀ r : List (Int × U), dvalU ((j, u) :: r) k = dvalU r k := fun r => by simp [dvalU, List.find?_cons, e]
      rcases RK.val (k := k) t with ⟨u', v', h1, h2, h3⟩ | ⟨h1, h2⟩
      · exact .inl ⟨u', v', by rw [e1]; exact h1, by rw [valV_neg ne]; exact h2, h3⟩
      · exact .inr ⟨by rw [e1]; exact h1, by rw [valV_neg ne]; exact h2⟩
theorem RK.any {k : Int} : ∀ {us : List (Int × U)} {vs : List (Key × V)}, RK K fm S H us vs → (us.any fun kv => decide (kv.1 = k)) = (vs.any fun kv => decide (kv.1 = .inl k))
  | _, _, .nil => rfl
  | _, _, .cons (k := j) _ t => by
    rw [List.any_cons, List.any_cons, t.any]
    show (decide (j = k) || _) = (decide ((Sum.inl j : Key) = .inl k) || _)
    rw [inl_dec]
theorem RK.repl {k : Int} {u : U} {v : V} (r : Rp K fm S H u v) : ∀ {us : List (Int × U)} {vs : List (Key × V)}, RK K fm S H us vs → RK K fm S H (us.map fun kv => if kv.1 = k then (kv.1, u) else kv) (vs.map fun kv => if kv.1 = .inl k then (kv.1, v) else kv)
  | _, _, .nil => .nil
  | _, _, .cons (k := j) (u := u') (v := v') h t => by
    rw [List.map_cons, List.map_cons]
    by_cases e : j = k
    · have e2 : (Sum.inl j : Key) = .inl k := by rw [e]
      simp only [e, if_true]
      exact .cons r (RK.repl r t)
    · have e2 : ¬ (Sum.inl j : Key) = .inl k := fun z => e (Sum.inl.inj z)
      simp only [e, e2, if_false]
      exact .cons h (RK.repl r t)
theorem RK.app {us us' : List (Int × U)} {vs vs' : List (Key × V)} (h : RK K fm S H us vs) (h' : RK K fm S H us' vs') : RK K fm S H (us ++ us') (vs ++ vs') := by
  induction h with
  | nil => exact h'
  | cons a _ ih => exact .cons a ih
theorem RK.put {k : Int} {u : U} {v : V} {us : List (Int × U)} {vs : List (Key × V)} (h : RK K fm S H us vs) (r : Rp K fm S H u v) : RK K fm S H (dputU us k u) (putK vs (.inl k) v) := by
  unfold dputU putK
  rw [h.any]
  split
  · exact h.repl r
  · exact h.app (.cons r .nil)
/-- the dict that a value is -/
theorem rp_dct (so : StOk K fm S H) {u : U} {v : V} (r : Rp K fm S H u v) {kvs : List (Int × U)} (e : dctOf S u = some kvs) : ∃ a vs, v = .ref a ∧ Rd H a (.dK vs) ∧ RK K fm S H kvs vs := by
  cases r with
  | ref hf =>
    rename_i a n
    dsimp only [dctOf] at e
    split at e
    · rename_i hs; cases e
      obtain ⟨vs, h1, h2⟩ := so.obj _ _ _ hf hs
      exact ⟨a, vs, rfl, .inl h1, h2⟩
    · rename_i hs; cases e
      obtain ⟨o, vs, h1, h2⟩ := so.obj _ _ _ hf hs
      exact ⟨a, vs, rfl, .inr ⟨o, h1⟩, h2⟩
    · cases e
  | _ => cases e
def rIxDU (K : PySem.W.Frag) : R2 := fun x y H Q => ∃ fm S u kvs i z, StOk K fm S H ∧ Rp K fm S H u x ∧ y = .int i ∧ dctOf S u = some kvs ∧ dvalU kvs i = some z ∧ VRes K fm S H z Q
theorem ix_DU (hu : X.A.units + 64 < cLine) : IxR X (rIxDU X.K) := by
  intro value slice pins s σ H x y v u Q I r1 r2 h hs
  obtain ⟨fm, S, a, kvs, i, z, so, ra, ey, e, e2, q⟩ := h
  subst ey
  obtain ⟨p, vs, rfl, hd, rk⟩ := rp_dct so ra e
  rcases rk.val (k := i) with ⟨u', v', h1, h2, h3⟩ | ⟨h1, _⟩
  · rw [e2] at h1; cases h1
    have g : DGet H p (.int i) (some v') := .inl ⟨vs, .inl i, hd, rfl, h2.symm⟩
    obtain rfl : v = Value.ref p := r1
    exact tail_any (dict_typeIs I g) PySem.F.slot_dict_getitem.lookup (d_getItem (Nat.lt_of_le_of_lt (Nat.add_le_add_left (by decide : 1 ≤ 64) _) hu) I g r2 fun w' s' I' rw' => ⟨v', H, I', rw', q.here so h3⟩) hs
  · rw [e2] at h1; cases h1
end
end Ev
set_option Elab.async false
set_option linter.all false
set_option maxRecDepth 100000
set_option maxHeartbeats 2000000
/-! Ev8: sorted. -/
namespace Ev
open PySem PySem.Spec PyProof.Rows L2
/-! ### srtI is the ascending arrangement -/
theorem insI_perm (x : Int) : ∀ l : List Int, (insI x l).Perm (x :: l)
  | [] => .refl _
  | y :: ys => by
    unfold insI
    split
    · exact .refl _
    · exact ((insI_perm x ys).cons y).trans (.swap x y ys)
theorem srtI_perm : ∀ l : List Int, (srtI l).Perm l
  | [] => .refl _
  | x :: xs => by
    show (insI x (srtI xs)).Perm (x :: xs)
    exact (insI_perm x _).trans ((srtI_perm xs).cons x)
theorem insI_mem {x z : Int} {l : List Int} (h : z ∈ insI x l) : z = x ∨ z ∈ l := by
  have := (insI_perm x l).mem_iff.mp h
  simpa using this
theorem insI_pw (x : Int) : ∀ l : List Int, l.Pairwise (· ≤ ·) → (insI x l).Pairwise (· ≤ ·)
  | [], _ => by simp [insI]
  | y :: ys, h => by
    unfold insI
    split
    · rename_i hxy
      refine List.Pairwise.cons (fun z hz => ?_) h
      rcases List.mem_cons.mp hz with rfl | hz
      · exact hxy
      · exact Int.le_trans hxy (List.rel_of_pairwise_cons h hz)
    · rename_i hxy
      refine List.Pairwise.cons (fun z hz => ?_) (insI_pw x ys (List.Pairwise.of_cons h))
      rcases insI_mem hz with rfl | hz
      · omega
      · exact List.rel_of_pairwise_cons h hz
theorem srtI_pw : ∀ l : List Int, (srtI l).Pairwise (· ≤ ·)
  | [] => .nil
  | x :: xs => insI_pw x _ (srtI_pw xs)
theorem pw_unique : ∀ (a b : List Int), a.Perm b → a.Pairwise (· ≤ ·) → b.Pairwise (· ≤ ·) → a = b
  | [], b, p, _, _ => (List.nil_perm.mp p).symm
  | x :: xs, [], p, _, _ => by simp at p
  | x :: xs, y :: ys, p, h1, h2 => by
    have hx : x ∈ y :: ys := p.mem_iff.mp List.mem_cons_self
    have hy : y ∈ x :: xs := p.mem_iff.mpr List.mem_cons_self
    have e : x = y := by
      have a1 : y ≤ x := by
        rcases List.mem_cons.mp hx with e | hx
        · omega
        · exact List.rel_of_pairwise_cons h2 hx
      have a2 : x ≤ y := by
        rcases List.mem_cons.mp hy with e | hy
        · omega
        · exact List.rel_of_pairwise_cons h1 hy
      omega
    subst e
    rw [pw_unique xs ys (List.Perm.cons_inv p) (List.Pairwise.of_cons h1) (List.Pairwise.of_cons h2)]
theorem srtI_of {a l : List Int} (p : a.Perm l) (h : a.Pairwise (· ≤ ·)) : a = srtI l := pw_unique _ _ (p.trans (srtI_perm l).symm) h (srtI_pw l)

section
variable {prog : Program} {w : World} {A : Around} {E : Value → Shared → Prop} {s : Shared}
theorem collect_tupleE {l : Addr} {vs : List Value} {Q : List Value → Shared → Prop} (hl : IsTup s.heap l vs.toArray)
    (h : Q vs { s with heap := (s.heap.push (seqObj "list" #[] 0)).update s.heap.objs.size (Obj.mapSeq (· ++ vs.toArray)) }) (hsz : vs.length ≤ sizeLine) :
    wpAny (model prog w) A (collect (.ref l)) Q E s := by
  obtain ⟨o, ho, hc, n, hd⟩ := id hl
  unfold collect
  refine wpAny_bind (wpAny_runValue (codeAny_builtin entry_proto_collect' ?_))
  show wpAny _ _ (do again (.builtin "list.__iadd__" ⟨[← newList [], .ref l], []⟩)) _ _ s
  refine wpAny_bind (wpAny_newList (wpAny_pure ⟨Code.quiet_builtin _ (by decide +kernel), codeAny_builtin entry_list_iadd' ?_⟩))
  show wpAny _ _ (Builtin.List.listExtendWith (.ref s.heap.objs.size) (.ref l) (.ref s.heap.objs.size)) _ _ { s with heap := s.heap.push (seqObj "list" #[] 0) }
  unfold Builtin.List.listExtendWith
  have ho' : (s.heap.push (seqObj "list" #[] 0)).get? l = some o := Heap.get?_push_of_some _ ho
  refine wpAny_bind (wpAny_typeOf (T := "tuple") ⟨o, ho', hc⟩ ?_)
  have htt : (Value.type "tuple" == Value.type "tuple") = true := by rfl
  rw [if_pos (by rw [htt]; simp)]
  refine wpAny_bind (listItems_at ho' hd ?_)
  refine wpAny_bind (listItems_at (xs := #[]) (n := 0) (Heap.get?_push_size _ rfl) rfl ?_)
  rw [if_neg (by simp)]
  refine wpAny_bind (listUpdate_at (xs := #[]) (n := 0) (Heap.get?_push_size _ rfl) rfl ?_ (Nat.zero_le _) (by show (#[] ++ vs.toArray).size ≤ sizeLine + 1; simp only [Array.size_append, List.size_toArray, List.length_nil]; omega))
  refine wpAny_pure ?_
  show wpAny (model prog w) A (do
      let o ← load s.heap.objs.size
      match o.data with
      | .seq xs _ => pure xs.toList
      | _ => unsupported "internal:collect") Q E { s with heap := (s.heap.push (seqObj "list" #[] 0)).update s.heap.objs.size (Obj.mapSeq (· ++ vs.toArray)) }
  refine wpAny_bind (wpAny_load (get?_update_seq (Heap.get?_push_size _ rfl) _) ?_)
  show wpAny _ _ (pure ((#[] : Array Value) ++ vs.toArray).toList) Q E _
  rw [show ((#[] : Array Value) ++ vs.toArray).toList = vs by simp]
  exact wpAny_pure h
theorem sorted_ordT {l : Addr} {vs : List Value} {ltv : Value → Value → Bool} {Q : Value → Shared → Prop} (O : SrtO.Swo ltv) (hl : IsTup s.heap l vs.toArray) (hz : vs.length ≤ sizeLine)
    (hS : 2 ≤ vs.length → ∀ (h₁ : Heap) (a : Addr), h₁.get? a = some (seqObj "list" vs.toArray 0) → (∀ b o, s.heap.get? b = some o → b ≠ a ∧ h₁.get? b = some o) → SrtO.SortableO prog w A.in1.in1 { s with heap := h₁ } a vs ltv)
    (h : ∀ out : List Value, SrtO.Srtd ltv out → SrtO.Stb ltv out vs → Q (.ref (s.heap.objs.size + 1)) { s with heap := sortedAll s.heap vs out.toArray }) :
    wpAny (model prog w) A (call (.builtin "sorted") [.ref l]) Q E s := by
  refine Calls.call_function_entry kind_sorted plain_sorted entry_sorted (args_sorted1 _) ?_
  unfold Builtin.«sorted»
  refine wpAny_bind (m := checkCount "sorted" 1 1 _) (wpAny_pure ?_)
  refine wpAny_bind (collect_tupleE hl ?_ hz)
  refine wpAny_bind (wpAny_newList ?_ hz)
  have hsz : ((s.heap.push (seqObj "list" #[] 0)).update s.heap.objs.size (Obj.mapSeq (· ++ vs.toArray))).objs.size = s.heap.objs.size + 1 := by
    rw [Heap.size_update, size_push']
  have hoL : (((s.heap.push (seqObj "list" #[] 0)).update s.heap.objs.size (Obj.mapSeq (· ++ vs.toArray))).push (seqObj "list" vs.toArray 0)).get? (s.heap.objs.size + 1) = some (seqObj "list" vs.toArray 0) := by
    rw [← hsz]; exact Heap.get?_push_size _ rfl
  have keep : ∀ b o, s.heap.get? b = some o → b ≠ s.heap.objs.size + 1 ∧ (((s.heap.push (seqObj "list" #[] 0)).update s.heap.objs.size (Obj.mapSeq (· ++ vs.toArray))).push (seqObj "list" vs.toArray 0)).get? b = some o := fun b o q => by
    have hlt : b < s.heap.objs.size := Heap.lt_size q
    refine ⟨Nat.ne_of_lt (Nat.lt_succ_of_lt hlt), Heap.get?_push_of_some _ ?_⟩
    rw [Heap.get?_update_ne _ _ _ _ (Nat.ne_of_lt hlt)]
    exact Heap.get?_push_of_some _ q
  show wpAny _ _ _ _ _ { s with heap := ((s.heap.push (seqObj "list" #[] 0)).update s.heap.objs.size (Obj.mapSeq (· ++ vs.toArray))).push (seqObj "list" vs.toArray 0) }
  rw [hsz]
  refine wpAny_bind (wpAny_holding (wpAny_call_entry slot_list_sort ⟨_, hoL, rfl⟩ entry_list_sort (SrtO.list_sort_ord O hoL hz (fun h2 => hS h2 _ _ hoL keep) fun out hs hb => ⟨_, rfl, ?_⟩) (args_list_sort _)))
  exact wpAny_pure ⟨_, rfl, h out hs hb⟩
end
/-! ### tuples of ints -/
theorem insT_perm (x : List Int) : ∀ l : List (List Int), (insT x l).Perm (x :: l)
  | [] => .refl _
  | y :: ys => by
    unfold insT
    split
    · exact ((insT_perm x ys).cons y).trans (.swap x y ys)
    · exact .refl _
theorem srtT_perm : ∀ l : List (List Int), (srtT l).Perm l
  | [] => .refl _
  | x :: xs => by
    show (insT x (srtT xs)).Perm (x :: xs)
    exact (insT_perm x _).trans ((srtT_perm xs).cons x)
abbrev PwT (l : List (List Int)) : Prop := l.Pairwise fun x y => HT.lexLt y x = false
theorem insT_pw (x : List Int) : ∀ l : List (List Int), PwT l → PwT (insT x l)
  | [], _ => by simp [insT]
  | y :: ys, h => by
    unfold insT
    split
    · rename_i hxy
      refine List.Pairwise.cons (fun z hz => ?_) (insT_pw x ys (List.Pairwise.of_cons h))
      have hz := (insT_perm x ys).mem_iff.mp hz
      rcases List.mem_cons.mp hz with rfl | hz
      · exact NtL.lex_asym _ _ hxy
      · exact List.rel_of_pairwise_cons h hz
    · rename_i hxy
      have hxy : HT.lexLt y x = false := by simpa using hxy
      refine List.Pairwise.cons (fun z hz => ?_) h
      rcases List.mem_cons.mp hz with rfl | hz
      · exact hxy
      · exact NtL.lex_tr _ _ _ hxy (List.rel_of_pairwise_cons h hz)
theorem srtT_pw : ∀ l : List (List Int), PwT (srtT l)
  | [] => .nil
  | x :: xs => insT_pw x _ (srtT_pw xs)
theorem lex_eq : ∀ x y : List Int, HT.lexLt x y = false → HT.lexLt y x = false → x = y
  | [], [], _, _ => rfl
  | [], y :: ys, h, _ => by rw [HT.lexLt_nil_cons] at h; cases h
  | x :: xs, [], _, h => by rw [HT.lexLt_nil_cons] at h; cases h
  | x :: xs, y :: ys, h1, h2 => by
    rw [HT.lexLt_cons] at h1 h2
    by_cases e : x = y
    · subst e
      rw [if_pos rfl] at h1 h2
      rw [lex_eq xs ys h1 h2]
    · rw [if_neg e] at h1
      rw [if_neg (Ne.symm e)] at h2
      have a := of_decide_eq_false h1
      have b := of_decide_eq_false h2
      omega
theorem lex_refl : ∀ x : List Int, HT.lexLt x x = false
  | [] => HT.lexLt_nil_nil
  | x :: xs => by rw [HT.lexLt_cons, if_pos rfl]; exact lex_refl xs
theorem pwT_unique : ∀ (a b : List (List Int)), a.Perm b → PwT a → PwT b → a = b
  | [], b, p, _, _ => (List.nil_perm.mp p).symm
  | x :: xs, [], p, _, _ => by simp at p
  | x :: xs, y :: ys, p, h1, h2 => by
    have hx : x ∈ y :: ys := p.mem_iff.mp List.mem_cons_self
    have hy : y ∈ x :: xs := p.mem_iff.mpr List.mem_cons_self
    have e : x = y := by
      rcases List.mem_cons.mp hx with e | hx
      · exact e
      · rcases List.mem_cons.mp hy with e | hy
        · exact e.symm
        · exact lex_eq _ _ (List.rel_of_pairwise_cons h2 hx) (List.rel_of_pairwise_cons h1 hy)
    subst e
    rw [pwT_unique xs ys (List.Perm.cons_inv p) (List.Pairwise.of_cons h1) (List.Pairwise.of_cons h2)]

section
open PySem.W
variable {prog : Program} {w : World} {A : Around} {E : Value → Shared → Prop} {s : Shared}
theorem lex_ints {b fin : Bool} {Q : Bool → Shared → Prop} : ∀ (ps qs : List Value) (i : Nat) (ns ms : List Int),
    IntsAre ps ns → IntsAre qs ms → fin = decide (ps.length < qs.length) → Q (HT.lexLt ns ms) s → KatLex prog w A b fin Q (ps.zip qs) i s
  | [], [], i, _, _, .nil, .nil, hf, h => by
    have e : fin = false := by rw [hf]; rfl
    subst e
    rw [HT.lexLt_nil_nil] at h
    exact kat_nil h
  | [], _ :: qs, i, _, _, .nil, .cons _ _ _, hf, h => by
    have e : fin = true := by rw [hf]; exact decide_eq_true (Nat.succ_pos _)
    subst e
    rw [HT.lexLt_nil_cons] at h
    exact kat_nil h
  | _ :: ps, [], i, _, _, .cons _ _ _, .nil, hf, h => by
    have e : fin = false := by rw [hf]; exact decide_eq_false (Nat.not_lt_zero _)
    subst e
    rw [HT.lexLt_cons_nil] at h
    exact kat_nil h
  | _ :: ps, _ :: qs, i, _, _, .cons n t hp, .cons m u hq, hf, h => by
    have hf' : fin = decide (ps.length < qs.length) := by
      rw [hf]; simp only [List.length_cons, Nat.add_lt_add_iff_right]
    refine kat_cons (SeqAt.EqAt.int_int n t m u prog w _ _ ?_)
    refine kat_go (fun e => kat_yes ?_) (fun e => kat_no ?_)
    · have hnm : n = m := by simpa using e
      subst hnm
      rw [HT.lexLt_cons, if_pos rfl] at h
      exact lex_ints ps qs (i + 1) _ _ hp hq hf' h
    · have hnm : ¬ n = m := by simpa using e
      rw [HT.lexLt_cons, if_neg hnm] at h
      exact oneLt_any_int h
/-- a value that is a tuple of the ints ns -/
def IsTI (h : Heap) (v : Value) (ns : List Int) : Prop := ∃ a its, v = .ref a ∧ IsTup h a its ∧ IntsAre its.toList ns
theorem IsTI.keeps {h h' : Heap} {v : Value} {ns : List Int} (x : IsTI h v ns) (k : ∀ b o, h.get? b = some o → o.cls = .type "tuple" → h'.get? b = some o) : IsTI h' v ns := by
  obtain ⟨a, its, e, ⟨o, ho, hc, n, hd⟩, hi⟩ := x
  exact ⟨a, its, e, ⟨o, k a o ho hc, hc, n, hd⟩, hi⟩
theorem ti_cmp {vs : List Value} {k : Value → List Int} (hv : ∀ v ∈ vs, IsTI s.heap v (k v)) : SrtO.Cmp prog w A s (tuples' true) (fun p => p.1 ∈ vs) (SrtO.lt2 fun v u => HT.lexLt (k v) (k u)) := by
  intro p q hm hm'
  obtain ⟨a, its, e, ⟨o, ho, hc, n, hd⟩, hi⟩ := hv _ hm
  obtain ⟨a', its', e', ⟨o', ho', hc', n', hd'⟩, hi'⟩ := hv _ hm'
  show wpAny (model prog w) A (keyLt' (tuples' true) p.1 q.1) (fun r s' => s' = s ∧ r = HT.lexLt (k p.1) (k q.1)) (fun _ _ => False) s
  rw [e, e'] at *
  exact kat_lt ho hd ho' hd' (lex_ints _ _ 0 _ _ hi hi' (by simp) ⟨rfl, rfl⟩)
theorem ti_firsts {h : Heap} {k : Value → List Int} : ∀ {vs : List Value}, (∀ v ∈ vs, IsTI h v (k v)) → (∀ v ∈ vs, k v ≠ []) → ∃ fs, KatTups h vs fs ∧ fs.length = vs.length ∧ ∀ f ∈ fs, ∃ i t, f = .int i t
  | [], _, _ => ⟨[], trivial, rfl, fun _ h => nomatch h⟩
  | v :: vs, h1, h2 => by
    obtain ⟨fs, g1, g2, g3⟩ := ti_firsts (vs := vs) (fun u m => h1 u (List.mem_cons_of_mem _ m)) (fun u m => h2 u (List.mem_cons_of_mem _ m))
    obtain ⟨a, its, e, ⟨o, ho, hc, n, hd⟩, hi⟩ := h1 v List.mem_cons_self
    have hne := h2 v List.mem_cons_self
    cases hx : its.toList with
    | nil =>
      rw [hx] at hi
      cases hk : k v with
      | nil => exact absurd hk hne
      | cons _ _ => rw [hk] at hi; cases hi
    | cons f rest =>
      rw [hx] at hi
      cases hk : k v with
      | nil => exact absurd hk hne
      | cons i is =>
        rw [hk] at hi
        cases hi with
        | cons i t hi =>
          refine ⟨.int i t :: fs, ⟨⟨a, o, its, n, e, ho, hc, hd, ?_⟩, g1⟩, by simp [g2], fun f hf => ?_⟩
          · rw [← Array.getElem?_toList, hx]; rfl
          · rcases List.mem_cons.mp hf with rfl | hf
            · exact ⟨_, _, rfl⟩
            · exact g3 f hf
theorem ti_sortable {a : Addr} {vs : List Value} {k : Value → List Int} (h2 : 2 ≤ vs.length) (hv : ∀ v ∈ vs, IsTI s.heap v (k v)) (hne : ∀ v ∈ vs, k v ≠ []) (ha : ∀ o, s.heap.get? a = some o → o.cls ≠ .type "tuple") :
    SrtO.SortableO prog w A s a vs fun v u => HT.lexLt (k v) (k u) := by
  intro h' keep
  have hp' : ∀ v ∈ vs, IsTI h' v (k v) := fun v hm => (hv v hm).keeps fun b o e c => keep b o (fun z => by subst z; exact ha o e c) e
  obtain ⟨fs, h1, h2, h3⟩ := ti_firsts hp' hne
  refine ⟨tuples' true, fun Q E hq => ?_, ti_cmp hp'⟩
  refine kat_kind (T := .type "int") h1 (by omega) (fun f hm => ?_) (by rfl) ?_
  · obtain ⟨x, t, rfl⟩ := h3 f hm
    exact Looks.now
  · have e : (Value.type "int" != Value.type "tuple") = true := by first | decide +kernel | rfl | decide
    rw [e]
    exact hq
end
section
variable {X : Cx}
def rSrt (K : PySem.W.Frag) : List V → Hp → VK → Prop := fun xs H Q => ∃ fm S u us ws, StOk K fm S H ∧ Rps K fm S H [u] xs ∧ seqOf S u = some us ∧ srtU us = some ws ∧ QRes K fm S H ws Q
/-- what a place says of a value, back -/
def vOf : Value → V
  | .ref a => .ref a
  | _ => .non
theorem tups_refs {K : PySem.W.Frag} {fm : List Addr} {S : Sto} {H : Hp} : ∀ {us : List U} {ts : List (List Int)} {vs : List V}, tupsI us = some ts → Rps K fm S H us vs →
    us = (ts.map fun t => .tup (t.map U.int)) ∧ ∃ as : List Addr, vs = as.map V.ref ∧ as.length = ts.length ∧ ∀ (i : Nat) a t, as[i]? = some a → ts[i]? = some t → SqT K H a (t.map V.int) ∧ Rp K fm S H (.tup (t.map U.int)) (.ref a)
  | [], ts, _, e, .nil => by cases e; exact ⟨rfl, [], rfl, rfl, fun i a t h _ => by simp at h⟩
  | u :: us, ts, _, e, .cons h r => by
    cases u with
    | tup xs =>
      simp only [tupsI] at e
      split at e
      · rename_i ns ts' e1 e2
        cases e
        have ex : xs = ns.map U.int := by
          clear h r e2
          induction xs generalizing ns with
          | nil => cases e1; rfl
          | cons x xs ih =>
            cases x <;> simp [intsOf] at e1
            obtain ⟨ms, e3, rfl⟩ := e1
            rw [ih ms e3]; rfl
        subst ex
        obtain ⟨h1, as, h2, h3, h4⟩ := tups_refs e2 r
        obtain ⟨a, ws, rfl, hs, rw'⟩ := rp_tup h (S := S) rfl
        have ew := rw'.ints e1
        subst ew
        refine ⟨by rw [h1]; simp, a :: as, by rw [h2]; rfl, by simp [h3], fun i b t hb ht => ?_⟩
        cases i with
        | zero => simp at hb ht; subst hb ht; exact ⟨hs, h⟩
        | succ i => exact h4 i b t (by simpa using hb) (by simpa using ht)
      · cases e
    | _ => simp [tupsI] at e
theorem vals_refs : ∀ {as : List Addr} {us : List Value}, Vals (as.map V.ref) us → us = as.map Value.ref
  | [], _, .nil => rfl
  | a :: as, _, .cons h r => by
    rw [vals_refs r]
    cases h
    rfl
theorem mapint_inj : ∀ {a b : List Int}, a.map V.int = b.map V.int → a = b
  | [], [], _ => rfl
  | [], _ :: _, h => by simp at h
  | _ :: _, [], h => by simp at h
  | x :: a, y :: b, h => by
    rw [List.map_cons, List.map_cons] at h
    obtain ⟨h1, h2⟩ := List.cons.inj h
    cases h1
    rw [mapint_inj h2]
theorem srt_short {α : Type} {x : α} {l : List α} (p : l.Perm [x]) : l = [x] := List.perm_singleton.mp p
theorem cr_srtU : CallR X (.builtin "sorted") (rSrt X.K) := by
  intro pins s σ H xs us Q I r ⟨fm, S, u, as, ws, so, rr, e, e2, q⟩
  obtain ⟨x, rfl, rx⟩ := rps1 rr
  obtain ⟨a, vs, rfl, hs, rv⟩ := rp_seq so rx e
  rw [Vals.ref1 r]
  -- by an order and what it asks
  have go : ∀ (ltv : Value → Value → Bool), SrtO.Swo ltv →
      (∀ its : List Value, Vals vs its → 2 ≤ its.length → ∀ (h₁ : Heap) (a : Addr), h₁.get? a = some (seqObj "list" its.toArray 0) → (∀ b o, s.heap.get? b = some o → b ≠ a ∧ h₁.get? b = some o) → SrtO.SortableO X.prog X.w X.A.in1.in1 { s with heap := h₁ } a its ltv) →
      (∀ its out : List Value, Vals vs its → SrtO.Srtd ltv out → SrtO.Stb ltv out its → ∃ zs, Vals zs out ∧ Rps X.K fm S H ws zs) →
      wpAny (model X.prog X.w) X.A (call (.builtin "sorted") [.ref a]) (EP X pins σ Q) X.xe s := by
    intro ltv O hS hO
    have fin : ∀ (its out : List Value), Vals vs its → vs.length ≤ sizeLine → SrtO.Srtd ltv out → SrtO.Stb ltv out its →
        EP X pins σ Q (.ref (s.heap.objs.size + 1)) { s with heap := sortedAll s.heap its out.toArray } := by
      intro its out rv hz h1 h2
      obtain ⟨zs, k1, k2⟩ := hO its out rv h1 h2
      obtain ⟨ep, he'⟩ := PyProof.Rows.sortedAll_at s.heap its out.toArray
      have hlen : zs.length ≤ sizeLine := by rw [k1.length, h2.len, ← rv.length]; exact hz
      exact ⟨.ref _, upd H (s.heap.objs.size + 1) (.lst zs), I.laid (t' := s.toks) (fun _ _ => PyProof.Rows.sortedAll_old) (Nat.le_succ _) ⟨hlen, out, ep, k1, he'⟩, rfl, q fm H _ _ .refl so k2 (I.hok.fresh (Nat.le_succ _))⟩
    rcases hs with hs | hs
    · obtain ⟨its, rv, hl, hz⟩ := I.list hs
      exact SrtO.sorted_ord O hl.isList (by rw [← rv.length]; exact hz) (fun h2 => hS its rv h2) fun out h1 h2 => fin its out rv hz h1 h2
    · obtain ⟨its, rv, hl, hz⟩ := I.tuple hs
      exact sorted_ordT O hl (by rw [← rv.length]; exact hz) (fun h2 => hS its rv h2) fun out h1 h2 => fin its out rv hz h1 h2
  unfold srtU at e2
  split at e2
  · rename_i hsh
    cases e2
    refine go SrtO.ltIv SrtO.swo_int (fun its rv' h2 => ?_) fun its out rv' h1 h2 => ?_
    · have := rv'.length; have := rv.length; omega
    · have hl := rv'.length
      have hl2 := rv.length
      cases its with
      | nil =>
        have : out = [] := List.perm_nil.mp h2.perm
        subst this
        exact ⟨vs, rv', rv⟩
      | cons i its =>
        cases its with
        | nil =>
          have := srt_short h2.perm
          subst this
          exact ⟨vs, rv', rv⟩
        | cons j its => simp at hl; omega
  · split at e2
    · rename_i ns e3
      cases e2
      have ev := rv.ints e3
      subst ev
      refine go SrtO.ltIv SrtO.swo_int (fun its rv' h2 h₁ a' _ _ => SrtO.ints_sortable rv'.ints h2) fun its out rv' h1 h2 => ?_
      obtain ⟨k1, k2, k3⟩ := SrtO.ints_out rv'.ints h1 h2
      refine ⟨(out.map SrtO.iv).map V.int, vals_of_ints k1, ?_⟩
      rw [srtI_of k2 k3]
      exact Rps.of_ints _
    · split at e2
      · rename_i ts e3
        split at e2
        · rename_i hall
          cases e2
          obtain ⟨_, bs, rfl, hbl, hb⟩ := tups_refs e3 rv
          -- the ints at a place
          obtain ⟨k, hk⟩ : ∃ k : Value → List Int, ∀ (a : Addr) (t : List Int), SqT X.K H a (t.map V.int) → k (.ref a) = t := by
            refine ⟨fun v => match v with
              | .ref a => open Classical in if h : ∃ t : List Int, SqT X.K H a (t.map V.int) then h.choose else []
              | _ => [], fun a t h => ?_⟩
            have hx : ∃ t : List Int, SqT X.K H a (t.map V.int) := ⟨t, h⟩
            simp only [dif_pos hx]
            have := I.tuple_inj hx.choose_spec h
            exact mapint_inj this
          have hat : ∀ v ∈ bs.map Value.ref, ∃ b t, v = .ref b ∧ k v = t ∧ t ∈ ts ∧ SqT X.K H b (t.map V.int) ∧ Rp X.K fm S H (.tup (t.map U.int)) (.ref b) := by
            intro v hv
            obtain ⟨b, hb1, rfl⟩ := List.mem_map.mp hv
            obtain ⟨i, hi⟩ := List.mem_iff_getElem?.mp hb1
            have hlt : i < ts.length := by rw [← hbl]; exact (List.getElem?_eq_some_iff.mp hi).1
            obtain ⟨h1, h2⟩ := hb i b ts[i] hi (List.getElem?_eq_getElem hlt)
            exact ⟨b, ts[i], rfl, hk b _ h1, List.getElem_mem hlt, h1, h2⟩
          have hti : ∀ v ∈ bs.map Value.ref, IsTI s.heap v (k v) ∧ k v ≠ [] := by
            intro v hv
            obtain ⟨b, t, rfl, h1, h2, h3, _⟩ := hat v hv
            obtain ⟨its, rvt, hl, hz⟩ := I.tuple h3
            rw [h1]
            refine ⟨⟨b, its.toArray, rfl, hl, by simpa using rvt.ints⟩, ?_⟩
            have := List.all_eq_true.mp hall t h2
            intro z; subst z; simp at this
          refine go (fun v u => HT.lexLt (k v) (k u)) (NtL.swo_lexL k) (fun its rv' h2 h₁ a' ha' keep => ?_) fun its out rv' h1 h2 => ?_
          · have ei := vals_refs rv'
            subst ei
            refine ti_sortable h2 (fun v hv => ((hti v hv).1).keeps fun b o e _ => (keep b o e).2) (fun v hv => (hti v hv).2) fun o ho hc => ?_
            rw [ha'] at ho
            cases ho
            have hc' : (Value.type "list") = Value.type "tuple" := hc
            exact absurd hc' (by decide)
          · have ei := vals_refs rv'
            subst ei
            have hout : ∀ v ∈ out, ∃ b t, v = .ref b ∧ k v = t ∧ t ∈ ts ∧ SqT X.K H b (t.map V.int) ∧ Rp X.K fm S H (.tup (t.map U.int)) (.ref b) := fun v hv => hat v (h2.perm.mem_iff.mp hv)
            have hkts : (bs.map Value.ref).map k = ts := by
              apply List.ext_getElem?
              intro i
              rw [List.getElem?_map, List.getElem?_map]
              by_cases hi : i < bs.length
              · have hi2 : i < ts.length := by rw [← hbl]; exact hi
                rw [List.getElem?_eq_getElem hi, List.getElem?_eq_getElem hi2]
                simp only [Option.map_some]
                rw [hk _ _ (hb i _ _ (List.getElem?_eq_getElem hi) (List.getElem?_eq_getElem hi2)).1]
              · rw [List.getElem?_eq_none (by omega), List.getElem?_eq_none (by omega)]; rfl
            have es : out.map k = srtT ts := by
              refine pwT_unique _ _ (((h2.perm.map k).trans (by rw [hkts])).trans (srtT_perm ts).symm) ?_ (srtT_pw ts)
              exact List.Pairwise.map k (fun _ _ h => h) h1
            rw [← es, List.map_map]
            clear es hkts h1 h2 hti hat
            induction out with
            | nil => exact ⟨[], .nil, .nil⟩
            | cons v out ih =>
              obtain ⟨zs, g1, g2⟩ := ih fun u hu => hout u (List.mem_cons_of_mem _ hu)
              obtain ⟨b, t, rfl, h3, _, _, h5⟩ := hout v List.mem_cons_self
              refine ⟨.ref b :: zs, .cons rfl g1, ?_⟩
              rw [List.map_cons]
              refine .cons ?_ g2
              show Rp X.K fm S H (.tup ((k (.ref b)).map U.int)) (.ref b)
              rw [h3]; exact h5
        · cases e2
      · cases e2
end
end Ev
set_option Elab.async false
set_option linter.all false
set_option maxRecDepth 100000
set_option maxHeartbeats 2000000
/-! Ev9: what a tree yields, as a reading. -/
namespace Ev
open PySem PySem.Spec PyProof.Rows L2

def EnvOk (K : PySem.W.Frag) (fm : List Addr) (S : Sto) (H : Hp) (ρ : Rho) (σ : L2.St) : Prop :=
  ρ.length = σ.length ∧ ∀ (i : Nat) (u : U), ρ[i]? = some (some u) → ∃ v, σ[i]? = some (some v) ∧ Rp K fm S H u v

/-- behind a result -/
def Aft {α : Type} (K : PySem.W.Frag) (cls : Nat → Value) (W : WX) (σ : L2.St) (fm : List Addr) (S : Sto) (H : Hp) (r : R α) (P : α → List Addr → Sto → Hp → Prop) : Prop :=
  match r with
  | .ok a S' => ∀ fm' H', Stp fm S H fm' S' H' → StOk K fm' S' H' → P a fm' S' H'
  | .ex c S' => ∀ fm' H', Stp fm S H fm' S' H' → StOk K fm' S' H' → W (cls c) none σ H'
  | .stuck => False

section
variable {K : PySem.W.Frag} {cls : Nat → Value} {W : WX} {σ : L2.St} {fm fm' : List Addr} {S S' : Sto} {H H' : Hp} {α β : Type}
theorem EnvOk.mono {ρ : Rho} (h : EnvOk K fm S H ρ σ) (x : Gr fm S H fm' S' H') : EnvOk K fm' S' H' ρ σ :=
  ⟨h.1, fun i u e => let ⟨v, e1, r⟩ := h.2 i u e; ⟨v, e1, r.mono x⟩⟩
theorem Aft.imp {r : R α} {P P' : α → List Addr → Sto → Hp → Prop} (h : Aft K cls W σ fm S H r P) (i : ∀ a fm' S' H', Stp fm S H fm' S' H' → StOk K fm' S' H' → P a fm' S' H' → P' a fm' S' H') : Aft K cls W σ fm S H r P' := by
  cases r with
  | ok a S' => exact fun fm' H' st so => i a fm' S' H' st so (h fm' H' st so)
  | ex c S' => exact h
  | stuck => exact h
theorem Aft.bind {r : R α} {f : α → Sto → R β} {P : β → List Addr → Sto → Hp → Prop} (h : Aft K cls W σ fm S H (r.bind f) P) : Aft K cls W σ fm S H r fun a fm1 S1 H1 => Aft K cls W σ fm1 S1 H1 (f a S1) P := by
  cases r with
  | ok a S1 =>
    intro fm1 H1 st so
    replace h : Aft K cls W σ fm S H (f a S1) P := h
    revert h
    cases f a S1 with
    | ok b S2 => exact fun h fm2 H2 st2 so2 => h fm2 H2 (st.trans st2) so2
    | ex c S2 => exact fun h fm2 H2 st2 so2 => h fm2 H2 (st.trans st2) so2
    | stuck => exact fun h => h
  | ex c S1 => exact h
  | stuck => exact h
theorem Aft.opt {o : Option α} {P : α → List Addr → Sto → Hp → Prop} (h : Aft K cls W σ fm S H (optR S o) P) : ∃ a, o = some a ∧ ∀ fm' H', Stp fm S H fm' S H' → StOk K fm' S H' → P a fm' S H' := by
  cases o with
  | none => exact h.elim
  | some a => exact ⟨a, rfl, h⟩
theorem Aft.ok {a : α} {P : α → List Addr → Sto → Hp → Prop} (h : Aft K cls W σ fm S H (.ok a S') P) : ∀ fm' H', Stp fm S H fm' S' H' → StOk K fm' S' H' → P a fm' S' H' := h
/-- from a later world -/
theorem Aft.later {fm1 : List Addr} {S1 : Sto} {H1 : Hp} {r : R α} {P : α → List Addr → Sto → Hp → Prop} (h : Aft K cls W σ fm S H r P) (st : Stp fm S H fm1 S1 H1) : Aft K cls W σ fm1 S1 H1 r P := by
  cases r with
  | ok b S2 => exact fun fm2 H2 st2 so2 => h fm2 H2 (st.trans st2) so2
  | ex c S2 => exact fun fm2 H2 st2 so2 => h fm2 H2 (st.trans st2) so2
  | stuck => exact h
end

def tE (K : PySem.W.Frag) (cls : Nat → Value) (W : WX) (r : Rho → Sto → R U) : TE := fun σ H Q =>
  ∃ fm S ρ, StOk K fm S H ∧ EnvOk K fm S H ρ σ ∧ Aft K cls W σ fm S H (r ρ S) fun u fm' S' H' => ∀ v, Rp K fm' S' H' u v → Q v H'
def tEs (K : PySem.W.Frag) (cls : Nat → Value) (W : WX) (r : Rho → Sto → R (List U)) : TA := fun σ H Q =>
  ∃ fm S ρ, StOk K fm S H ∧ EnvOk K fm S H ρ σ ∧ Aft K cls W σ fm S H (r ρ S) fun us fm' S' H' => ∀ vs, Rps K fm' S' H' us vs → Q vs H'
def tT (K : PySem.W.Frag) (cls : Nat → Value) (W : WX) (r : Rho → Sto → R U) : TT := fun σ H Q =>
  ∃ fm S ρ, StOk K fm S H ∧ EnvOk K fm S H ρ σ ∧ Aft K cls W σ fm S H (r ρ S) fun u fm' S' H' => ∃ b, truU S' u = some b ∧ Q b H'
def tO (K : PySem.W.Frag) (cls : Nat → Value) (W : WX) (r : Rho → Sto → R (Option Int)) : TO := fun σ H Q =>
  ∃ fm S ρ, StOk K fm S H ∧ EnvOk K fm S H ρ σ ∧ Aft K cls W σ fm S H (r ρ S) fun o fm' S' H' => Q o H'
/-- a new list -/
def tQ (K : PySem.W.Frag) (cls : Nat → Value) (W : WX) (r : Rho → Sto → R (List U)) : TE := fun σ H Q =>
  ∃ fm S ρ, StOk K fm S H ∧ EnvOk K fm S H ρ σ ∧ Aft K cls W σ fm S H (r ρ S) fun us fm' S' H' => ∀ vs p, Rps K fm' S' H' us vs → H' p = none → Q (.ref p) (upd H' p (.lst vs))

theorem _root_.L2.PE.imp {X : Cx} {e : Expr} {t t' : TE} (h : PE X e t) (i : ∀ σ H Q, t' σ H Q → t σ H Q) : PE X e t' := ⟨fun pins s σ H Q I q => h.run pins s σ H Q I (i σ H Q q)⟩
theorem _root_.L2.PT.imp {X : Cx} {e : Expr} {t t' : TT} (h : PT X e t) (i : ∀ σ H Q, t' σ H Q → t σ H Q) : PT X e t' := ⟨fun pins s σ H Q I q => h.run pins s σ H Q I (i σ H Q q)⟩
theorem _root_.L2.PW.imp {X : Cx} {e : Expr} {t t' : TT} (h : PW X e t) (i : ∀ σ H Q, t' σ H Q → t σ H Q) : PW X e t' := ⟨fun wh pins s σ H Q I q => h.run wh pins s σ H Q I (i σ H Q q)⟩
theorem _root_.L2.PA.imp {X : Cx} {e : List Expr} {t t' : TA} (h : PA X e t) (i : ∀ σ H Q, t' σ H Q → t σ H Q) : PA X e t' := ⟨fun pos pins s σ H Q I q => h.run pos pins s σ H Q I (i σ H Q q)⟩
theorem _root_.L2.PK.imp {X : Cx} {e : List Keyword} {t t' : TA} (h : PK X e t) (i : ∀ σ H Q, t' σ H Q → t σ H Q) : PK X e t' := ⟨fun pos pins s σ H Q I q => h.run pos pins s σ H Q I (i σ H Q q)⟩
theorem _root_.L2.PO.imp {X : Cx} {e : Option Expr} {t t' : TO} (h : PO X e t) (i : ∀ σ H Q, t' σ H Q → t σ H Q) : PO X e t' := ⟨fun pins s σ H Q I q => h.run pins s σ H Q I (i σ H Q q)⟩

section
variable {X : Cx} {cls : Nat → Value} {W : WX} {pos : Pos} {a b c : Expr} {ra rb rc : Rho → Sto → R U}
theorem te_var {i : Nat} {x : Str} (hN : X.N[i]? = some x) (hv : Vis X.env.scope x) (hd : (x == ("__debug__" : Str)) = false) (hcd : (x == ("__classdict__" : Str)) = false) : PE X (.Name x pos) (tE X.K cls W fun ρ S => optR S (getR ρ i)) :=
  (pe_var hN hv hd hcd).imp fun σ H Q ⟨fm, S, ρ, so, eo, h⟩ => by
    obtain ⟨u, e, h⟩ := h.opt
    have e' : ρ[i]? = some (some u) := by
      unfold getR at e
      cases q : ρ[i]? with
      | none => rw [q] at e; cases e
      | some o => rw [q] at e; cases o with
        | none => cases e
        | some w => cases e; rfl
    obtain ⟨v, e1, r⟩ := eo.2 i u e'
    exact ⟨v, e1, h fm H .refl so v r⟩
theorem te_cst {u : U} {v : V} {e : Expr} (he : PE X e (tC v)) (h : ∀ fm S H, Rp X.K fm S H u v) : PE X e (tE X.K cls W fun _ S => .ok u S) :=
  he.imp fun σ H Q ⟨fm, S, ρ, so, eo, q⟩ => q fm H .refl so v (h fm S H)
theorem tes_nil : PA X [] (tEs X.K cls W fun _ S => .ok [] S) := pa_nil.imp fun σ H Q ⟨fm, S, ρ, so, eo, q⟩ => q fm H .refl so [] .nil
theorem tes_cons {es : List Expr} {rs : Rho → Sto → R (List U)} (ha : PE X a (tE X.K cls W ra)) (hs : PA X es (tEs X.K cls W rs)) (h : starEach (a :: es) X.env = (false, eval a X.env) :: starEach es X.env) :
    PA X (a :: es) (tEs X.K cls W fun ρ S => (ra ρ S).bind fun u S1 => (rs ρ S1).bind fun us S2 => .ok (u :: us) S2) :=
  (pa_cons ha hs h).imp fun σ H Q ⟨fm, S, ρ, so, eo, q⟩ => ⟨fm, S, ρ, so, eo, q.bind.imp fun u fm1 S1 H1 st1 so1 h1 v1 r1 => ⟨fm1, S1, ρ, so1, eo.mono st1.toGr, h1.bind.imp fun us fm2 S2 H2 st2 so2 h2 vs rs =>
    h2.ok fm2 H2 .refl so2 (v1 :: vs) (.cons (r1.mono st2.toGr) rs)⟩⟩
theorem te_tup {es : List Expr} {k : Nat} {rs : Rho → Sto → R (List U)} (hs : PA X es (tEs X.K cls W rs)) (hl : es.length ≤ 1000) (hr : ∀ ρ S us S', rs ρ S = .ok us S' → us.length ≤ 1000) :
    PE X (.Tuple es k pos) (tE X.K cls W fun ρ S => (rs ρ S).bind fun us S1 => .ok (.tup us) S1) :=
  (pe_tup hs).imp fun σ H Q ⟨fm, S, ρ, so, eo, q⟩ => by
    refine ⟨fm, S, ρ, so, eo, ?_⟩
    have hl := hr ρ S
    revert hl
    have := q.bind
    revert this
    cases rs ρ S with
    | ok us S1 =>
      intro q hl fm1 H1 st1 so1 vs rv
      have h2 := q fm1 H1 st1 so1
      refine ⟨by rw [← rv.length, ← lim_eq]; exact Nat.le_trans (hl us S1 rfl) (by decide), fun p hp => ?_⟩
      exact h2 fm1 _ (stp_new so1 hp) (ok_new so1 hp) _ (rp_newT so1 hp rv)
    | ex c S1 => exact fun q _ => q
    | stuck => exact fun q _ => q
theorem te_bin {o : Op} {op : Operator} (ho : OpR X (binaryOp op) (rBin X.K o)) (ha : PE X a (tE X.K cls W ra)) (hb : PE X b (tE X.K cls W rb)) :
    PE X (.BinOp a op b pos) (tE X.K cls W fun ρ S => (ra ρ S).bind fun u S1 => (rb ρ S1).bind fun v S2 => optR S2 (binU S2 o u v)) :=
  (pe_op ho ha hb).imp fun σ H Q ⟨fm, S, ρ, so, eo, q⟩ => ⟨fm, S, ρ, so, eo, q.bind.imp fun u fm1 S1 H1 st1 so1 h1 v1 r1 => ⟨fm1, S1, ρ, so1, eo.mono st1.toGr, h1.bind.imp fun w fm2 S2 H2 st2 so2 h2 v2 r2 => by
    obtain ⟨z, e, h⟩ := h2.opt
    exact ⟨fm2, S2, u, w, z, so2, r1.mono st2.toGr, r2, e, fun fm' H' v st so' r => h fm' H' st so' v r⟩⟩⟩
theorem te_cmp {o : Cp} {op : CmpOp} (ho : OpR X (compareOp op) (rCmp X.K o)) (ha : PE X a (tE X.K cls W ra)) (hb : PE X b (tE X.K cls W rb)) (hm : behindInMarks op b = false) :
    PE X (.Compare a [op] [b] pos) (tE X.K cls W fun ρ S => (ra ρ S).bind fun u S1 => (rb ρ S1).bind fun v S2 => optR S2 ((cmpU S2 o u v).map U.bl)) :=
  (pe_cmpR ho ha hb hm).imp fun σ H Q ⟨fm, S, ρ, so, eo, q⟩ => ⟨fm, S, ρ, so, eo, q.bind.imp fun u fm1 S1 H1 st1 so1 h1 v1 r1 => ⟨fm1, S1, ρ, so1, eo.mono st1.toGr, h1.bind.imp fun w fm2 S2 H2 st2 so2 h2 v2 r2 => by
    obtain ⟨z, e, h⟩ := h2.opt
    obtain ⟨k, e', rfl⟩ := Option.map_eq_some_iff.mp e
    exact ⟨fm2, S2, u, w, k, so2, r1.mono st2.toGr, r2, e', h fm2 H2 .refl so2 _ (.bl k)⟩⟩⟩
theorem tt_cmp {o : Cp} {op : CmpOp} (ho : OpR X (compareOp op) (rCmp X.K o)) (ha : PE X a (tE X.K cls W ra)) (hb : PE X b (tE X.K cls W rb)) (hm : behindInMarks op b = false) :
    PT X (.Compare a [op] [b] pos) (tT X.K cls W fun ρ S => (ra ρ S).bind fun u S1 => (rb ρ S1).bind fun v S2 => optR S2 ((cmpU S2 o u v).map U.bl)) :=
  (pt_cmpR ho ha hb hm).imp fun σ H Q ⟨fm, S, ρ, so, eo, q⟩ => ⟨fm, S, ρ, so, eo, q.bind.imp fun u fm1 S1 H1 st1 so1 h1 v1 r1 => ⟨fm1, S1, ρ, so1, eo.mono st1.toGr, h1.bind.imp fun w fm2 S2 H2 st2 so2 h2 v2 r2 => by
    obtain ⟨z, e, h⟩ := h2.opt
    obtain ⟨k, e', rfl⟩ := Option.map_eq_some_iff.mp e
    obtain ⟨b', eb, hq⟩ := h fm2 H2 .refl so2
    cases eb
    exact ⟨fm2, S2, u, w, k, so2, r1.mono st2.toGr, r2, e', k, rfl, hq⟩⟩⟩
theorem truV_of {fm : List Addr} {S : Sto} {H : Hp} {u : U} {v : V} {k : Bool} (so : StOk X.K fm S H) (r : Rp X.K fm S H u v) (e : truU S u = some k) : TruV X.K v H k := by
  unfold truU at e
  split at e
  · rename_i b h; cases e; rw [rp_bl r h]; rfl
  · rename_i b h; cases e; rw [rp_int r h]
    show decide (b ≠ 0) = (b != 0)
    by_cases z : b = 0 <;> simp [z]
  · rename_i xs h; cases e
    obtain ⟨a, vs, rfl, hT, rv⟩ := rp_tup r h
    have : xs.isEmpty = vs.isEmpty := by cases rv <;> rfl
    rw [this]
    exact .inr (.inl ⟨vs, hT, rfl⟩)
  · rename_i xs h; cases e
    obtain ⟨a, vs, rfl, hT, rv⟩ := rp_lst so r h
    have : xs.isEmpty = vs.isEmpty := by cases rv <;> rfl
    rw [this]
    exact .inl ⟨vs, SqL.of hT, rfl⟩
  · rename_i h; cases e; rw [rp_non r h]; rfl
  · cases e
/-- any expression as a test, by its truth -/
theorem tt_any (ha : PE X a (tE X.K cls W ra)) (he : ∀ whole, isTrue a X.env whole = (do let v ← whole; standAt a.pos; holding [v] (truthy v))) : PT X a (tT X.K cls W ra) :=
  (pt_truth ha he).imp fun σ H Q ⟨fm, S, ρ, so, eo, q⟩ => ⟨fm, S, ρ, so, eo, q.imp fun u fm1 S1 H1 st1 so1 ⟨b, e, h⟩ v1 r1 => ⟨b, truV_of so1 r1 e, h⟩⟩

/-! ### and, or, not -/
theorem te_one {op : BoolOp} (ha : PE X a (tE X.K cls W ra)) : PE X (.BoolOp op [a] pos) (tE X.K cls W ra) := pe_one ha
theorem te_and {rest : List Expr} (ha : PE X a (tE X.K cls W ra)) (hb : PE X (.BoolOp .And (b :: rest) pos) (tE X.K cls W rb)) :
    PE X (.BoolOp .And (a :: b :: rest) pos) (tE X.K cls W fun ρ S => (ra ρ S).bind fun u S1 => match truU S1 u with | some true => rb ρ S1 | some false => .ok u S1 | none => .stuck) :=
  (pe_andT ha hb).imp fun σ H Q ⟨fm, S, ρ, so, eo, q⟩ => ⟨fm, S, ρ, so, eo, q.bind.imp fun u fm1 S1 H1 st1 so1 h1 v1 r1 => by
    cases e : truU S1 u with
    | none => rw [e] at h1; exact h1.elim
    | some k =>
      rw [e] at h1
      refine ⟨k, truV_of so1 r1 e, ?_⟩
      cases k with
      | true => rw [if_pos rfl]; exact ⟨fm1, S1, ρ, so1, eo.mono st1.toGr, h1⟩
      | false => rw [if_neg Bool.false_ne_true]; exact h1.ok fm1 H1 .refl so1 v1 r1⟩
theorem te_or {rest : List Expr} (ha : PE X a (tE X.K cls W ra)) (hb : PE X (.BoolOp .Or (b :: rest) pos) (tE X.K cls W rb)) :
    PE X (.BoolOp .Or (a :: b :: rest) pos) (tE X.K cls W fun ρ S => (ra ρ S).bind fun u S1 => match truU S1 u with | some true => .ok u S1 | some false => rb ρ S1 | none => .stuck) :=
  (pe_orT ha hb).imp fun σ H Q ⟨fm, S, ρ, so, eo, q⟩ => ⟨fm, S, ρ, so, eo, q.bind.imp fun u fm1 S1 H1 st1 so1 h1 v1 r1 => by
    cases e : truU S1 u with
    | none => rw [e] at h1; exact h1.elim
    | some k =>
      rw [e] at h1
      refine ⟨k, truV_of so1 r1 e, ?_⟩
      cases k with
      | true => rw [if_pos rfl]; exact h1.ok fm1 H1 .refl so1 v1 r1
      | false => rw [if_neg Bool.false_ne_true]; exact ⟨fm1, S1, ρ, so1, eo.mono st1.toGr, h1⟩⟩
theorem te_not (ha : PE X a (tE X.K cls W ra)) : PE X (.UnaryOp .Not a pos) (tE X.K cls W fun ρ S => (ra ρ S).bind fun u S1 => optR S1 ((truU S1 u).map fun k => .bl (!k))) :=
  (pe_notT ha).imp fun σ H Q ⟨fm, S, ρ, so, eo, q⟩ => ⟨fm, S, ρ, so, eo, q.bind.imp fun u fm1 S1 H1 st1 so1 h1 v1 r1 => by
    obtain ⟨z, e, h⟩ := h1.opt
    obtain ⟨k, e', rfl⟩ := Option.map_eq_some_iff.mp e
    exact ⟨k, truV_of so1 r1 e', h fm1 H1 .refl so1 _ (.bl _)⟩⟩
theorem tw_and1 (ha : PT X a (tT X.K cls W ra)) : PW X (.BoolOp .And [a] pos) (tT X.K cls W ra) := pw_and1 ha
theorem tw_or1 (ha : PT X a (tT X.K cls W ra)) : PW X (.BoolOp .Or [a] pos) (tT X.K cls W ra) := pw_or1 ha
theorem tw_and {rest : List Expr} (ha : PT X a (tT X.K cls W ra)) (hb : PW X (.BoolOp .And (b :: rest) pos) (tT X.K cls W rb)) :
    PW X (.BoolOp .And (a :: b :: rest) pos) (tT X.K cls W fun ρ S => (ra ρ S).bind fun u S1 => match truU S1 u with | some true => rb ρ S1 | some false => .ok u S1 | none => .stuck) :=
  (pw_and ha hb).imp fun σ H Q ⟨fm, S, ρ, so, eo, q⟩ => ⟨fm, S, ρ, so, eo, q.bind.imp fun u fm1 S1 H1 st1 so1 h1 => by
    cases e : truU S1 u with
    | none => rw [e] at h1; exact h1.elim
    | some k =>
      rw [e] at h1
      refine ⟨k, rfl, ?_⟩
      cases k with
      | true => rw [if_pos rfl]; exact ⟨fm1, S1, ρ, so1, eo.mono st1.toGr, h1⟩
      | false =>
        rw [if_neg Bool.false_ne_true]
        obtain ⟨b, e2, hq⟩ := h1.ok fm1 H1 .refl so1
        rw [e] at e2; cases e2
        exact hq⟩
theorem tw_or {rest : List Expr} (ha : PT X a (tT X.K cls W ra)) (hb : PW X (.BoolOp .Or (b :: rest) pos) (tT X.K cls W rb)) :
    PW X (.BoolOp .Or (a :: b :: rest) pos) (tT X.K cls W fun ρ S => (ra ρ S).bind fun u S1 => match truU S1 u with | some true => .ok u S1 | some false => rb ρ S1 | none => .stuck) :=
  (pw_or ha hb).imp fun σ H Q ⟨fm, S, ρ, so, eo, q⟩ => ⟨fm, S, ρ, so, eo, q.bind.imp fun u fm1 S1 H1 st1 so1 h1 => by
    cases e : truU S1 u with
    | none => rw [e] at h1; exact h1.elim
    | some k =>
      rw [e] at h1
      refine ⟨k, rfl, ?_⟩
      cases k with
      | true =>
        rw [if_pos rfl]
        obtain ⟨b, e2, hq⟩ := h1.ok fm1 H1 .refl so1
        rw [e] at e2; cases e2
        exact hq
      | false => rw [if_neg Bool.false_ne_true]; exact ⟨fm1, S1, ρ, so1, eo.mono st1.toGr, h1⟩⟩
theorem tt_not (ha : PT X a (tT X.K cls W ra)) : PT X (.UnaryOp .Not a pos) (tT X.K cls W fun ρ S => (ra ρ S).bind fun u S1 => optR S1 ((truU S1 u).map fun k => .bl (!k))) :=
  (pt_not ha).imp fun σ H Q ⟨fm, S, ρ, so, eo, q⟩ => ⟨fm, S, ρ, so, eo, q.bind.imp fun u fm1 S1 H1 st1 so1 h1 => by
    obtain ⟨z, e, h⟩ := h1.opt
    obtain ⟨k, e', rfl⟩ := Option.map_eq_some_iff.mp e
    obtain ⟨b, e2, hq⟩ := h fm1 H1 .refl so1
    cases e2
    exact ⟨k, e', hq⟩⟩
/-- x if c else y -/
theorem te_ite (hc : PT X c (tT X.K cls W rc)) (ha : PE X a (tE X.K cls W ra)) (hb : PE X b (tE X.K cls W rb)) :
    PE X (.IfExp c a b pos) (tE X.K cls W fun ρ S => (rc ρ S).bind fun u S1 => match truU S1 u with | some true => ra ρ S1 | some false => rb ρ S1 | none => .stuck) :=
  (pe_ifExp hc ha hb).imp fun σ H Q ⟨fm, S, ρ, so, eo, q⟩ => ⟨fm, S, ρ, so, eo, q.bind.imp fun u fm1 S1 H1 st1 so1 h1 => by
    cases e : truU S1 u with
    | none => rw [e] at h1; exact h1.elim
    | some k =>
      rw [e] at h1
      refine ⟨k, rfl, ?_⟩
      cases k with
      | true => rw [if_pos rfl]; exact ⟨fm1, S1, ρ, so1, eo.mono st1.toGr, h1⟩
      | false => rw [if_neg Bool.false_ne_true]; exact ⟨fm1, S1, ρ, so1, eo.mono st1.toGr, h1⟩⟩
/-- x op y op z -/
theorem te_ch2 {o p : Cp} {op op' : CmpOp} (ho : OpR X (compareOp op) (rCmp X.K o)) (hp : OpR X (compareOp op') (rCmp X.K p)) (ha : PE X a (tE X.K cls W ra)) (hb : PE X b (tE X.K cls W rb)) (hc : PE X c (tE X.K cls W rc))
    (h2 : behindInMarks op' c = false) : PE X (.Compare a [op, op'] [b, c] pos) (tE X.K cls W fun ρ S => (ra ρ S).bind fun u S1 => (rb ρ S1).bind fun v S2 => match cmpU S2 o u v with
      | some true => (rc ρ S2).bind fun w S3 => optR S3 ((cmpU S3 p v w).map U.bl)
      | some false => .ok (.bl false) S2
      | none => .stuck) := by
  refine (pe_chain ho hp ha hb hc (by simpa [lastMarks] using h2)).imp fun σ H Q ⟨fm, S, ρ, so, eo, q⟩ => ⟨fm, S, ρ, so, eo, q.bind.imp fun u fm1 S1 H1 st1 so1 h1 v1 r1 => ⟨fm1, S1, ρ, so1, eo.mono st1.toGr, h1.bind.imp fun w fm2 S2 H2 st2 so2 h2 v2 r2 => ?_⟩⟩
  cases e : cmpU S2 o u w with
  | none => rw [e] at h2; exact h2.elim
  | some k =>
    rw [e] at h2
    refine ⟨fm2, S2, u, w, k, so2, r1.mono st2.toGr, r2, e, k, rfl, ?_⟩
    cases k with
    | true =>
      rw [if_pos rfl]
      refine ⟨fm2, S2, ρ, so2, (eo.mono st1.toGr).mono st2.toGr, h2.bind.imp fun x fm3 S3 H3 st3 so3 h3 v3 r3 => ?_⟩
      obtain ⟨z, e, h⟩ := h3.opt
      obtain ⟨k, e', rfl⟩ := Option.map_eq_some_iff.mp e
      exact ⟨fm3, S3, w, x, k, so3, r2.mono st3.toGr, r3, e', h fm3 H3 .refl so3 _ (.bl k)⟩
    | false => rw [if_neg Bool.false_ne_true]; exact h2.ok fm2 H2 .refl so2 _ (.bl false)
theorem tt_ch2 {o p : Cp} {op op' : CmpOp} (ho : OpR X (compareOp op) (rCmp X.K o)) (hp : OpR X (compareOp op') (rCmp X.K p)) (ha : PE X a (tE X.K cls W ra)) (hb : PE X b (tE X.K cls W rb)) (hc : PE X c (tE X.K cls W rc))
    (h2 : behindInMarks op' c = false) : PT X (.Compare a [op, op'] [b, c] pos) (tT X.K cls W fun ρ S => (ra ρ S).bind fun u S1 => (rb ρ S1).bind fun v S2 => match cmpU S2 o u v with
      | some true => (rc ρ S2).bind fun w S3 => optR S3 ((cmpU S3 p v w).map U.bl)
      | some false => .ok (.bl false) S2
      | none => .stuck) := by
  refine (pt_chain ho hp ha hb hc (by simpa [lastMarks] using h2)).imp fun σ H Q ⟨fm, S, ρ, so, eo, q⟩ => ⟨fm, S, ρ, so, eo, q.bind.imp fun u fm1 S1 H1 st1 so1 h1 v1 r1 => ⟨fm1, S1, ρ, so1, eo.mono st1.toGr, h1.bind.imp fun w fm2 S2 H2 st2 so2 h2 v2 r2 => ?_⟩⟩
  cases e : cmpU S2 o u w with
  | none => rw [e] at h2; exact h2.elim
  | some k =>
    rw [e] at h2
    refine ⟨fm2, S2, u, w, k, so2, r1.mono st2.toGr, r2, e, k, rfl, ?_⟩
    cases k with
    | true =>
      rw [if_pos rfl]
      refine ⟨fm2, S2, ρ, so2, (eo.mono st1.toGr).mono st2.toGr, h2.bind.imp fun x fm3 S3 H3 st3 so3 h3 v3 r3 => ?_⟩
      obtain ⟨z, e, h⟩ := h3.opt
      obtain ⟨k, e', rfl⟩ := Option.map_eq_some_iff.mp e
      obtain ⟨b', eb, hq⟩ := h fm3 H3 .refl so3
      cases eb
      exact ⟨fm3, S3, w, x, k, so3, r2.mono st3.toGr, r3, e', k, rfl, hq⟩
    | false =>
      rw [if_neg Bool.false_ne_true]
      obtain ⟨b', eb, hq⟩ := h2.ok fm2 H2 .refl so2
      cases eb
      exact ⟨false, rfl, hq⟩
/-! ### a[b], a[lo:hi], a[::-1] -/
theorem te_ix (hu : X.A.units + 64 < cLine) (ha : PE X a (tE X.K cls W ra)) (hb : PE X b (tE X.K cls W rb)) (hs : PlainIx b) : PE X (.Subscript a b pos) (tE X.K cls W fun ρ S => (ra ρ S).bind fun u S1 => (rb ρ S1).bind fun v S2 => optR S2 (ixU S2 u v)) :=
  (pe_ix (IxR.or ix_U (ix_DU hu)) ha hb hs).imp fun σ H Q ⟨fm, S, ρ, so, eo, q⟩ => ⟨fm, S, ρ, so, eo, q.bind.imp fun u fm1 S1 H1 st1 so1 h1 v1 r1 => ⟨fm1, S1, ρ, so1, eo.mono st1.toGr, h1.bind.imp fun w fm2 S2 H2 st2 so2 h2 v2 r2 => by
    obtain ⟨z, e, h⟩ := h2.opt
    unfold ixU at e
    split at e
    · rename_i i
      cases r2
      split at e
      · rename_i kvs g
        exact .inr ⟨fm2, S2, u, kvs, i, z, so2, r1.mono st2.toGr, rfl, g, e, fun fm' H' v st so' r => h fm' H' st so' v r⟩
      · split at e
        · rename_i us g1
          exact .inl ⟨fm2, S2, u, us, i, z, so2, r1.mono st2.toGr, rfl, g1, e, fun fm' H' v st so' r => h fm' H' st so' v r⟩
        · cases e
    · cases e⟩⟩
theorem to_none : PO X none (tO X.K cls W fun _ S => .ok none S) := po_none.imp fun σ H Q ⟨fm, S, ρ, so, eo, q⟩ => q fm H .refl so
theorem to_some (ha : PE X a (tE X.K cls W ra)) : PO X (some a) (tO X.K cls W fun ρ S => (ra ρ S).bind fun u S1 => match u with | .int i => .ok (some i) S1 | _ => .stuck) :=
  (po_some ha).imp fun σ H Q ⟨fm, S, ρ, so, eo, q⟩ => ⟨fm, S, ρ, so, eo, q.bind.imp fun u fm1 S1 H1 st1 so1 h1 v1 r1 => by
    cases u <;> first | exact h1.elim | skip
    cases r1
    exact ⟨_, rfl, h1.ok fm1 H1 .refl so1⟩⟩
theorem te_sl {lo hi : Option Expr} {p2 : Pos} {rl rh : Rho → Sto → R (Option Int)} (ha : PE X a (tE X.K cls W ra)) (hl : PO X lo (tO X.K cls W rl)) (hh : PO X hi (tO X.K cls W rh)) :
    PE X (.Subscript a (.Slice lo hi none p2) pos) (tE X.K cls W fun ρ S => (ra ρ S).bind fun u S1 => (rl ρ S1).bind fun l S2 => (rh ρ S2).bind fun h S3 => optR S3 (slU S3 u l h)) :=
  (pe_slice sl_U ha hl hh).imp fun σ H Q ⟨fm, S, ρ, so, eo, q⟩ => ⟨fm, S, ρ, so, eo, q.bind.imp fun u fm1 S1 H1 st1 so1 h1 v1 r1 => ⟨fm1, S1, ρ, so1, eo.mono st1.toGr, h1.bind.imp fun l fm2 S2 H2 st2 so2 h2 =>
    ⟨fm2, S2, ρ, so2, (eo.mono st1.toGr).mono st2.toGr, h2.bind.imp fun h fm3 S3 H3 st3 so3 h3 => by
      obtain ⟨z, e, hq⟩ := h3.opt
      exact ⟨fm3, S3, u, z, so3, (r1.mono st2.toGr).mono st3.toGr, e, fun fm' H' v st so' r => hq fm' H' st so' v r⟩⟩⟩⟩
theorem te_rev {k : Nat} {p1 p2 p3 : Pos} (ha : PE X a (tE X.K cls W ra)) : PE X (.Subscript a (.Slice none none (some (.UnaryOp .USub (.Constant (.int 1) k p1) p2)) p3) pos) (tE X.K cls W fun ρ S => (ra ρ S).bind fun u S1 => optR S1 (revU S1 u)) :=
  (pe_revU ha).imp fun σ H Q ⟨fm, S, ρ, so, eo, q⟩ => ⟨fm, S, ρ, so, eo, q.bind.imp fun u fm1 S1 H1 st1 so1 h1 v1 r1 => by
    obtain ⟨z, e, hq⟩ := h1.opt
    exact ⟨fm1, S1, u, z, so1, r1, e, fun fm' H' v st so' r => hq fm' H' st so' v r⟩⟩
end
end Ev
set_option Elab.async false
set_option linter.all false
set_option maxRecDepth 100000
set_option maxHeartbeats 2000000
/-! Ev10: built-ins called, methods, new lists, as readings. -/
namespace Ev
open PySem PySem.Spec PyProof.Rows L2
section
variable {X : Cx} {cls : Nat → Value} {W : WX} {pos p : Pos} {a b c e : Expr} {es : List Expr} {ra rb rc : Rho → Sto → R U} {rs : Rho → Sto → R (List U)} {x : Str}

theorem te_biB {bi : Bi} {id : String} (hc : CallR X (.builtin id) (rBi X.K bi)) (hg : Gl X x) (hm : X.mg x = none) (hv : bootBuiltins x = some (.builtin id)) (ha : PA X (e :: es) (tEs X.K cls W rs)) (hn : x ≠ "__name__") (hdb : (x == ("__debug__" : Str)) = false)
    (he : starEach (e :: es) X.env = (false, eval e X.env) :: starEach es X.env) (hpl : (backTo pos (starEach es X.env)).any (·.1) = false) :
    PE X (.Call (.Name x p) (e :: es) [] pos) (tE X.K cls W fun ρ S => (rs ρ S).bind fun us S1 => optR S1 (biU S1 bi us)) :=
  (pe_callB hc hg hm hv ha hn hdb he hpl).imp fun σ H Q ⟨fm, S, ρ, so, eo, q⟩ => ⟨fm, S, ρ, so, eo, q.bind.imp fun us fm1 S1 H1 st1 so1 h1 vs rv => by
    obtain ⟨z, e, hq⟩ := h1.opt
    exact ⟨fm1, S1, us, z, so1, rv, e, fun fm' H' v st so' r => hq fm' H' st so' v r⟩⟩
theorem te_biT {bi : Bi} {T : String} (hc : CallR X (.type T) (rBi X.K bi)) (hg : Gl X x) (hm : X.mg x = none) (hv : bootBuiltins x = some (.type T)) (ha : PA X (e :: es) (tEs X.K cls W rs)) (hn : x ≠ "__name__") (hdb : (x == ("__debug__" : Str)) = false)
    (he : starEach (e :: es) X.env = (false, eval e X.env) :: starEach es X.env) (hpl : (backTo pos (starEach es X.env)).any (·.1) = false) :
    PE X (.Call (.Name x p) (e :: es) [] pos) (tE X.K cls W fun ρ S => (rs ρ S).bind fun us S1 => optR S1 (biU S1 bi us)) :=
  (pe_callTy hc hg hm hv ha hn hdb he hpl).imp fun σ H Q ⟨fm, S, ρ, so, eo, q⟩ => ⟨fm, S, ρ, so, eo, q.bind.imp fun us fm1 S1 H1 st1 so1 h1 vs rv => by
    obtain ⟨z, e, hq⟩ := h1.opt
    exact ⟨fm1, S1, us, z, so1, rv, e, fun fm' H' v st so' r => hq fm' H' st so' v r⟩⟩

/-! ### isinstance -/
def Vt.nm : Vt → String
  | .non => "NoneType" | .bl => "bool" | .int => "int" | .str => "str" | .tup => "tuple" | .lst => "list"
def Ty.nm : Ty → String
  | .int => "int" | .bool => "bool" | .str => "str" | .list => "list" | .tuple => "tuple"
theorem kit_vt (k : Vt) (t : Ty) : kitB k.nm t.nm = some (k.is t) := by cases k <;> cases t <;> decide +kernel
theorem vt_ty {K : PySem.W.Frag} {fm : List Addr} {S : Sto} {H : Hp} {u : U} {v : V} {k : Vt} (so : StOk K fm S H) (r : Rp K fm S H u v) (e : vtU S u = some k) : TyX K H v (.type k.nm) := by
  unfold vtU at e
  split at e
  · rename_i h; cases e; rw [rp_non r h]; exact .base .non
  · rename_i h; cases e; rw [rp_bl r h]; exact .base (.bl _)
  · rename_i h; cases e; rw [rp_int r h]; exact .base (.int _)
  · rename_i h; cases e; rw [rp_str r h]; exact .base (.str _)
  · rename_i h; cases e
    have r' := rp_tupU r h
    cases r' with
    | tup h1 _ _ => exact .base (.tup h1)
    | tupK h1 _ =>
      obtain ⟨o, its, n, hk, hc, _⟩ := h1
      exact .kTuple hk hc
  · rename_i h; cases e
    obtain ⟨a, vs, rfl, h1, _⟩ := rp_lst so r h
    exact .base (.lst h1)
  · cases e
theorem te_ist1 {t : Ty} {p2 : Pos} {y : Str} (hg : Gl X x) (hm : X.mg x = none) (hv : bootBuiltins x = some (.builtin "isinstance")) (hgy : Gl X y) (hmy : X.mg y = none) (hvy : bootBuiltins y = some (.type t.nm)) (hny : y ≠ "__name__") (hdy : (y == ("__debug__" : Str)) = false)
    (ha : PE X a (tE X.K cls W ra)) (hn : x ≠ "__name__") (hdb : (x == ("__debug__" : Str)) = false)
    (he : starEach (a :: [.Name y p2]) X.env = (false, eval a X.env) :: starEach [.Name y p2] X.env) :
    PE X (.Call (.Name x p) [a, .Name y p2] [] pos) (tE X.K cls W fun ρ S => (ra ρ S).bind fun u S1 => optR S1 ((vtU S1 u).map fun k => .bl ([t].any k.is))) :=
  (pe_callB call_isi hg hm hv (pa_cons ha (pa_cons (pe_bltn (v := .ty t.nm) hgy hmy hvy rfl hny hdy) pa_nil) he) hn hdb he).imp fun σ H Q ⟨fm, S, ρ, so, eo, q⟩ => ⟨fm, S, ρ, so, eo, q.bind.imp fun u fm1 S1 H1 st1 so1 h1 v1 r1 => by
    obtain ⟨z, e, hq⟩ := h1.opt
    obtain ⟨k, e', rfl⟩ := Option.map_eq_some_iff.mp e
    refine ⟨v1, .ty t.nm, .type k.nm, .type t.nm, k.is t, rfl, .ty _, vt_ty so1 r1 e', kit_ty (kit_vt k t), ?_⟩
    have := hq fm1 H1 .refl so1 _ (.bl _)
    simpa using this⟩
theorem te_ist2 {t1 t2 : Ty} {p2 p3 p4 : Pos} {k0 : Nat} {y z : Str} (hg : Gl X x) (hm : X.mg x = none) (hv : bootBuiltins x = some (.builtin "isinstance"))
    (hgy : Gl X y) (hmy : X.mg y = none) (hvy : bootBuiltins y = some (.type t1.nm)) (hny : y ≠ "__name__") (hdy : (y == ("__debug__" : Str)) = false)
    (hgz : Gl X z) (hmz : X.mg z = none) (hvz : bootBuiltins z = some (.type t2.nm)) (hnz : z ≠ "__name__") (hdz : (z == ("__debug__" : Str)) = false)
    (ha : PE X a (tE X.K cls W ra)) (hn : x ≠ "__name__") (hdb : (x == ("__debug__" : Str)) = false)
    (he : starEach (a :: [.Tuple [.Name y p2, .Name z p3] k0 p4]) X.env = (false, eval a X.env) :: starEach [.Tuple [.Name y p2, .Name z p3] k0 p4] X.env) :
    PE X (.Call (.Name x p) [a, .Tuple [.Name y p2, .Name z p3] k0 p4] [] pos) (tE X.K cls W fun ρ S => (ra ρ S).bind fun u S1 => optR S1 ((vtU S1 u).map fun k => .bl ([t1, t2].any k.is))) :=
  (pe_callB call_isiT hg hm hv (pa_cons ha (pa_cons (pe_tup (pa_cons (pe_bltn (v := .ty t1.nm) hgy hmy hvy rfl hny hdy) (pa_cons (pe_bltn (v := .ty t2.nm) hgz hmz hvz rfl hnz hdz) pa_nil))) pa_nil) he) hn hdb he).imp fun σ H Q ⟨fm, S, ρ, so, eo, q⟩ => ⟨fm, S, ρ, so, eo, q.bind.imp fun u fm1 S1 H1 st1 so1 h1 v1 r1 => by
    obtain ⟨z, e, hq⟩ := h1.opt
    obtain ⟨k, e', rfl⟩ := Option.map_eq_some_iff.mp e
    refine ⟨by show 2 ≤ sizeLine; decide, fun tp htp => ?_⟩
    have st := stp_new (o := .tup [.ty t1.nm, .ty t2.nm]) so1 htp
    have so2 := ok_new (o := .tup [.ty t1.nm, .ty t2.nm]) so1 htp
    have r2 := r1.mono st.toGr
    refine ⟨v1, tp, [.ty t1.nm, .ty t2.nm], .type k.nm, [.type t1.nm, .type t2.nm], k.is t1 || k.is t2, rfl, upd_same, .cons (.ty _) (.cons (.ty _) .nil), vt_ty so2 r2 e', ?_, ?_⟩
    · cases e1 : k.is t1 with
      | true => exact kitAny_cons (b := true) (kit_ty (by rw [kit_vt, e1])) (fun z => nomatch z) (fun _ => rfl)
      | false =>
        refine kitAny_cons (b := false) (kit_ty (by rw [kit_vt, e1])) (fun _ => ?_) (fun z => nomatch z)
        cases e2 : k.is t2 with
        | true => exact kitAny_cons (b := true) (kit_ty (by rw [kit_vt, e2])) (fun z => nomatch z) (fun _ => rfl)
        | false => exact kitAny_cons (b := false) (kit_ty (by rw [kit_vt, e2])) (fun _ => kitAny_nil) (fun z => nomatch z)
    · have := hq fm1 _ st so2 _ (.bl _)
      simpa using this⟩

/-! ### methods of lists -/
theorem ty_lst {K : PySem.W.Frag} {fm : List Addr} {S : Sto} {H : Hp} {u : U} {v : V} {m : Mt} (so : StOk K fm S H) (r : Rp K fm S H u v) (e : mtOk S m u = true) : tyV K "list" v H := by
  unfold mtOk at e
  split at e
  · rename_i h
    obtain ⟨a, vs, rfl, h1, _⟩ := rp_lst so r h
    exact .inl ⟨rfl, vs, SqL.of h1⟩
  · cases e
theorem te_mt0 {m : Mt} {name : Str} {id : String} {apos cpos : Pos} (pa : PlainAttrs "list") (slot : Slot "list" name id) (hty : typeOf (.builtin id) = pure (.type "method_descriptor")) (hm : MtM X id (rMt X.K m)) (ho : PE X a (tE X.K cls W ra))
    (hbase : attributeBase a name X.env (eval a X.env) = eval a X.env) (hline : (apos.endLine == cpos.line) = true) :
    PE X (.Call (.Attribute a name apos) [] [] cpos) (tE X.K cls W fun ρ S => (ra ρ S).bind fun u S1 => if mtOk S1 m u = true then (R.ok [] S1).bind fun us S2 => mthR (mthU S2 m u us) else .stuck) :=
  (pe_bm0 pa slot hty hm ho hbase hline).imp fun σ H Q ⟨fm, S, ρ, so, eo, q⟩ => ⟨fm, S, ρ, so, eo, q.bind.imp fun u fm1 S1 H1 st1 so1 h1 v1 r1 => by
    split at h1
    · rename_i hk
      refine ⟨ty_lst so1 r1 hk, ?_⟩
      replace h1 : Aft X.K cls W σ fm1 S1 H1 (mthR (mthU S1 m u [])) _ := h1
      cases e : mthU S1 m u [] with
      | none => rw [e] at h1; exact h1.elim
      | some zs =>
        obtain ⟨z, S2⟩ := zs
        rw [e] at h1
        exact ⟨fm1, S1, u, [], z, S2, so1, r1, .nil, e, fun fm' H' v st so' r => h1.ok fm' H' st so' v r⟩
    · exact h1.elim⟩
theorem te_mt {m : Mt} {name : Str} {id : String} {apos cpos : Pos} (pa : PlainAttrs "list") (slot : Slot "list" name id) (hty : typeOf (.builtin id) = pure (.type "method_descriptor")) (hm : MtM X id (rMt X.K m)) (ho : PE X a (tE X.K cls W ra)) (ha : PA X (e :: es) (tEs X.K cls W rs))
    (hbase : attributeBase a name X.env (eval a X.env) = eval a X.env)
    (hfew : ((backTo cpos (starEach (e :: es) X.env)).all (fun x => !x.1) && (backToKw cpos (keywordEach [] X.env)).all (fun x => x.1.isSome)
      && decide ((e :: es).length + ([] : List Keyword).length + (if ([] : List Keyword).isEmpty then 0 else 1) < 30)) = true)
    (hline : (apos.endLine == cpos.line) = true) (hs : starEach (e :: es) X.env = (false, eval e X.env) :: starEach es X.env) (hplain : (backTo cpos (starEach es X.env)).any (·.1) = false) :
    PE X (.Call (.Attribute a name apos) (e :: es) [] cpos) (tE X.K cls W fun ρ S => (ra ρ S).bind fun u S1 => if mtOk S1 m u = true then (rs ρ S1).bind fun us S2 => mthR (mthU S2 m u us) else .stuck) :=
  (pe_bm pa slot hty hm ho ha hbase hfew hline hs hplain).imp fun σ H Q ⟨fm, S, ρ, so, eo, q⟩ => ⟨fm, S, ρ, so, eo, q.bind.imp fun u fm1 S1 H1 st1 so1 h1 v1 r1 => by
    split at h1
    · rename_i hk
      refine ⟨ty_lst so1 r1 hk, fm1, S1, ρ, so1, eo.mono st1.toGr, h1.bind.imp fun us fm2 S2 H2 st2 so2 h2 vs rv => ?_⟩
      cases e : mthU S2 m u us with
      | none => rw [e] at h2; exact h2.elim
      | some zs =>
        obtain ⟨z, S3⟩ := zs
        rw [e] at h2
        exact ⟨fm2, S2, u, us, z, S3, so2, r1.mono st2.toGr, rv, e, fun fm' H' v st so' r => h2.ok fm' H' st so' v r⟩
    · exact h1.elim⟩

/-! ### new lists -/
theorem te_qv {rq : Rho → Sto → R (List U)} (h : PE X a (tQ X.K cls W rq)) : PE X a (tE X.K cls W fun ρ S => (rq ρ S).bind fun us S1 => .ok (.lst us) S1) :=
  h.imp fun σ H Q ⟨fm, S, ρ, so, eo, q⟩ => ⟨fm, S, ρ, so, eo, q.bind.imp fun us fm1 S1 H1 st1 so1 h1 vs p rv hp => h1.ok fm1 _ (stp_new so1 hp) (ok_new so1 hp) _ (rp_newL so1 hp rv)⟩
theorem te_qn {rq : Rho → Sto → R (List U)} (h : PE X a (tQ X.K cls W rq)) : PE X a (tE X.K cls W fun ρ S => (rq ρ S).bind fun us S1 => .ok (.ref S1.length) (S1 ++ [.liv (.lst us)])) :=
  h.imp fun σ H Q ⟨fm, S, ρ, so, eo, q⟩ => ⟨fm, S, ρ, so, eo, q.bind.imp fun us fm1 S1 H1 st1 so1 h1 vs p rv hp => by
    refine h1.ok (fm1 ++ [p]) _ (stp_put so1 hp) (ok_put so1 hp rv) _ (.ref ?_)
    rw [← so1.len, List.getElem?_append_right (Nat.le_refl _)]
    simp⟩
theorem te_frz (h : PE X a (tE X.K cls W ra)) : PE X a (tE X.K cls W fun ρ S => (ra ρ S).bind fun u S1 => match u with
    | .ref n => match S1[n]? with
      | some (.liv (.lst xs)) => .ok (.lst xs) (S1.set n .ded)
      | _ => .stuck
    | _ => .ok u S1) :=
  h.imp fun σ H Q ⟨fm, S, ρ, so, eo, q⟩ => ⟨fm, S, ρ, so, eo, q.bind.imp fun u fm1 S1 H1 st1 so1 h1 v1 r1 => by
    split at h1
    · rename_i n
      split at h1
      · rename_i xs hs
        cases r1 with
        | ref hf =>
          rename_i a'
          obtain ⟨vs, e1, rv⟩ := so1.obj _ _ _ hf hs
          have st := stp_cell (c' := .ded) so1 hs
          refine h1.ok fm1 H1 st (ok_cell so1 hs (.inr rfl)) _ (.lst e1 ?_ (rv.mono st.toGr))
          rintro ⟨m, c, f1, f2, f3⟩
          have : m = n := so1.inj _ _ _ f1 hf
          subst this
          rw [List.getElem?_set_self (List.getElem?_eq_some_iff.mp hs).1] at f2
          cases f2
          exact f3 rfl
      · exact h1.elim
    · exact h1.ok fm1 H1 .refl so1 v1 r1⟩
theorem tq_disp (hs : PA X es (tEs X.K cls W rs)) (hr : ∀ ρ S us S', rs ρ S = .ok us S' → us.length ≤ 1000) : PE X (.List es pos) (tQ X.K cls W rs) :=
  (pe_lst hs).imp fun σ H Q ⟨fm, S, ρ, so, eo, q⟩ => by
    refine ⟨fm, S, ρ, so, eo, ?_⟩
    have hl := hr ρ S
    revert hl
    revert q
    cases rs ρ S with
    | ok us S1 =>
      intro q hl fm1 H1 st1 so1 vs rv
      refine ⟨by rw [← rv.length, ← lim_eq]; exact Nat.le_trans (hl us S1 rfl) (by decide), fun p hp => q fm1 H1 st1 so1 vs p rv hp⟩
    | ex c S1 => exact fun q _ => q
    | stuck => exact fun q _ => q
theorem tq_lof (hg : Gl X x) (hm : X.mg x = none) (hv : bootBuiltins x = some (.type "list")) (ha : PE X a (tE X.K cls W ra)) (hn : x ≠ "__name__") (hdb : (x == ("__debug__" : Str)) = false) (he : starEach [a] X.env = (false, eval a X.env) :: starEach [] X.env) :
    PE X (.Call (.Name x p) [a] [] pos) (tQ X.K cls W fun ρ S => (ra ρ S).bind fun u S1 => optR S1 (seqOf S1 u)) :=
  (pe_callTy cr_lofU hg hm hv (pa_cons ha pa_nil he) hn hdb he).imp fun σ H Q ⟨fm, S, ρ, so, eo, q⟩ => ⟨fm, S, ρ, so, eo, q.bind.imp fun u fm1 S1 H1 st1 so1 h1 v1 r1 => by
    obtain ⟨z, e, hq⟩ := h1.opt
    exact ⟨fm1, S1, u, z, so1, .cons r1 .nil, e, fun fm' H' vs p st so' r hp => hq fm' H' st so' vs p r hp⟩⟩
theorem tq_srt (hg : Gl X x) (hm : X.mg x = none) (hv : bootBuiltins x = some (.builtin "sorted")) (ha : PE X a (tE X.K cls W ra)) (hn : x ≠ "__name__") (hdb : (x == ("__debug__" : Str)) = false) (he : starEach [a] X.env = (false, eval a X.env) :: starEach [] X.env) :
    PE X (.Call (.Name x p) [a] [] pos) (tQ X.K cls W fun ρ S => (ra ρ S).bind fun u S1 => match seqOf S1 u with | some xs => optR S1 (srtU xs) | none => .stuck) :=
  (pe_callB cr_srtU hg hm hv (pa_cons ha pa_nil he) hn hdb he).imp fun σ H Q ⟨fm, S, ρ, so, eo, q⟩ => ⟨fm, S, ρ, so, eo, q.bind.imp fun u fm1 S1 H1 st1 so1 h1 v1 r1 => by
    split at h1
    · rename_i xs h2
      obtain ⟨z, e, hq⟩ := h1.opt
      exact ⟨fm1, S1, u, xs, z, so1, .cons r1 .nil, h2, e, fun fm' H' vs p st so' r hp => hq fm' H' st so' vs p r hp⟩
    · exact h1.elim⟩
end
end Ev
set_option Elab.async false
set_option linter.all false
set_option maxRecDepth 100000
set_option maxHeartbeats 2000000
/-! Ev11: targets; what is walked. -/
namespace Ev
open PySem PySem.Spec PyProof.Rows L2
section
variable {K : PySem.W.Frag} {cls : Nat → Value} {W : WX} {fm fm' : List Addr} {S S' : Sto} {H H' : Hp}
theorem EnvOk.set {ρ : Rho} {σ : L2.St} {i : Nat} {u : U} {v : V} (h : EnvOk K fm S H ρ σ) (r : Rp K fm S H u v) : EnvOk K fm S H (ρ.set i (some u)) (σ.set i (some v)) := by
  refine ⟨by simp [h.1], fun j w e => ?_⟩
  by_cases hj : i = j
  · subst hj
    rw [List.getElem?_set] at e ⊢
    simp only [if_true] at e ⊢
    split at e
    · rename_i hl
      cases e
      exact ⟨v, by rw [if_pos (by rw [← h.1]; exact hl)], r⟩
    · cases e
  · rw [List.getElem?_set_ne hj] at e
    obtain ⟨v', e1, r'⟩ := h.2 j w e
    exact ⟨v', by rw [List.getElem?_set_ne hj]; exact e1, r'⟩
theorem EnvOk.unset {ρ : Rho} {σ : L2.St} {i : Nat} (h : EnvOk K fm S H ρ σ) : EnvOk K fm S H (ρ.set i none) (σ.set i none) := by
  refine ⟨by simp [h.1], fun j w e => ?_⟩
  by_cases hj : i = j
  · subst hj
    rw [List.getElem?_set] at e
    simp only [if_true] at e
    split at e <;> cases e
  · rw [List.getElem?_set_ne hj] at e
    obtain ⟨v', e1, r'⟩ := h.2 j w e
    exact ⟨v', by rw [List.getElem?_set_ne hj]; exact e1, r'⟩

/-- the names apart from wr stand as they stood -/
def Same (wr : Nat → Prop) (σ σ' : L2.St) : Prop := σ'.length = σ.length ∧ ∀ i, ¬ wr i → σ'[i]? = σ[i]?
theorem Same.refl {wr : Nat → Prop} {σ : L2.St} : Same wr σ σ := ⟨rfl, fun _ _ => rfl⟩
theorem Same.trans {wr : Nat → Prop} {σ σ' σ'' : L2.St} (h : Same wr σ σ') (h' : Same wr σ' σ'') : Same wr σ σ'' := ⟨h'.1.trans h.1, fun i n => (h'.2 i n).trans (h.2 i n)⟩
def tG (K : PySem.W.Frag) (wr : Nat → Prop) (g : U → Rho → Sto → Option (Rho × Sto)) : TG := fun v σ H Q =>
  ∃ fm S ρ u, StOk K fm S H ∧ EnvOk K fm S H ρ σ ∧ Rp K fm S H u v ∧ ∃ ρ' S', g u ρ S = some (ρ', S') ∧ ∀ fm' σ' H', Stp fm S H fm' S' H' → StOk K fm' S' H' → EnvOk K fm' S' H' ρ' σ' → Same wr σ σ' → Q σ' H'
def tGs (K : PySem.W.Frag) (wr : Nat → Prop) (g : List U → Rho → Sto → Option (Rho × Sto)) : TGs := fun vs σ H Q =>
  ∃ fm S ρ us, StOk K fm S H ∧ EnvOk K fm S H ρ σ ∧ Rps K fm S H us vs ∧ ∃ ρ' S', g us ρ S = some (ρ', S') ∧ ∀ fm' σ' H', Stp fm S H fm' S' H' → StOk K fm' S' H' → EnvOk K fm' S' H' ρ' σ' → Same wr σ σ' → Q σ' H'
theorem _root_.L2.PG.imp {X : Cx} {e : Expr} {t t' : TG} (h : PG X e t) (i : ∀ v σ H Q, t' v σ H Q → t v σ H Q) : PG X e t' := ⟨fun pins s σ H v u Q I r q => h.run pins s σ H v u Q I r (i v σ H Q q)⟩
theorem _root_.L2.PGs.imp {X : Cx} {e : List Expr} {t t' : TGs} (h : PGs X e t) (i : ∀ v σ H Q, t' v σ H Q → t v σ H Q) : PGs X e t' := ⟨fun pins s σ H v u Q I r q => h.run pins s σ H v u Q I r (i v σ H Q q)⟩
theorem _root_.L2.PI.imp {X : Cx} {tg e : Expr} {t t' : TI} (h : PI X tg e t) (i : ∀ σ H Q, t' σ H Q → t σ H Q) : PI X tg e t' := ⟨fun pins s σ H Q I q => h.run pins s σ H Q I (i σ H Q q)⟩
theorem _root_.L2.PS.imp {X : Cx} {e : Stmt} {t t' : TS} (h : PS X e t) (i : ∀ D σ H, t' D σ H → t D σ H) : PS X e t' := ⟨fun pins s σ H D I q => h.run pins s σ H D I (i D σ H q)⟩
theorem _root_.L2.PSs.imp {X : Cx} {e : List Stmt} {t t' : TS} (h : PSs X e t) (i : ∀ D σ H, t' D σ H → t D σ H) : PSs X e t' := ⟨fun pins s σ H D I q => h.run pins s σ H D I (i D σ H q)⟩
end
section
variable {X : Cx} {cls : Nat → Value} {W : WX} {pos p : Pos} {a b c e : Expr} {es : List Expr} {ra rb rc : Rho → Sto → R U} {x : Str} {wr : Nat → Prop}
theorem tg_name {i : Nat} (hN : X.N.Nodup) (hi : X.N[i]? = some x) (hx : Loc X.env.scope x) (hf : X.fn x = true ∨ X.env.scope.names.lookup x = some .local) (hw : wr i) :
    PG X (.Name x pos) (tG X.K wr fun u ρ S => if i < ρ.length then some (ρ.set i (some u), S) else none) :=
  (pg_name hN hi hx hf).imp fun v σ H Q ⟨fm, S, ρ, u, so, eo, ru, ρ', S', e, q⟩ => by
    dsimp only at e
    split at e
    · cases e
      exact q fm _ H .refl so (eo.set ru) ⟨List.length_set, fun j hj => List.getElem?_set_ne (fun z => hj (by rw [← z]; exact hw))⟩
    · cases e
theorem tgs_nil : PGs X [] (tGs X.K wr fun us ρ S => match us with | [] => some (ρ, S) | _ => none) :=
  pgs_nil.imp fun v σ H Q ⟨fm, S, ρ, us, so, eo, ru, ρ', S', e, q⟩ => by
    cases us with
    | nil => cases ru; cases e; exact ⟨rfl, q fm σ H .refl so eo .refl⟩
    | cons _ _ => cases e
theorem tgs_cons {g : U → Rho → Sto → Option (Rho × Sto)} {gs : List U → Rho → Sto → Option (Rho × Sto)} (h1 : PG X e (tG X.K wr g)) (h2 : PGs X es (tGs X.K wr gs))
    (hs : (assignEach (e :: es) X.env).map (·.2) = assign e X.env :: (assignEach es X.env).map (·.2)) :
    PGs X (e :: es) (tGs X.K wr fun us ρ S => match us with | u :: us => (match g u ρ S with | some (ρ1, S1) => gs us ρ1 S1 | none => none) | [] => none) :=
  (pgs_cons h1 h2 hs).imp fun v σ H Q ⟨fm, S, ρ, us, so, eo, ru, ρ', S', e, q⟩ => by
    cases ru with
    | nil => cases e
    | @cons u v1 us vs r1 r2 =>
      simp only at e
      cases e1 : g u ρ S with
      | none => rw [e1] at e; cases e
      | some rs =>
        obtain ⟨ρ1, S1⟩ := rs
        rw [e1] at e
        exact ⟨v1, vs, rfl, fm, S, ρ, u, so, eo, r1, ρ1, S1, e1, fun fm1 σ1 H1 st1 so1 eo1 sm1 => ⟨fm1, S1, ρ1, us, so1, eo1, r2.mono st1.toGr, ρ', S', e, fun fm2 σ2 H2 st2 so2 eo2 sm2 => q fm2 σ2 H2 (st1.trans st2) so2 eo2 (sm1.trans sm2)⟩⟩
theorem tg_tup {k n : Nat} {gs : List U → Rho → Sto → Option (Rho × Sto)} (hc : X.calm = true) (h : PGs X es (tGs X.K wr gs)) (hn : (assignEach es X.env).length = n) (hst : (assignEach es X.env).findIdx? (·.1) = none) :
    PG X (.Tuple es k pos) (tG X.K wr fun u ρ S => match unpack n u S with | some us => gs us ρ S | none => none) :=
  have both : PG X (.Tuple es k pos) (fun v σ H Q => gTup X.K n (tGs X.K wr gs) v σ H Q ∨ gUnl X.K n (tGs X.K wr gs) v σ H Q) :=
    ⟨fun pins s σ H v u Q I r q => q.elim (fun q => (pg_tup hc h hn hst).run pins s σ H v u Q I r q) (fun q => (pg_unl hc h hn hst).run pins s σ H v u Q I r q)⟩
  both.imp fun v σ H Q ⟨fm, S, ρ, u, so, eo, ru, ρ', S', e, q⟩ => by
    dsimp only at e
    cases e1 : unpack n u S with
    | none => rw [e1] at e; cases e
    | some us =>
      rw [e1] at e
      unfold unpack at e1
      split at e1
      · rename_i xs hx
        split at e1
        · rename_i hl
          cases e1
          obtain ⟨a, vs, rfl, hs, rv⟩ := rp_seq so ru hx
          have fin : tGs X.K wr gs vs σ H Q := ⟨fm, S, ρ, us, so, eo, rv, ρ', S', e, q⟩
          rcases hs with hs | hs
          · exact .inr ⟨a, vs, rfl, hs, by rw [← rv.length]; exact hl, fin⟩
          · exact .inl ⟨a, vs, rfl, hs, by rw [← rv.length]; exact hl, fin⟩
        · cases e1
      · cases e1
theorem _root_.L2.PSet.or {t t' : TSet} (h : PSet X t) (h' : PSet X t') : PSet X (fun o i v H Q => t o i v H Q ∨ t' o i v H Q) := fun pins s σ H o i v ov iv u Q I ro ri rv q => q.elim (fun q => h pins s σ H o i v ov iv u Q I ro ri rv q) fun q => h' pins s σ H o i v ov iv u Q I ro ri rv q
theorem tg_ix (hu : X.A.units + 64 < cLine) (ha : PE X a (tE X.K cls (fun _ _ _ _ => False) ra)) (hb : PE X b (tE X.K cls (fun _ _ _ _ => False) rb)) (hs : ∀ v, assign (.Subscript a b pos) X.env v = (do
      let ov ← holding [v] (eval a X.env)
      let iv ← holding [v, ov] (eval b X.env)
      standAt pos
      holding [v, ov, iv] (setItem ov iv v)
      release [v, ov, iv] [])) :
    PG X (.Subscript a b pos) (tG X.K wr fun v ρ S => match ra ρ S with
      | .ok (.ref n) S1 => match rb ρ S1 with
        | .ok (.int i) S2 => match S2[n]? with
          | some (.liv (.lst xs)) => match ixN xs.length i with
            | some k => some (ρ, S2.set n (.liv (.lst (xs.set k v))))
            | none => none
          | some (.liv (.dct kvs)) => if kvs.length < lim then some (ρ, S2.set n (.liv (.dct (dputU kvs i v)))) else none
          | _ => none
        | _ => none
      | _ => none) :=
  (pg_sub ha hb (PSet.or set_list (set_dict (Nat.lt_of_le_of_lt (Nat.add_le_add_left (by decide : 1 ≤ 64) _) hu))) hs).imp fun v σ H Q ⟨fm, S, ρ, u, so, eo, ru, ρ', S', e, q⟩ => by
    refine ⟨fm, S, ρ, so, eo, ?_⟩
    dsimp only at e
    split at e <;> first | contradiction | skip
    rename_i n S1 e1
    split at e <;> first | contradiction | skip
    rename_i i S2 e2
    rw [e1]
    intro fm1 H1 st1 so1 o ro
    refine ⟨fm1, S1, ρ, so1, eo.mono st1.toGr, ?_⟩
    rw [e2]
    intro fm2 H2 st2 so2 iv ri
    have ro2 := ro.mono st2.toGr
    have ru2 := (ru.mono st1.toGr).mono st2.toGr
    cases ro2 with
    | ref hf =>
      cases ri
      split at e <;> first | contradiction | skip
      · rename_i xs hs
        split at e <;> first | contradiction | skip
        rename_i k hk
        cases e
        obtain ⟨vs, h1, rv⟩ := so2.obj _ _ _ hf hs
        have hk' := hk
        rw [ixN_eq, rv.length] at hk'
        refine .inl ⟨_, vs, i, k, rfl, rfl, h1, hk', ?_⟩
        have st := stp_set (o' := .lst (xs.set k u)) (ho := .lst (vs.set k v)) so2 hf hs
        exact q fm2 σ _ (st1.trans (st2.trans st)) (ok_set so2 hf hs (rv.set ru2 k)) (((eo.mono st1.toGr).mono st2.toGr).mono st.toGr) .refl
      · rename_i kvs hs
        split at e <;> first | contradiction | skip
        rename_i hl
        cases e
        obtain ⟨vs, h1, rk⟩ := so2.obj _ _ _ hf hs
        refine .inr ⟨_, _, rfl, DPut.k (k := .inl i) (v := v) h1 (by rw [← rk.length, ← lim_eq]; exact hl), ?_⟩
        have st := stp_set (o' := .dct (dputU kvs i u)) (ho := .dK (putK vs (.inl i) v)) so2 hf hs
        exact q fm2 σ _ (st1.trans (st2.trans st)) (ok_setO so2 hf hs ⟨_, upd_same, (rk.put ru2).mono st.toGr⟩) (((eo.mono st1.toGr).mono st2.toGr).mono st.toGr) .refl
end

/-! ### what is walked -/
/-- at turn i it yields item i of us, while Pf holds -/
structure WU (K : PySem.W.Frag) (J : It) (us : List U) (Pf : List Addr → Sto → Hp → Prop) : Prop where
  goes : ∀ (i : Nat) fm S H, i < us.length → StOk K fm S H → Pf fm S H → J.go i H
  stops : ∀ fm S H, StOk K fm S H → Pf fm S H → J.stop us.length H
  yields : ∀ (i : Nat) fm S H x H', i < us.length → StOk K fm S H → Pf fm S H → J.yld i H x H' → ∃ u, us[i]? = some u ∧ Stp fm S H fm S H' ∧ StOk K fm S H' ∧ Rp K fm S H' u x
  keep : ∀ fm S H fm' S' H', Pf fm S H → Stp fm S H fm' S' H' → Pf fm' S' H'
  lockY : ∀ (i : Nat) H x H' D vs od, J.yld i H x H' → H D = some (.lst vs) → H' D = some (.lst vs) ∧ J.yld i (upd H D (.frz od (.lst vs))) x (upd H' D (.frz od (.lst vs)))
def lockO (S : Sto) : Option Nat → Sto
  | none => S
  | some n => lockS S n
def tI (K : PySem.W.Frag) (cls : Nat → Value) (W : WX) (r : Rho → Sto → R (List U × Option Nat)) : TI := fun σ H R =>
  ∃ fm S ρ, StOk K fm S H ∧ EnvOk K fm S H ρ σ ∧ Aft K cls W σ fm S H (r ρ S) fun p fm' S' H' => ∀ J Pf, WU K J p.1 Pf → Pf fm' (lockO S' p.2) H' → R J H'

theorem upd_upd {H : Hp} {a : Addr} {o o' : HO} : upd (upd H a o) a o' = upd H a o' := by
  funext b
  by_cases h : b = a
  · subst h; rw [upd_same, upd_same]
  · rw [upd_ne h, upd_ne h, upd_ne h]
theorem upd_comm {H : Hp} {a b : Addr} {o o' : HO} (h : a ≠ b) : upd (upd H a o) b o' = upd (upd H b o') a o := by
  funext c
  by_cases h1 : c = a
  · subst h1; rw [upd_ne h, upd_same, upd_same]
  · by_cases h2 : c = b
    · subst h2; rw [upd_same, upd_ne h1, upd_same]
    · rw [upd_ne h2, upd_ne h1, upd_ne h1, upd_ne h2]
theorem sqL_lock {K : PySem.W.Frag} {H : Hp} {D a : Addr} {vs xs : List V} {od : Obj} (hD : H D = some (.lst vs)) (h : SqL K (upd H D (.frz od (.lst vs))) a xs) : SqL K H a xs := by
  rcases h with (h | ⟨o, h⟩) | h
  · by_cases z : a = D
    · subst z; rw [upd_same] at h; cases h
    · rw [upd_ne z] at h; exact .inl (.inl h)
  · by_cases z : a = D
    · subst z; rw [upd_same] at h; cases h; exact .inl (.inl hD)
    · rw [upd_ne z] at h; exact .inl (.inr ⟨o, h⟩)
  · exact .inr h
theorem sqT_lock {K : PySem.W.Frag} {H : Hp} {D a : Addr} {vs xs : List V} {od : Obj} (hD : H D = some (.lst vs)) (h : SqT K (upd H D (.frz od (.lst vs))) a xs) : SqT K H a xs := by
  rcases h with (h | ⟨o, h⟩) | h
  · by_cases z : a = D
    · subst z; rw [upd_same] at h; cases h
    · rw [upd_ne z] at h; exact .inl (.inl h)
  · by_cases z : a = D
    · subst z; rw [upd_same] at h; cases h
    · rw [upd_ne z] at h; exact .inl (.inr ⟨o, h⟩)
  · exact .inr h
/-- what a pair's yield says of a lock -/
theorem lock_pair {H H' : Hp} {D T : Addr} {vs : List V} {od : Obj} {u : HO} (hD : H D = some (.lst vs)) (hT : H T = none) (e : H' = upd H T u) :
    H' D = some (.lst vs) ∧ (upd H D (.frz od (.lst vs))) T = none ∧ upd H' D (.frz od (.lst vs)) = upd (upd H D (.frz od (.lst vs))) T u := by
  have hne : D ≠ T := fun z => by subst z; rw [hD] at hT; cases hT
  subst e
  exact ⟨by rw [upd_ne hne]; exact hD, by rw [upd_ne hne.symm]; exact hT, upd_comm hne.symm⟩

section
variable {K : PySem.W.Frag}
theorem rp_tupA {fm : List Addr} {S : Sto} {H : Hp} {us : List U} {a : Addr} (r : Rp K fm S H (.tup us) (.ref a)) : ∃ vs, SqT K H a vs ∧ Rps K fm S H us vs := by
  obtain ⟨b, vs, e, h, rv⟩ := rp_tup (us := us) r rfl
  cases e
  exact ⟨vs, h, rv⟩
theorem rp_lstA {fm : List Addr} {S : Sto} {H : Hp} {us : List U} {a : Addr} (r : Rp K fm S H (.lst us) (.ref a)) : ∃ vs, SqL K H a vs ∧ Rps K fm S H us vs := by
  cases r with
  | lst h1 _ h3 => exact ⟨_, SqL.of h1, h3⟩
/-- the list of the store at n, locked -/
def Lkd (n : Nat) (a : Addr) (us : List U) : List Addr → Sto → Hp → Prop := fun fm S _ => fm[n]? = some a ∧ S[n]? = some (.lck (.lst us))
theorem Lkd.keep {n : Nat} {a : Addr} {us : List U} (fm S H fm' S' H') (h : Lkd n a us fm S H) (st : Stp fm S H fm' S' H') : Lkd n a us fm' S' H' := ⟨st.ext _ _ h.1, (st.lk _ _ _ h.1 h.2).1⟩
theorem Lkd.lst {n : Nat} {a : Addr} {us : List U} {fm : List Addr} {S : Sto} {H : Hp} (so : StOk K fm S H) (h : Lkd n a us fm S H) : ∃ vs, SqL K H a vs ∧ Rps K fm S H us vs := by
  obtain ⟨vs, h1, rv⟩ := so.obj _ _ _ h.1 h.2
  exact ⟨vs, SqL.of h1, rv⟩
theorem wu_tup {us : List U} {a : Addr} : WU K (Itt K a) us (fun fm S H => Rp K fm S H (.tup us) (.ref a)) where
  goes := fun i fm S H hi so h => by
    obtain ⟨vs, h1, rv⟩ := rp_tupA h
    exact ⟨vs, vs[i]'(by rw [← rv.length]; exact hi), h1, by simp⟩
  stops := fun fm S H so h => by
    obtain ⟨vs, h1, rv⟩ := rp_tupA h
    exact ⟨vs, h1, by rw [rv.length]; exact Nat.le_refl _⟩
  yields := fun i fm S H x H' hi so h y => by
    obtain ⟨vs, h1, rv⟩ := rp_tupA h
    obtain ⟨rfl, y⟩ := y
    obtain ⟨u, e, r⟩ := rv.getV (y vs h1)
    exact ⟨u, e, .refl, so, r⟩
  keep := fun fm S H fm' S' H' h st => h.mono st.toGr
  lockY := fun i H x H' D vs od ⟨e, y⟩ hD => by subst e; exact ⟨hD, rfl, fun xs h => y xs (sqT_lock hD h)⟩
theorem wu_lstG {us : List U} {a : Addr} {Pf : List Addr → Sto → Hp → Prop} (hp : ∀ fm S H, StOk K fm S H → Pf fm S H → ∃ vs, SqL K H a vs ∧ Rps K fm S H us vs) (hk : ∀ fm S H fm' S' H', Pf fm S H → Stp fm S H fm' S' H' → Pf fm' S' H') : WU K (Itl K a) us Pf where
  goes := fun i fm S H hi so h => by
    obtain ⟨vs, h1, rv⟩ := hp fm S H so h
    exact ⟨vs, vs[i]'(by rw [← rv.length]; exact hi), h1, by simp⟩
  stops := fun fm S H so h => by
    obtain ⟨vs, h1, rv⟩ := hp fm S H so h
    exact ⟨vs, h1, by rw [rv.length]; exact Nat.le_refl _⟩
  yields := fun i fm S H x H' hi so h y => by
    obtain ⟨vs, h1, rv⟩ := hp fm S H so h
    obtain ⟨rfl, y⟩ := y
    obtain ⟨u, e, r⟩ := rv.getV (y vs h1)
    exact ⟨u, e, .refl, so, r⟩
  keep := hk
  lockY := fun i H x H' D vs od ⟨e, y⟩ hD => by subst e; exact ⟨hD, rfl, fun xs h => y xs (sqL_lock hD h)⟩
theorem wu_lst {us : List U} {a : Addr} : WU K (Itl K a) us (fun fm S H => Rp K fm S H (.lst us) (.ref a)) :=
  wu_lstG (fun fm S H so h => rp_lstA h) fun fm S H fm' S' H' h st => h.mono st.toGr
theorem wu_lkd {us : List U} {a : Addr} {n : Nat} : WU K (Itl K a) us (Lkd n a us) :=
  wu_lstG (fun fm S H so h => h.lst so) Lkd.keep
theorem iotaU_length : ∀ (n : Nat) (lo : Int), (iotaU lo n).length = n
  | 0, _ => rfl
  | n + 1, lo => congrArg (· + 1) (iotaU_length n (lo + 1))
theorem iotaU_get : ∀ (n : Nat) (lo : Int) (i : Nat), i < n → (iotaU lo n)[i]? = some (.int (lo + i))
  | 0, _, _, h => by omega
  | n + 1, lo, 0, _ => by simp [iotaU]
  | n + 1, lo, i + 1, h => by
    show (iotaU (lo + 1) n)[i]? = _
    rw [iotaU_get n (lo + 1) i (by omega)]
    congr 2
    omega
theorem iotaC_length (c : Int) : ∀ (n : Nat) (lo : Int), (iotaC lo c n).length = n
  | 0, _ => rfl
  | n + 1, lo => congrArg (· + 1) (iotaC_length c n (lo + c))
theorem iotaC_get (c : Int) : ∀ (n : Nat) (lo : Int) (i : Nat), i < n → (iotaC lo c n)[i]? = some (.int (lo + (i : Nat) * c))
  | 0, _, _, h => by omega
  | n + 1, lo, 0, _ => by simp [iotaC]
  | n + 1, lo, i + 1, h => by
    show (iotaC (lo + c) c n)[i]? = _
    rw [iotaC_get c n (lo + c) i (by omega)]
    congr 2
    have : ((i + 1 : Nat) : Int) * c = (i : Int) * c + c := by rw [Int.natCast_add, Int.add_mul]; simp
    omega
theorem wu_rng {lo : Int} {n : Nat} : WU K (Itr lo n) (iotaU lo n) (fun _ _ _ => True) where
  goes := fun i fm S H hi _ _ => by rw [iotaU_length] at hi; exact hi
  stops := fun fm S H _ _ => by rw [iotaU_length]; exact Nat.le_refl _
  yields := fun i fm S H x H' hi so _ y => by
    rw [iotaU_length] at hi
    obtain ⟨rfl, rfl⟩ := y
    exact ⟨_, iotaU_get n lo i hi, .refl, so, .int _⟩
  keep := fun _ _ _ _ _ _ _ _ => trivial
  lockY := fun i H x H' D vs od ⟨e, y⟩ hD => by subst e; exact ⟨hD, rfl, y⟩
theorem wu_rngC {lo c : Int} {n : Nat} : WU K (Itc lo c n) (iotaC lo c n) (fun _ _ _ => True) where
  goes := fun i fm S H hi _ _ => by rw [iotaC_length] at hi; exact hi
  stops := fun fm S H _ _ => by rw [iotaC_length]; exact Nat.le_refl _
  yields := fun i fm S H x H' hi so _ y => by
    rw [iotaC_length] at hi
    obtain ⟨rfl, rfl⟩ := y
    exact ⟨_, iotaC_get c n lo i hi, .refl, so, .int _⟩
  keep := fun _ _ _ _ _ _ _ _ => trivial
  lockY := fun i H x H' D vs od ⟨e, y⟩ hD => by subst e; exact ⟨hD, rfl, y⟩
theorem zipU_length : ∀ (xs ys : List U), (zipU xs ys).length = min xs.length ys.length
  | [], _ => by simp [zipU]
  | _ :: _, [] => by simp [zipU]
  | x :: xs, y :: ys => by
    show (zipU xs ys).length + 1 = _
    rw [zipU_length xs ys, List.length_cons, List.length_cons]
    omega
theorem zipU_get : ∀ (xs ys : List U) (i : Nat) (x y : U), xs[i]? = some x → ys[i]? = some y → (zipU xs ys)[i]? = some (.tup [x, y])
  | [], _, _, _, _, h, _ => by simp at h
  | _ :: _, [], _, _, _, _, h => by simp at h
  | x :: xs, y :: ys, 0, _, _, h1, h2 => by simp at h1 h2; subst h1 h2; rfl
  | x :: xs, y :: ys, i + 1, a, b, h1, h2 => by
    show (zipU xs ys)[i]? = _
    exact zipU_get xs ys i a b (by simpa using h1) (by simpa using h2)
theorem enumU_length : ∀ (xs : List U) (k : Nat), (enumU k xs).length = xs.length
  | [], _ => rfl
  | x :: xs, k => congrArg (· + 1) (enumU_length xs (k + 1))
theorem enumU_get : ∀ (xs : List U) (k i : Nat) (x : U), xs[i]? = some x → (enumU k xs)[i]? = some (.tup [.int ((k + i : Nat) : Int), x])
  | [], _, _, _, h => by simp at h
  | x :: xs, k, 0, _, h => by simp at h; subst h; rfl
  | x :: xs, k, i + 1, y, h => by
    show (enumU (k + 1) xs)[i]? = _
    rw [enumU_get xs (k + 1) i y (by simpa using h)]
    congr 4
    omega
theorem wu_zipG {SA SB : Hp → List V → Prop} {us ws : List U} {J : It} {Pf : List Addr → Sto → Hp → Prop}
    (hp : ∀ fm S H, StOk K fm S H → Pf fm S H → ∃ vs zs, SA H vs ∧ SB H zs ∧ Rps K fm S H us vs ∧ Rps K fm S H ws zs) (hk : ∀ fm S H fm' S' H', Pf fm S H → Stp fm S H fm' S' H' → Pf fm' S' H')
    (go : ∀ i H, (∃ (xs ys : List V) (x y : V), SA H xs ∧ SB H ys ∧ xs[i]? = some x ∧ ys[i]? = some y) → J.go i H)
    (yld : ∀ i H v H', J.yld i H v H' → ∃ T x y, v = .ref T ∧ H T = none ∧ H' = upd H T (.tup [x, y]) ∧ (∀ xs, SA H xs → xs[i]? = some x) ∧ ∀ ys, SB H ys → ys[i]? = some y)
    (stop : ∀ i H, (∃ xs ys : List V, SA H xs ∧ SB H ys ∧ (xs.length ≤ i ∨ ys.length ≤ i)) → J.stop i H)
    (yld2 : ∀ i H v H', (∃ T x y, v = .ref T ∧ H T = none ∧ H' = upd H T (.tup [x, y]) ∧ (∀ xs, SA H xs → xs[i]? = some x) ∧ ∀ ys, SB H ys → ys[i]? = some y) → J.yld i H v H')
    (lkA : ∀ H D vs od xs, H D = some (.lst vs) → SA (upd H D (.frz od (.lst vs))) xs → SA H xs) (lkB : ∀ H D vs od xs, H D = some (.lst vs) → SB (upd H D (.frz od (.lst vs))) xs → SB H xs) : WU K J (zipU us ws) Pf where
  goes := fun i fm S H hi so h => by
    obtain ⟨vs, zs, h1, h2, r1, r2⟩ := hp fm S H so h
    rw [zipU_length] at hi
    exact go i H ⟨vs, zs, vs[i]'(by rw [← r1.length]; omega), zs[i]'(by rw [← r2.length]; omega), h1, h2, by simp, by simp⟩
  stops := fun fm S H so h => by
    obtain ⟨vs, zs, h1, h2, r1, r2⟩ := hp fm S H so h
    refine stop _ H ⟨vs, zs, h1, h2, ?_⟩
    rw [zipU_length, r1.length, r2.length]
    omega
  yields := fun i fm S H x H' hi so h y => by
    obtain ⟨vs, zs, h1, h2, r1, r2⟩ := hp fm S H so h
    obtain ⟨T, v1, v2, rfl, hT, rfl, y1, y2⟩ := yld i H x H' y
    obtain ⟨u1, e1, q1⟩ := r1.getV (y1 vs h1)
    obtain ⟨u2, e2, q2⟩ := r2.getV (y2 zs h2)
    exact ⟨_, zipU_get us ws i u1 u2 e1 e2, stp_new so hT, ok_new so hT, rp_newT so hT (.cons q1 (.cons q2 .nil))⟩
  keep := hk
  lockY := fun i H v H' D vs od y hD => by
    obtain ⟨T, x, z, e, hT, e2, y1, y2⟩ := yld i H v H' y
    obtain ⟨g1, g2, g3⟩ := lock_pair (od := od) hD hT e2
    exact ⟨g1, yld2 _ _ _ _ ⟨T, x, z, e, g2, g3, fun xs h => y1 xs (lkA _ _ _ _ _ hD h), fun xs h => y2 xs (lkB _ _ _ _ _ hD h)⟩⟩
theorem wu_enumG {SA : Hp → List V → Prop} {us : List U} {J : It} {Pf : List Addr → Sto → Hp → Prop}
    (hp : ∀ fm S H, StOk K fm S H → Pf fm S H → ∃ vs, SA H vs ∧ Rps K fm S H us vs) (hk : ∀ fm S H fm' S' H', Pf fm S H → Stp fm S H fm' S' H' → Pf fm' S' H')
    (go : ∀ i H, (∃ (xs : List V) (x : V), SA H xs ∧ xs[i]? = some x) → J.go i H)
    (yld : ∀ (i : Nat) H v H', J.yld i H v H' → ∃ T x, v = .ref T ∧ H T = none ∧ H' = upd H T (.tup [.int (i : Nat), x]) ∧ (∀ xs, SA H xs → xs[i]? = some x))
    (stop : ∀ i H, (∃ xs : List V, SA H xs ∧ xs.length ≤ i) → J.stop i H)
    (yld2 : ∀ (i : Nat) H v H', (∃ T x, v = .ref T ∧ H T = none ∧ H' = upd H T (.tup [.int (i : Nat), x]) ∧ (∀ xs, SA H xs → xs[i]? = some x)) → J.yld i H v H')
    (lkA : ∀ H D vs od xs, H D = some (.lst vs) → SA (upd H D (.frz od (.lst vs))) xs → SA H xs) : WU K J (enumU 0 us) Pf where
  goes := fun i fm S H hi so h => by
    obtain ⟨vs, h1, r1⟩ := hp fm S H so h
    rw [enumU_length] at hi
    exact go i H ⟨vs, vs[i]'(by rw [← r1.length]; omega), h1, by simp⟩
  stops := fun fm S H so h => by
    obtain ⟨vs, h1, r1⟩ := hp fm S H so h
    exact stop _ H ⟨vs, h1, by rw [enumU_length, r1.length]; exact Nat.le_refl _⟩
  yields := fun i fm S H x H' hi so h y => by
    obtain ⟨vs, h1, r1⟩ := hp fm S H so h
    obtain ⟨T, v1, rfl, hT, rfl, y1⟩ := yld i H x H' y
    obtain ⟨u1, e1, q1⟩ := r1.getV (y1 vs h1)
    refine ⟨_, enumU_get us 0 i u1 e1, stp_new so hT, ok_new so hT, ?_⟩
    rw [Nat.zero_add]
    exact rp_newT so hT (.cons (.int _) (.cons q1 .nil))
  keep := hk
  lockY := fun i H v H' D vs od y hD => by
    obtain ⟨T, x, e, hT, e2, y1⟩ := yld i H v H' y
    obtain ⟨g1, g2, g3⟩ := lock_pair (od := od) hD hT e2
    exact ⟨g1, yld2 _ _ _ _ ⟨T, x, e, g2, g3, fun xs h => y1 xs (lkA _ _ _ _ _ hD h)⟩⟩
end
end Ev
set_option Elab.async false
set_option linter.all false
set_option maxRecDepth 100000
set_option maxHeartbeats 2000000
/-! Ev12: what a for or a comprehension walks. -/
namespace Ev
open PySem PySem.Spec PyProof.Rows L2
/-- a list or a tuple, walked -/
def iSeq (K : PySem.W.Frag) (tl : TE) : TI := fun σ H R => tl σ H fun x H1 => ∃ a, x = .ref a ∧ ((∃ xs, SqL K H1 a xs ∧ R (Itl K a) H1) ∨ (∃ xs, SqT K H1 a xs ∧ R (Itt K a) H1))
theorem pi_seq {X : Cx} {tg l : Expr} {tl : TE} (hl : PE X l tl) : PI X tg l (iSeq X.K tl) := by
  refine ⟨fun pins s σ H R I h => ?_⟩
  refine thn (hl.run pins s σ H _ I h) fun v s1 ⟨x, H1, I1, r1, q1⟩ => ?_
  obtain ⟨a, e, q⟩ := q1
  subst e
  cases r1
  rcases q with ⟨xs, hq, q⟩ | ⟨xs, hq, q⟩
  · obtain ⟨its, rv, p, hz⟩ := I1.list hq
    refine wpAny_pyIter_list p.isList ?_
    exact pi_one (tk := s1.toks) I1 _ (turn_list a _) ⟨_, Heap.get?_push_size _ rfl, rfl, rfl⟩ q
  · obtain ⟨its, rv, p, hz⟩ := I1.tuple hq
    refine wpAny_pyIter_tuple (show s1.heap.IsTuple a its.toArray from p) ?_
    exact pi_one (tk := s1.toks) I1 _ (turn_tuple a _) ⟨_, Heap.get?_push_size _ rfl, rfl, rfl⟩ q

section
variable {K : PySem.W.Frag} {fm : List Addr} {S : Sto} {H : Hp}
abbrev PfT := List Addr → Sto → Hp → Prop
/-- what a lock says: the walk over the thing itself -/
theorem lock_walk (so : StOk K fm S H) {u : U} {v : V} {us : List U} {l : Option Nat} (r : Rp K fm S H u v) (e : lockOf S u = some (us, l)) :
    ∃ a, v = .ref a ∧ ((∃ (vs : List V) (Pf : PfT), SqL K H a vs ∧ (∀ fm S H, StOk K fm S H → Pf fm S H → ∃ vs, SqL K H a vs ∧ Rps K fm S H us vs) ∧ (∀ fm S H fm' S' H', Pf fm S H → Stp fm S H fm' S' H' → Pf fm' S' H') ∧ Pf fm (lockO S l) H) ∨
      (∃ (vs : List V) (Pf : PfT), SqT K H a vs ∧ (∀ fm S H, StOk K fm S H → Pf fm S H → ∃ vs, SqT K H a vs ∧ Rps K fm S H us vs) ∧ (∀ fm S H fm' S' H', Pf fm S H → Stp fm S H fm' S' H' → Pf fm' S' H') ∧ Pf fm (lockO S l) H)) := by
  cases r with
  | non => cases e
  | bl => cases e
  | int => cases e
  | str => cases e
  | exc => cases e
  | fzK => cases e
  | ref hf =>
    rename_i a n
    dsimp only [lockOf] at e
    split at e
    · rename_i xs hs
      cases e
      obtain ⟨vs, h1, rv⟩ := so.obj _ _ _ hf hs
      refine ⟨a, rfl, .inl ⟨vs, Lkd n a us, SqL.of h1, fun fm S H so h => h.lst so, Lkd.keep, hf, ?_⟩⟩
      show (lockS S n)[n]? = _
      unfold lockS
      rw [hs]
      exact List.getElem?_set_self (List.getElem?_eq_some_iff.mp hs).1
    · rename_i xs hs
      cases e
      obtain ⟨vs, h1, rv⟩ := so.obj _ _ _ hf hs
      exact ⟨a, rfl, .inl ⟨vs, Lkd n a us, SqL.of h1, fun fm S H so h => h.lst so, Lkd.keep, hf, hs⟩⟩
    · cases e
  | tup h1 h2 h3 =>
    rename_i a us vs
    cases e
    have r : Rp K fm S H (.tup us) (.ref a) := .tup h1 h2 h3
    obtain ⟨vs, h4, _⟩ := rp_tupA r
    exact ⟨_, rfl, .inr ⟨vs, fun fm S H => Rp K fm S H (.tup us) (.ref a), h4, fun fm S H so h => rp_tupA h, fun fm S H fm' S' H' h st => h.mono st.toGr, r⟩⟩
  | tupK h1 h2 =>
    rename_i a us vs
    cases e
    have r : Rp K fm S H (.tup us) (.ref a) := .tupK h1 h2
    obtain ⟨vs, h4, _⟩ := rp_tupA r
    exact ⟨_, rfl, .inr ⟨vs, fun fm S H => Rp K fm S H (.tup us) (.ref a), h4, fun fm S H so h => rp_tupA h, fun fm S H fm' S' H' h st => h.mono st.toGr, r⟩⟩
  | lst h1 h2 h3 =>
    rename_i a us vs
    cases e
    exact ⟨_, rfl, .inl ⟨_, fun fm S H => Rp K fm S H (.lst us) (.ref a), SqL.of h1, fun fm S H so h => rp_lstA h, fun fm S H fm' S' H' h st => h.mono st.toGr, .lst h1 h2 h3⟩⟩
theorem wu_tupG {us : List U} {a : Addr} {Pf : List Addr → Sto → Hp → Prop} (hp : ∀ fm S H, StOk K fm S H → Pf fm S H → ∃ vs, SqT K H a vs ∧ Rps K fm S H us vs) (hk : ∀ fm S H fm' S' H', Pf fm S H → Stp fm S H fm' S' H' → Pf fm' S' H') : WU K (Itt K a) us Pf where
  goes := fun i fm S H hi so h => by
    obtain ⟨vs, h1, rv⟩ := hp fm S H so h
    exact ⟨vs, vs[i]'(by rw [← rv.length]; exact hi), h1, by simp⟩
  stops := fun fm S H so h => by
    obtain ⟨vs, h1, rv⟩ := hp fm S H so h
    exact ⟨vs, h1, by rw [rv.length]; exact Nat.le_refl _⟩
  yields := fun i fm S H x H' hi so h y => by
    obtain ⟨vs, h1, rv⟩ := hp fm S H so h
    obtain ⟨rfl, y⟩ := y
    obtain ⟨u, e, r⟩ := rv.getV (y vs h1)
    exact ⟨u, e, .refl, so, r⟩
  keep := hk
  lockY := fun i H x H' D vs od ⟨e, y⟩ hD => by subst e; exact ⟨hD, rfl, fun xs h => y xs (sqT_lock hD h)⟩
end

section
variable {X : Cx} {cls : Nat → Value} {W : WX} {pos p tpos : Pos} {a b c tg : Expr} {ra rb rc : Rho → Sto → R U} {x : Str}
theorem ti_val (ha : PE X a (tE X.K cls W ra)) : PI X tg a (tI X.K cls W fun ρ S => (ra ρ S).bind fun u S1 => optR S1 (lockOf S1 u)) :=
  (pi_seq ha).imp fun σ H R ⟨fm, S, ρ, so, eo, q⟩ => ⟨fm, S, ρ, so, eo, q.bind.imp fun u fm1 S1 H1 st1 so1 h1 v1 r1 => by
    obtain ⟨⟨us, l⟩, e, h⟩ := h1.opt
    have h := h fm1 H1 .refl so1
    obtain ⟨a, rfl, hw⟩ := lock_walk so1 r1 e
    refine ⟨a, rfl, ?_⟩
    rcases hw with ⟨vs, Pf, hs, h2, h3, h4⟩ | ⟨vs, Pf, hs, h2, h3, h4⟩
    · exact .inl ⟨vs, hs, h _ Pf (wu_lstG h2 h3) h4⟩
    · exact .inr ⟨vs, hs, h _ Pf (wu_tupG h2 h3) h4⟩⟩
theorem small_of {i : Int} (h : small i = true) : -(2 ^ 62) ≤ i ∧ i < 2 ^ 62 := by
  unfold small at h
  simpa using h
theorem ti_rng1 (hg : Gl X "range") (hm : X.mg "range" = none) (ha : PE X a (tE X.K cls W ra)) (hs : starEach [a] X.env = [(false, eval a X.env)]) :
    PI X tg (.Call (.Name "range" p) [a] [] pos) (tI X.K cls W fun ρ S => (ra ρ S).bind fun u S1 => match u with
      | .int j => if small j = true then .ok (iotaU 0 j.toNat, none) S1 else .stuck
      | _ => .stuck) :=
  (pi_range1 hg hm (pa_cons ha pa_nil hs) hs).imp fun σ H R ⟨fm, S, ρ, so, eo, q⟩ => ⟨fm, S, ρ, so, eo, q.bind.imp fun u fm1 S1 H1 st1 so1 h1 v1 r1 => by
    split at h1
    · rename_i j
      cases r1
      split at h1
      · rename_i hj
        obtain ⟨h2, h3⟩ := small_of hj
        exact ⟨j, rfl, h2, h3, h1.ok fm1 H1 .refl so1 _ _ wu_rng trivial⟩
      · exact h1.elim
    · exact h1.elim⟩
theorem ti_rng2 (hg : Gl X "range") (hm : X.mg "range" = none) (ha : PE X a (tE X.K cls W ra)) (hb : PE X b (tE X.K cls W rb)) (hs : starEach [a, b] X.env = [(false, eval a X.env), (false, eval b X.env)]) (hs2 : starEach [b] X.env = [(false, eval b X.env)]) :
    PI X tg (.Call (.Name "range" p) [a, b] [] pos) (tI X.K cls W fun ρ S => (ra ρ S).bind fun u S1 => (rb ρ S1).bind fun v S2 => match u, v with
      | .int i, .int j => if small i = true ∧ small j = true then .ok (iotaU i (j - i).toNat, none) S2 else .stuck
      | _, _ => .stuck) :=
  (pi_range2 hg hm (pa_cons ha (pa_cons hb pa_nil hs2) (by rw [hs, hs2])) hs hs2).imp fun σ H R ⟨fm, S, ρ, so, eo, q⟩ => ⟨fm, S, ρ, so, eo, q.bind.imp fun u fm1 S1 H1 st1 so1 h1 v1 r1 => ⟨fm1, S1, ρ, so1, eo.mono st1.toGr, h1.bind.imp fun w fm2 S2 H2 st2 so2 h2 v2 r2 => by
    split at h2
    · rename_i i j
      cases r1
      cases r2
      split at h2
      · rename_i hj
        obtain ⟨h4, h5⟩ := small_of hj.1
        obtain ⟨h6, h7⟩ := small_of hj.2
        exact ⟨i, j, rfl, ⟨h4, h5, h6, h7⟩, h2.ok fm2 H2 .refl so2 _ _ wu_rng trivial⟩
      · exact h2.elim
    · exact h2.elim⟩⟩
theorem ti_rng3 (hg : Gl X "range") (hm : X.mg "range" = none) (ha : PE X a (tE X.K cls W ra)) (hb : PE X b (tE X.K cls W rb)) (hc : PE X c (tE X.K cls W rc)) (hs : starEach [a, b, c] X.env = (false, eval a X.env) :: starEach [b, c] X.env)
    (hs2 : starEach [b, c] X.env = (false, eval b X.env) :: starEach [c] X.env) (hs3 : starEach [c] X.env = (false, eval c X.env) :: starEach [] X.env) (hpl : (backTo pos (starEach [b, c] X.env)).any (·.1) = false) :
    PI X tg (.Call (.Name "range" p) [a, b, c] [] pos) (tI X.K cls W fun ρ S => (ra ρ S).bind fun u S1 => (rb ρ S1).bind fun v S2 => (rc ρ S2).bind fun w S3 => match u, v, w with
      | .int i, .int j, .int (-1) => if small i = true ∧ small j = true then .ok (iotaC i (-1) (i - j).toNat, none) S3 else .stuck
      | _, _, _ => .stuck) :=
  (pi_range3 hg hm (pa_cons ha (pa_cons hb (pa_cons hc pa_nil hs3) hs2) hs) hs hpl).imp fun σ H R ⟨fm, S, ρ, so, eo, q⟩ => ⟨fm, S, ρ, so, eo, q.bind.imp fun u fm1 S1 H1 st1 so1 h1 v1 r1 => ⟨fm1, S1, ρ, so1, eo.mono st1.toGr, h1.bind.imp fun w fm2 S2 H2 st2 so2 h2 v2 r2 =>
    ⟨fm2, S2, ρ, so2, (eo.mono st1.toGr).mono st2.toGr, h2.bind.imp fun z fm3 S3 H3 st3 so3 h3 v3 r3 => by
    split at h3
    · rename_i i j
      cases r1
      cases r2
      cases r3
      split at h3
      · rename_i hj
        obtain ⟨h4, h5⟩ := small_of hj.1
        obtain ⟨h6, h7⟩ := small_of hj.2
        exact ⟨i, j, -1, (i - j).toNat, rfl, RgC.neg h4 h5 h6 h7, h3.ok fm3 H3 .refl so3 _ _ wu_rngC trivial⟩
      · exact h3.elim
    · exact h3.elim⟩⟩⟩
end
end Ev
set_option Elab.async false
set_option linter.all false
set_option maxRecDepth 100000
set_option maxHeartbeats 2000000
/-! Ev13: enumerate of lists and tuples; zip; [..] * n. -/
namespace Ev
open PySem PySem.Spec PyProof.Rows L2

theorem meets_enum1 {v : Value} {o : Obj} {G : Heap → Prop} (B : Begins v o G) :
    Meets (Builtin.«enumerate.__new__» ⟨[.type "enumerate", v], []⟩) (fun _ R s => G s.heap ∧
      R (.ok (.ret (.ref (s.heap.push o).objs.size))) { s with heap := (s.heap.push o).push { cls := .type "enumerate", data := .fields #[.none, .bool false, .ref s.heap.objs.size, rawInt 0, .none, .none] } }) :=
  .of_wp fun prog w A R s h => by
    obtain ⟨hp, g, d, tk, os⟩ := s; obtain ⟨h1, h⟩ := h
    have hsub := sub_enumerate
    have q1 : ∀ {A' : Around} {E : Value → Shared → Prop} {Q : Value → Shared → Prop}, Q (.ref hp.objs.size) ⟨hp.push o, g, d, tk, os⟩ → wpAny (model prog w) A' (pyIter v) Q E ⟨hp, g, d, tk, os⟩ :=
      fun q => B.iter prog w _ _ ⟨hp, g, d, tk, os⟩ _ h1 q
    wp_walk using q1
    refine wpAny_stack_any fun st => wpAny_pure ?_
    split
    · rename_i c _ _ _ _ _
      cases (c == Value.type "enumerate")
      · wp_walk using q1
        exact ⟨_, rfl, h⟩
      · wp_walk using q1
        exact ⟨_, rfl, h⟩
    · wp_walk using q1
      exact ⟨_, rfl, h⟩
theorem enum1_begins {prog : Program} {w : World} {A : Around} {E : Value → Shared → Prop} {s : Shared} {v : Value} {o : Obj} {G : Heap → Prop} {Q : Value → Shared → Prop} (B : Begins v o G) (h1 : G s.heap)
    (h : ∀ h', IsEnum h' (s.heap.objs.size + 1) s.heap.objs.size 0 .none → h'.get? s.heap.objs.size = some o → h'.objs.size = s.heap.objs.size + 2 →
      (∀ b o, s.heap.get? b = some o → h'.get? b = some o) → Q (.ref (s.heap.objs.size + 1)) { s with heap := h' }) :
    wpAny (model prog w) A (call (.type "enumerate") [v]) Q E s := by
  refine callType_new F.called_enumerate (by decide) (F.typeCall_enumerate_1 _) (F.newCall_enumerate_1 _) (fun obj => F.args_object_init_2 obj _) F.entry_enumerate_new
    (meets_enum1 B) ⟨h1, ?_⟩
  have hz : (s.heap.push o).objs.size = s.heap.objs.size + 1 := Heap.size_push ..
  show _ ∧ _
  rw [hz]
  have he : IsEnum ((s.heap.push o).push { cls := .type "enumerate", data := .fields #[.none, .bool false, .ref s.heap.objs.size, rawInt 0, .none, .none] }) (s.heap.objs.size + 1) s.heap.objs.size 0 .none := by
    have := Heap.get?_push_size (s.heap.push o) (o := { cls := .type "enumerate", data := .fields #[.none, .bool false, .ref s.heap.objs.size, rawInt 0, .none, .none] }) rfl
    rw [hz] at this; exact this
  refine ⟨⟨_, he, rfl⟩, h _ he (Heap.get?_push_of_some _ (Heap.get?_push_size _ B.free)) (by rw [Heap.size_push, hz]) fun b o x => Heap.get?_push_of_some _ (Heap.get?_push_of_some _ x)⟩

theorem enumT_end {prog : Program} {w : World} {A : Around} {E : Value → Shared → Prop} {s : Shared} {e it t : Addr} {i : Nat} {items : Array Value} {j : Int} {old : Value} {Q : Option Value → Shared → Prop} (hh : A.handled = none)
    (he : IsEnum s.heap e it j old) (hit : s.heap.IsTupleIter it t i) (ht : s.heap.IsTuple t items) (hx : items[i]? = none)
    (hQ : ∀ h', Heap.ExtBut it s.heap h' → Q none { s with heap := h' }) : wpAny (model prog w) A (pyNext (.ref e)) Q E s := by
  have hT : s.TypeIs (.ref e) "enumerate" := ⟨_, he, rfl⟩
  unfold pyNext
  refine wpAny_bind (wpAny_attempt (wpAny_callSpecial?_slot (name := Str.ofString "__next__") hT F.slot_enumerate_next
    (wpAny_call_entry F.slot_enumerate_next hT F.entry_enumerate_next ?_ (F.args_enumerate_next_1 _))))
  show wpAny _ _ (field (.ref e) 2 >>= _) _ _ _
  refine wpAny_bind (wpAny_field he rfl (x := .ref it) rfl ?_)
  refine wpAny_bind (wpAny_nextOf_tuple_end hh hit ht hx fun h' x he' hx' => ?_)
  obtain ⟨o, ho, hc⟩ := hx'
  refine wpAny_bind (wpAny_isInstance (T := "StopIteration") (b := true) ⟨o, ho, hc⟩ isSubtype_stop ?_)
  exact wpAny_pure (hQ _ he')

/-- the tuple at a, each item in a new pair -/
def IteT (K : PySem.W.Frag) (a : Addr) : It :=
  ⟨fun i H => ∃ (xs : List V) (x : V), SqT K H a xs ∧ xs[i]? = some x, fun i H v H' => ∃ T x, v = .ref T ∧ H T = none ∧ H' = upd H T (.tup [.int (i : Nat), x]) ∧ ∀ xs, SqT K H a xs → xs[i]? = some x, fun i H => ∃ xs : List V, SqT K H a xs ∧ xs.length ≤ i⟩
theorem turn_enumT {P : Program} {w : World} {K : PySem.W.Frag} {elts : List Expr} {kk : Nat} {tpos : Pos} (a e it : Addr) (hai : a ≠ it) (hae : e ≠ a) :
    Turn P w K (.Tuple elts kk tpos) (IteT K a) [e, it] e (fun i h => (∃ old, IsEnum h e it ((i : Nat) : Int) old) ∧ h.IsTupleIter it a i ∧ e ≠ it) where
  mem := by simp
  obj := fun i h st b hb => by
    obtain ⟨⟨old, he⟩, ⟨o, ho, hc, hd⟩, _⟩ := st
    have e' : b = e ∨ b = it := by simpa using hb
    rcases e' with z | z
    · rw [z]; exact ⟨_, he, fun v q => nomatch q⟩
    · rw [z]; exact ⟨o, ho, fun v q => by rw [hd] at q; cases q⟩
  keep := fun i h h' st k => let ⟨⟨old, he⟩, hi, hne⟩ := st; ⟨⟨old, k e (by simp) _ he⟩, hi.at fun o q => k it (by simp) o q, hne⟩
  item := by
    intro X hP hw hK hc i pins s σ H E I hf st hg
    subst hP hw hK
    obtain ⟨⟨old, he⟩, hit, hne⟩ := st
    obtain ⟨xs, x, hq, hx⟩ := hg
    obtain ⟨its, rv, p, hz⟩ := I.tuple hq
    obtain ⟨u, hu, ru⟩ := rv.get hx
    have hel : e < s.heap.objs.size := Heap.lt_size he
    have hil : it < s.heap.objs.size := by obtain ⟨_, q, _⟩ := hit; exact Heap.lt_size q
    have ps : s.heap.IsTuple a its.toArray := p
    have hlt : i < its.toArray.size := by
      have := (List.getElem?_eq_some_iff.mp hu).1
      simpa using this
    refine wpAny_pyNext_enum_itemD (Draws.tuple (prog := X.prog) (w := X.w) (A := X.A.in1) (I.ok.hd hc) it a hai its.toArray) he ⟨hit, ps⟩ hlt hne (by simp [hne, hae]) fun x' h' tk hP ho hit' hT hsz hk => ?_
    have ex : x' = u := by
      have : its.toArray[i]? = some x' := hP
      have h2 : its.toArray[i]? = some u := by simpa using hu
      rw [h2] at this
      exact (Option.some.inj this).symm
    subst ex
    refine ⟨_, rfl, wpAny_letOwnedTupleGo_enum (s := { s with heap := h', toks := tk + 1 }) ho fun h'' he' sb => ?_⟩
    have hT2 : h''.get? s.heap.objs.size = some { cls := .type "tuple", data := .seq #[.int i tk, x'] } := (sb.2 _ (Nat.ne_of_gt hel)).trans hT
    have new : ObjOk X.prog X.w (upd H s.heap.objs.size (.tup [.int (i : Nat), x])) h'' s.heap.objs.size (.tup [.int (i : Nat), x]) :=
      ⟨by show 2 ≤ sizeLine; decide, [.int i tk, x'], .cons ⟨_, rfl⟩ (.cons ru .nil), ⟨_, hT2, rfl, _, rfl⟩⟩
    have I1 : Inv X pins σ (upd H s.heap.objs.size (.tup [.int (i : Nat), x])) { s with heap := h'', toks := tk + 1 } :=
      I.turnedNew (ch := [e, it]) (fun b ob hb q => (sb.2 b (fun z => hb (by simp [z]))).trans (hk b ob (fun z => hb (by simp [z])) (fun z => hb (by simp [z])) q)) hf (Nat.le_refl _) new
    refine ⟨.ref s.heap.objs.size, _, I1, rfl, ⟨_, x, rfl, I.hok.fresh (Nat.le_refl _), rfl, fun ys hy => by rw [I.tuple_inj hy hq]; exact hx⟩, ⟨⟨x', ?_⟩, hit'.1.at fun o q => (sb.2 it (Ne.symm hne)).trans q, hne⟩, fun b hb => ?_⟩
    · have e1 : ((i + 1 : Nat) : Int) = (i : Int) + 1 := by omega
      rw [e1]; exact he'
    · have hb' : b < s.heap.objs.size := by
        have e' : b = e ∨ b = it := by simpa using hb
        rcases e' with z | z
        · rw [z]; exact hel
        · rw [z]; exact hil
      rw [upd_ne (Nat.ne_of_lt hb')]
      exact (hf b hb).1
  done := by
    intro X hP hw hK hc i pins s σ H E I hf st hg
    subst hP hw hK
    obtain ⟨⟨old, he⟩, hit, hne⟩ := st
    obtain ⟨xs, hq, hx⟩ := hg
    obtain ⟨its, rv, p, hz⟩ := I.tuple hq
    obtain ⟨f0, f1, f2, f3, f4, f5⟩ := hf it (by simp)
    have hl := rv.length
    have ps : s.heap.IsTuple a its.toArray := p
    -- the walk is over: of no turn more than the items
    exact enumT_end (I.ok.hd hc) he hit ps (by simp; omega) fun h' eb => ⟨rfl, I.turned (t' := s.toks) (fun b o hb q => eb b o hb q) f0 f1 f3 f4 f5⟩
  self := fun A i s Q E st h => let ⟨⟨_, he⟩, _⟩ := st; wpAny_pyIter_enum he h
def iEnumA (K : PySem.W.Frag) (ta : TA) : TI := fun σ H R => ta σ H fun vs H1 => ∃ a, vs = [.ref a] ∧ ((∃ xs, SqL K H1 a xs ∧ R (Ite K a) H1) ∨ (∃ xs, SqT K H1 a xs ∧ R (IteT K a) H1))
theorem pi_enumA {X : Cx} {e : Expr} {ta : TA} {p pos tpos : Pos} {elts : List Expr} {kk : Nat} (hg : Gl X "enumerate") (hm : X.mg "enumerate" = none) (ha : PA X [e] ta) (hs : starEach [e] X.env = [(false, eval e X.env)]) :
    PI X (.Tuple elts kk tpos) (.Call (.Name "enumerate" p) [e] [] pos) (iEnumA X.K ta) := by
  refine ⟨fun pins s σ H R I h => ?_⟩
  refine Call_ (ld_blt I hg hm boot_enumerate (PyProof.Rows.callWith_type1 (thn (ha.run pos pins s σ H _ I h) fun us s1 ⟨vs, H1, I1, r1, q1⟩ => ?_) hs rfl))
  obtain ⟨a, ex, q1⟩ := q1
  subst ex
  cases r1 with
  | cons r rr =>
    cases rr
    cases r
    have fresh : ∀ b, b ∈ [s1.heap.objs.size + 1, s1.heap.objs.size] → FpOk X pins H1 b := fun b hb => by
      have e' : b = s1.heap.objs.size + 1 ∨ b = s1.heap.objs.size := by simpa using hb
      have hle : s1.heap.objs.size ≤ b := by
        rcases e' with z | z
        · rw [z]; exact Nat.le_add_right _ _
        · rw [z]; exact Nat.le_refl _
      exact I1.fpOk hle (I1.hok.fresh hle)
    rcases q1 with ⟨xs, hq, q⟩ | ⟨xs, hq, q⟩
    · obtain ⟨its, rv, p', hz⟩ := I1.list hq
      refine call_enumerate_list p'.isList fun h' he hit hsz hk => wpAny_pyIter_enum he ?_
      have I2 : Inv X pins σ H1 { s1 with heap := h' } := I1.kept (t' := s1.toks) hk
      exact ⟨s1.heap.objs.size + 1, [s1.heap.objs.size + 1, s1.heap.objs.size], _, _, H1, rfl, I2, turn_enum a (s1.heap.objs.size + 1) s1.heap.objs.size, ⟨⟨.none, he⟩, hit, Nat.succ_ne_self _⟩, fresh, q⟩
    · obtain ⟨its, rv, p', hz⟩ := I1.tuple hq
      have ps : s1.heap.IsTuple a its.toArray := p'
      obtain ⟨o1, ho1, _⟩ := id ps
      have hlt := Heap.lt_size ho1
      refine enum1_begins (begins_tuple a its.toArray) ps fun h' he hit hsz hk => wpAny_pyIter_enum he ?_
      have I2 : Inv X pins σ H1 { s1 with heap := h' } := I1.kept (t' := s1.toks) hk
      exact ⟨s1.heap.objs.size + 1, [s1.heap.objs.size + 1, s1.heap.objs.size], _, _, H1, rfl, I2, turn_enumT a (s1.heap.objs.size + 1) s1.heap.objs.size (Nat.ne_of_lt hlt) (Nat.ne_of_gt (Nat.lt_succ_of_lt hlt)), ⟨⟨.none, he⟩, ⟨_, hit, rfl, rfl⟩, Nat.succ_ne_self _⟩, fresh, q⟩

section
variable {X : Cx} {cls : Nat → Value} {W : WX} {pos p tpos : Pos} {a b c tg : Expr} {ra rb rc : Rho → Sto → R U} {x : Str} {elts : List Expr} {kk : Nat}
theorem ti_enum (hg : Gl X "enumerate") (hm : X.mg "enumerate" = none) (ha : PE X a (tE X.K cls W ra)) (hs : starEach [a] X.env = [(false, eval a X.env)]) :
    PI X (.Tuple elts kk tpos) (.Call (.Name "enumerate" p) [a] [] pos) (tI X.K cls W fun ρ S => (ra ρ S).bind fun u S1 => match lockOf S1 u with
      | some (xs, l) => .ok (enumU 0 xs, l) S1
      | none => .stuck) :=
  (pi_enumA hg hm (pa_cons ha pa_nil hs) hs).imp fun σ H R ⟨fm, S, ρ, so, eo, q⟩ => ⟨fm, S, ρ, so, eo, q.bind.imp fun u fm1 S1 H1 st1 so1 h1 v1 r1 => by
    split at h1
    · rename_i us l e
      have h := h1.ok fm1 H1 .refl so1
      obtain ⟨a, rfl, hw⟩ := lock_walk so1 r1 e
      refine ⟨a, rfl, ?_⟩
      rcases hw with ⟨vs, Pf, hs, h2, h3, h4⟩ | ⟨vs, Pf, hs, h2, h3, h4⟩
      · exact .inl ⟨vs, hs, h _ Pf (wu_enumG (SA := fun H xs => SqL X.K H a xs) h2 h3 (fun i H h => h) (fun i H v H' h => h) (fun i H h => h) (fun i H v H' h => h) (fun H D vs od xs hD h => sqL_lock hD h)) h4⟩
      · exact .inr ⟨vs, hs, h _ Pf (wu_enumG (SA := fun H xs => SqT X.K H a xs) h2 h3 (fun i H h => h) (fun i H v H' h => h) (fun i H h => h) (fun i H v H' h => h) (fun H D vs od xs hD h => sqT_lock hD h)) h4⟩
    · exact h1.elim⟩
theorem ti_zip (hg : Gl X "zip") (hm : X.mg "zip" = none) (ha : PE X a (tE X.K cls W ra)) (hb : PE X b (tE X.K cls W rb)) (hs : starEach [a, b] X.env = (false, eval a X.env) :: starEach [b] X.env) (hs2 : starEach [b] X.env = (false, eval b X.env) :: starEach [] X.env)
    (hpl : (backTo pos (starEach [b] X.env)).any (·.1) = false) :
    PI X (.Tuple elts kk tpos) (.Call (.Name "zip" p) [a, b] [] pos) (tI X.K cls W fun ρ S => (ra ρ S).bind fun u S1 => (rb ρ S1).bind fun v S2 => match u, v with
      | .tup xs, .tup ys => .ok (zipU xs ys, none) S2
      | .lst xs, .lst ys => .ok (zipU xs ys, none) S2
      | _, _ => .stuck) :=
  (RZ.pi_zipA hg hm (pa_cons ha (pa_cons hb pa_nil hs2) hs) hs hpl).imp fun σ H R ⟨fm, S, ρ, so, eo, q⟩ => ⟨fm, S, ρ, so, eo, q.bind.imp fun u fm1 S1 H1 st1 so1 h1 v1 r1 => ⟨fm1, S1, ρ, so1, eo.mono st1.toGr, h1.bind.imp fun w fm2 S2 H2 st2 so2 h2 v2 r2 => by
    replace r1 := r1.mono st2.toGr
    split at h2
    · rename_i xs ys
      obtain ⟨a1, vs1, e1, hx1, rv1⟩ := rp_tup r1 (S := S2) rfl
      obtain ⟨a2, vs2, e2, hx2, rv2⟩ := rp_tup r2 (S := S2) rfl
      subst e1 e2
      refine ⟨a1, a2, vs1, vs2, rfl, .inr ⟨hx1, hx2, h2.ok fm2 H2 .refl so2 _ (fun fm S H => Rp X.K fm S H (.tup xs) (.ref a1) ∧ Rp X.K fm S H (.tup ys) (.ref a2)) (wu_zipG (SA := fun H xs => SqT X.K H a1 xs) (SB := fun H xs => SqT X.K H a2 xs) ?_ (fun fm S H fm' S' H' h st => ⟨h.1.mono st.toGr, h.2.mono st.toGr⟩) (fun i H h => h) (fun i H v H' h => h) (fun i H h => h) (fun i H v H' h => h) (fun H D vs od xs hD h => sqT_lock hD h) (fun H D vs od xs hD h => sqT_lock hD h)) ⟨r1, r2⟩⟩⟩
      rintro fm S H so ⟨h1, h2⟩
      obtain ⟨y1, k1, k2⟩ := rp_tupA h1
      obtain ⟨y2, k3, k4⟩ := rp_tupA h2
      exact ⟨y1, y2, k1, k3, k2, k4⟩
    · rename_i xs ys
      cases r1 with
      | @lst a1 _ vs1 hx1 nl1 rv1 =>
        cases r2 with
        | @lst a2 _ vs2 hx2 nl2 rv2 =>
          refine ⟨a1, a2, vs1, vs2, rfl, .inl ⟨SqL.of hx1, SqL.of hx2, h2.ok fm2 H2 .refl so2 _ (fun fm S H => Rp X.K fm S H (.lst xs) (.ref a1) ∧ Rp X.K fm S H (.lst ys) (.ref a2)) (wu_zipG (SA := fun H xs => SqL X.K H a1 xs) (SB := fun H xs => SqL X.K H a2 xs) ?_ (fun fm S H fm' S' H' h st => ⟨h.1.mono st.toGr, h.2.mono st.toGr⟩) (fun i H h => h) (fun i H v H' h => h) (fun i H h => h) (fun i H v H' h => h) (fun H D vs od xs hD h => sqL_lock hD h) (fun H D vs od xs hD h => sqL_lock hD h)) ⟨.lst hx1 nl1 rv1, .lst hx2 nl2 rv2⟩⟩⟩
          rintro fm S H so ⟨h1, h2⟩
          obtain ⟨y1, k1, k2⟩ := rp_lstA h1
          obtain ⟨y2, k3, k4⟩ := rp_lstA h2
          exact ⟨y1, y2, k1, k3, k2, k4⟩
    · exact h2.elim⟩⟩
/-- [..] * n -/
theorem tq_rep {es : List Expr} {rs : Rho → Sto → R (List U)} {p2 : Pos} (hs : PA X es (tEs X.K cls W rs)) (hr : ∀ ρ S us S', rs ρ S = .ok us S' → us.length ≤ 1000) (hb : PE X b (tE X.K cls W rb)) :
    PE X (.BinOp (.List es p2) .Mult b pos) (tQ X.K cls W fun ρ S => (rs ρ S).bind fun us S1 => (rb ρ S1).bind fun v S2 => match v with
      | .int k => if us.length * k.toNat ≤ lim ∧ -(2 ^ 63) ≤ k ∧ k < 2 ^ 63 then .ok (List.replicate k.toNat us).flatten S2 else .stuck
      | _ => .stuck) :=
  (pe_op op_rep (pe_lst hs) hb).imp fun σ H Q ⟨fm, S, ρ, so, eo, q⟩ => by
    refine ⟨fm, S, ρ, so, eo, ?_⟩
    have hl := hr ρ S
    revert hl
    have := q.bind
    revert this
    cases rs ρ S with
    | ok us S1 =>
      intro q hl fm1 H1 st1 so1 vs rv
      have h2 := q fm1 H1 st1 so1
      refine ⟨by rw [← rv.length, ← lim_eq]; exact Nat.le_trans (hl us S1 rfl) (by decide), fun p hp => ?_⟩
      have stp := stp_new (o := .lst vs) so1 hp
      have sop := ok_new (o := .lst vs) so1 hp
      have rl := rp_newL so1 hp rv
      refine ⟨fm1, S1, ρ, sop, (eo.mono st1.toGr).mono stp.toGr, (h2.later stp).bind.imp fun w fm2 S2 H2 st2 so2 h3 v2 r2 => ?_⟩
      split at h3
      · rename_i k
        split at h3
        · rename_i hk
          cases r2
          have rl2 := rl.mono st2.toGr
          cases rl2 with
          | lst hx nl rv2 =>
            refine ⟨p, k, _, rfl, rfl, hx, hk.2.1, hk.2.2, by rw [← rv2.length, ← lim_eq]; exact hk.1, fun p2 hp2 => ?_⟩
            exact h3.ok fm2 H2 .refl so2 _ p2 (rv2.rep _) hp2
        · exact h3.elim
      · exact h3.elim
    | ex c S1 => exact fun q _ => q
    | stuck => exact fun q _ => q
end
end Ev
set_option Elab.async false
set_option linter.all false
set_option maxRecDepth 100000
set_option maxHeartbeats 2000000
/-! Ev14: list comprehensions. -/
namespace Ev
open PySem PySem.Spec PyProof.Rows L2
section
variable {X : Cx}
def tLockG (g : TG) : TG := fun v σ H Q => ∃ d u, H d = some u ∧ Mut (some u) ∧ ∀ od, g v σ (upd H d (.frz od u)) fun σ' H' => H' d = some (.frz od u) ∧ Q σ' (upd H' d u)
def tLockT (t : TT) : TT := fun σ H Q => ∃ d u, H d = some u ∧ Mut (some u) ∧ ∀ od, t σ (upd H d (.frz od u)) fun b H' => H' d = some (.frz od u) ∧ Q b (upd H' d u)
theorem pg_lock {e : Expr} {g : TG} (h : PG X e g) : PG X e (tLockG g) := by
  refine ⟨fun pins s σ H v u Q I r hw => ?_⟩
  obtain ⟨d, o, hd, mu, hw⟩ := hw
  obtain ⟨od, I1⟩ := I.lock hd mu
  refine thn (h.run pins s σ _ v u _ I1 r (hw od)) fun _ s1 ⟨σ1, H1, I2, e2, q⟩ => ?_
  exact ⟨σ1, _, I2.unlock e2 (I.nofrz hd mu), q⟩
theorem pts_lock {ifs : List Expr} {t : TT} (h : PTs X ifs t) : PTs X ifs (tLockT t) := by
  refine ⟨fun pins s σ H Q I hw => ?_⟩
  obtain ⟨d, o, hd, mu, hw⟩ := hw
  obtain ⟨od, I1⟩ := I.lock hd mu
  refine thn (h.run pins s σ _ _ I1 (hw od)) fun b s1 ⟨H1, I2, e2, q⟩ => ?_
  exact ⟨_, I2.unlock e2 (I.nofrz hd mu), q⟩
end

def tB (K : PySem.W.Frag) (cls : Nat → Value) (W : WX) (r : Rho → Sto → R Bool) : TT := fun σ H Q =>
  ∃ fm S ρ, StOk K fm S H ∧ EnvOk K fm S H ρ σ ∧ Aft K cls W σ fm S H (r ρ S) fun b fm' S' H' => Q b H'
theorem _root_.L2.PTs.imp {X : Cx} {e : List Expr} {t t' : TT} (h : PTs X e t) (i : ∀ σ H Q, t' σ H Q → t σ H Q) : PTs X e t' := ⟨fun pins s σ H Q I q => h.run pins s σ H Q I (i σ H Q q)⟩
section
variable {X : Cx} {cls : Nat → Value} {W : WX} {c : Expr} {ra : Rho → Sto → R U}
theorem tb_nil : PTs X [] (tB X.K cls W fun _ S => .ok true S) := pts_nil.imp fun σ H Q ⟨fm, S, ρ, so, eo, q⟩ => q fm H .refl so
theorem tb_one (h : PT X c (tT X.K cls W ra)) : PTs X [c] (tB X.K cls W fun ρ S => (ra ρ S).bind fun u S1 => optR S1 (truU S1 u)) :=
  (pts_one h).imp fun σ H Q ⟨fm, S, ρ, so, eo, q⟩ => ⟨fm, S, ρ, so, eo, q.bind.imp fun u fm1 S1 H1 st1 so1 h1 => by
    obtain ⟨b, e, hq⟩ := h1.opt
    exact ⟨b, e, hq fm1 H1 .refl so1⟩⟩
end

theorem wipe_same : ∀ (vs : List Nat) {σ σ' : L2.St}, Same (· ∈ vs) σ σ' → wipe σ' vs = wipe σ vs := by
  intro vs σ σ' h
  apply List.ext_getElem?
  intro i
  have key : ∀ (vs : List Nat) (σ : L2.St), (i ∈ vs → (wipe σ vs)[i]? = if i < σ.length then some none else none) ∧ (i ∉ vs → (wipe σ vs)[i]? = σ[i]?) := by
    intro vs σ
    induction vs with
    | nil => exact ⟨fun h => by simp at h, fun _ => rfl⟩
    | cons v vs ih =>
      refine ⟨fun h => ?_, fun h => ?_⟩
      · unfold wipe
        by_cases z : v = i
        · subst z
          rw [List.getElem?_set]
          simp [wipe_length]
        · rw [List.getElem?_set_ne z]
          exact ih.1 (by rcases List.mem_cons.mp h with e | e; exact absurd e.symm z; exact e)
      · unfold wipe
        rw [List.getElem?_set_ne (fun z => h (by simp [z]))]
        exact ih.2 fun z => h (List.mem_cons_of_mem _ z)
  by_cases hi : i ∈ vs
  · rw [(key vs σ').1 hi, (key vs σ).1 hi, h.1]
  · rw [(key vs σ').2 hi, (key vs σ).2 hi, h.2 i hi]
theorem EnvOk.wipe {K : PySem.W.Frag} {fm : List Addr} {S : Sto} {H : Hp} {ρ : Rho} {σ : L2.St} (h : EnvOk K fm S H ρ σ) : ∀ vs : List Nat, EnvOk K fm S H (wipeR ρ vs) (L2.wipe σ vs)
  | [] => h
  | _ :: vs => (h.wipe vs).unset
theorem compL_ex (step : U → Sto → R (Option U)) : ∀ (us : List U) (S : Sto) (c : Nat) (S' : Sto), compL step us S ≠ .ex c S'
  | [], S, c, S', h => by cases h
  | x :: xs, S, c, S', h => by
    unfold compL at h
    cases e : noEx (step x S) with
    | ok o S1 =>
      rw [e] at h
      simp only [R.bind] at h
      cases e2 : compL step xs S1 with
      | ok ys S2 => rw [e2] at h; cases h
      | ex c2 S2 => exact compL_ex step xs S1 c2 S2 e2
      | stuck => rw [e2] at h; cases h
    | ex c2 S2 =>
      unfold noEx at e
      split at e <;> cases e
    | stuck => rw [e] at h; cases h
theorem upd_self {H : Hp} {a : Addr} {o : HO} (h : H a = some o) : upd H a o = H := by
  funext b
  by_cases z : b = a
  · subst z; rw [upd_same, h]
  · rw [upd_ne z]
def del (H : Hp) (D : Addr) : Hp := fun a => if a = D then none else H a
theorem del_same {H : Hp} {D : Addr} : del H D D = none := if_pos rfl
theorem del_ne {H : Hp} {D a : Addr} (h : a ≠ D) : del H D a = H a := if_neg h
theorem upd_del {H : Hp} {D : Addr} {o : HO} (h : H D = some o) : upd (del H D) D o = H := by
  funext b
  by_cases z : b = D
  · subst z; rw [upd_same, h]
  · rw [upd_ne z, del_ne z]
def ob0 : Obj := { cls := .none, data := .plain }

theorem same_wipe {vs : List Nat} {σ : L2.St} : Same (· ∈ vs) σ (wipe σ vs) := by
  refine ⟨wipe_length σ vs, fun i hi => ?_⟩
  induction vs with
  | nil => rfl
  | cons v vs ih =>
    show ((wipe σ vs).set v none)[i]? = _
    rw [List.getElem?_set_ne (fun z => hi (by simp [z]))]
    exact ih fun z => hi (List.mem_cons_of_mem _ z)
/-- while a list comprehension grows: D the new list, acc what stands in it; the world's things beside it -/
structure Grow (K : PySem.W.Frag) (fm1 : List Addr) (S1 : Sto) (H1 : Hp) (D : Addr) (fm : List Addr) (S : Sto) (H : Hp) (acc : List U) (vs : List V) : Prop where
  ok : ∀ od, StOk K fm S (upd H D (.frz od (.lst vs)))
  vals : ∀ od, Rps K fm S (upd H D (.frz od (.lst vs))) acc vs
  stp : ∀ od, Stp fm1 S1 H1 fm S (upd H D (.frz od (.lst vs)))
  nin : ∀ n : Nat, fm[n]? ≠ some D
section
variable {K : PySem.W.Frag} {fm1 : List Addr} {S1 : Sto} {H1 : Hp} {D : Addr} {fm : List Addr} {S : Sto} {H H' : Hp} {acc acc' : List U} {vs vs' : List V} {od : Obj} {u : HO}
theorem off_upd {o : HO} (e : Off D H H') : Off D H (upd H' D o) := ⟨fun a ha => by rw [upd_ne ha]; exact e.off a ha⟩
theorem off_upd' {o : HO} : Off D H (upd H D o) := ⟨fun a ha => upd_ne ha⟩
theorem Grow.ofLocked (so1 : StOk K fm1 S1 H1) (h1 : H1 D = none) (hD : H D = some (.frz od u)) (hn : ∀ n : Nat, fm[n]? ≠ some D)
    (ok : StOk K fm S H) (rv : Rps K fm S H acc' vs') (st : Stp fm1 S1 H1 fm S H) (e : Off D H H') : Grow K fm1 S1 H1 D fm S H' acc' vs' where
  ok := fun od' => ok_off ok hD hn (off_upd e)
  vals := fun od' => rv.mono (gr_off hD (off_upd e))
  stp := fun od' => stp_off so1 st h1 (off_upd e)
  nin := hn
theorem Grow.real (g : Grow K fm1 S1 H1 D fm S H acc vs) (so1 : StOk K fm1 S1 H1) (h1 : H1 D = none) : StOk K fm S H ∧ Stp fm1 S1 H1 fm S H :=
  ⟨ok_off (g.ok ob0) upd_same g.nin ⟨fun a ha => (upd_ne ha).symm⟩, stp_off so1 (g.stp ob0) h1 ⟨fun a ha => (upd_ne ha).symm⟩⟩
theorem nin_step {fm' : List Addr} {S' : Sto} (st : Stp fm S H fm' S' H') (hn : ∀ n : Nat, fm[n]? ≠ some D) (hD : H D ≠ none) : ∀ n : Nat, fm'[n]? ≠ some D := fun n e => (st.new n D e).elim (hn n) hD
end

def stepC (own : List Nat) (gt : U → Rho → Sto → Option (Rho × Sto)) (rc : Rho → Sto → R Bool) (re : Rho → Sto → R U) (ρ : Rho) : U → Sto → R (Option U) := fun x S =>
  match gt x (wipeR ρ own) S with
  | some (ρ1, S1) => (rc ρ1 S1).bind fun k S2 => if k = true then (re ρ1 S2).bind fun y S3 => .ok (some y) S3 else .ok none S2
  | none => .stuck

theorem compL_cons {step : U → Sto → R (Option U)} {x : U} {xs ys : List U} {S S2 : Sto} (h : compL step (x :: xs) S = .ok ys S2) :
    ∃ o S1 zs, step x S = .ok o S1 ∧ compL step xs S1 = .ok zs S2 ∧ ys = (match o with | some y => y :: zs | none => zs) := by
  unfold compL at h
  cases e : step x S with
  | stuck => rw [e] at h; cases h
  | ex c S3 => rw [e] at h; cases h
  | ok o S1 =>
    rw [e] at h
    simp only [noEx, R.bind] at h
    cases e2 : compL step xs S1 with
    | stuck => rw [e2] at h; cases h
    | ex c S3 => rw [e2] at h; cases h
    | ok zs S3 =>
      rw [e2] at h
      cases h
      exact ⟨o, S1, zs, rfl, e2, rfl⟩
theorem stepC_ok {own : List Nat} {gt : U → Rho → Sto → Option (Rho × Sto)} {rc : Rho → Sto → R Bool} {re : Rho → Sto → R U} {ρ : Rho} {x : U} {S S3 : Sto} {o : Option U} (h : stepC own gt rc re ρ x S = .ok o S3) :
    ∃ ρ' S' k S2, gt x (wipeR ρ own) S = some (ρ', S') ∧ rc ρ' S' = .ok k S2 ∧ ((k = false ∧ o = none ∧ S2 = S3) ∨ (k = true ∧ ∃ y, re ρ' S2 = .ok y S3 ∧ o = some y)) := by
  unfold stepC at h
  cases e1 : gt x (wipeR ρ own) S with
  | none => rw [e1] at h; cases h
  | some rs =>
    obtain ⟨ρ', S'⟩ := rs
    rw [e1] at h
    simp only at h
    cases e2 : rc ρ' S' with
    | stuck => rw [e2] at h; cases h
    | ex c S4 => rw [e2] at h; cases h
    | ok k S2 =>
      rw [e2] at h
      simp only [R.bind] at h
      cases k with
      | false => simp only [Bool.false_eq_true, if_false] at h; cases h; exact ⟨ρ', S', false, _, rfl, e2, .inl ⟨rfl, rfl, rfl⟩⟩
      | true =>
        simp only [if_true] at h
        cases e3 : re ρ' S2 with
        | stuck => rw [e3] at h; cases h
        | ex c S4 => rw [e3] at h; cases h
        | ok y S4 => rw [e3] at h; cases h; exact ⟨ρ', S', true, S2, rfl, e2, .inr ⟨rfl, y, e3, rfl⟩⟩
abbrev WF : WX := fun _ _ _ _ => False
theorem tlc_of {K : PySem.W.Frag} {cls : Nat → Value} {gt : U → Rho → Sto → Option (Rho × Sto)} {rc : Rho → Sto → R Bool} {re : Rho → Sto → R U} {own : List Nat} {ρ : Rho} {σ : L2.St} {fm1 : List Addr} {S1 S2 : Sto} {H1 : Hp} {us ys : List U} {J : It} {Pf : PfT} {Q : VK}
    (wu : WU K J us Pf) (pf : Pf fm1 S1 H1) (so1 : StOk K fm1 S1 H1) (eo : EnvOk K fm1 S1 H1 ρ σ) (hl : us.length ≤ lim) (ev : compL (stepC own gt rc re ρ) us S1 = .ok ys S2) {D : Addr} (h1 : H1 D = none)
    (hQ : ∀ fm H vs, Grow K fm1 S1 H1 D fm S2 H ys vs → H D = some (.lst vs) → Q (.ref D) H) :
    ∃ W : Nat → Nat → Hp → Prop, (∃ m, W 0 m (upd H1 D (.lst []))) ∧ ∀ i m H, W i m H →
      (J.stop i H ∧ Q (.ref D) H) ∨ (J.go i H ∧ ∃ Nx : Hp → Prop, (∀ H', Nx H' → ∃ m', m' < m ∧ W (i + 1) m' H') ∧ ∀ x H', J.yld i H x H' → tLockG (tG K (· ∈ own) gt) x (wipe σ own) H' fun σ2 H2 => wipe σ2 own = wipe σ own ∧ tLockT (tB K cls WF rc) σ2 H2 fun b H3 =>
        if b = true then tLockE (tE K cls WF re) σ2 H3 fun y H4 => ∃ acc, H4 D = some (.lst acc) ∧ acc.length < sizeLine ∧ Nx (upd H4 D (.lst (acc ++ [y]))) else Nx H3) := by
  refine ⟨fun i m H => i ≤ us.length ∧ m = us.length - i ∧ ∃ fm S acc vs ys', H D = some (.lst vs) ∧ Grow K fm1 S1 H1 D fm S H acc vs ∧ compL (stepC own gt rc re ρ) (us.drop i) S = .ok ys' S2 ∧ acc ++ ys' = ys ∧ acc.length ≤ i, ⟨us.length, Nat.zero_le _, rfl, fm1, S1, [], [], ys, upd_same, ?_, ev, rfl, Nat.le_refl _⟩, ?_⟩
  · refine ⟨fun od => ?_, fun od => .nil, fun od => ?_, so1.notin h1⟩
    · rw [upd_upd]; exact ok_new so1 h1
    · rw [upd_upd]; exact stp_new so1 h1
  rintro i m H ⟨hi, rfl, fm, S, acc, vs, ys', hD, G, ev, ea, hacc⟩
  obtain ⟨soR, stR⟩ := G.real so1 h1
  have pfR := wu.keep _ _ _ _ _ _ pf stR
  by_cases lt : i < us.length
  · refine .inr ⟨wu.goes i fm S H lt soR pfR, fun H' => _, fun H' h => ⟨us.length - (i + 1), by omega, h⟩, fun x H' y => ?_⟩
    rw [List.drop_eq_getElem_cons lt] at ev
    obtain ⟨o, S4, zs, ev1, ev2, rfl⟩ := compL_cons ev
    obtain ⟨ρ', S', b0, S3, e1, e2, e3⟩ := stepC_ok ev1
    obtain ⟨hD', _⟩ := wu.lockY i H x H' D vs ob0 y hD
    refine ⟨D, .lst vs, hD', trivial, fun od => ?_⟩
    obtain ⟨_, y'⟩ := wu.lockY i H x H' D vs od y hD
    obtain ⟨u, eu, st, so, r⟩ := wu.yields i fm S _ x _ lt (G.ok od) (wu.keep _ _ _ _ _ _ pf (G.stp od)) y'
    have eu' : us[i] = u := by rw [List.getElem?_eq_getElem lt] at eu; exact Option.some.inj eu
    rw [eu'] at e1
    refine ⟨fm, S, wipeR ρ own, u, so, (eo.mono ((G.stp od).trans st).toGr).wipe own, r, ρ', S', e1, fun fm' σ' H2 st2 so2 eo2 sm2 => ?_⟩
    have hD2 : H2 D = some (.frz od (.lst vs)) := st2.frz D od _ upd_same
    refine ⟨hD2, wipe_same own (same_wipe.trans sm2), D, .lst vs, upd_same, trivial, fun od2 => ?_⟩
    rw [upd_upd]
    have nin2 : ∀ n : Nat, fm'[n]? ≠ some D := nin_step st2 G.nin (by rw [upd_same]; simp)
    have stT := ((G.stp od).trans st).trans st2
    have g2 : Gr fm' S' H2 fm' S' (upd H2 D (.frz od2 (.lst vs))) := gr_off hD2 off_upd'
    have rvs2 := ((((G.vals od).mono st.toGr).mono st2.toGr).mono g2)
    refine ⟨fm', S', ρ', ok_off so2 hD2 nin2 off_upd', eo2.mono g2, ?_⟩
    rw [e2]
    intro fm3 H3 st3 so3
    have hD3 : H3 D = some (.frz od2 (.lst vs)) := st3.frz D od2 _ upd_same
    refine ⟨hD3, ?_⟩
    have nin3 : ∀ n : Nat, fm3[n]? ≠ some D := nin_step st3 nin2 (by rw [upd_same]; simp)
    have stT3 := (stp_off so1 stT h1 (H' := upd H2 D (.frz od2 (.lst vs))) off_upd').trans st3
    rcases e3 with ⟨rfl, rfl, rfl⟩ | ⟨rfl, yv, e4, rfl⟩
    · exact ⟨lt, rfl, fm3, _, acc, vs, zs, upd_same, Grow.ofLocked so1 h1 hD3 nin3 so3 (rvs2.mono st3.toGr) stT3 off_upd', ev2, ea, by omega⟩
    · refine ⟨D, .lst vs, upd_same, trivial, fun od3 => ?_⟩
      rw [upd_upd]
      have g3 : Gr fm3 S3 H3 fm3 S3 (upd H3 D (.frz od3 (.lst vs))) := gr_off hD3 off_upd'
      refine ⟨fm3, S3, ρ', ok_off so3 hD3 nin3 off_upd', ((eo2.mono g2).mono st3.toGr).mono g3, ?_⟩
      rw [e4]
      intro fm4 H4 st4 so4 v rv
      have hD4 : H4 D = some (.frz od3 (.lst vs)) := st4.frz D od3 _ upd_same
      have nin4 : ∀ n : Nat, fm4[n]? ≠ some D := nin_step st4 nin3 (by rw [upd_same]; simp)
      have stT4 := (stp_off so1 stT3 h1 (H' := upd H3 D (.frz od3 (.lst vs))) off_upd').trans st4
      have rvs4 := (((rvs2.mono st3.toGr).mono g3).mono st4.toGr)
      refine ⟨hD4, vs, upd_same, ?_, ?_⟩
      · have := rvs4.length
        rw [← this, ← lim_eq]
        omega
      · rw [upd_upd]
        exact ⟨lt, rfl, fm4, S4, acc ++ [yv], vs ++ [v], zs, upd_same, Grow.ofLocked so1 h1 hD4 nin4 so4 (rvs4.append (.cons rv .nil)) stT4 off_upd', ev2, by rw [List.append_assoc]; exact ea, by rw [List.length_append]; simp; omega⟩
  · have e : i = us.length := by omega
    subst e
    rw [List.drop_length] at ev
    cases ev
    refine .inl ⟨wu.stops _ _ H soR pfR, hQ fm H vs ?_ hD⟩
    rw [← ea, List.append_nil]
    exact G
end Ev
set_option Elab.async false
set_option linter.all false
set_option maxRecDepth 100000
set_option maxHeartbeats 2000000
/-! Ev15: statements. -/
namespace Ev
open PySem PySem.Spec PyProof.Rows L2

/-- where a statement ends -/
def Endd (K : PySem.W.Frag) (cls : Nat → Value) (W : WX) (fm : List Addr) (S : Sto) (H : Hp) : Out → Ends → Prop
  | .nx ρ, D => ∀ σ, EnvOk K fm S H ρ σ → D.nx σ H
  | .rt u, D => ∀ v, Rp K fm S H u v → D.rt v H
  | .bk ρ, D => ∀ σ, EnvOk K fm S H ρ σ → D.bk σ H
  | .ct ρ, D => ∀ σ, EnvOk K fm S H ρ σ → D.ct σ H
  | .ex c ρ, _ => ∀ σ, EnvOk K fm S H ρ σ → W (cls c) none σ H
def AftS (K : PySem.W.Frag) (cls : Nat → Value) (W : WX) (fm : List Addr) (S : Sto) (H : Hp) (r : SR) (D : Ends) : Prop :=
  match r with
  | .ok o S' => ∀ fm' H', Stp fm S H fm' S' H' → StOk K fm' S' H' → Endd K cls W fm' S' H' o D
  | .stuck => False
section
variable {K : PySem.W.Frag} {cls : Nat → Value} {W : WX} {fm fm' : List Addr} {S S' : Sto} {H H' : Hp} {D : Ends} {σ : L2.St} {ρ : Rho}
theorem Endd.from {o : Out} (h : Endd K cls W fm S' H o D) (g : Gr fm S H fm S' H) : Endd K cls W fm S H o D := by
  cases o with
  | nx ρ => exact fun σ e => h σ (e.mono g)
  | rt u => exact fun v r => h v (r.mono g)
  | bk ρ => exact fun σ e => h σ (e.mono g)
  | ct ρ => exact fun σ e => h σ (e.mono g)
  | ex c ρ => exact fun σ e => h σ (e.mono g)
theorem AftS.later {fm1 : List Addr} {S1 : Sto} {H1 : Hp} {r : SR} (h : AftS K cls W fm S H r D) (st : Stp fm S H fm1 S1 H1) : AftS K cls W fm1 S1 H1 r D := by
  cases r with
  | ok o S' => exact fun fm' H' st' so' => h fm' H' (st.trans st') so'
  | stuck => exact h
theorem AftS.toS {α : Type} {r : R α} {f : α → Sto → SR} (eo : EnvOk K fm S H ρ σ) (h : AftS K cls W fm S H (r.toS ρ f) D) : Aft K cls W σ fm S H r fun a fm1 S1 H1 => AftS K cls W fm1 S1 H1 (f a S1) D := by
  cases r with
  | ok a S1 => exact fun fm1 H1 st so => AftS.later h st
  | ex c S1 => exact fun fm1 H1 st so => h fm1 H1 st so σ (eo.mono st.toGr)
  | stuck => exact h
end

def tS (K : PySem.W.Frag) (cls : Nat → Value) (W : WX) (r : Rho → Sto → SR) : TS := fun D σ H =>
  ∃ fm S ρ, StOk K fm S H ∧ EnvOk K fm S H ρ σ ∧ AftS K cls W fm S H (r ρ S) D

section
variable {X : Cx} {cls : Nat → Value} {W : WX} {pos p : Pos} {e c tg iter : Expr} {a b body : List Stmt} {st : Stmt} {rest : List Stmt} {re rc : Rho → Sto → R U} {r1 r2 : Rho → Sto → SR}
theorem tss_nil : PSs X [] (tS X.K cls W fun ρ S => .ok (.nx ρ) S) := pss_nil.imp fun D σ H ⟨fm, S, ρ, so, eo, q⟩ => q fm H .refl so σ eo
theorem tss_cons (h1 : PS X st (tS X.K cls W r1)) (h2 : PSs X rest (tS X.K cls W r2)) : PSs X (st :: rest) (tS X.K cls W fun ρ S => match r1 ρ S with | .ok (.nx ρ1) S1 => r2 ρ1 S1 | r => r) :=
  (pss_cons h1 h2).imp fun D σ H ⟨fm, S, ρ, so, eo, q⟩ => by
    refine ⟨fm, S, ρ, so, eo, ?_⟩
    dsimp only at q
    revert q
    cases r1 ρ S with
    | stuck => exact fun q => q
    | ok o S1 =>
      intro q fm1 H1 st1 so1
      cases o with
      | nx ρ1 => exact fun σ1 eo1 => ⟨fm1, S1, ρ1, so1, eo1, AftS.later q st1⟩
      | rt u => exact q fm1 H1 st1 so1
      | bk ρ1 => exact q fm1 H1 st1 so1
      | ct ρ1 => exact q fm1 H1 st1 so1
      | ex c ρ1 => exact q fm1 H1 st1 so1
theorem ts_pass : PS X (.Pass pos) (tS X.K cls W fun ρ S => .ok (.nx ρ) S) := ps_pass.imp fun D σ H ⟨fm, S, ρ, so, eo, q⟩ => q fm H .refl so σ eo
theorem ts_doc {x j pos'} : PS X (.Expr (.Constant (.str x) j pos) pos') (tS X.K cls W fun ρ S => .ok (.nx ρ) S) := ps_doc.imp fun D σ H ⟨fm, S, ρ, so, eo, q⟩ => q fm H .refl so σ eo
theorem ts_brk : PS X (.Break pos) (tS X.K cls W fun ρ S => .ok (.bk ρ) S) := ps_break.imp fun D σ H ⟨fm, S, ρ, so, eo, q⟩ => q fm H .refl so σ eo
theorem ts_ct : PS X (.Continue pos) (tS X.K cls W fun ρ S => .ok (.ct ρ) S) := ps_continue.imp fun D σ H ⟨fm, S, ρ, so, eo, q⟩ => q fm H .refl so σ eo
theorem ts_retN : PS X (.Return none pos) (tS X.K cls W fun ρ S => .ok (.rt .non) S) := ps_retN.imp fun D σ H ⟨fm, S, ρ, so, eo, q⟩ => q fm H .refl so .non .non
theorem ts_never {r : Rho → Sto → SR} (h : ∀ ρ S, r ρ S = .stuck) : PS X st (tS X.K cls W r) := ps_never.imp fun D σ H ⟨fm, S, ρ, so, eo, q⟩ => by rw [h] at q; exact q
theorem ts_expr (he : PE X e (tE X.K cls W re)) (hs : swapsWith e none pos.line X.env = pure false) : PS X (.Expr e pos) (tS X.K cls W fun ρ S => (re ρ S).toS ρ fun _ S1 => .ok (.nx ρ) S1) :=
  (ps_expr he hs).imp fun D σ H ⟨fm, S, ρ, so, eo, q⟩ => ⟨fm, S, ρ, so, eo, (q.toS eo).imp fun u fm1 S1 H1 st1 so1 h1 v r => h1 fm1 H1 .refl so1 σ (eo.mono st1.toGr)⟩
theorem ts_ret (he : PE X e (tE X.K cls W re)) : PS X (.Return (some e) pos) (tS X.K cls W fun ρ S => (re ρ S).toS ρ fun u S1 => .ok (.rt u) S1) :=
  (ps_ret he).imp fun D σ H ⟨fm, S, ρ, so, eo, q⟩ => ⟨fm, S, ρ, so, eo, (q.toS eo).imp fun u fm1 S1 H1 st1 so1 h1 v r => h1 fm1 H1 .refl so1 v r⟩
theorem ts_if (hc : PT X c (tT X.K cls W rc)) (ha : PSs X a (tS X.K cls W r1)) (hb : PSs X b (tS X.K cls W r2)) :
    PS X (.If c a b pos) (tS X.K cls W fun ρ S => (rc ρ S).toS ρ fun u S1 => match truU S1 u with | some true => r1 ρ S1 | some false => r2 ρ S1 | none => .stuck) :=
  (ps_if hc ha hb).imp fun D σ H ⟨fm, S, ρ, so, eo, q⟩ => ⟨fm, S, ρ, so, eo, (q.toS eo).imp fun u fm1 S1 H1 st1 so1 h1 => by
    cases e : truU S1 u with
    | none => rw [e] at h1; exact h1.elim
    | some k =>
      rw [e] at h1
      refine ⟨k, rfl, ?_⟩
      cases k with
      | true => rw [if_pos rfl]; exact ⟨fm1, S1, ρ, so1, eo.mono st1.toGr, h1⟩
      | false => rw [if_neg Bool.false_ne_true]; exact ⟨fm1, S1, ρ, so1, eo.mono st1.toGr, h1⟩⟩
abbrev wAll : Nat → Prop := fun _ => True
theorem ts_asg {gt : U → Rho → Sto → Option (Rho × Sto)} (he : PE X e (tE X.K cls W re)) (hg : PG X tg (tG X.K wAll gt)) (hs : swapsWithSole [tg] e pos.line X.env = pure false) (hw : swappedStores [tg] e X.env = pure none)
    (h1 : (assignEach [tg] X.env).map (·.2) = [assign tg X.env]) : PS X (.Assign [tg] e pos) (tS X.K cls W fun ρ S => (re ρ S).toS ρ fun u S1 => match gt u ρ S1 with | some (ρ1, S2) => .ok (.nx ρ1) S2 | none => .stuck) :=
  (ps_asg he hg hs hw h1).imp fun D σ H ⟨fm, S, ρ, so, eo, q⟩ => ⟨fm, S, ρ, so, eo, (q.toS eo).imp fun u fm1 S1 H1 st1 so1 h1 v r => by
    cases e : gt u ρ S1 with
    | none => rw [e] at h1; exact h1.elim
    | some rs =>
      obtain ⟨ρ', S'⟩ := rs
      rw [e] at h1
      exact ⟨fm1, S1, ρ, u, so1, eo.mono st1.toGr, r, ρ', S', e, fun fm' σ' H' st so' eo' _ => h1 fm' H' st so' σ' eo'⟩⟩
theorem EnvOk.len {K : PySem.W.Frag} {fm : List Addr} {S : Sto} {H : Hp} {ρ : Rho} {σ : L2.St} (h : EnvOk K fm S H ρ σ) : ρ.length = σ.length := h.1
theorem ts_par {i j : Nat} {x y : Str} {ea eb : Expr} {rs : Rho → Sto → R (List U)} {px py pt : Pos} {kt k2 pt2} (hc : X.calm = true) (hN : X.N.Nodup) (hi : X.N[i]? = some x) (hj : X.N[j]? = some y) (hij : i ≠ j)
    (hx : X.env.scope.names.lookup x = some .local) (hy : X.env.scope.names.lookup y = some .local) (ha : PA X [ea, eb] (tEs X.K cls W rs))
    (hw : swappedStores [.Tuple [.Name x px, .Name y py] kt pt] (.Tuple [ea, eb] k2 pt2) X.env = pure (some [x, y])) :
    PS X (.Assign [.Tuple [.Name x px, .Name y py] kt pt] (.Tuple [ea, eb] k2 pt2) pos) (tS X.K cls W fun ρ S => (rs ρ S).toS ρ fun us S1 => if [i, j].length = us.length ∧ [i, j].all (· < ρ.length) = true then .ok (.nx (setAll [i, j] us ρ)) S1 else .stuck) :=
  (ps_par hc hN hi hj hij hx hy ha hw rfl).imp fun D σ H ⟨fm, S, ρ, so, eo, q⟩ => ⟨fm, S, ρ, so, eo, (q.toS eo).imp fun us fm1 S1 H1 st1 so1 h1 vs r => by
    split at h1
    · rename_i h2
      cases r with
      | nil => simp at h2
      | @cons u1 v1 us vs a1 r =>
        cases r with
        | nil => simp at h2
        | @cons u2 v2 us vs a2 r =>
          cases r with
          | nil => exact ⟨v1, v2, rfl, h1 fm1 H1 .refl so1 _ (((eo.mono st1.toGr).set a1).set a2)⟩
          | cons _ _ => simp at h2
    · exact h1.elim⟩
theorem ts_par3 {i j l : Nat} {x y z : Str} {ea eb ec : Expr} {rs : Rho → Sto → R (List U)} {px py pz pt : Pos} {kt k2 pt2} (hc : X.calm = true) (hN : X.N.Nodup) (hi : X.N[i]? = some x) (hj : X.N[j]? = some y) (hl : X.N[l]? = some z) (hij : i ≠ j) (hil : i ≠ l) (hjl : j ≠ l)
    (hx : X.env.scope.names.lookup x = some .local) (hy : X.env.scope.names.lookup y = some .local) (hz : X.env.scope.names.lookup z = some .local) (ha : PA X [ea, eb, ec] (tEs X.K cls W rs))
    (hw : swappedStores [.Tuple [.Name x px, .Name y py, .Name z pz] kt pt] (.Tuple [ea, eb, ec] k2 pt2) X.env = pure (some [x, y, z])) :
    PS X (.Assign [.Tuple [.Name x px, .Name y py, .Name z pz] kt pt] (.Tuple [ea, eb, ec] k2 pt2) pos) (tS X.K cls W fun ρ S => (rs ρ S).toS ρ fun us S1 => if [i, j, l].length = us.length ∧ [i, j, l].all (· < ρ.length) = true then .ok (.nx (setAll [i, j, l] us ρ)) S1 else .stuck) :=
  (ps_par3 hc hN hi hj hl hij hil hjl hx hy hz ha hw rfl).imp fun D σ H ⟨fm, S, ρ, so, eo, q⟩ => ⟨fm, S, ρ, so, eo, (q.toS eo).imp fun us fm1 S1 H1 st1 so1 h1 vs r => by
    split at h1
    · rename_i h2
      cases r with
      | nil => simp at h2
      | @cons u1 v1 us vs a1 r =>
        cases r with
        | nil => simp at h2
        | @cons u2 v2 us vs a2 r =>
          cases r with
          | nil => simp at h2
          | @cons u3 v3 us vs a3 r =>
            cases r with
            | nil => exact ⟨v1, v2, v3, rfl, h1 fm1 H1 .refl so1 _ ((((eo.mono st1.toGr).set a1).set a2).set a3)⟩
            | cons _ _ => simp at h2
    · exact h1.elim⟩

/-! ### while -/
theorem ts_while {w : Nat} (hp : PassesOwn (model X.prog X.w) X.A X.env X.xe) (hc : PT X c (tT X.K cls W rc)) (hb : PSs X body (tS X.K cls W r1)) : PS X (.While c body [] pos) (tS X.K cls W fun ρ S => whL rc r1 w ρ S) :=
  (ps_while hp hc hb).imp fun D σ H ⟨fm, S, ρ, so, eo, q⟩ => by
    refine ⟨fun m σ H => ∃ fm S ρ, StOk X.K fm S H ∧ EnvOk X.K fm S H ρ σ ∧ AftS X.K cls W fm S H (whL rc r1 m ρ S) D, ⟨w, fm, S, ρ, so, eo, q⟩, ?_⟩
    rintro m σ H ⟨fm, S, ρ, so, eo, q⟩
    cases m with
    | zero => exact q.elim
    | succ m =>
      refine ⟨fm, S, ρ, so, eo, ?_⟩
      unfold whL at q
      revert q
      cases rc ρ S with
      | stuck => exact fun q => q
      | ex k S0 => exact fun q fm1 H1 st so => q fm1 H1 st so σ (eo.mono st.toGr)
      | ok u S0 =>
        intro q fm1 H1 st1 so1
        dsimp only at q
        have q := AftS.later q st1
        cases e : truU S0 u with
        | none => rw [e] at q; exact q.elim
        | some k =>
          rw [e] at q
          refine ⟨k, rfl, ?_⟩
          cases k with
          | false => rw [if_neg Bool.false_ne_true]; exact q fm1 H1 .refl so1 σ (eo.mono st1.toGr)
          | true =>
            rw [if_pos rfl]
            refine ⟨fun σ' H' => ∃ fm S ρ, StOk X.K fm S H' ∧ EnvOk X.K fm S H' ρ σ' ∧ AftS X.K cls W fm S H' (whL rc r1 m ρ S) D, fun σ' H' h => ⟨m, Nat.lt_succ_self m, h⟩, fm1, S0, ρ, so1, eo.mono st1.toGr, ?_⟩
            revert q
            dsimp only
            cases r1 ρ S0 with
            | stuck => exact fun q => q
            | ok o S1 =>
              intro q fm2 H2 st2 so2
              cases o with
              | nx ρ1 => exact fun σ1 eo1 => ⟨fm2, S1, ρ1, so2, eo1, AftS.later q st2⟩
              | ct ρ1 => exact fun σ1 eo1 => ⟨fm2, S1, ρ1, so2, eo1, AftS.later q st2⟩
              | bk ρ1 => exact fun σ1 eo1 => q fm2 H2 st2 so2 σ1 eo1
              | rt u => exact q fm2 H2 st2 so2
              | ex c ρ1 => exact q fm2 H2 st2 so2
end
end Ev
set_option Elab.async false
set_option linter.all false
set_option maxRecDepth 100000
set_option maxHeartbeats 2000000
/-! Ev16: for; a name set to a comprehension. -/
namespace Ev
open PySem PySem.Spec PyProof.Rows L2

def stepF (gt : U → Rho → Sto → Option (Rho × Sto)) (rb : Rho → Sto → SR) : U → Rho → Sto → SR := fun x ρ S =>
  match gt x ρ S with
  | some (ρ1, S1) => rb ρ1 S1
  | none => .stuck
section
variable {K : PySem.W.Frag} {cls : Nat → Value} {W : WX}
theorem for_of {gt : U → Rho → Sto → Option (Rho × Sto)} {rb : Rho → Sto → SR} {ρ : Rho} {σ : L2.St} {fm1 : List Addr} {S1 S2 : Sto} {H1 : Hp} {us : List U} {J : It} {Pf : PfT} {D : Ends} {o : Out}
    (wu : WU K J us Pf) (pf : Pf fm1 S1 H1) (so1 : StOk K fm1 S1 H1) (eo : EnvOk K fm1 S1 H1 ρ σ) (ev : forL (stepF gt rb) us ρ S1 = .ok o S2)
    (fin : ∀ fm' H', Stp fm1 S1 H1 fm' S2 H' → StOk K fm' S2 H' → Endd K cls W fm' S2 H' o D) :
    ∃ W' : Nat → Nat → L2.St → Hp → Prop, (∃ m, W' 0 m σ H1) ∧ ∀ i m σ H, W' i m σ H →
      (J.stop i H ∧ D.nx σ H) ∨ (J.go i H ∧ ∃ N : L2.St → Hp → Prop, (∀ σ' H', N σ' H' → ∃ m', m' < m ∧ W' (i + 1) m' σ' H') ∧ ∀ x H', J.yld i H x H' → tG K wAll gt x σ H' fun σ2 H2 => tS K cls W rb { D with nx := N, ct := N, bk := D.nx } σ2 H2) := by
  refine ⟨fun i m σ H => i ≤ us.length ∧ m = us.length - i ∧ ∃ fm S ρ, StOk K fm S H ∧ EnvOk K fm S H ρ σ ∧ Stp fm1 S1 H1 fm S H ∧ forL (stepF gt rb) (us.drop i) ρ S = .ok o S2, ⟨us.length, Nat.zero_le _, rfl, fm1, S1, ρ, so1, eo, .refl, ev⟩, ?_⟩
  rintro i m σ H ⟨hi, rfl, fm, S, ρ, so, eo, st, ev⟩
  have pfR := wu.keep _ _ _ _ _ _ pf st
  by_cases lt : i < us.length
  · refine .inr ⟨wu.goes i fm S H lt so pfR, fun σ' H' => _, fun σ' H' h => ⟨us.length - (i + 1), by omega, h⟩, fun x H' y => ?_⟩
    rw [List.drop_eq_getElem_cons lt] at ev
    obtain ⟨u, eu, sty, soy, r⟩ := wu.yields i fm S H x H' lt so pfR y
    have eu' : us[i] = u := by rw [List.getElem?_eq_getElem lt] at eu; exact Option.some.inj eu
    rw [eu'] at ev
    unfold forL at ev
    cases e1 : gt u ρ S with
    | none =>
      have : stepF gt rb u ρ S = .stuck := by unfold stepF; rw [e1]
      rw [this] at ev; cases ev
    | some rs =>
    obtain ⟨ρ', S'⟩ := rs
    have es : stepF gt rb u ρ S = rb ρ' S' := by unfold stepF; rw [e1]
    rw [es] at ev
    refine ⟨fm, S, ρ, u, soy, eo.mono sty.toGr, r, ρ', S', e1, fun fm2 σ2 H2 st2 so2 eo2 _ => ⟨fm2, S', ρ', so2, eo2, ?_⟩⟩
    have stT := (st.trans sty).trans st2
    cases e2 : rb ρ' S' with
    | stuck => rw [e2] at ev; cases ev
    | ok o1 S3 =>
      rw [e2] at ev
      intro fm3 H3 st3 so3
      have stT3 := stT.trans st3
      cases o1 with
      | nx ρ3 => exact fun σ3 eo3 => ⟨lt, rfl, fm3, S3, ρ3, so3, eo3, stT3, ev⟩
      | ct ρ3 => exact fun σ3 eo3 => ⟨lt, rfl, fm3, S3, ρ3, so3, eo3, stT3, ev⟩
      | bk ρ3 => cases ev; exact fun σ3 eo3 => fin fm3 H3 stT3 so3 σ3 eo3
      | rt u => cases ev; exact fin fm3 H3 stT3 so3
      | ex c ρ3 => cases ev; exact fin fm3 H3 stT3 so3
  · have e : i = us.length := by omega
    subst e
    rw [List.drop_length] at ev
    cases ev
    exact .inl ⟨wu.stops _ _ H so pfR, fin fm H st so σ eo⟩
end
section
variable {X : Cx} {cls : Nat → Value} {W : WX} {pos : Pos} {tg iter : Expr} {body : List Stmt}
theorem ts_for {ri : Rho → Sto → R (List U × Option Nat)} {gt : U → Rho → Sto → Option (Rho × Sto)} {rb : Rho → Sto → SR} (hp : PassesOwn (model X.prog X.w) X.A X.env X.xe) (hc : X.calm = true) (hi : PI X tg iter (tI X.K cls W ri)) (hg : PG X tg (tG X.K wAll gt)) (hb : PSs X body (tS X.K cls W rb))
    (hs : ∀ x, foldedSetIterable iter X.env x = pure x) :
    PS X (.For tg iter body [] pos) (tS X.K cls W fun ρ S => (ri ρ S).toS ρ fun p S1 => lockdS S1 p.2 fun S2 => forL (stepF gt rb) p.1 ρ S2) :=
  (ps_for hp hc hi hg hb hs).imp fun D σ H ⟨fm, S, ρ, so, eo, q⟩ => ⟨fm, S, ρ, so, eo, (q.toS eo).imp fun p fm1 S1 H1 st1 so1 h1 J Pf wu pf => by
    obtain ⟨us, l⟩ := p
    have eo1 := eo.mono st1.toGr
    dsimp only at wu pf
    cases l with
    | none =>
      dsimp only [lockdS] at h1
      cases ev : forL (stepF gt rb) us ρ S1 with
      | stuck => rw [ev] at h1; exact h1.elim
      | ok o S2 => rw [ev] at h1; exact for_of wu pf so1 eo1 ev h1
    | some n =>
      dsimp only [lockdS] at h1
      cases e1 : S1[n]? with
      | none => rw [e1] at h1; exact h1.elim
      | some c =>
      rw [e1] at h1
      cases c with
      | lck _ => exact h1.elim
      | frz _ => exact h1.elim
      | ded => exact h1.elim
      | liv ob =>
        cases ob with
        | dct _ => exact h1.elim
        | lst ob =>
        dsimp only at h1
        have hS : lockO S1 (some n) = S1.set n (.lck (.lst ob)) := by show lockS S1 n = _; unfold lockS; rw [e1]
        rw [hS] at pf
        cases ev : forL (stepF gt rb) us ρ (S1.set n (.lck (.lst ob))) with
        | stuck => rw [ev] at h1; exact h1.elim
        | ok o S2 =>
          rw [ev] at h1
          have hf : ∃ a, fm1[n]? = some a := by
            have : n < fm1.length := by rw [so1.len]; exact (List.getElem?_eq_some_iff.mp e1).1
            exact ⟨fm1[n], by simp [this]⟩
          obtain ⟨a, hf⟩ := hf
          have soL := ok_cell (c' := .lck (.lst ob)) so1 e1 (.inl rfl)
          have stL := stp_cell (c' := .lck (.lst ob)) so1 e1
          refine for_of wu pf soL (eo1.mono stL.toGr) ev fun fm' H' st' so' => ?_
          obtain ⟨_, st3, g3, so3⟩ := stp_lock e1 hf st' so'
          exact (h1 fm' H' st3 so3).from g3⟩

/-! ### name = [.. for ..] -/
/-- the reading of a new list that grows, as HandS has it -/
theorem lc_of {scope : Scope} {own : List (Str × Nat)} {ri : Rho → Sto → R (List U × Option Nat)} {gt : U → Rho → Sto → Option (Rho × Sto)} {rc : Rho → Sto → R Bool} {re : Rho → Sto → R U} {σ : L2.St} {H : Hp} {Q : VK}
    (h : tQ X.K cls W (fun ρ S => (ri ρ S).bind fun p S1 => if p.1.length ≤ lim then lockd S1 p.2 fun S2 => compL (stepC (own.map (·.2)) gt rc re ρ) p.1 S2 else .stuck) σ H Q) :
    tLc (tI X.K cls W ri) (tLockG (tG X.K (· ∈ own.map (·.2)) gt)) (tLockT (tB X.K cls WF rc)) (tLockE (tE X.K cls WF re)) (own.map (·.2)) σ H Q := by
  obtain ⟨fm, S, ρ, so, eo, q⟩ := h
  refine ⟨fm, S, ρ, so, eo, q.bind.imp fun p fm1 S1 H1 st1 so1 h1 J Pf wu pf D hD => ?_⟩
  obtain ⟨us, l⟩ := p
  simp only at h1 wu pf
  split at h1
  case isFalse => exact h1.elim
  case isTrue hl =>
  have eo1 := eo.mono st1.toGr
  cases l with
  | none =>
    simp only [lockd] at h1
    cases ev : compL (stepC (own.map (·.2)) gt rc re ρ) us S1 with
    | stuck => rw [ev] at h1; exact h1.elim
    | ex c S2 => exact absurd ev (compL_ex _ _ _ _ _)
    | ok ys S2 =>
      rw [ev] at h1
      refine tlc_of wu pf so1 eo1 hl ev hD fun fm2 H2 vs G hG => ?_
      have nin := G.nin
      have e0 : Off D (upd H2 D (.frz ob0 (.lst vs))) (del H2 D) := ⟨fun a ha => by rw [upd_ne ha, del_ne ha]⟩
      have := h1.ok fm2 (del H2 D) (stp_off so1 (G.stp ob0) hD e0) (ok_off (G.ok ob0) upd_same nin e0) vs D ((G.vals ob0).mono (gr_off upd_same e0)) del_same
      rw [upd_del hG] at this
      exact this
  | some n =>
    simp only [lockd] at h1
    cases e1 : S1[n]? with
    | none => rw [e1] at h1; exact h1.elim
    | some c =>
    rw [e1] at h1
    cases c with
    | liv o =>
      cases o with
      | dct _ => exact h1.elim
      | lst o =>
      simp only at h1
      have hS : lockO S1 (some n) = S1.set n (.lck (.lst o)) := by show lockS S1 n = _; unfold lockS; rw [e1]
      rw [hS] at pf
      cases ev : compL (stepC (own.map (·.2)) gt rc re ρ) us (S1.set n (.lck (.lst o))) with
      | stuck => rw [ev] at h1; exact h1.elim
      | ex c S2 => exact absurd ev (compL_ex _ _ _ _ _)
      | ok ys S2 =>
        rw [ev] at h1
        simp only [R.bind] at h1
        have hf : ∃ a, fm1[n]? = some a := by
          have : n < fm1.length := by rw [so1.len]; exact (List.getElem?_eq_some_iff.mp e1).1
          exact ⟨fm1[n], by simp [this]⟩
        obtain ⟨a, hf⟩ := hf
        have soL := ok_cell (c' := .lck (.lst o)) so1 e1 (.inl rfl)
        have stL := stp_cell (c' := .lck (.lst o)) so1 e1
        refine tlc_of wu pf soL (eo1.mono stL.toGr) hl ev hD fun fm2 H2 vs G hG => ?_
        have nin := G.nin
        have e0 : Off D (upd H2 D (.frz ob0 (.lst vs))) (del H2 D) := ⟨fun a ha => by rw [upd_ne ha, del_ne ha]⟩
        have st2 := stp_off soL (G.stp ob0) hD e0
        have so2 := ok_off (G.ok ob0) upd_same nin e0
        obtain ⟨_, st3, g3, so3⟩ := stp_lock e1 hf st2 so2
        have := h1.ok fm2 (del H2 D) st3 so3 vs D (((G.vals ob0).mono (gr_off upd_same e0)).mono g3) del_same
        rw [upd_del hG] at this
        exact this
    | lck o => exact h1.elim
    | frz o => exact h1.elim
    | ded => exact h1.elim
end
section
variable {X : Cx} {cls : Nat → Value} {W : WX} {elt tg iter : Expr} {ifs : List Expr} {scope : Scope} {own : List (Str × Nat)} {pos : Pos} {ri : Rho → Sto → R (List U × Option Nat)} {gt : U → Rho → Sto → Option (Rho × Sto)} {rc : Rho → Sto → R Bool} {re : Rho → Sto → R U}
theorem tq_comp (hc : X.calm = true) (hN : X.N.Nodup) (hi : PI X tg iter (tI X.K cls W ri)) (ok : BlkOk X.N X.env.scope scope own)
    (hg : ∀ (s : Shared) (H : Hp) (C : Addr) (cl : List (Str × Addr)) (fp : List Addr), PG (X.blk s H scope (compEnvC scope cl C X.env) fp) tg (tG X.K (· ∈ own.map (·.2)) gt))
    (ht : ∀ (s : Shared) (H : Hp) (C : Addr) (cl : List (Str × Addr)) (fp : List Addr), PTs (X.blk s H scope (compEnvC scope cl C X.env) fp) ifs (tB X.K cls WF rc))
    (he : ∀ (s : Shared) (H : Hp) (C : Addr) (cl : List (Str × Addr)) (fp : List Addr), PE (X.blk s H scope (compEnvC scope cl C X.env) fp) elt (tE X.K cls WF re)) (hs : ∀ x, foldedSetIterable iter X.env x = pure x) :
    PE X (.ListComp elt [⟨tg, iter, ifs, 0⟩] scope pos) (tQ X.K cls W fun ρ S => (ri ρ S).bind fun p S1 => if p.1.length ≤ lim then lockd S1 p.2 fun S2 => compL (stepC (own.map (·.2)) gt rc re ρ) p.1 S2 else .stuck) :=
  (pe_lc hc hN hi ok (fun s H C cl fp => pg_lock (hg s H C cl fp)) (fun s H C cl fp => pts_lock (ht s H C cl fp)) (fun s H C cl fp => pe_lock (he s H C cl fp)) hs).imp fun σ H Q h => lc_of (scope := scope) h
/-- x = [..], the list a value or a place of the store, as mk says -/
theorem ts_setLc {i : Nat} {y : Str} {py spos : Pos} {mk : List U → Sto → R U} (hmk : ∀ {Q : VK} {rq : Rho → Sto → R (List U)} {σ : L2.St} {H : Hp}, tE X.K cls W (fun ρ S => (rq ρ S).bind mk) σ H Q → tQ X.K cls W rq σ H Q)
    (hc : X.calm = true) (hN : X.N.Nodup) (hy : X.N[i]? = some y) (hyl : X.env.scope.names.lookup y = some .local)
    (hsw : swapsWith (.ListComp elt [⟨tg, iter, ifs, 0⟩] scope pos) (some (.Name y py)) spos.line X.env = pure true) (hi : PI X tg iter (tI X.K cls W ri)) (ok : BlkOk X.N X.env.scope scope own)
    (hg : ∀ (s : Shared) (H : Hp) (C : Addr) (cl : List (Str × Addr)) (fp : List Addr), PG (X.blk s H scope (compEnvC scope cl C X.env) fp) tg (tG X.K (· ∈ own.map (·.2)) gt))
    (ht : ∀ (s : Shared) (H : Hp) (C : Addr) (cl : List (Str × Addr)) (fp : List Addr), PTs (X.blk s H scope (compEnvC scope cl C X.env) fp) ifs (tB X.K cls WF rc))
    (he : ∀ (s : Shared) (H : Hp) (C : Addr) (cl : List (Str × Addr)) (fp : List Addr), PE (X.blk s H scope (compEnvC scope cl C X.env) fp) elt (tE X.K cls WF re)) (hs : ∀ x, foldedSetIterable iter X.env x = pure x) :
    PS X (.Assign [.Name y py] (.ListComp elt [⟨tg, iter, ifs, 0⟩] scope pos) spos) (tS X.K cls W fun ρ S => (((ri ρ S).bind fun p S1 => if p.1.length ≤ lim then lockd S1 p.2 fun S2 => compL (stepC (own.map (·.2)) gt rc re ρ) p.1 S2 else .stuck).bind mk).toS ρ fun u S1 =>
      match (if i < ρ.length then some (ρ.set i (some u), S1) else none) with | some (ρ1, S2) => .ok (.nx ρ1) S2 | none => .stuck) :=
  (ps_setLc hc hN hy hyl hsw hi ok (fun s H C cl fp => pg_lock (hg s H C cl fp)) (fun s H C cl fp => pts_lock (ht s H C cl fp)) (fun s H C cl fp => pe_lock (he s H C cl fp)) hs).imp fun D σ H ⟨fm, S, ρ, so, eo, q⟩ => by
    refine lc_of (scope := scope) (hmk ⟨fm, S, ρ, so, eo, (q.toS eo).imp fun u fm1 S1 H1 st1 so1 h1 v r => ?_⟩)
    split at h1
    · rename_i e
      split at e
      · cases e
        exact h1 fm1 H1 .refl so1 _ ((eo.mono st1.toGr).set r)
      · cases e
    · exact h1.elim
theorem mk_qv {Q : VK} {rq : Rho → Sto → R (List U)} {σ : L2.St} {H : Hp} (h : tE X.K cls W (fun ρ S => (rq ρ S).bind fun us S1 => .ok (.lst us) S1) σ H Q) : tQ X.K cls W rq σ H Q := by
  obtain ⟨fm, S, ρ, so, eo, q⟩ := h
  exact ⟨fm, S, ρ, so, eo, q.bind.imp fun us fm1 S1 H1 st1 so1 h1 vs p rv hp => h1.ok fm1 _ (stp_new so1 hp) (ok_new so1 hp) _ (rp_newL so1 hp rv)⟩
theorem mk_qn {Q : VK} {rq : Rho → Sto → R (List U)} {σ : L2.St} {H : Hp} (h : tE X.K cls W (fun ρ S => (rq ρ S).bind fun us S1 => .ok (.ref S1.length) (S1 ++ [.liv (.lst us)])) σ H Q) : tQ X.K cls W rq σ H Q := by
  obtain ⟨fm, S, ρ, so, eo, q⟩ := h
  exact ⟨fm, S, ρ, so, eo, q.bind.imp fun us fm1 S1 H1 st1 so1 h1 vs p rv hp => by
    refine h1.ok (fm1 ++ [p]) _ (stp_put so1 hp) (ok_put so1 hp rv) _ (.ref ?_)
    rw [← so1.len, List.getElem?_append_right (Nat.le_refl _)]
    simp⟩
end
end Ev
set_option Elab.async false
set_option linter.all false
set_option maxRecDepth 100000
set_option maxHeartbeats 2000000
/-! Ev17: calls of the program's defs. -/
namespace Ev
open PySem PySem.Spec PyProof.Rows L2

/-- what a def promises: what G yields -/
def spF (K : PySem.W.Frag) (cls : Nat → Value) (np : Nat) (G : List U → Sto → R U) : Sp := fun vs H Q E =>
  vs.length = np ∧ ∃ fm S us, StOk K fm S H ∧ Rps K fm S H us vs ∧ Aft K cls (fun c d _ H => E c d H) [] fm S H (G us S) fun u fm' S' H' => ∀ v, Rp K fm' S' H' u v → Q v H'
/-- how it binds: the first ones by place, the others by name, in order -/
def BindK (fd : FuncData) (ps : List Str) : Prop := ∀ us ws : List Value, (us ++ ws).length = ps.length → bindArgs fd ⟨us, (ps.drop us.length).zip ws⟩ = pure (ps.zip (us ++ ws))

section
variable {X : Cx} {CX : CXT} {k : Nat} {f : Addr} {fd : FuncData} {ps ks : List Str} {sp : Sp} {E : L2.St → XK} {x : Str} {p pos kpos : Pos} {e : Expr} {es : List Expr} {kws : List Keyword} {t tk : TA} {cls : Nat → Value} {W : WX} {nm : Option Str}
theorem run_fnKS {pins : List (Addr × Obj)} {σ : L2.St} {H : Hp} {s : Shared} {Q : VK} {us ws : List Value} {vs zs : List V} (F : FnOk X.prog X.w X.K X.mg X.base CX k f fd ps sp) (hr : Room k X.A) (hb : BindK fd ps) (hx : PassesAt CX X σ (E σ))
    (I : Inv X pins σ H s) (r : Vals vs us) (rz : Vals zs ws) (h : sp (vs ++ zs) H Q (E σ)) : wpAny (model X.prog X.w) X.A (call (.ref f) us ((ps.drop us.length).zip ws)) (EP X pins σ Q) X.xe s := by
  have r2 := r.append rz
  have hl : (us ++ ws).length = ps.length := by rw [← r2.length]; exact F.len _ _ _ _ h
  refine wpAny_call (codeAny_mono (F.run X.A X.stack s H ⟨us, (ps.drop us.length).zip ws⟩ (us ++ ws) (vs ++ zs) Q (E σ) hr I.env0 (.of_eq (hb us ws hl)) r2 h) fun r s' hq => ?_)
  cases r with
  | error e => exact hx pins H s e s' I hq
  | ok fl =>
    cases fl with
    | ret u => exact I.after hq
    | next => exact False.elim hq
    | brk => exact False.elim hq
    | cont => exact False.elim hq
theorem run_fn0S {pins : List (Addr × Obj)} {σ : L2.St} {H : Hp} {s : Shared} {Q : VK} {us : List Value} {vs : List V} (F : FnOk X.prog X.w X.K X.mg X.base CX k f fd ps sp) (hr : Room k X.A) (hb : BindK fd ps) (hx : PassesAt CX X σ (E σ))
    (I : Inv X pins σ H s) (r : Vals vs us) (h : sp vs H Q (E σ)) : wpAny (model X.prog X.w) X.A (call (.ref f) us) (EP X pins σ Q) X.xe s := by
  have hl : us.length = ps.length := by rw [← r.length]; exact F.len _ _ _ _ h
  have b := run_fnKS F hr hb hx I r .nil (by rw [List.append_nil]; exact h)
  have e : (ps.drop us.length).zip ([] : List Value) = [] := by simp
  rw [e] at b
  exact b
def tCallZ (sp : Sp) (E : L2.St → XK) (t tk : TA) : TE := fun σ H Q => t σ H fun vs H1 => tk σ H1 fun zs H2 => sp (vs ++ zs) H2 Q (E σ)
theorem pe_callZ (F : FnOk X.prog X.w X.K X.mg X.base CX k f fd ps sp) (hr : Room k X.A) (hg : Gl X x) (hm : X.mg x = some (.ref f)) (hk : PySem.W.keepIn X.K (.ref f) = true) (hb : BindK fd ps) (hx : ∀ σ, PassesAt CX X σ (E σ))
    (ha : PA X (e :: es) t) (hln : ∀ σ H Q, t σ H Q → t σ H fun vs H' => vs.length = (e :: es).length ∧ Q vs H') (hkw : PK X kws tk) (hall : (backToKw pos (keywordEach kws X.env)).all (·.1.isSome) = true) (hks : (backToKw pos (keywordEach kws X.env)).filterMap (·.1) = ps.drop (e :: es).length)
    (hdb : (x == ("__debug__" : Str)) = false) (he : starEach (e :: es) X.env = (false, eval e X.env) :: starEach es X.env)
    (hpl : ((backTo pos (starEach (e :: es) X.env)).any (·.1) || (backToKw pos (keywordEach kws X.env)).any (·.1.isNone)) = false) :
    PE X (.Call (.Name x p) (e :: es) kws pos) (tCallZ sp E t tk) := by
  refine ⟨fun pins s σ H Q I h => ?_⟩
  refine wpAny_Call_Name_kw (ld_glob I hg hm ?_ hdb)
  refine PySem.W.callWith_KW (h₀ := X.base) I.ok.mod.kin hk hall (thn (ha.run pos pins s σ H _ I (hln _ _ _ h)) fun us s1 ⟨vs, H1, I1, r, hl, q⟩ => ?_) hpl he
  refine thn (hkw.run pos pins s1 σ H1 _ I1 q) fun ws s2 ⟨zs, H2, I2, rz, q2⟩ => ⟨I2.kIn, ?_⟩
  rw [hks, ← hl, r.length]
  exact run_fnKS F hr hb (hx σ) I2 r rz q2
theorem pe_callZ0 (F : FnOk X.prog X.w X.K X.mg X.base CX k f fd ps sp) (hr : Room k X.A) (hg : Gl X x) (hm : X.mg x = some (.ref f)) (hk : PySem.W.keepIn X.K (.ref f) = true) (hb : BindK fd ps) (hx : ∀ σ, PassesAt CX X σ (E σ))
    (hkw : PK X kws tk) (hall : (backToKw pos (keywordEach kws X.env)).all (·.1.isSome) = true) (hks : (backToKw pos (keywordEach kws X.env)).filterMap (·.1) = ps)
    (hdb : (x == ("__debug__" : Str)) = false) (hpl : ((backTo pos (starEach [] X.env)).any (·.1) || (backToKw pos (keywordEach kws X.env)).any (·.1.isNone)) = false) :
    PE X (.Call (.Name x p) [] kws pos) (fun σ H Q => tk σ H fun zs H2 => sp zs H2 Q (E σ)) := by
  refine ⟨fun pins s σ H Q I h => ?_⟩
  refine wpAny_Call_Name_kw (ld_glob I hg hm ?_ hdb)
  refine PySem.W.callWith_KW0 (h₀ := X.base) I.ok.mod.kin hk hall (thn (hkw.run pos pins s σ H _ I h) fun ws s2 ⟨zs, H2, I2, rz, q2⟩ => ⟨I2.kIn, ?_⟩) hpl
  rw [hks]
  exact run_fnKS (us := []) (vs := []) F hr hb (hx σ) I2 .nil rz q2
theorem pe_callP (F : FnOk X.prog X.w X.K X.mg X.base CX k f fd ps sp) (hr : Room k X.A) (hg : Gl X x) (hm : X.mg x = some (.ref f)) (hk : PySem.W.keepIn X.K (.ref f) = true) (hb : BindK fd ps) (hx : ∀ σ, PassesAt CX X σ (E σ))
    (ha : PA X (e :: es) t) (hdb : (x == ("__debug__" : Str)) = false) (he : starEach (e :: es) X.env = (false, eval e X.env) :: starEach es X.env) (hpl : (backTo pos (starEach es X.env)).any (·.1) = false) :
    PE X (.Call (.Name x p) (e :: es) [] pos) (tCallS sp E t) := by
  refine ⟨fun pins s σ H Q I h => ?_⟩
  refine wpAny_Call_Name_kw (ld_glob I hg hm ?_ hdb)
  refine PySem.W.callWith_K (h₀ := X.base) I.ok.mod.kin hk (thn (ha.run pos pins s σ H _ I h) fun us s1 ⟨vs, H1, I1, r, q⟩ => ⟨I1.kIn, ?_⟩) he hpl
  exact run_fn0S F hr hb (hx σ) I1 r q
theorem pe_callP0 (F : FnOk X.prog X.w X.K X.mg X.base CX k f fd ps sp) (hr : Room k X.A) (hg : Gl X x) (hm : X.mg x = some (.ref f)) (hk : PySem.W.keepIn X.K (.ref f) = true) (hb : BindK fd ps) (hx : ∀ σ, PassesAt CX X σ (E σ))
    (hdb : (x == ("__debug__" : Str)) = false) : PE X (.Call (.Name x p) [] [] pos) (fun σ H Q => sp [] H Q (E σ)) := by
  refine ⟨fun pins s σ H Q I h => ?_⟩
  refine wpAny_Call_Name_kw (ld_glob I hg hm ?_ hdb)
  exact PySem.W.callWith_K0 I.kIn hk (run_fn0S (us := []) (vs := []) F hr hb (hx σ) I .nil h)
end

/-- a def at hand in X: at f, promising what G yields -/
structure Def (X : Cx) (cls : Nat → Value) (x : Str) (ps : List Str) (G : List U → Sto → R U) : Prop where
  ex : ∃ (k : Nat) (f : Addr) (fd : FuncData), FnOk X.prog X.w X.K X.mg X.base (L2.CX X.prog X.w) k f fd ps (spF X.K cls ps.length G) ∧ Room k X.A ∧ X.mg x = some (.ref f) ∧ PySem.W.keepIn X.K (.ref f) = true ∧ BindK fd ps
  few : ∀ us S, us.length ≠ ps.length → G us S = .stuck
section
variable {X : Cx} {x : Str} {ps : List Str} {G : List U → Sto → R U} {p pos kpos : Pos} {e : Expr} {es : List Expr} {kws : List Keyword} {cls : Nat → Value} {W : WX} {nm : Option Str} {ra : Rho → Sto → R U} {rs rk : Rho → Sto → R (List U)}
theorem tks_nil : PK X [] (tEs X.K cls W fun _ S => .ok [] S) := by
  have h : PK X [] (fun σ H Q => Q [] H) := ⟨fun _ _ _ _ H Q I h => wpAny_evalAll_nil ⟨[], H, I, .nil, h⟩⟩
  exact h.imp fun σ H Q ⟨fm, S, ρ, so, eo, q⟩ => q fm H .refl so [] .nil
theorem tks_cons (ha : PE X e (tE X.K cls W ra)) (hs : PK X kws (tEs X.K cls W rs)) :
    PK X (⟨nm, e, kpos⟩ :: kws) (tEs X.K cls W fun ρ S => (ra ρ S).bind fun u S1 => (rs ρ S1).bind fun us S2 => .ok (u :: us) S2) :=
  (pk_cons ha hs).imp fun σ H Q ⟨fm, S, ρ, so, eo, q⟩ => ⟨fm, S, ρ, so, eo, q.bind.imp fun u fm1 S1 H1 st1 so1 h1 v1 r1 => ⟨fm1, S1, ρ, so1, eo.mono st1.toGr, h1.bind.imp fun us fm2 S2 H2 st2 so2 h2 vs rs =>
    h2.ok fm2 H2 .refl so2 (v1 :: vs) (.cons (r1.mono st2.toGr) rs)⟩⟩
theorem sp_of {σ : L2.St} {fm : List Addr} {S : Sto} {H : Hp} {us : List U} {vs : List V} {Q : VK} (few : ∀ us S, us.length ≠ ps.length → G us S = .stuck) (so : StOk X.K fm S H) (r : Rps X.K fm S H us vs)
    (h : Aft X.K cls W σ fm S H (G us S) fun u fm' S' H' => ∀ v, Rp X.K fm' S' H' u v → Q v H') : spF X.K cls ps.length G vs H Q (WE W σ) := by
  refine ⟨?_, fm, S, us, so, r, ?_⟩
  · rw [← r.length]
    apply Classical.byContradiction
    intro z
    rw [few us S z] at h
    exact h
  · revert h
    cases G us S with
    | ok a S1 => exact fun h => h
    | ex c S1 => exact fun h => h
    | stuck => exact fun h => h
theorem te_call (D : Def X cls x ps G) (tk : Takes X W) (hg : Gl X x) (ha : PA X (e :: es) (tEs X.K cls W rs)) (hdb : (x == ("__debug__" : Str)) = false) (he : starEach (e :: es) X.env = (false, eval e X.env) :: starEach es X.env) (hpl : (backTo pos (starEach es X.env)).any (·.1) = false) :
    PE X (.Call (.Name x p) (e :: es) [] pos) (tE X.K cls W fun ρ S => (rs ρ S).bind fun us S1 => G us S1) := by
  obtain ⟨k, f, fd, F, hr, hm, hk, hb⟩ := D.ex
  exact (pe_callP F hr hg hm hk hb (fun σ => passAt tk σ) ha hdb he hpl).imp fun σ H Q ⟨fm, S, ρ, so, eo, q⟩ => ⟨fm, S, ρ, so, eo, q.bind.imp fun us fm1 S1 H1 st1 so1 h1 vs rv => sp_of D.few so1 rv h1⟩
theorem te_call0 (D : Def X cls x ps G) (tk : Takes X W) (hg : Gl X x) (hdb : (x == ("__debug__" : Str)) = false) :
    PE X (.Call (.Name x p) [] [] pos) (tE X.K cls W fun ρ S => (R.ok [] S).bind fun us S1 => G us S1) := by
  obtain ⟨k, f, fd, F, hr, hm, hk, hb⟩ := D.ex
  exact (pe_callP0 F hr hg hm hk hb (fun σ => passAt tk σ) hdb).imp fun σ H Q ⟨fm, S, ρ, so, eo, q⟩ => sp_of D.few so .nil q
theorem te_callK0 (D : Def X cls x ps G) (tk : Takes X W) (hg : Gl X x) (hkw : PK X kws (tEs X.K cls W rk)) (hall : (backToKw pos (keywordEach kws X.env)).all (·.1.isSome) = true) (hks : (backToKw pos (keywordEach kws X.env)).filterMap (·.1) = ps) (hdb : (x == ("__debug__" : Str)) = false)
    (hpl : ((backTo pos (starEach [] X.env)).any (·.1) || (backToKw pos (keywordEach kws X.env)).any (·.1.isNone)) = false) :
    PE X (.Call (.Name x p) [] kws pos) (tE X.K cls W fun ρ S => (rk ρ S).bind fun us S1 => G us S1) := by
  obtain ⟨k, f, fd, F, hr, hm, hk, hb⟩ := D.ex
  exact (pe_callZ0 F hr hg hm hk hb (fun σ => passAt tk σ) hkw hall hks hdb hpl).imp fun σ H Q ⟨fm, S, ρ, so, eo, q⟩ => ⟨fm, S, ρ, so, eo, q.bind.imp fun us fm1 S1 H1 st1 so1 h1 vs rv => sp_of D.few so1 rv h1⟩
theorem te_callK (D : Def X cls x ps G) (tk : Takes X W) (hg : Gl X x) (ha : PA X (e :: es) (tEs X.K cls W rs)) (hlr : ∀ ρ S us S', rs ρ S = .ok us S' → us.length = (e :: es).length) (hkw : PK X kws (tEs X.K cls W rk)) (hall : (backToKw pos (keywordEach kws X.env)).all (·.1.isSome) = true)
    (hks : (backToKw pos (keywordEach kws X.env)).filterMap (·.1) = ps.drop (e :: es).length) (hdb : (x == ("__debug__" : Str)) = false) (he : starEach (e :: es) X.env = (false, eval e X.env) :: starEach es X.env)
    (hpl : ((backTo pos (starEach (e :: es) X.env)).any (·.1) || (backToKw pos (keywordEach kws X.env)).any (·.1.isNone)) = false) :
    PE X (.Call (.Name x p) (e :: es) kws pos) (tE X.K cls W fun ρ S => (rs ρ S).bind fun us S1 => (rk ρ S1).bind fun ws S2 => G (us ++ ws) S2) := by
  obtain ⟨k, f, fd, F, hr, hm, hk, hb⟩ := D.ex
  refine (pe_callZ F hr hg hm hk hb (fun σ => passAt tk σ) ha (fun σ H Q ⟨fm, S, ρ, so, eo, q⟩ => ⟨fm, S, ρ, so, eo, ?_⟩) hkw hall hks hdb he hpl).imp fun σ H Q ⟨fm, S, ρ, so, eo, q⟩ => ⟨fm, S, ρ, so, eo, q.bind.imp fun us fm1 S1 H1 st1 so1 h1 vs rv => ⟨fm1, S1, ρ, so1, eo.mono st1.toGr, h1.bind.imp fun ws fm2 S2 H2 st2 so2 h2 zs rz =>
    sp_of D.few so2 ((rv.mono st2.toGr).append rz) h2⟩⟩
  have hl := hlr ρ S
  revert q hl
  cases rs ρ S with
  | ok us S1 => exact fun q hl fm1 H1 st1 so1 vs rv => ⟨by rw [← rv.length]; exact hl us S1 rfl, q fm1 H1 st1 so1 vs rv⟩
  | ex c S1 => exact fun q _ => q
  | stuck => exact fun q _ => q
end
end Ev
set_option Elab.async false
set_option linter.all false
set_option maxRecDepth 100000
set_option maxHeartbeats 2000000
/-! Ev18: dicts made, asked, walked; signs; names of the module. -/
namespace Ev
open PySem PySem.Spec PyProof.Rows L2
section
variable {X : Cx} {cls : Nat → Value} {W : WX} {pos apos cpos : Pos} {a b c : Expr} {ra rb rc : Rho → Sto → R U} {x : Str}
theorem te_dnew : PE X (.Dict [] [] pos) (tE X.K cls W fun _ S => .ok (.ref S.length) (S ++ [.liv (.dct [])])) :=
  pe_dnewK.imp fun σ H Q ⟨fm, S, ρ, so, eo, q⟩ p hp => by
    refine q (fm ++ [p]) _ (stp_put so hp) (ok_putO so hp ⟨[], upd_same, .nil⟩) _ (.ref ?_)
    rw [← so.len, List.getElem?_append_right (Nat.le_refl _)]
    simp
theorem te_dget (hu : X.A.units + 64 < cLine) (ha : PE X a (tE X.K cls W ra)) (hb : PE X b (tE X.K cls W rb)) (hc : PE X c (tE X.K cls W rc)) (m : M2 X a "get" apos b c cpos) :
    PE X (.Call (.Attribute a "get" apos) [b, c] [] cpos) (tE X.K cls W fun ρ S => (ra ρ S).bind fun u S1 => if (dctOf S1 u).isSome = true then (rb ρ S1).bind fun v S2 => (rc ρ S2).bind fun w S3 => optR S3 (dgetU S3 u v w) else .stuck) :=
  (pe_dget2 (Nat.lt_of_le_of_lt (Nat.add_le_add_left (by decide : 1 ≤ 64) _) hu) ha hb hc m).imp fun σ H Q ⟨fm, S, ρ, so, eo, q⟩ => ⟨fm, S, ρ, so, eo, q.bind.imp fun u fm1 S1 H1 st1 so1 h1 v1 r1 => by
    split at h1
    · rename_i hd
      obtain ⟨kvs, hd⟩ := Option.isSome_iff_exists.mp hd
      obtain ⟨p, vs, rfl, h2, _⟩ := rp_dct so1 r1 hd
      refine ⟨p, rfl, .inl ⟨vs, h2⟩, fm1, S1, ρ, so1, eo.mono st1.toGr, h1.bind.imp fun w fm2 S2 H2 st2 so2 h3 v2 r2 => ⟨fm2, S2, ρ, so2, (eo.mono st1.toGr).mono st2.toGr, h3.bind.imp fun z fm3 S3 H3 st3 so3 h4 v3 r3 => ?_⟩⟩
      obtain ⟨y, e, hq⟩ := h4.opt
      unfold dgetU at e
      split at e
      · rename_i i kvs' e1
        cases e
        cases r2
        obtain ⟨p', vs', e2, h5, rk⟩ := rp_dct so3 ((r1.mono st2.toGr).mono st3.toGr) e1
        cases e2
        refine ⟨valV vs' (.inl i), .inl ⟨vs', .inl i, h5, rfl, rfl⟩, hq fm3 H3 .refl so3 _ ?_⟩
        rcases rk.val (k := i) with ⟨u', v', g1, g2, g3⟩ | ⟨g1, g2⟩
        · rw [g1, g2]; exact g3
        · rw [g1, g2]; exact r3
      · cases e
    · exact h1.elim⟩
theorem te_neg (ha : PE X a (tE X.K cls W ra)) : PE X (.UnaryOp .USub a pos) (tE X.K cls W fun ρ S => (R.ok (.int 0) S).bind fun u S1 => (ra ρ S1).bind fun v S2 => optR S2 (binU S2 .sub u v)) :=
  (pe_un un_neg ha).imp fun σ H Q ⟨fm, S, ρ, so, eo, q⟩ => ⟨fm, S, ρ, so, eo, by
    dsimp only [R.bind] at q
    exact q.bind.imp fun u fm1 S1 H1 st1 so1 h1 v1 r1 => by
      obtain ⟨z, e, hq⟩ := h1.opt
      obtain ⟨i, j, h2, h3, e⟩ := int2_some e
      cases h2
      cases e
      rw [rp_int r1 h3]
      refine ⟨j, rfl, ?_⟩
      have := hq fm1 H1 .refl so1 _ (.int (0 - j))
      rw [Int.zero_sub] at this
      exact this⟩
theorem te_glob {u : U} {v : V} {w : Value} (hg : Gl X x) (hm : X.mg x = some w) (r : RelV v w) (hd : (x == ("__debug__" : Str)) = false) (h : ∀ fm S H, Rp X.K fm S H u v) : PE X (.Name x pos) (tE X.K cls W fun _ S => .ok u S) :=
  te_cst (pe_glob hg hm r hd) h
end

theorem wu_keys {K : PySem.W.Frag} {a : Addr} {od : Obj} {kvs : List (Int × U)} {vs : List (Key × V)} (hl : kvs.length = vs.length) (hk : ∀ (i : Nat) k v, vs[i]? = some (k, v) → ∃ j u, kvs[i]? = some (j, u) ∧ k = Sum.inl j) :
    WU K (Itk a od vs) (kvs.map fun kv => .int kv.1) (fun _ _ H => H a = some (.frz od (.dK vs))) where
  goes := fun i fm S H hi so h => ⟨h, by rw [List.length_map] at hi; omega⟩
  stops := fun fm S H so h => ⟨h, by rw [List.length_map]; omega⟩
  yields := fun i fm S H x H' hi so h y => by
    obtain ⟨rfl, k, v, e, rfl⟩ := y
    obtain ⟨j, u, e1, rfl⟩ := hk i k v e
    exact ⟨.int j, by rw [List.getElem?_map, e1]; rfl, .refl, so, .int j⟩
  keep := fun fm S H fm' S' H' h st => st.frz _ _ _ h
  lockY := fun i H x H' D ws od ⟨e, y⟩ hD => by subst e; exact ⟨hD, rfl, y⟩
section
variable {X : Cx} {cls : Nat → Value} {W : WX} {elt tg : Expr} {ifs : List Expr} {scope : Scope} {own : List (Str × Nat)} {pos p : Pos} {gt : U → Rho → Sto → Option (Rho × Sto)} {rc : Rho → Sto → R Bool} {re : Rho → Sto → R U}
theorem tq_compK {i : Nat} {y : Str} (hy : X.N[i]? = some y) (hv : Vis X.env.scope y) (hd : (y == ("__debug__" : Str)) = false) (hcd : (y == ("__classdict__" : Str)) = false) (hc : X.calm = true) (hN : X.N.Nodup) (ok : BlkOk X.N X.env.scope scope own)
    (hg : ∀ (s : Shared) (H : Hp) (C : Addr) (cl : List (Str × Addr)) (fp : List Addr), PG (X.blk s H scope (compEnvC scope cl C X.env) fp) tg (tG X.K (· ∈ own.map (·.2)) gt))
    (ht : ∀ (s : Shared) (H : Hp) (C : Addr) (cl : List (Str × Addr)) (fp : List Addr), PTs (X.blk s H scope (compEnvC scope cl C X.env) fp) ifs (tB X.K cls WF rc))
    (he : ∀ (s : Shared) (H : Hp) (C : Addr) (cl : List (Str × Addr)) (fp : List Addr), PE (X.blk s H scope (compEnvC scope cl C X.env) fp) elt (tE X.K cls WF re)) :
    PE X (.ListComp elt [⟨tg, .Name y p, ifs, 0⟩] scope pos) (tQ X.K cls W fun ρ S => match getR ρ i with
      | some (.ref n) => match S[n]? with
        | some (.liv (.dct kvs)) => if kvs.length ≤ lim then (compL (stepC (own.map (·.2)) gt rc re ρ) (kvs.map fun kv => .int kv.1) (S.set n (.lck (.dct kvs)))).bind fun ys S2 => .ok ys (S2.set n (.liv (.dct kvs))) else .stuck
        | _ => .stuck
      | _ => .stuck) :=
  (pe_lock (pe_lc hc hN (pi_keys (pe_var hy hv hd hcd)) ok (fun s H C cl fp => pg_lock (hg s H C cl fp)) (fun s H C cl fp => pts_lock (ht s H C cl fp)) (fun s H C cl fp => pe_lock (he s H C cl fp)) (fun _ => rfl))).imp fun σ H Q ⟨fm, S, ρ, so, eo, q⟩ => by
    dsimp only at q
    split at q <;> first | exact q.elim | skip
    rename_i n hn
    split at q <;> first | exact q.elim | skip
    rename_i kvs hs
    split at q <;> first | exact q.elim | skip
    rename_i hlen
    have e' : ρ[i]? = some (some (.ref n)) := by
      unfold getR at hn
      cases q : ρ[i]? with
      | none => rw [q] at hn; cases hn
      | some o => rw [q] at hn; cases o with
        | none => cases hn
        | some w => cases hn; rfl
    obtain ⟨v, ev, rv⟩ := eo.2 i _ e'
    cases rv with
    | ref hf =>
    rename_i a
    obtain ⟨vs, hA, rk⟩ := so.obj _ _ _ hf hs
    refine ⟨a, .dK vs, hA, trivial, fun od => ?_⟩
    obtain ⟨soL, gL⟩ := stp_dlock (od := od) so hs hf hA rk
    refine ⟨.ref a, ev, a, od, rfl, .inl ⟨vs, upd_same, fun D hD => ?_⟩⟩
    have hDa : D ≠ a := fun z => by subst z; rw [upd_same] at hD; cases hD
    cases ec : compL (stepC (own.map (·.2)) gt rc re ρ) (kvs.map fun kv => .int kv.1) (S.set n (.lck (.dct kvs))) with
    | stuck => rw [ec] at q; exact q.elim
    | ex c S2 => exact absurd ec (compL_ex _ _ _ _ _)
    | ok ys S2 =>
    rw [ec] at q
    simp only [R.bind] at q
    refine tlc_of (cls := cls) (Q := fun v H' => H' a = some (.frz od (.dK vs)) ∧ Q v (upd H' a (.dK vs))) (wu_keys rk.length fun i k v e => rk.keys e) upd_same soL (eo.mono gL) (by rw [List.length_map]; exact hlen) ec hD fun fm2 H2 ws G hG => ?_
    have nin := G.nin
    have e0 : Off D (upd H2 D (.frz ob0 (.lst ws))) (del H2 D) := ⟨fun a ha => by rw [upd_ne ha, del_ne ha]⟩
    have st2 := stp_off soL (G.stp ob0) hD e0
    have so2 := ok_off (G.ok ob0) upd_same nin e0
    obtain ⟨h2, st3, g3, so3⟩ := stp_dopen so hs hf hA rk st2 so2
    refine ⟨by rw [del_ne hDa.symm] at h2; exact h2, ?_⟩
    have := q fm2 _ st3 so3 ws D (((G.vals ob0).mono (gr_off upd_same e0)).mono g3) (by rw [upd_ne hDa]; exact del_same)
    rw [upd_comm hDa.symm, upd_del hG] at this
    exact this
end
end Ev
set_option Elab.async false
set_option linter.all false
set_option maxRecDepth 100000
set_option maxHeartbeats 2000000
/-! Ev19: from the text to trees. -/
namespace Ev
open PySem PySem.Spec PyProof.Rows L2

/-- what is known of a def: its names, its scope, the defs and the constants of the module, where lists are kept in the store, where a list changes no more -/
structure CC where
  N : List Str
  sc : Scope
  fnb : Str → Bool
  G : List (Str × Nat × List Str)
  gv : List (Str × U)
  nw : List (Nat × Nat)
  fz : List (Nat × Nat)
  dk : List (Nat × Nat)
  xs : List (Str × Nat)

def glB (C : CC) (x : Str) : Bool := decide (C.sc.names.lookup x = some .globalImplicit) && !(x == ("__debug__" : Str)) && !(x == ("__name__" : Str))
def visB (C : CC) (x : Str) : Bool := decide (C.sc.names.lookup x = some .local) || decide (C.sc.names.lookup x = some .cell) || decide (C.sc.names.lookup x = some .free)
def locB (C : CC) (x : Str) : Bool := decide (C.sc.names.lookup x = some .local) || (decide (C.sc.names.lookup x = some .cell) && C.fnb x)
/-- the place of a name -/
def posN (C : CC) (x : Str) : Option Nat :=
  let i := C.N.findIdx (· == x)
  if decide (C.N[i]? = some x) && !(x == ("__debug__" : Str)) && !(x == ("__classdict__" : Str)) then some i else none

def opOf : Operator → Option Op
  | .Add => some .add | .Sub => some .sub | .Mult => some .mul | .FloorDiv => some .fdiv | .Mod => some .mod | .Pow => some .pow
  | _ => none
def cpOf : CmpOp → Option Cp
  | .Lt => some .lt | .LtE => some .le | .Gt => some .gt | .GtE => some .ge | .Eq => some .eq | .NotEq => some .ne | .Is => some .is | .IsNot => some .isnot
  | _ => none
/-- no star, no display of a set, no slice -/
def plainX : Expr → Bool
  | .Starred .. => false
  | .Set .. => false
  | .Slice .. => false
  | _ => true
def notCall : Expr → Bool
  | .Call .. => false
  | _ => true
def notComp : Expr → Bool
  | .ListComp .. => false
  | .SetComp .. => false
  | .DictComp .. => false
  | _ => true
/-- as a test: by its value -/
def plainT : Expr → Bool
  | .UnaryOp .Not _ _ => false
  | .BoolOp .. => false
  | .IfExp .. => false
  | .Compare .. => false
  | _ => true

def at2 (p : Pos) : Nat × Nat := (p.line, p.col)
def cConst : Const → Option EX
  | .none => some (.cst .non)
  | .bool b => some (.cst (.bl b))
  | .int i => some (.cst (.int i))
  | .str x => some (.cst (.str x))
  | _ => none
def cName (C : CC) (x : Str) (p : Pos) : Option EX :=
  if visB C x = true then match posN C x with
    | some i => some (if C.fz.contains (at2 p) = true then .frz (.var i) else .var i)
    | none => none
  else if glB C x = true then match C.gv.lookup x with
    | some u => some (.cst u)
    | none => none
  else none
/-- a list of them -/
def cL (f : Expr → Option EX) : List Expr → Option (List EX)
  | [] => some []
  | e :: es => match plainX e, f e, cL f es with
    | true, some x, some xs => some (x :: xs)
    | _, _, _ => none
def cKw (f : Expr → Option EX) : List Keyword → Option (List EX × List Str)
  | [] => some ([], [])
  | ⟨some n, e, _⟩ :: ks => match f e, cKw f ks with
    | some x, some (xs, ns) => some (x :: xs, n :: ns)
    | _, _ => none
  | _ => none
def cBool (f : Expr → Option EX) (op : BoolOp) : List Expr → Option EX
  | [] => none
  | [a] => f a
  | a :: b :: r => match f a, cBool f op (b :: r) with
    | some x, some y => some (match op with | .And => .and x y | .Or => .or x y)
    | _, _ => none
def mkL (C : CC) (p : Pos) (q : QX) : EX := if C.nw.contains (at2 p) = true then .qn q else .qv q
def cOp (f : Expr → Option EX) : Option Expr → Option (Option EX)
  | none => some none
  | some e => (f e).map some

inductive BK where | b (id : String) | t (id : String)
def biOf (x : Str) (n : Nat) : Option (Bi × BK) :=
  if x == ("abs" : Str) && n == 1 then some (.abs, .b "abs")
  else if x == ("int" : Str) && n == 1 then some (.int, .t "int")
  else if x == ("len" : Str) && n == 1 then some (.len, .b "len")
  else if x == ("min" : Str) && n == 2 then some (.min2, .b "min")
  else if x == ("max" : Str) && n == 2 then some (.max2, .b "max")
  else if x == ("tuple" : Str) && n == 1 then some (.tuple, .t "tuple")
  else if x == ("all" : Str) && n == 1 then some (.all, .b "all")
  else if x == ("any" : Str) && n == 1 then some (.any, .b "any")
  else if x == ("sum" : Str) && n == 1 then some (.sum, .b "sum")
  else none
def tyOf (x : Str) : Option Ty :=
  if x == ("int" : Str) then some .int else if x == ("bool" : Str) then some .bool else if x == ("str" : Str) then some .str else if x == ("list" : Str) then some .list else if x == ("tuple" : Str) then some .tuple else none
def blts : List Str := ["abs", "int", "len", "min", "max", "tuple", "all", "any", "sum", "bool", "str", "list", "sorted", "isinstance", "range", "enumerate", "zip"]

def cIsi (C : CC) (f : Expr → Option EX) (a t : Expr) : Option EX :=
  match t with
  | .Name y _ => if glB C y = true then match f a, tyOf y with
    | some x, some k => some (.ist x [k])
    | _, _ => none
    else none
  | .Tuple [.Name y _, .Name z _] _ _ => if glB C y = true ∧ glB C z = true then match f a, tyOf y, tyOf z with
    | some x, some k, some l => some (.ist x [k, l])
    | _, _, _ => none
    else none
  | _ => none
/-- f(e, ..), f a name of the module or built in -/
def cCall (C : CC) (f : Expr → Option EX) (x : Str) (args : List Expr) (kws : List Keyword) (pos : Pos) : Option EX :=
  if glB C x = true then
    match C.G.lookup x with
    | some (i, ps) => match cL f args, cKw f kws with
      | some xs, some (ys, ns) => if ns = ps.drop args.length ∧ xs.length ≤ 1000 then some (.call i (xs ++ ys)) else if ns = [] then some (.call i xs) else none
      | _, _ => none
    | none => match kws with
      | [] => if x == ("isinstance" : Str) then match args with
          | [a, t] => if plainX a = true then cIsi C f a t else none
          | _ => none
        else if x == ("list" : Str) then match args with
          | [a] => if plainX a = true then (f a).map fun y => mkL C pos (.lof y) else none
          | _ => none
        else if x == ("sorted" : Str) then match args with
          | [a] => if plainX a = true then (f a).map fun y => mkL C pos (.srt y) else none
          | _ => none
        else match biOf x args.length, cL f args with
          | some (b, _), some xs => some (.bi b xs)
          | _, _ => none
      | _ => none
  else none
def mtOf (m : Str) (n : Nat) : Option Mt :=
  if m == ("append" : Str) && n == 1 then some .append else if m == ("extend" : Str) && n == 1 then some .extend else if m == ("pop" : Str) && n == 0 then some .pop0 else if m == ("pop" : Str) && n == 1 then some .pop1 else none
def cMeth (f : Expr → Option EX) (o : Expr) (m : Str) (apos : Pos) (args : List Expr) (cpos : Pos) : Option EX :=
  if notCall o = true ∧ (apos.endLine == cpos.line) = true then
    if m == ("get" : Str) then match args with
      | [k, d] => match f o, f k, f d with
        | some x, some y, some z => if plainX k = true ∧ plainX d = true then some (.dget x y z) else none
        | _, _, _ => none
      | _ => none
    else match mtOf m args.length, f o, cL f args with
      | some k, some x, some xs => some (.mth k x xs)
      | _, _, _ => none
  else none
/-- a target; wr: which names may be written -/
def cT (C : CC) (f : Expr → Option EX) (wr : Nat → Bool) : Nat → Expr → Option TX
  | _, .Name x _ => if locB C x = true then match posN C x with
    | some i => if wr i = true then some (.nm i) else none
    | none => none
    else none
  | n + 1, .Tuple es _ _ => if es.all plainX = true then (es.mapM (cT C f wr n)).map .tp else none
  | _, .Subscript a b _ => if plainX b = true then match f a, f b with
    | some x, some y => some (.ix x y)
    | _, _ => none
    else none
  | _, _ => none
def isTup : Expr → Bool
  | .Tuple .. => true
  | _ => false
/-- what is walked -/
def cI (C : CC) (f : Expr → Option EX) (tg : Expr) (e : Expr) : Option IX :=
  match e with
  | .Call (.Name x _) args [] _ => if glB C x = true ∧ (x == ("range" : Str)) = true then match args with
      | [a] => if plainX a = true then (f a).map .rng1 else none
      | [a, b] => if plainX a = true ∧ plainX b = true then match f a, f b with
        | some x, some y => some (.rng2 x y)
        | _, _ => none
        else none
      | [a, b, c] => if plainX a = true ∧ plainX b = true ∧ plainX c = true then match f a, f b, f c with
        | some x, some y, some z => some (.rng3 x y z)
        | _, _, _ => none
        else none
      | _ => none
    else if glB C x = true ∧ (x == ("enumerate" : Str)) = true ∧ isTup tg = true then match args with
      | [a] => if plainX a = true then (f a).map .enum else none
      | _ => none
    else if glB C x = true ∧ (x == ("zip" : Str)) = true ∧ isTup tg = true then match args with
      | [a, b] => if plainX a = true ∧ plainX b = true then match f a, f b with
        | some x, some y => some (.zip2 x y)
        | _, _ => none
        else none
      | _ => none
    else (f e).map .val
  | .Set .. => none
  | _ => (f e).map .val
/-- the names of a comprehension's own, with their places -/
def ownOf (C : CC) (scope : Scope) : List (Str × Nat) := scope.names.filterMap fun (n, k) => if k = .local ∨ k = .cell then (posN C n).map fun i => (n, i) else none
/-- the block of a comprehension -/
def CC.blk (C : CC) (scope : Scope) : CC := { C with sc := relS scope C.sc, fnb := fun x => scope.names.lookup x == some .cell }
def cIf (f : Expr → Option EX) : List Expr → Option (Option EX)
  | [] => some none
  | [c] => (f c).map some
  | _ => none
def cComp (C : CC) (f : CC → Expr → Option EX) (elt tg iter : Expr) (ifs : List Expr) (scope : Scope) : Option QX :=
  let own := ownOf C scope
  if blkC C.N C.sc scope own = true then
    match cT (C.blk scope) (f (C.blk scope)) (fun i => own.any fun p => p.2 == i) 20 tg, cIf (f (C.blk scope)) ifs, f (C.blk scope) elt with
    | some t, some cd, some el => match iter with
      | .Name y p => if C.dk.contains (at2 p) = true then (if visB C y = true then (posN C y).map fun i => .compK i t cd el (own.map (·.2)) else none) else (f C iter).map fun x => .comp t (.val x) cd el (own.map (·.2))
      | _ => (cI C (f C) tg iter).map fun it => .comp t it cd el (own.map (·.2))
    | _, _, _ => none
  else none
def cSub (f : Expr → Option EX) (a s : Expr) : Option EX :=
  match s with
  | .Slice none none (some (.UnaryOp .USub (.Constant (.int 1) _ _) _)) _ => (f a).map .rev
  | .Slice lo hi none _ => match f a, cOp f lo, cOp f hi with
    | some x, some l, some h => some (.sl x l h)
    | _, _, _ => none
  | .Slice .. => none
  | b => match f a, f b with
    | some x, some y => some (.ix x y)
    | _, _ => none
def cCmp (f : Expr → Option EX) (a : Expr) (ops : List CmpOp) (bs : List Expr) : Option EX :=
  match ops, bs with
  | [op], [b] => match cpOf op, plainX b, f a, f b with
    | some o, true, some x, some y => some (.cmp o x y)
    | _, _, _, _ => none
  | [op, op'], [b, c] => match cpOf op, cpOf op', plainX c, f a, f b, f c with
    | some o, some o', true, some x, some y, some z => some (.ch2 o o' x y z)
    | _, _, _, _, _, _ => none
  | _, _ => none
def cBin (C : CC) (f : Expr → Option EX) (a : Expr) (op : Operator) (b : Expr) (pos : Pos) : Option EX :=
  match a, op with
  | .List es _, .Mult => if es.length ≤ 1000 then match cL f es, f b with
    | some xs, some y => some (mkL C pos (.rep xs y))
    | _, _ => none
    else none
  | _, _ => match opOf op, f a, f b with
    | some o, some x, some y => some (.bin o x y)
    | _, _, _ => none

def cE : Nat → CC → Expr → Option EX
  | 0, _, _ => none
  | n + 1, C, e => match e with
    | .Constant c _ _ => cConst c
    | .Name x p => cName C x p
    | .Tuple es _ _ => if es.length ≤ 1000 then (cL (cE n C) es).map .tup else none
    | .List es p => if es.length ≤ 1000 then (cL (cE n C) es).map fun xs => mkL C p (.disp xs) else none
    | .Dict [] [] _ => some .dnew
    | .BinOp a op b p => cBin C (cE n C) a op b p
    | .UnaryOp .Not a _ => (cE n C a).map .not
    | .UnaryOp .USub a _ => (cE n C a).map fun x => .bin .sub (.cst (.int 0)) x
    | .BoolOp op vs _ => cBool (cE n C) op vs
    | .IfExp c a b _ => match cE n C c, cE n C a, cE n C b with
      | some x, some y, some z => some (.ite x y z)
      | _, _, _ => none
    | .Compare a ops bs _ => cCmp (cE n C) a ops bs
    | .Subscript a s _ => cSub (cE n C) a s
    | .Call (.Name x _) args kws p => cCall C (cE n C) x args kws p
    | .Call (.Attribute o m ap) args [] p => cMeth (cE n C) o m ap args p
    | .ListComp elt [⟨tg, iter, ifs, 0⟩] scope p => (cComp C (cE n) elt tg iter ifs scope).map (mkL C p)
    | _ => none
end Ev
set_option Elab.async false
set_option linter.all false
set_option maxRecDepth 100000
set_option maxHeartbeats 4000000
/-! Ev20: the trees say what the text does: expressions. -/
namespace Ev
open PySem PySem.Spec PyProof.Rows L2

structure Sit (C : CC) (X : Cx) (cls : Nat → Value) (W : WX) (F : Nat → List U → Sto → R U) : Prop where
  hN : X.N = C.N
  nd : C.N.Nodup
  sc : X.env.scope = C.sc
  calm : X.calm = true
  fn : ∀ x, C.fnb x = true → X.fn x = true
  tk : Takes X W
  hu : X.A.units + 64 < cLine
  blt : ∀ x ∈ blts, X.mg x = none
  defs : ∀ x i ps, C.G.lookup x = some (i, ps) → Def X cls x ps (F i)
  gvs : ∀ x u, C.gv.lookup x = some u → ∃ w v, X.mg x = some w ∧ RelV v w ∧ ∀ fm S H, Rp X.K fm S H u v

section
variable {C : CC} {X : Cx} {cls : Nat → Value} {W : WX} {F : Nat → List U → Sto → R U}
theorem takesF {X : Cx} : Takes X WF := fun _ _ x => by
  obtain ⟨_, _, _, _, _, _, _, _, _, _, _, _, _, _, _, _, z⟩ := x
  exact z.elim
theorem Sit.toF (s : Sit C X cls W F) : Sit C X cls WF F := { s with tk := takesF }
theorem Sit.blk (t : Sit C X cls W F) {scope : Scope} (s : Shared) (H : Hp) (c : Addr) (cl : List (Str × Addr)) (fp : List Addr) : Sit (C.blk scope) (X.blk s H scope (compEnvC scope cl c X.env) fp) cls WF F where
  hN := t.hN
  nd := t.nd
  sc := by
    show relabel scope X.env = relS scope C.sc
    rw [← t.sc]
    rfl
  calm := t.calm
  fn := fun x h => h
  tk := takesF
  hu := t.hu
  blt := t.blt
  defs := fun x i ps h => by
    obtain ⟨⟨k, f, fd, h1⟩, h2⟩ := t.defs x i ps h
    exact ⟨⟨k, f, fd, h1⟩, h2⟩
  gvs := t.gvs
theorem Sit.gl (t : Sit C X cls W F) {x : Str} (h : glB C x = true) : Gl X x ∧ (x == ("__debug__" : Str)) = false ∧ x ≠ "__name__" := by
  unfold glB at h
  simp only [Bool.and_eq_true, decide_eq_true_eq, Bool.not_eq_true'] at h
  refine ⟨?_, h.1.2, fun z => by subst z; simp at h⟩
  show X.env.scope.names.lookup x = _
  rw [t.sc]; exact h.1.1
theorem Sit.vis (t : Sit C X cls W F) {x : Str} (h : visB C x = true) : Vis X.env.scope x := by
  unfold visB at h
  simp only [Bool.or_eq_true, decide_eq_true_eq] at h
  unfold Vis
  rw [t.sc]
  rcases h with (h | h) | h
  · exact .inl h
  · exact .inr (.inl h)
  · exact .inr (.inr h)
theorem Sit.loc (t : Sit C X cls W F) {x : Str} (h : locB C x = true) : L2.Loc X.env.scope x ∧ (X.fn x = true ∨ X.env.scope.names.lookup x = some .local) := by
  unfold locB at h
  simp only [Bool.or_eq_true, decide_eq_true_eq, Bool.and_eq_true] at h
  unfold L2.Loc
  rw [t.sc]
  rcases h with h | h
  · exact ⟨.inl h, .inr h⟩
  · exact ⟨.inr h.1, .inl (t.fn x h.2)⟩
theorem posN_of {x : Str} {i : Nat} (h : posN C x = some i) : C.N[i]? = some x ∧ (x == ("__debug__" : Str)) = false ∧ (x == ("__classdict__" : Str)) = false := by
  unfold posN at h
  dsimp only at h
  split at h
  · rename_i h1
    cases h
    simp only [Bool.and_eq_true, decide_eq_true_eq, Bool.not_eq_true'] at h1
    exact ⟨h1.1.1, h1.1.2, h1.2⟩
  · cases h
theorem Sit.pos (t : Sit C X cls W F) {x : Str} {i : Nat} (h : posN C x = some i) : X.N[i]? = some x := by rw [t.hN]; exact (posN_of h).1
end

/-! ### the text's forms -/
theorem star_of {e : Expr} (h : plainX e = true) (es : List Expr) (env : Env) : starEach (e :: es) env = (false, eval e env) :: starEach es env := by
  cases e <;> first | rfl | cases h
theorem star_plain {es : List Expr} (h : es.all plainX = true) (env : Env) : starEach es env = es.map fun e => (false, eval e env) := by
  induction es with
  | nil => rfl
  | cons e es ih =>
    simp only [List.all_cons, Bool.and_eq_true] at h
    rw [star_of h.1, ih h.2]; rfl
theorem back_any {es : List Expr} (h : es.all plainX = true) (pos : Pos) (env : Env) : (backTo pos (starEach es env)).any (·.1) = false := by
  rw [star_plain h]
  unfold backTo
  rw [List.map_map, List.any_map]
  exact List.any_eq_false.mpr fun x _ => by simp
theorem back_all {es : List Expr} (h : es.all plainX = true) (pos : Pos) (env : Env) : (backTo pos (starEach es env)).all (fun x => !x.1) = true := by
  rw [star_plain h]
  unfold backTo
  rw [List.map_map, List.all_map]
  exact List.all_eq_true.mpr fun x _ => by simp
theorem plain_ix {b : Expr} (h : plainX b = true) : PlainIx b := by
  intro o i
  cases b <;> first | rfl | cases h
theorem plain_mark {b : Expr} (h : plainX b = true) (op : CmpOp) : behindInMarks op b = false := by
  cases b <;> first | rfl | cases h
theorem plain_test {e : Expr} (h : plainT e = true) (env : Env) (whole : Sem Value) : isTrue e env whole = (do let v ← whole; standAt e.pos; holding [v] (truthy v)) := by
  cases e <;> first | rfl | cases h | skip
  rename_i op a p
  cases op <;> first | rfl | cases h
theorem base_of {o : Expr} (h : notCall o = true) (m : Str) (env : Env) (w : Sem Value) : attributeBase o m env w = w := by
  cases o <;> first | rfl | cases h
theorem fold_of {e : Expr} (h : ∀ es k p, e ≠ .Set es k p) (env : Env) (x : Value) : foldedSetIterable e env x = pure x := by
  cases e <;> first | rfl | exact absurd rfl (h _ _ _)

def SndE (C : CC) (e : Expr) (x : EX) : Prop := ∀ X cls W F, Sit C X cls W F → PE X e (tE X.K cls W (evE F x))
def SndT (C : CC) (e : Expr) (x : EX) : Prop := ∀ X cls W F, Sit C X cls W F → PT X e (tT X.K cls W (evE F x))
def Snd (C : CC) (f : Expr → Option EX) : Prop := ∀ e x, f e = some x → SndE C e x ∧ SndT C e x
theorem snd_plain {C : CC} {e : Expr} {x : EX} (hp : plainT e = true) (h : SndE C e x) : SndE C e x ∧ SndT C e x :=
  ⟨h, fun X cls W F t => tt_any (h X cls W F t) fun whole => plain_test hp X.env whole⟩

section
variable {C : CC} {f : Expr → Option EX} (hf : Snd C f)
include hf
theorem snd_L : ∀ {es : List Expr} {xs : List EX}, cL f es = some xs → es.all plainX = true ∧ xs.length = es.length ∧ ∀ X cls W F, Sit C X cls W F → PA X es (tEs X.K cls W (evEs F xs))
  | [], _, h => by
    cases h
    refine ⟨rfl, rfl, fun X cls W F t => ?_⟩
    have : evEs F [] = fun _ S => .ok [] S := by funext ρ S; rw [evEs]
    rw [this]; exact tes_nil
  | e :: es, _, h => by
    unfold cL at h
    split at h
    · rename_i x xs h1 h2 h3
      cases h
      obtain ⟨g1, g2, g3⟩ := snd_L h3
      refine ⟨by simp [h1, g1], by simp [g2], fun X cls W F t => ?_⟩
      have : evEs F (x :: xs) = fun ρ S => (evE F x ρ S).bind fun u S1 => (evEs F xs ρ S1).bind fun us S2 => .ok (u :: us) S2 := by funext ρ S; rw [evEs]
      rw [this]
      exact tes_cons ((hf e x h2).1 X cls W F t) (g3 X cls W F t) (star_of h1 es X.env)
    · cases h
theorem snd_Kw : ∀ {ks : List Keyword} {xs : List EX} {ns : List Str}, cKw f ks = some (xs, ns) → ∀ X cls W F, Sit C X cls W F → PK X ks (tEs X.K cls W (evEs F xs)) ∧
    (∀ pos, (backToKw pos (keywordEach ks X.env)).all (·.1.isSome) = true ∧ (backToKw pos (keywordEach ks X.env)).filterMap (·.1) = ns ∧ (backToKw pos (keywordEach ks X.env)).any (·.1.isNone) = false)
  | [], _, _, h, X, cls, W, F, t => by
    cases h
    refine ⟨?_, fun pos => ⟨rfl, rfl, rfl⟩⟩
    have : evEs F [] = fun _ S => .ok [] S := by funext ρ S; rw [evEs]
    rw [this]; exact tks_nil
  | k :: ks, _, _, h, X, cls, W, F, t => by
    obtain ⟨nm, e, kp⟩ := k
    cases nm with
    | none => simp [cKw] at h
    | some n =>
      simp only [cKw] at h
      split at h
      · rename_i x xs ns h1 h2
        cases h
        obtain ⟨g1, g2⟩ := snd_Kw h2 X cls W F t
        refine ⟨?_, fun pos => ?_⟩
        · have : evEs F (x :: xs) = fun ρ S => (evE F x ρ S).bind fun u S1 => (evEs F xs ρ S1).bind fun us S2 => .ok (u :: us) S2 := by funext ρ S; rw [evEs]
          rw [this]
          exact tks_cons ((hf e x h1).1 X cls W F t) g1
        · obtain ⟨a1, a2, a3⟩ := g2 pos
          have e1 : backToKw pos (keywordEach (⟨some n, e, kp⟩ :: ks) X.env) = (some n, do let v ← eval e X.env; standAt pos; pure v) :: backToKw pos (keywordEach ks X.env) := rfl
          rw [e1]
          refine ⟨by simp only [List.all_cons, a1]; rfl, by simp only [List.filterMap_cons, a2], by simp only [List.any_cons, a3]; rfl⟩
      · cases h
theorem snd_Bool {op : BoolOp} {pos : Pos} : ∀ {vs : List Expr} {x : EX}, cBool f op vs = some x → SndE C (.BoolOp op vs pos) x ∧ ∀ X cls W F, Sit C X cls W F → PW X (.BoolOp op vs pos) (tT X.K cls W (evE F x))
  | [], _, h => by cases h
  | [a], x, h => by
    have h : f a = some x := h
    refine ⟨fun X cls W F t => te_one ((hf a x h).1 X cls W F t), fun X cls W F t => ?_⟩
    cases op with
    | And => exact tw_and1 ((hf a x h).2 X cls W F t)
    | Or => exact tw_or1 ((hf a x h).2 X cls W F t)
  | a :: b :: r, _, h => by
    unfold cBool at h
    split at h
    · rename_i x y h1 h2
      cases h
      obtain ⟨g1, g2⟩ := snd_Bool h2
      cases op with
      | And =>
        have e : ∀ F, evE F (.and x y) = fun ρ S => (evE F x ρ S).bind fun u S1 => match truU S1 u with | some true => evE F y ρ S1 | some false => .ok u S1 | none => .stuck := by intro F; funext ρ S; rw [evE] <;> rfl
        refine ⟨fun X cls W F t => ?_, fun X cls W F t => ?_⟩
        · show PE X _ (tE X.K cls W (evE F (.and x y)))
          rw [e]; exact te_and ((hf a x h1).1 X cls W F t) (g1 X cls W F t)
        · show PW X _ (tT X.K cls W (evE F (.and x y)))
          rw [e]; exact tw_and ((hf a x h1).2 X cls W F t) (g2 X cls W F t)
      | Or =>
        have e : ∀ F, evE F (.or x y) = fun ρ S => (evE F x ρ S).bind fun u S1 => match truU S1 u with | some true => .ok u S1 | some false => evE F y ρ S1 | none => .stuck := by intro F; funext ρ S; rw [evE] <;> rfl
        refine ⟨fun X cls W F t => ?_, fun X cls W F t => ?_⟩
        · show PE X _ (tE X.K cls W (evE F (.or x y)))
          rw [e]; exact te_or ((hf a x h1).1 X cls W F t) (g1 X cls W F t)
        · show PW X _ (tT X.K cls W (evE F (.or x y)))
          rw [e]; exact tw_or ((hf a x h1).2 X cls W F t) (g2 X cls W F t)
    · cases h
end
end Ev
set_option Elab.async false
set_option linter.all false
set_option maxRecDepth 100000
set_option maxHeartbeats 4000000
/-! Ev21: the trees say what the text does: names, operators, calls. -/
namespace Ev
open PySem PySem.Spec PyProof.Rows L2

theorem bind_ok {α β : Type} {r : R α} {f : α → Sto → R β} {b : β} {S : Sto} (h : r.bind f = .ok b S) : ∃ a S1, r = .ok a S1 ∧ f a S1 = .ok b S := by
  cases r with
  | ok a S1 => exact ⟨a, S1, rfl, h⟩
  | ex c S1 => cases h
  | stuck => cases h
theorem evEs_len (F : Nat → List U → Sto → R U) : ∀ (xs : List EX) (ρ : Rho) (S : Sto) (us : List U) (S' : Sto), evEs F xs ρ S = .ok us S' → us.length = xs.length
  | [], ρ, S, us, S', h => by rw [evEs] at h; cases h; rfl
  | x :: xs, ρ, S, us, S', h => by
    rw [evEs] at h
    obtain ⟨u, S1, _, h⟩ := bind_ok h
    obtain ⟨vs, S2, h2, h⟩ := bind_ok h
    cases h
    simp [evEs_len F xs ρ S1 vs _ h2]
theorem evEs_app (F : Nat → List U → Sto → R U) : ∀ (xs ys : List EX) (ρ : Rho) (S : Sto), evEs F (xs ++ ys) ρ S = (evEs F xs ρ S).bind fun us S1 => (evEs F ys ρ S1).bind fun ws S2 => .ok (us ++ ws) S2
  | [], ys, ρ, S => by
    rw [List.nil_append, evEs]
    show _ = (evEs F ys ρ S).bind fun ws S2 => .ok ([] ++ ws) S2
    cases evEs F ys ρ S <;> rfl
  | x :: xs, ys, ρ, S => by
    rw [List.cons_append, evEs, evEs]
    cases evE F x ρ S with
    | ok u S1 =>
      simp only [R.bind]
      rw [evEs_app F xs ys ρ S1]
      cases evEs F xs ρ S1 with
      | ok us S2 =>
        simp only [R.bind]
        cases evEs F ys ρ S2 <;> rfl
      | ex c S2 => rfl
      | stuck => rfl
    | ex c S1 => rfl
    | stuck => rfl

section
variable {C : CC}
theorem snd_const {c : Const} {k : Nat} {p : Pos} {x : EX} (h : cConst c = some x) : SndE C (.Constant c k p) x := by
  intro X cls W F t
  cases c with
  | none => cases h; exact te_cst pe_non fun _ _ _ => .non
  | bool b => cases h; exact te_cst pe_bl fun _ _ _ => .bl b
  | int i => cases h; exact te_cst pe_int fun _ _ _ => .int i
  | str x => cases h; exact te_cst pe_str fun _ _ _ => .str x
  | _ => cases h
theorem ev_var {F : Nat → List U → Sto → R U} {i : Nat} : evE F (.var i) = fun ρ S => optR S (getR ρ i) := by funext ρ S; rw [evE]
theorem ev_frz {F : Nat → List U → Sto → R U} {a : EX} : evE F (.frz a) = fun ρ S => (evE F a ρ S).bind fun u S1 => match u with
    | .ref n => match S1[n]? with
      | some (.liv (.lst xs)) => .ok (.lst xs) (S1.set n .ded)
      | _ => .stuck
    | _ => .ok u S1 := by funext ρ S; rw [evE] <;> rfl
theorem ev_cst {F : Nat → List U → Sto → R U} {u : U} : evE F (.cst u) = fun _ S => .ok u S := by funext ρ S; rw [evE]
theorem snd_name {y : Str} {p : Pos} {x : EX} (h : cName C y p = some x) : SndE C (.Name y p) x := by
  intro X cls W F t
  unfold cName at h
  split at h
  · rename_i hv
    split at h
    · rename_i i hi
      cases h
      obtain ⟨_, h1, h2⟩ := posN_of hi
      have hb := te_var (cls := cls) (W := W) (pos := p) (t.pos hi) (t.vis hv) h1 h2
      split
      · rw [ev_frz, ev_var]; exact te_frz hb
      · rw [ev_var]; exact hb
    · cases h
  · split at h
    · rename_i hg
      split at h
      · rename_i u hu
        cases h
        obtain ⟨w, v, h1, h2, h3⟩ := t.gvs _ _ hu
        obtain ⟨g1, g2, _⟩ := t.gl hg
        rw [ev_cst]
        exact te_glob g1 h1 h2 g2 h3
      · cases h
    · cases h
theorem ev_qv {F : Nat → List U → Sto → R U} {q : QX} : evE F (.qv q) = fun ρ S => (evQ F q ρ S).bind fun us S1 => .ok (.lst us) S1 := by funext ρ S; rw [evE] <;> rfl
theorem ev_qn {F : Nat → List U → Sto → R U} {q : QX} : evE F (.qn q) = fun ρ S => (evQ F q ρ S).bind fun us S1 => .ok (.ref S1.length) (S1 ++ [.liv (.lst us)]) := by funext ρ S; rw [evE] <;> rfl
/-- a new list, as a value or in the store -/
theorem snd_mkL {e : Expr} {q : QX} {p : Pos} {X : Cx} {cls : Nat → Value} {W : WX} {F : Nat → List U → Sto → R U} (h : PE X e (tQ X.K cls W (evQ F q))) : PE X e (tE X.K cls W (evE F (mkL C p q))) := by
  unfold mkL
  split
  · rw [ev_qn]; exact te_qn h
  · rw [ev_qv]; exact te_qv h
theorem op_of {X : Cx} {op : Operator} {o : Op} (h : opOf op = some o) : OpR X (binaryOp op) (rBin X.K o) := by
  cases op <;> first | cases h | skip
  · exact op_addU
  · exact op_subU
  · exact op_mulU
  · exact op_modU
  · exact op_powU
  · exact op_fdivU
theorem cp_of {X : Cx} {op : CmpOp} {o : Cp} (hu : X.A.units + 64 < cLine) (h : cpOf op = some o) : OpR X (compareOp op) (rCmp X.K o) := by
  cases op <;> first | cases h | skip
  · exact op_eqU hu
  · exact op_neU hu
  · exact op_ltU
  · exact op_leU
  · exact op_gtU
  · exact op_geU
  · exact op_isU
  · exact op_isnotU
theorem ev_bin {F : Nat → List U → Sto → R U} {o : Op} {a b : EX} : evE F (.bin o a b) = fun ρ S => (evE F a ρ S).bind fun u S1 => (evE F b ρ S1).bind fun v S2 => optR S2 (binU S2 o u v) := by funext ρ S; rw [evE] <;> rfl
theorem ev_cmp {F : Nat → List U → Sto → R U} {o : Cp} {a b : EX} : evE F (.cmp o a b) = fun ρ S => (evE F a ρ S).bind fun u S1 => (evE F b ρ S1).bind fun v S2 => optR S2 ((cmpU S2 o u v).map U.bl) := by funext ρ S; rw [evE] <;> rfl
theorem ev_ch2 {F : Nat → List U → Sto → R U} {o p : Cp} {a b c : EX} : evE F (.ch2 o p a b c) = fun ρ S => (evE F a ρ S).bind fun u S1 => (evE F b ρ S1).bind fun v S2 => match cmpU S2 o u v with
    | some true => (evE F c ρ S2).bind fun w S3 => optR S3 ((cmpU S3 p v w).map U.bl)
    | some false => .ok (.bl false) S2
    | none => .stuck := by funext ρ S; rw [evE] <;> rfl
theorem ev_ix {F : Nat → List U → Sto → R U} {a b : EX} : evE F (.ix a b) = fun ρ S => (evE F a ρ S).bind fun u S1 => (evE F b ρ S1).bind fun v S2 => optR S2 (ixU S2 u v) := by funext ρ S; rw [evE] <;> rfl
variable {f : Expr → Option EX} (hf : Snd C f)
include hf
theorem snd_bin {a b : Expr} {op : Operator} {p : Pos} {x : EX} (h : cBin C f a op b p = some x) : SndE C (.BinOp a op b p) x := by
  intro X cls W F t
  unfold cBin at h
  split at h
  · rename_i es p2
    split at h
    · rename_i hl
      split at h
      · rename_i xs y h1 h2
        cases h
        obtain ⟨g1, g2, g3⟩ := snd_L hf h1
        refine snd_mkL ?_
        have e : evQ F (.rep xs y) = fun ρ S => (evEs F xs ρ S).bind fun us S1 => (evE F y ρ S1).bind fun v S2 => match v with
            | .int k => if us.length * k.toNat ≤ lim ∧ -(2 ^ 63) ≤ k ∧ k < 2 ^ 63 then .ok (List.replicate k.toNat us).flatten S2 else .stuck
            | _ => .stuck := by funext ρ S; rw [evQ] <;> rfl
        rw [e]
        exact tq_rep (g3 X cls W F t) (fun ρ S us S' h => by rw [evEs_len F _ _ _ _ _ h, g2]; exact hl) ((hf b y h2).1 X cls W F t)
      · cases h
    · cases h
  · split at h
    · rename_i o x y h1 h2 h3
      cases h
      rw [ev_bin]
      exact te_bin (op_of h1) ((hf a x h2).1 X cls W F t) ((hf b y h3).1 X cls W F t)
    · cases h
theorem snd_cmp {a : Expr} {ops : List CmpOp} {bs : List Expr} {p : Pos} {x : EX} (h : cCmp f a ops bs = some x) : SndE C (.Compare a ops bs p) x ∧ SndT C (.Compare a ops bs p) x := by
  unfold cCmp at h
  split at h
  · rename_i op b
    split at h
    · rename_i o x y h1 h2 h3 h4
      cases h
      refine ⟨fun X cls W F t => ?_, fun X cls W F t => ?_⟩
      · rw [ev_cmp]; exact te_cmp (cp_of t.hu h1) ((hf a x h3).1 X cls W F t) ((hf b y h4).1 X cls W F t) (plain_mark h2 op)
      · rw [ev_cmp]; exact tt_cmp (cp_of t.hu h1) ((hf a x h3).1 X cls W F t) ((hf b y h4).1 X cls W F t) (plain_mark h2 op)
    · cases h
  · rename_i op op' b c
    split at h
    · rename_i o o' x y z h1 h1' h2 h3 h4 h5
      cases h
      refine ⟨fun X cls W F t => ?_, fun X cls W F t => ?_⟩
      · rw [ev_ch2]; exact te_ch2 (cp_of t.hu h1) (cp_of t.hu h1') ((hf a x h3).1 X cls W F t) ((hf b y h4).1 X cls W F t) ((hf c z h5).1 X cls W F t) (plain_mark h2 op')
      · rw [ev_ch2]; exact tt_ch2 (cp_of t.hu h1) (cp_of t.hu h1') ((hf a x h3).1 X cls W F t) ((hf b y h4).1 X cls W F t) ((hf c z h5).1 X cls W F t) (plain_mark h2 op')
    · cases h
  · cases h
theorem snd_Op {o : Option Expr} {x : Option EX} (h : cOp f o = some x) : ∀ X cls W F, Sit C X cls W F → PO X o (tO X.K cls W (evO F x)) := by
  intro X cls W F t
  cases o with
  | none =>
    cases h
    have : evO F none = fun _ S => .ok none S := by funext ρ S; rw [evO]
    rw [this]; exact to_none
  | some e =>
    unfold cOp at h
    obtain ⟨y, h1, rfl⟩ := Option.map_eq_some_iff.mp h
    have : evO F (some y) = fun ρ S => (evE F y ρ S).bind fun u S1 => match u with | .int i => .ok (some i) S1 | _ => .stuck := by funext ρ S; rw [evO] <;> rfl
    rw [this]; exact to_some ((hf e y h1).1 X cls W F t)
theorem snd_sub {a s : Expr} {p : Pos} {x : EX} (h : cSub f a s = some x) : SndE C (.Subscript a s p) x := by
  intro X cls W F t
  unfold cSub at h
  split at h
  · obtain ⟨y, h1, rfl⟩ := Option.map_eq_some_iff.mp h
    have : evE F (.rev y) = fun ρ S => (evE F y ρ S).bind fun u S1 => optR S1 (revU S1 u) := by funext ρ S; rw [evE] <;> rfl
    rw [this]; exact te_rev ((hf a y h1).1 X cls W F t)
  · split at h
    · rename_i x l hh h1 h2 h3
      cases h
      have : evE F (.sl x l hh) = fun ρ S => (evE F x ρ S).bind fun u S1 => (evO F l ρ S1).bind fun l S2 => (evO F hh ρ S2).bind fun h S3 => optR S3 (slU S3 u l h) := by funext ρ S; rw [evE] <;> rfl
      rw [this]; exact te_sl ((hf a x h1).1 X cls W F t) (snd_Op hf h2 X cls W F t) (snd_Op hf h3 X cls W F t)
    · cases h
  · cases h
  · rename_i n1 n2 n3
    split at h
    · rename_i x y h1 h2
      cases h
      rw [ev_ix]
      refine te_ix t.hu ((hf a x h1).1 X cls W F t) ((hf s y h2).1 X cls W F t) ?_
      intro o i
      cases s <;> first | rfl | skip
      rename_i lo hi st p
      cases st with
      | none => exact absurd rfl (n2 _ _ _)
      | some st => exact absurd rfl (n3 _ _ _ _)
    · cases h
end
end Ev
set_option Elab.async false
set_option linter.all false
set_option maxRecDepth 100000
set_option maxHeartbeats 4000000
/-! Ev22: the trees say what the text does: calls, walks, comprehensions, all of it. -/
namespace Ev
open PySem PySem.Spec PyProof.Rows L2

theorem str_eq {x y : Str} (h : (x == y) = true) : x = y := eq_of_beq h
theorem tyOf_is {y : Str} {k : Ty} (h : tyOf y = some k) : y ∈ blts ∧ bootBuiltins y = some (.type k.nm) := by
  unfold tyOf at h
  split at h
  · rename_i e; cases h; rw [str_eq e]; exact ⟨by decide, boot_int⟩
  · split at h
    · rename_i e; cases h; rw [str_eq e]; exact ⟨by decide, boot_bool⟩
    · split at h
      · rename_i e; cases h; rw [str_eq e]; exact ⟨by decide, boot_str⟩
      · split at h
        · rename_i e; cases h; rw [str_eq e]; exact ⟨by decide, boot_list⟩
        · split at h
          · rename_i e; cases h; rw [str_eq e]; exact ⟨by decide, boot_tuple⟩
          · cases h
def BK.ok (X : Cx) (b : Bi) : BK → Prop
  | .b id => CallR X (.builtin id) (rBi X.K b)
  | .t id => CallR X (.type id) (rBi X.K b)
def BK.boot : BK → Value
  | .b id => .builtin id
  | .t id => .type id
theorem and_of {a b : Bool} (h : (a && b) = true) : a = true := by cases a <;> simp_all
theorem biOf_is {x : Str} {n : Nat} {b : Bi} {k : BK} (h : biOf x n = some (b, k)) : x ∈ blts ∧ bootBuiltins x = some k.boot ∧ ∀ X : Cx, X.calm = true → k.ok X b := by
  unfold biOf at h
  split at h
  · rename_i e; cases h; rw [str_eq (and_of e)]; exact ⟨by decide, PyProof.Rows.boot_abs, fun X _ => cr_absU⟩
  split at h
  · rename_i e; cases h; rw [str_eq (and_of e)]; exact ⟨by decide, boot_int, fun X _ => cr_intU⟩
  split at h
  · rename_i e; cases h; rw [str_eq (and_of e)]; exact ⟨by decide, by decide +kernel, fun X _ => cr_lenU⟩
  split at h
  · rename_i e; cases h; rw [str_eq (and_of e)]; exact ⟨by decide, by decide +kernel, fun X hc => cr_min2U hc⟩
  split at h
  · rename_i e; cases h; rw [str_eq (and_of e)]; exact ⟨by decide, by decide +kernel, fun X hc => cr_max2U hc⟩
  split at h
  · rename_i e; cases h; rw [str_eq (and_of e)]; exact ⟨by decide, boot_tuple, fun X _ => cr_tupleU⟩
  split at h
  · rename_i e; cases h; rw [str_eq (and_of e)]; exact ⟨by decide, by decide +kernel, fun X hc => cr_allU hc⟩
  split at h
  · rename_i e; cases h; rw [str_eq (and_of e)]; exact ⟨by decide, by decide +kernel, fun X hc => cr_anyU hc⟩
  split at h
  · rename_i e; cases h; rw [str_eq (and_of e)]; exact ⟨by decide, by decide +kernel, fun X hc => cr_sumU hc⟩
  · cases h
section
variable {C : CC} {f : Expr → Option EX} (hf : Snd C f)
include hf
theorem snd_isi {a ty : Expr} {x : EX} {p pos : Pos} (ha : plainX a = true) (hg : glB C "isinstance" = true) (h : cIsi C f a ty = some x) : SndE C (.Call (.Name "isinstance" p) [a, ty] [] pos) x := by
  intro X cls W F t
  obtain ⟨g1, g2, g3⟩ := t.gl hg
  unfold cIsi at h
  split at h
  · rename_i y p2
    split at h
    · rename_i hy
      split at h
      · rename_i x k h1 h2
        cases h
        obtain ⟨g4, g5, g6⟩ := t.gl hy
        obtain ⟨b1, b2⟩ := tyOf_is h2
        have : evE F (.ist x [k]) = fun ρ S => (evE F x ρ S).bind fun u S1 => optR S1 ((vtU S1 u).map fun k' => .bl ([k].any k'.is)) := by funext ρ S; rw [evE] <;> rfl
        rw [this]
        exact te_ist1 g1 (t.blt _ (by decide)) PyProof.Rows.boot_isinstance g4 (t.blt _ b1) b2 g6 g5 ((hf a x h1).1 X cls W F t) g3 g2 (star_of ha _ _)
      · cases h
    · cases h
  · rename_i y py z pz k0 p4
    split at h
    · rename_i hy
      split at h
      · rename_i x k l h1 h2 h3
        cases h
        obtain ⟨g4, g5, g6⟩ := t.gl hy.1
        obtain ⟨g7, g8, g9⟩ := t.gl hy.2
        obtain ⟨b1, b2⟩ := tyOf_is h2
        obtain ⟨b3, b4⟩ := tyOf_is h3
        have : evE F (.ist x [k, l]) = fun ρ S => (evE F x ρ S).bind fun u S1 => optR S1 ((vtU S1 u).map fun k' => .bl ([k, l].any k'.is)) := by funext ρ S; rw [evE] <;> rfl
        rw [this]
        exact te_ist2 g1 (t.blt _ (by decide)) PyProof.Rows.boot_isinstance g4 (t.blt _ b1) b2 g6 g5 g7 (t.blt _ b3) b4 g9 g8 ((hf a x h1).1 X cls W F t) g3 g2 (star_of ha _ _)
      · cases h
    · cases h
  · cases h
theorem ev_call {F : Nat → List U → Sto → R U} {i : Nat} {xs : List EX} : evE F (.call i xs) = fun ρ S => (evEs F xs ρ S).bind fun us S1 => F i us S1 := by funext ρ S; rw [evE] <;> rfl
theorem ev_bi {F : Nat → List U → Sto → R U} {b : Bi} {xs : List EX} : evE F (.bi b xs) = fun ρ S => (evEs F xs ρ S).bind fun us S1 => optR S1 (biU S1 b us) := by funext ρ S; rw [evE] <;> rfl
theorem snd_call {y : Str} {args : List Expr} {kws : List Keyword} {p pos : Pos} {x : EX} (h : cCall C f y args kws pos = some x) : SndE C (.Call (.Name y p) args kws pos) x := by
  intro X cls W F t
  unfold cCall at h
  split at h
  case isFalse => cases h
  case isTrue hg =>
  obtain ⟨g1, g2, g3⟩ := t.gl hg
  split at h
  · rename_i i ps hG
    have D := t.defs _ _ _ hG
    split at h
    · rename_i xs ys ns h1 h2
      obtain ⟨a1, a2, a3⟩ := snd_L hf h1
      obtain ⟨b1, b2⟩ := snd_Kw hf h2 X cls W F t
      have ha := a3 X cls W F t
      -- only by place
      have plainCall : ns = [] → kws = [] → ys = [] → PE X (.Call (.Name y p) args kws pos) (tE X.K cls W (evE F (.call i xs))) := by
        rintro rfl rfl rfl
        rw [ev_call hf]
        cases args with
        | nil =>
          have : xs = [] := List.eq_nil_of_length_eq_zero a2
          subst this
          have e : evEs F [] = fun _ S => .ok [] S := by funext ρ S; rw [evEs]
          rw [e]
          exact te_call0 D t.tk g1 g2
        | cons e es =>
          simp only [List.all_cons, Bool.and_eq_true] at a1
          exact te_call D t.tk g1 ha g2 (star_of a1.1 es _) (back_any a1.2 _ _)
      have nil_of : ns = [] → kws = [] ∧ ys = [] := by
        rintro rfl
        cases kws with
        | nil => cases h2; exact ⟨rfl, rfl⟩
        | cons k ks =>
          obtain ⟨nm, e, kp⟩ := k
          cases nm with
          | none => simp [cKw] at h2
          | some n =>
            simp only [cKw] at h2
            split at h2 <;> cases h2
      split at h
      · rename_i hn
        cases h
        obtain ⟨hn, hl⟩ := hn
        by_cases hns : ns = []
        · obtain ⟨e1, e2⟩ := nil_of hns
          subst e2
          rw [List.append_nil]
          exact plainCall hns e1 rfl
        · obtain ⟨c1, c2, c3⟩ := b2 pos
          rw [ev_call hf]
          cases args with
          | nil =>
            have : xs = [] := List.eq_nil_of_length_eq_zero a2
            subst this
            rw [List.nil_append]
            have hn' : ns = ps := by rw [hn]; rfl
            exact te_callK0 D t.tk g1 b1 c1 (c2.trans hn') g2 (by
              show (false || _) = false
              rw [c3]; rfl)
          | cons e es =>
            simp only [List.all_cons, Bool.and_eq_true] at a1
            have key := te_callK D t.tk g1 ha (fun ρ S us S' h => by rw [evEs_len F _ _ _ _ _ h, a2]) b1 c1 (c2.trans hn) g2 (star_of a1.1 es _) (p := p) (by
              rw [back_any (by simp [a1.1, a1.2]), c3]; rfl)
            refine key.imp fun σ H Q ⟨fm, S, ρ, so, eo, q⟩ => ⟨fm, S, ρ, so, eo, ?_⟩
            revert q
            dsimp only
            rw [evEs_app]
            cases evEs F xs ρ S with
            | ok us S1 =>
              simp only [R.bind]
              cases evEs F ys ρ S1 <;> exact fun q => q
            | ex c S1 => exact fun q => q
            | stuck => exact fun q => q
      · split at h
        · rename_i hns
          cases h
          obtain ⟨e1, e2⟩ := nil_of hns
          exact plainCall hns e1 e2
        · cases h
    · cases h
  · split at h
    case h_2 => cases h
    case h_1 =>
    split at h
    · rename_i hi
      have := str_eq hi
      subst this
      split at h
      · rename_i a ty
        split at h
        · rename_i ha
          exact snd_isi hf ha hg h X cls W F t
        · cases h
      · cases h
    · split at h
      · rename_i hi
        have := str_eq hi
        subst this
        split at h
        · rename_i a
          split at h
          · rename_i ha
            obtain ⟨y, h1, rfl⟩ := Option.map_eq_some_iff.mp h
            refine snd_mkL ?_
            have e : evQ F (.lof y) = fun ρ S => (evE F y ρ S).bind fun u S1 => optR S1 (seqOf S1 u) := by funext ρ S; rw [evQ] <;> rfl
            rw [e]
            exact tq_lof g1 (t.blt _ (by decide)) boot_list ((hf a y h1).1 X cls W F t) g3 g2 (star_of ha _ _)
          · cases h
        · cases h
      · split at h
        · rename_i hi
          have := str_eq hi
          subst this
          split at h
          · rename_i a
            split at h
            · rename_i ha
              obtain ⟨y, h1, rfl⟩ := Option.map_eq_some_iff.mp h
              refine snd_mkL ?_
              have e : evQ F (.srt y) = fun ρ S => (evE F y ρ S).bind fun u S1 => match seqOf S1 u with | some xs => optR S1 (srtU xs) | none => .stuck := by funext ρ S; rw [evQ] <;> rfl
              rw [e]
              exact tq_srt g1 (t.blt _ (by decide)) PyProof.Rows.boot_sorted ((hf a y h1).1 X cls W F t) g3 g2 (star_of ha _ _)
            · cases h
          · cases h
        · split at h
          · rename_i b k xs h1 h2
            cases h
            obtain ⟨a1, a2, a3⟩ := snd_L hf h2
            obtain ⟨c1, c2, c3⟩ := biOf_is h1
            rw [ev_bi hf]
            cases args with
            | nil =>
              exfalso
              have z : ∀ s : Str, (s == y && (0 : Nat) == 1) = false := fun s => by simp
              simp [biOf] at h1
            | cons e es =>
              simp only [List.all_cons, Bool.and_eq_true] at a1
              cases k with
              | b id => exact te_biB (c3 X t.calm) g1 (t.blt _ c1) c2 (a3 X cls W F t) g3 g2 (star_of a1.1 es _) (back_any a1.2 _ _)
              | t id => exact te_biT (c3 X t.calm) g1 (t.blt _ c1) c2 (a3 X cls W F t) g3 g2 (star_of a1.1 es _) (back_any a1.2 _ _)
          · cases h
end
end Ev
set_option Elab.async false
set_option linter.all false
set_option maxRecDepth 100000
set_option maxHeartbeats 4000000
/-! Ev23: the trees say what the text does: methods, targets, walks, comprehensions; every expression. -/
namespace Ev
open PySem PySem.Spec PyProof.Rows L2

section
variable {C : CC} {f : Expr → Option EX} (hf : Snd C f)
include hf
theorem ev_mth {F : Nat → List U → Sto → R U} {m : Mt} {a : EX} {xs : List EX} : evE F (.mth m a xs) = fun ρ S => (evE F a ρ S).bind fun u S1 => if mtOk S1 m u = true then (evEs F xs ρ S1).bind fun us S2 => mthR (mthU S2 m u us) else .stuck := by funext ρ S; rw [evE] <;> rfl
theorem snd_meth {o : Expr} {m : Str} {apos cpos : Pos} {args : List Expr} {x : EX} (h : cMeth f o m apos args cpos = some x) : SndE C (.Call (.Attribute o m apos) args [] cpos) x := by
  intro X cls W F t
  unfold cMeth at h
  split at h
  case isFalse => cases h
  case isTrue hb =>
  obtain ⟨hb, hl⟩ := hb
  split at h
  · rename_i hm
    have := str_eq hm
    subst this
    split at h
    · rename_i k d
      split at h
      · rename_i x y z h1 h2 h3
        split at h
        · rename_i hp
          cases h
          have e : evE F (.dget x y z) = fun ρ S => (evE F x ρ S).bind fun u S1 => if (dctOf S1 u).isSome = true then (evE F y ρ S1).bind fun v S2 => (evE F z ρ S2).bind fun w S3 => optR S3 (dgetU S3 u v w) else .stuck := by funext ρ S; rw [evE] <;> rfl
          rw [e]
          refine te_dget t.hu ((hf o x h1).1 X cls W F t) ((hf k y h2).1 X cls W F t) ((hf d z h3).1 X cls W F t) ⟨base_of hb _ _ _, ?_, hl, ?_⟩
          · rw [back_all (by simp [hp.1, hp.2])]; rfl
          · rw [star_of hp.1, star_of hp.2]; rfl
        · cases h
      · cases h
    · cases h
  · split at h
    · rename_i k x xs h1 h2 h3
      cases h
      obtain ⟨a1, a2, a3⟩ := snd_L hf h3
      have ho := (hf o x h2).1 X cls W F t
      have ha := a3 X cls W F t
      rw [ev_mth hf]
      unfold mtOf at h1
      have go : ∀ {id : String} {e : Expr} {es : List Expr}, args = e :: es → (e :: es).length < 30 → Slot "list" m id → typeOf (.builtin id) = pure (.type "method_descriptor") → MtM X id (rMt X.K k) →
          PE X (.Call (.Attribute o m apos) args [] cpos) (tE X.K cls W fun ρ S => (evE F x ρ S).bind fun u S1 => if mtOk S1 k u = true then (evEs F xs ρ S1).bind fun us S2 => mthR (mthU S2 k u us) else .stuck) := by
        rintro id e es rfl hlen slot hty hm
        have a1' := a1
        simp only [List.all_cons, Bool.and_eq_true] at a1'
        refine te_mt PySem.F.plainAttrs_list slot hty hm ho ha (base_of hb _ _ _) ?_ hl (star_of a1'.1 es _) (back_any a1'.2 _ _)
        rw [back_all a1]
        simp only [Bool.true_and, Bool.and_eq_true, decide_eq_true_eq]
        exact ⟨rfl, by simpa using hlen⟩
      split at h1
      · rename_i e
        cases h1
        simp only [Bool.and_eq_true, beq_iff_eq] at e
        have e1 := e.1; subst e1
        match args, e.2 with
        | [a], _ => exact go rfl (by simp) PySem.F.slot_list_append PySem.F.type_list_append mt_appU
      · split at h1
        · rename_i e
          cases h1
          simp only [Bool.and_eq_true, beq_iff_eq] at e
          have e1 := e.1; subst e1
          match args, e.2 with
          | [a], _ => exact go rfl (by simp) PySem.F.slot_list_extend PySem.F.type_list_extend mt_extU
        · split at h1
          · rename_i e
            cases h1
            simp only [Bool.and_eq_true, beq_iff_eq] at e
            have e1 := e.1; subst e1
            match args, e.2 with
            | [], _ =>
              have : xs = [] := List.eq_nil_of_length_eq_zero a2
              subst this
              have e2 : evEs F [] = fun _ S => .ok [] S := by funext ρ S; rw [evEs]
              rw [e2]
              exact te_mt0 PySem.F.plainAttrs_list PySem.F.slot_list_pop PySem.F.type_list_pop mt_pop0U ho (base_of hb _ _ _) hl
          · split at h1
            · rename_i e
              cases h1
              simp only [Bool.and_eq_true, beq_iff_eq] at e
              have e1 := e.1; subst e1
              match args, e.2 with
              | [a], _ => exact go rfl (by simp) PySem.F.slot_list_pop PySem.F.type_list_pop mt_pop1U
            · cases h1
    · cases h
/-- targets -/
theorem snd_Ts (n : Nat) {wb : Nat → Bool} (ih : ∀ {e : Expr} {x : TX}, cT C f wb n e = some x → ∀ X cls W F, Sit C X cls W F → ∀ wr : Nat → Prop, (∀ i, wb i = true → wr i) → PG X e (tG X.K wr (evT F x))) :
    ∀ {es : List Expr} {xs : List TX}, es.mapM (cT C f wb n) = some xs → es.all plainX = true → xs.length = es.length ∧ ∀ X cls W F, Sit C X cls W F → ∀ wr : Nat → Prop, (∀ i, wb i = true → wr i) → PGs X es (tGs X.K wr (evTs F xs))
  | [], xs, h, _ => by
    rw [List.mapM_nil] at h
    cases h
    refine ⟨rfl, fun X cls W F t wr hw => ?_⟩
    refine tgs_nil.imp fun v σ H Q ⟨fm, S, ρ, us, so, eo, ru, ρ', S', e, q⟩ => ⟨fm, S, ρ, us, so, eo, ru, ρ', S', ?_, q⟩
    cases us with
    | nil => rw [evTs] at e; exact e
    | cons _ _ => simp [evTs] at e
  | e :: es, xs, h, hp => by
    rw [List.mapM_cons] at h
    simp only [List.all_cons, Bool.and_eq_true] at hp
    cases h1 : cT C f wb n e with
    | none => rw [h1] at h; cases h
    | some x =>
      rw [h1] at h
      cases h2 : es.mapM (cT C f wb n) with
      | none => rw [h2] at h; cases h
      | some ys =>
        rw [h2] at h
        cases h
        obtain ⟨g1, g2⟩ := snd_Ts n ih h2 hp.2
        refine ⟨by simp [g1], fun X cls W F t wr hw => ?_⟩
        have hs : (assignEach (e :: es) X.env).map (·.2) = assign e X.env :: (assignEach es X.env).map (·.2) := by
          have hp1 := hp.1
          cases e <;> first | rfl | cases hp1
        refine (tgs_cons (ih h1 X cls W F t wr hw) (g2 X cls W F t wr hw) hs).imp fun v σ H Q ⟨fm, S, ρ, us, so, eo, ru, ρ', S', e, q⟩ => ⟨fm, S, ρ, us, so, eo, ru, ρ', S', ?_, q⟩
        cases us with
        | nil => simp [evTs] at e
        | cons u us =>
          rw [evTs] at e
          dsimp only
          cases hx : evT F x u ρ S with
          | none => rw [hx] at e; exact e
          | some rs => rw [hx] at e; exact e
theorem snd_T {wb : Nat → Bool} : ∀ (n : Nat) {e : Expr} {x : TX}, cT C f wb n e = some x → ∀ X cls W F, Sit C X cls W F → ∀ wr : Nat → Prop, (∀ i, wb i = true → wr i) → PG X e (tG X.K wr (evT F x)) := by
  have name : ∀ (n : Nat) {y : Str} {p : Pos} {x : TX}, cT C f wb n (.Name y p) = some x → ∀ X cls W F, Sit C X cls W F → ∀ wr : Nat → Prop, (∀ i, wb i = true → wr i) → PG X (.Name y p) (tG X.K wr (evT F x)) := by
    intro n y p x h X cls W F t wr hw
    have h : (if locB C y = true then match posN C y with | some i => if wb i = true then some (TX.nm i) else none | none => none else none) = some x := by cases n <;> exact h
    split at h
    · rename_i hl
      split at h
      · rename_i i hi
        split at h
        · rename_i hwi
          cases h
          obtain ⟨l1, l2⟩ := t.loc hl
          have e : evT F (.nm i) = fun u ρ S => if i < ρ.length then some (ρ.set i (some u), S) else none := by funext u ρ S; rw [evT] <;> rfl
          rw [e]
          exact tg_name (by rw [t.hN]; exact t.nd) (t.pos hi) l1 l2 (hw i hwi)
        · cases h
      · cases h
    · cases h
  have sub : ∀ (n : Nat) {a b : Expr} {p : Pos} {x : TX}, cT C f wb n (.Subscript a b p) = some x → ∀ X cls W F, Sit C X cls W F → ∀ wr : Nat → Prop, (∀ i, wb i = true → wr i) → PG X (.Subscript a b p) (tG X.K wr (evT F x)) := by
    intro n a b p x h X cls W F t wr hw
    have h : (if plainX b = true then match f a, f b with | some x, some y => some (TX.ix x y) | _, _ => none else none) = some x := by cases n <;> exact h
    split at h
    · rename_i hb
      split at h
      · rename_i x y h1 h2
        cases h
        have t' := t.toF
        have key := tg_ix (wr := wr) (pos := p) t.hu ((hf a x h1).1 X cls WF F t') ((hf b y h2).1 X cls WF F t') (fun v => by cases b <;> first | rfl | cases hb)
        refine key.imp fun v σ H Q ⟨fm, S, ρ, u, so, eo, ru, ρ', S', e, q⟩ => ⟨fm, S, ρ, u, so, eo, ru, ρ', S', ?_, q⟩
        rw [evT] at e
        rw [← e] <;> rfl
      · cases h
    · cases h
  intro n
  induction n with
  | zero =>
    intro e x h
    cases e with
    | Name y p => exact name 0 h
    | Subscript a b p => exact sub 0 h
    | _ => simp [cT] at h
  | succ n ih =>
    intro e x h
    cases e with
    | Name y p => exact name _ h
    | Subscript a b p => exact sub _ h
    | Tuple es k p =>
      have h : (if es.all plainX = true then (es.mapM (cT C f wb n)).map TX.tp else none) = some x := h
      split at h
      · rename_i hp
        obtain ⟨xs, h1, rfl⟩ := Option.map_eq_some_iff.mp h
        obtain ⟨g1, g2⟩ := snd_Ts hf n (fun {e x} h => ih h) h1 hp
        intro X cls W F t wr hw
        have e : evT F (.tp xs) = fun u ρ S => match unpack xs.length u S with | some us => evTs F xs us ρ S | none => none := by funext u ρ S; rw [evT] <;> rfl
        rw [e]
        have hl : ∀ es : List Expr, es.all plainX = true → (assignEach es X.env).length = es.length ∧ (assignEach es X.env).findIdx? (·.1) = none := by
          intro es
          induction es with
          | nil => intro _; exact ⟨rfl, rfl⟩
          | cons e es ih2 =>
            intro hp
            simp only [List.all_cons, Bool.and_eq_true] at hp
            obtain ⟨j1, j2⟩ := ih2 hp.2
            have e1 : assignEach (e :: es) X.env = (false, assign e X.env) :: assignEach es X.env := by
              have hp1 := hp.1
              cases e <;> first | rfl | cases hp1
            rw [e1]
            refine ⟨by simp [j1], ?_⟩
            rw [List.findIdx?_cons]
            simp [j2]
        obtain ⟨l1, l2⟩ := hl es hp
        exact tg_tup t.calm (g2 X cls W F t wr hw) (by rw [l1, g1]) l2
      · cases h
    | _ => simp [cT] at h
end
end Ev
set_option Elab.async false
set_option linter.all false
set_option maxRecDepth 100000
set_option maxHeartbeats 4000000
/-! Ev24: the trees say what the text does: walks, comprehensions; every expression. -/
namespace Ev
open PySem PySem.Spec PyProof.Rows L2

section
variable {C : CC} {f : Expr → Option EX} (hf : Snd C f)
include hf
theorem snd_val {tg e : Expr} {it : IX} (h : (f e).map IX.val = some it) : ∀ X cls W F, Sit C X cls W F → PI X tg e (tI X.K cls W (evI F it)) := by
  intro X cls W F t
  obtain ⟨x, h1, rfl⟩ := Option.map_eq_some_iff.mp h
  have : evI F (.val x) = fun ρ S => (evE F x ρ S).bind fun u S1 => optR S1 (lockOf S1 u) := by funext ρ S; rw [evI] <;> rfl
  rw [this]
  exact ti_val ((hf e x h1).1 X cls W F t)
theorem star2 {a b : Expr} (ha : plainX a = true) (hb : plainX b = true) (env : Env) : starEach [a, b] env = [(false, eval a env), (false, eval b env)] := by rw [star_of ha, star_of hb]; rfl
theorem snd_I {tg e : Expr} {it : IX} (h : cI C f tg e = some it) : ∀ X cls W F, Sit C X cls W F → PI X tg e (tI X.K cls W (evI F it)) ∧ ∀ x, foldedSetIterable e X.env x = pure x := by
  intro X cls W F t
  unfold cI at h
  split at h
  · rename_i y py args p
    refine ⟨?_, fun _ => rfl⟩
    split at h
    · rename_i hg
      have := str_eq hg.2
      subst this
      obtain ⟨g1, _, _⟩ := t.gl hg.1
      have gm := t.blt "range" (by decide)
      split at h
      · rename_i a
        split at h
        · rename_i ha
          obtain ⟨x, h1, rfl⟩ := Option.map_eq_some_iff.mp h
          have : evI F (.rng1 x) = fun ρ S => (evE F x ρ S).bind fun u S1 => match u with
              | .int j => if small j = true then .ok (iotaU 0 j.toNat, none) S1 else .stuck
              | _ => .stuck := by funext ρ S; rw [evI] <;> rfl
          rw [this]
          exact ti_rng1 g1 gm ((hf a x h1).1 X cls W F t) (star_of ha _ _)
        · cases h
      · rename_i a b
        split at h
        · rename_i ha
          split at h
          · rename_i x y h1 h2
            cases h
            have : evI F (.rng2 x y) = fun ρ S => (evE F x ρ S).bind fun u S1 => (evE F y ρ S1).bind fun v S2 => match u, v with
                | .int i, .int j => if small i = true ∧ small j = true then .ok (iotaU i (j - i).toNat, none) S2 else .stuck
                | _, _ => .stuck := by funext ρ S; rw [evI] <;> rfl
            rw [this]
            exact ti_rng2 g1 gm ((hf a x h1).1 X cls W F t) ((hf b y h2).1 X cls W F t) (star2 hf ha.1 ha.2 _) (star_of ha.2 _ _)
          · cases h
        · cases h
      · rename_i a b c
        split at h
        · rename_i ha
          split at h
          · rename_i x y z h1 h2 h3
            cases h
            have : evI F (.rng3 x y z) = fun ρ S => (evE F x ρ S).bind fun u S1 => (evE F y ρ S1).bind fun v S2 => (evE F z ρ S2).bind fun w S3 => match u, v, w with
                | .int i, .int j, .int (-1) => if small i = true ∧ small j = true then .ok (iotaC i (-1) (i - j).toNat, none) S3 else .stuck
                | _, _, _ => .stuck := by funext ρ S; rw [evI] <;> rfl
            rw [this]
            refine ti_rng3 g1 gm ((hf a x h1).1 X cls W F t) ((hf b y h2).1 X cls W F t) ((hf c z h3).1 X cls W F t) (star_of ha.1 _ _) (star_of ha.2.1 _ _) (star_of ha.2.2 _ _) ?_
            exact back_any (by simp [ha.2.1, ha.2.2]) _ _
          · cases h
        · cases h
      · cases h
    · split at h
      · rename_i hg
        have := str_eq hg.2.1
        subst this
        obtain ⟨g1, _, _⟩ := t.gl hg.1
        split at h
        · rename_i a
          split at h
          · rename_i ha
            obtain ⟨x, h1, rfl⟩ := Option.map_eq_some_iff.mp h
            have htg := hg.2.2
            cases tg <;> first | cases htg | skip
            have : evI F (.enum x) = fun ρ S => (evE F x ρ S).bind fun u S1 => match lockOf S1 u with
                | some (xs, l) => .ok (enumU 0 xs, l) S1
                | none => .stuck := by funext ρ S; rw [evI] <;> rfl
            rw [this]
            exact ti_enum g1 (t.blt _ (by decide)) ((hf a x h1).1 X cls W F t) (star_of ha _ _)
          · cases h
        · cases h
      · split at h
        · rename_i hg
          have := str_eq hg.2.1
          subst this
          obtain ⟨g1, _, _⟩ := t.gl hg.1
          split at h
          · rename_i a b
            split at h
            · rename_i ha
              split at h
              · rename_i x y h1 h2
                cases h
                have htg := hg.2.2
                cases tg <;> first | cases htg | skip
                have : evI F (.zip2 x y) = fun ρ S => (evE F x ρ S).bind fun u S1 => (evE F y ρ S1).bind fun v S2 => match u, v with
                    | .tup xs, .tup ys => .ok (zipU xs ys, none) S2
                    | .lst xs, .lst ys => .ok (zipU xs ys, none) S2
                    | _, _ => .stuck := by funext ρ S; rw [evI] <;> rfl
                rw [this]
                exact ti_zip g1 (t.blt _ (by decide)) ((hf a x h1).1 X cls W F t) ((hf b y h2).1 X cls W F t) (star_of ha.1 _ _) (star_of ha.2 _ _) (back_any (by simp [ha.2]) _ _)
              · cases h
            · cases h
          · cases h
        · exact snd_val hf h X cls W F t
  · cases h
  · rename_i n1 n2
    exact ⟨snd_val hf h X cls W F t, fun x => fold_of (fun es k p z => n2 _ _ _ z) _ _⟩
theorem snd_If {ifs : List Expr} {cd : Option EX} (h : cIf f ifs = some cd) : ∀ X cls W F, Sit C X cls W F → PTs X ifs (tB X.K cls W (evC F cd)) := by
  intro X cls W F t
  unfold cIf at h
  split at h
  · cases h
    have : evC F none = fun _ S => .ok true S := by funext ρ S; rw [evC]
    rw [this]; exact tb_nil
  · rename_i c
    obtain ⟨x, h1, rfl⟩ := Option.map_eq_some_iff.mp h
    have : evC F (some x) = fun ρ S => (evE F x ρ S).bind fun u S1 => optR S1 (truU S1 u) := by funext ρ S; rw [evC] <;> rfl
    rw [this]; exact tb_one ((hf c x h1).2 X cls W F t)
  · cases h
end

/-- x if c else y, as a test -/
theorem tt_ite {X : Cx} {cls : Nat → Value} {W : WX} {a b c : Expr} {pos : Pos} {ra rb rc : Rho → Sto → R U} (hc : PT X c (tT X.K cls W rc)) (ha : PT X a (tT X.K cls W ra)) (hb : PT X b (tT X.K cls W rb)) :
    PT X (.IfExp c a b pos) (tT X.K cls W fun ρ S => (rc ρ S).bind fun u S1 => match truU S1 u with | some true => ra ρ S1 | some false => rb ρ S1 | none => .stuck) := by
  refine ⟨fun pins s σ H Q I ⟨fm, S, ρ, so, eo, q⟩ => ?_⟩
  show wpAny (model X.prog X.w) X.A (do if ← isTrue c X.env (eval c X.env) then isTrue a X.env (eval a X.env) else isTrue b X.env (eval b X.env)) (TP X pins σ Q) X.xe s
  refine wpAny_bind (thn (hc.run pins s σ H (fun k H1 => (k = true → tT X.K cls W ra σ H1 Q) ∧ (k = false → tT X.K cls W rb σ H1 Q)) I ⟨fm, S, ρ, so, eo, q.bind.imp fun u fm1 S1 H1 st1 so1 h1 => ?_⟩) fun k s1 ⟨H1, I1, q1, q2⟩ => ?_)
  · cases e : truU S1 u with
    | none => rw [e] at h1; exact h1.elim
    | some k =>
      rw [e] at h1
      refine ⟨k, rfl, fun z => ?_, fun z => ?_⟩
      · subst z; exact ⟨fm1, S1, ρ, so1, eo.mono st1.toGr, h1⟩
      · subst z; exact ⟨fm1, S1, ρ, so1, eo.mono st1.toGr, h1⟩
  · cases k with
    | true => exact ha.run pins s1 σ H1 Q I1 (q1 rfl)
    | false => exact hb.run pins s1 σ H1 Q I1 (q2 rfl)
/-- what a comprehension's parts say -/
structure CompOk (C : CC) (elt tg iter : Expr) (ifs : List Expr) (scope : Scope) (own : List (Str × Nat)) (X : Cx) (cls : Nat → Value) (W : WX) (F : Nat → List U → Sto → R U) (t : TX) (cd : Option EX) (el : EX) : Prop where
  ok : BlkOk X.N X.env.scope scope own
  hg : ∀ (s : Shared) (H : Hp) (c : Addr) (cl : List (Str × Addr)) (fp : List Addr), PG (X.blk s H scope (compEnvC scope cl c X.env) fp) tg (tG X.K (· ∈ own.map (·.2)) (evT F t))
  ht : ∀ (s : Shared) (H : Hp) (c : Addr) (cl : List (Str × Addr)) (fp : List Addr), PTs (X.blk s H scope (compEnvC scope cl c X.env) fp) ifs (tB X.K cls WF (evC F cd))
  he : ∀ (s : Shared) (H : Hp) (c : Addr) (cl : List (Str × Addr)) (fp : List Addr), PE (X.blk s H scope (compEnvC scope cl c X.env) fp) elt (tE X.K cls WF (evE F el))
theorem stepC_ev {F : Nat → List U → Sto → R U} {own : List Nat} {t : TX} {cd : Option EX} {el : EX} {ρ : Rho} : stepC own (evT F t) (evC F cd) (evE F el) ρ = fun x S => match evT F t x (wipeR ρ own) S with
    | some (ρ1, S1) => (evC F cd ρ1 S1).bind fun k S2 => if k = true then (evE F el ρ1 S2).bind fun y S3 => .ok (some y) S3 else .ok none S2
    | none => .stuck := rfl
theorem snd_comp {C : CC} {f : CC → Expr → Option EX} (hf : ∀ C, Snd C (f C)) {elt tg iter : Expr} {ifs : List Expr} {scope : Scope} {q : QX} (h : cComp C f elt tg iter ifs scope = some q) :
    ∃ (own : List (Str × Nat)) (t : TX) (cd : Option EX) (el : EX), (∀ X cls W F, Sit C X cls W F → CompOk C elt tg iter ifs scope own X cls W F t cd el) ∧
      ((∃ it, q = .comp t it cd el (own.map (·.2)) ∧ ∀ X cls W F, Sit C X cls W F → PI X tg iter (tI X.K cls W (evI F it)) ∧ ∀ x, foldedSetIterable iter X.env x = pure x) ∨
        ∃ y p i, iter = .Name y p ∧ visB C y = true ∧ posN C y = some i ∧ q = .compK i t cd el (own.map (·.2))) := by
  unfold cComp at h
  dsimp only at h
  split at h
  case isFalse => cases h
  case isTrue hb =>
  split at h
  · rename_i t cd el h1 h2 h3
    refine ⟨ownOf C scope, t, cd, el, fun X cls W F s => ⟨?_, fun s' H c cl fp => ?_, fun s' H c cl fp => ?_, fun s' H c cl fp => ?_⟩, ?_⟩
    · rw [s.hN, s.sc]; exact blkOk_by hb
    · refine snd_T (hf _) 20 h1 _ cls WF F (s.blk s' H c cl fp) _ fun i hi => ?_
      obtain ⟨p, hp, e⟩ := List.any_eq_true.mp hi
      exact List.mem_map.mpr ⟨p, hp, by simpa using e⟩
    · exact snd_If (hf _) h2 _ cls WF F (s.blk s' H c cl fp)
    · exact (hf _ _ _ h3).1 _ cls WF F (s.blk s' H c cl fp)
    · split at h
      · rename_i y p
        split at h
        · split at h
          · rename_i hv
            obtain ⟨i, hi, rfl⟩ := Option.map_eq_some_iff.mp h
            exact .inr ⟨y, p, i, rfl, hv, hi, rfl⟩
          · cases h
        · obtain ⟨x, hx, rfl⟩ := Option.map_eq_some_iff.mp h
          exact .inl ⟨.val x, rfl, fun X cls W F s => ⟨snd_val (hf C) (by rw [hx]; rfl) X cls W F s, fun _ => rfl⟩⟩
      · obtain ⟨it, hi, rfl⟩ := Option.map_eq_some_iff.mp h
        exact .inl ⟨it, rfl, fun X cls W F s => snd_I (hf C) hi X cls W F s⟩
  · cases h
theorem ev_comp {F : Nat → List U → Sto → R U} {t : TX} {it : IX} {cd : Option EX} {el : EX} {own : List Nat} : evQ F (.comp t it cd el own) = fun ρ S => (evI F it ρ S).bind fun p S1 => if p.1.length ≤ lim then lockd S1 p.2 fun S2 => compL (stepC own (evT F t) (evC F cd) (evE F el) ρ) p.1 S2 else .stuck := by
  funext ρ S; rw [evQ] <;> rfl
theorem ev_compK {F : Nat → List U → Sto → R U} {t : TX} {i : Nat} {cd : Option EX} {el : EX} {own : List Nat} : evQ F (.compK i t cd el own) = fun ρ S => match getR ρ i with
      | some (.ref n) => match S[n]? with
        | some (.liv (.dct kvs)) => if kvs.length ≤ lim then (compL (stepC own (evT F t) (evC F cd) (evE F el) ρ) (kvs.map fun kv => .int kv.1) (S.set n (.lck (.dct kvs)))).bind fun ys S2 => .ok ys (S2.set n (.liv (.dct kvs))) else .stuck
        | _ => .stuck
      | _ => .stuck := by
  funext ρ S; rw [evQ] <;> rfl
theorem snd_compQ {C : CC} {f : CC → Expr → Option EX} (hf : ∀ C, Snd C (f C)) {elt tg iter : Expr} {ifs : List Expr} {scope : Scope} {pos : Pos} {q : QX} (h : cComp C f elt tg iter ifs scope = some q) :
    ∀ X cls W F, Sit C X cls W F → PE X (.ListComp elt [⟨tg, iter, ifs, 0⟩] scope pos) (tQ X.K cls W (evQ F q)) := by
  intro X cls W F s
  obtain ⟨own, t, cd, el, h1, h2⟩ := snd_comp hf h
  have c := h1 X cls W F s
  have nd : X.N.Nodup := by rw [s.hN]; exact s.nd
  rcases h2 with ⟨it, rfl, h3⟩ | ⟨y, p, i, rfl, hv, hi, rfl⟩
  · obtain ⟨h4, h5⟩ := h3 X cls W F s
    rw [ev_comp]
    exact tq_comp s.calm nd h4 c.ok c.hg c.ht c.he h5
  · rw [ev_compK]
    obtain ⟨_, g1, g2⟩ := posN_of hi
    exact tq_compK (s.pos hi) (s.vis hv) g1 g2 s.calm nd c.ok c.hg c.ht c.he

theorem snd_all : ∀ (n : Nat) (C : CC), Snd C (cE n C)
  | 0, C, e, x, h => by cases h
  | n + 1, C, e, x, h => by
    have ih : Snd C (cE n C) := snd_all n C
    unfold cE at h
    split at h
    · exact snd_plain rfl (snd_const h)
    · exact snd_plain rfl (snd_name h)
    · rename_i es k p
      split at h
      · rename_i hl
        obtain ⟨xs, h1, rfl⟩ := Option.map_eq_some_iff.mp h
        obtain ⟨a1, a2, a3⟩ := snd_L ih h1
        refine snd_plain rfl fun X cls W F t => ?_
        have e : evE F (.tup xs) = fun ρ S => (evEs F xs ρ S).bind fun us S1 => .ok (.tup us) S1 := by funext ρ S; rw [evE] <;> rfl
        rw [e]
        exact te_tup (a3 X cls W F t) hl fun ρ S us S' h => by rw [evEs_len F _ _ _ _ _ h, a2]; exact hl
      · cases h
    · rename_i es p
      split at h
      · rename_i hl
        obtain ⟨xs, h1, rfl⟩ := Option.map_eq_some_iff.mp h
        obtain ⟨a1, a2, a3⟩ := snd_L ih h1
        refine snd_plain rfl fun X cls W F t => snd_mkL ?_
        have e : evQ F (.disp xs) = evEs F xs := by funext ρ S; rw [evQ]
        rw [e]
        exact tq_disp (a3 X cls W F t) fun ρ S us S' h => by rw [evEs_len F _ _ _ _ _ h, a2]; exact hl
      · cases h
    · cases h
      refine snd_plain rfl fun X cls W F t => ?_
      have e : evE F .dnew = fun _ S => .ok (.ref S.length) (S ++ [.liv (.dct [])]) := by funext ρ S; rw [evE]
      rw [e]
      exact te_dnew
    · exact snd_plain rfl (snd_bin ih h)
    · rename_i a p
      obtain ⟨y, h1, rfl⟩ := Option.map_eq_some_iff.mp h
      have e : ∀ F, evE F (.not y) = fun ρ S => (evE F y ρ S).bind fun u S1 => optR S1 ((truU S1 u).map fun k => .bl (!k)) := by intro F; funext ρ S; rw [evE] <;> rfl
      refine ⟨fun X cls W F t => ?_, fun X cls W F t => ?_⟩
      · rw [e]; exact te_not ((ih a y h1).1 X cls W F t)
      · rw [e]; exact tt_not ((ih a y h1).2 X cls W F t)
    · rename_i a p
      obtain ⟨y, h1, rfl⟩ := Option.map_eq_some_iff.mp h
      refine snd_plain rfl fun X cls W F t => ?_
      have e : evE F (.bin .sub (.cst (.int 0)) y) = fun ρ S => (R.ok (.int 0) S).bind fun u S1 => (evE F y ρ S1).bind fun v S2 => optR S2 (binU S2 .sub u v) := by
        rw [ev_bin, ev_cst]
      rw [e]
      exact te_neg ((ih a y h1).1 X cls W F t)
    · obtain ⟨g1, g2⟩ := snd_Bool ih h
      exact ⟨g1, fun X cls W F t => (g2 X cls W F t).pt⟩
    · rename_i c a b p
      split at h
      · rename_i x y z h1 h2 h3
        cases h
        have e : ∀ F, evE F (.ite x y z) = fun ρ S => (evE F x ρ S).bind fun u S1 => match truU S1 u with | some true => evE F y ρ S1 | some false => evE F z ρ S1 | none => .stuck := by intro F; funext ρ S; rw [evE] <;> rfl
        refine ⟨fun X cls W F t => ?_, fun X cls W F t => ?_⟩
        · rw [e]; exact te_ite ((ih c x h1).2 X cls W F t) ((ih a y h2).1 X cls W F t) ((ih b z h3).1 X cls W F t)
        · rw [e]; exact tt_ite ((ih c x h1).2 X cls W F t) ((ih a y h2).2 X cls W F t) ((ih b z h3).2 X cls W F t)
      · cases h
    · exact snd_cmp ih h
    · exact snd_plain rfl (snd_sub ih h)
    · exact snd_plain rfl (snd_call ih h)
    · exact snd_plain rfl (snd_meth ih h)
    · obtain ⟨q, h1, rfl⟩ := Option.map_eq_some_iff.mp h
      exact snd_plain rfl fun X cls W F t => snd_mkL (snd_compQ (fun C => snd_all n C) h1 X cls W F t)
    · cases h
end Ev
set_option Elab.async false
set_option linter.all false
set_option maxRecDepth 100000
set_option maxHeartbeats 4000000
/-! Ev25: statements: from the text to trees. -/
namespace Ev
open PySem PySem.Spec PyProof.Rows L2

def isStar : Expr → Bool
  | .Starred .. => true
  | _ => false
def swLine (ts : List Expr) : Nat := (ts.head?.map (·.pos.line)).getD 0
def swNames (sc : Scope) (ts : List Expr) : List Str := ts.filterMap fun t => match t with
    | .Name id pos => if sc.names.lookup id == some .local && pos.line == swLine ts then some id else none
    | _ => none
theorem sw_eq (ts vs : List Expr) (k k2 : Nat) (p p2 : Pos) (env : Env) (hk : env.scope.kind = .function) : swappedStores [.Tuple ts k p] (.Tuple vs k2 p2) env =
    (if (!(ts.length == 2 || ts.length == 3) || vs.length != ts.length) = true then pure none else if (vs.any isStar) = true then pure none
      else if ((swNames env.scope ts).length != ts.length || (swNames env.scope ts).eraseDups.length != (swNames env.scope ts).length) = true then pure none
      else if vs.all (foldedForSure 8) = true then pure none else if vs.all (constantsAlone 8) = true then (do unsupported "assign.tuple-of-constant-expressions:order-of-the-stores"; pure (some (swNames env.scope ts))) else pure (some (swNames env.scope ts))) := by
  have hb : (env.blockKind != .function) = false := by unfold Env.blockKind; rw [hk]; rfl
  unfold swappedStores
  simp only [hb, Bool.or_false]
  rfl
/-- the names that a, b = x, y stores apart; none: in the ordinary way -/
def swOf (sc : Scope) (tg e : Expr) : Option (Option (List Str)) :=
  match tg, e with
  | .Tuple ts _ _, .Tuple vs _ _ =>
    if (!(ts.length == 2 || ts.length == 3) || vs.length != ts.length) = true then some none else if (vs.any isStar) = true then some none
    else if ((swNames sc ts).length != ts.length || (swNames sc ts).eraseDups.length != (swNames sc ts).length) = true then some none
    else if vs.all (foldedForSure 8) = true then some none else if vs.all (constantsAlone 8) = true then none else some (some (swNames sc ts))
  | .List _ _, .Tuple _ _ _ => none
  | _, _ => some none
theorem sw_of {sc : Scope} {tg e : Expr} {r : Option (List Str)} {env : Env} (h : swOf sc tg e = some r) (hs : env.scope = sc) (hk : sc.kind = .function) : swappedStores [tg] e env = pure r := by
  subst hs
  unfold swOf at h
  split at h
  · rw [sw_eq _ _ _ _ _ _ _ hk]
    split at h
    · rename_i c; cases h; rw [if_pos c]
    · rename_i c
      rw [if_neg c]
      split at h
      · rename_i c; cases h; rw [if_pos c]
      · rename_i c
        rw [if_neg c]
        split at h
        · rename_i c; cases h; rw [if_pos c]
        · rename_i c
          rw [if_neg c]
          split at h
          · rename_i c; cases h; rw [if_pos c]
          · rename_i c
            rw [if_neg c]
            split at h
            · cases h
            · rename_i c; cases h; rw [if_neg c]
  · cases h
  · rename_i n1 n2
    cases h
    cases tg <;> first | rfl | skip
    · cases e <;> first | rfl | exact absurd rfl (n2 _ _ _ _ _ rfl)
    · cases e <;> first | rfl | exact absurd rfl (n1 _ _ _ _ _ _ rfl)

/-- the class of what is raised -/
def cRai (C : CC) : Option Expr → Option Nat
  | some (.Call (.Name x _) [] [] _) => C.xs.lookup x
  | _ => none
def isCq : QX → Bool
  | .comp .. => true
  | _ => false
def isLoc (C : CC) (x : Str) : Bool := decide (C.sc.names.lookup x = some .local)
def cAsg (C : CC) (tg e : Expr) : Option SX :=
  match tg, e with
  | .Name y py, .ListComp elt [⟨t, iter, ifs, 0⟩] scope pos =>
    if isLoc C y = true ∧ (py.line == pos.line) = true ∧ (scope.names.any fun (n, k) => n == y && (k == .local || k == .cell)) = false then
      match posN C y, cComp C (cE 40) elt t iter ifs scope with
      | some i, some q => if isCq q = true then some (.set (.nm i) (mkL C pos q)) else none
      | _, _ => none
    else none
  | .Tuple [.Name x px, .Name y py] kt pt, .Tuple [a, b] k2 pt2 =>
    match swOf C.sc tg e with
    | some (some ns) => if isLoc C x = true ∧ isLoc C y = true ∧ ns = [x, y] then match posN C x, posN C y, cL (cE 40 C) [a, b] with
      | some i, some j, some xs => if i ≠ j then some (.par [i, j] xs) else none
      | _, _, _ => none
      else none
    | some none => match cT C (cE 40 C) (fun _ => true) 20 tg, cE 40 C e with
      | some t, some x => some (.set t x)
      | _, _ => none
    | none => none
  | .Tuple [.Name x px, .Name y py, .Name z pz] kt pt, .Tuple [a, b, c] k2 pt2 =>
    match swOf C.sc tg e with
    | some (some ns) => if isLoc C x = true ∧ isLoc C y = true ∧ isLoc C z = true ∧ ns = [x, y, z] then match posN C x, posN C y, posN C z, cL (cE 40 C) [a, b, c] with
      | some i, some j, some l, some xs => if i ≠ j ∧ i ≠ l ∧ j ≠ l then some (.par [i, j, l] xs) else none
      | _, _, _, _ => none
      else none
    | some none => match cT C (cE 40 C) (fun _ => true) 20 tg, cE 40 C e with
      | some t, some x => some (.set t x)
      | _, _ => none
    | none => none
  | tg, e => if notComp e = true ∧ plainX tg = true then match swOf C.sc tg e with
    | some none => match cT C (cE 40 C) (fun _ => true) 20 tg, cE 40 C e with
      | some t, some x => some (.set t x)
      | _, _ => none
    | _ => none
    else none

mutual
def cS : Nat → CC → Stmt → Option SX
  | 0, _, _ => none
  | n + 1, C, st => match st with
    | .Expr (.Constant (.str _) _ _) _ => some .pass
    | .Expr e _ => if notComp e = true then (cE 40 C e).map .ex else none
    | .Assign [tg] e _ => cAsg C tg e
    | .Return (some e) _ => (cE 40 C e).map .ret
    | .Return none _ => some .retN
    | .If c a b _ => match cE 40 C c, cSs n C a, cSs n C b with
      | some x, some y, some z => some (.ife x y z)
      | _, _, _ => none
    | .For tg it b [] _ => match cT C (cE 40 C) (fun _ => true) 20 tg, cI C (cE 40 C) tg it, cSs n C b with
      | some x, some y, some z => some (.fo x y z)
      | _, _, _ => none
    | .While c b [] _ => match cE 40 C c, cSs n C b with
      | some x, some y => some (.wh x y)
      | _, _ => none
    | .Break _ => some .brk
    | .Continue _ => some .cnt
    | .Pass _ => some .pass
    | .Raise e none _ => some (match cRai C e with
      | some c => .rai c
      | none => .no)
    | _ => none
def cSs : Nat → CC → List Stmt → Option (List SX)
  | 0, _, _ => none
  | _ + 1, _, [] => some []
  | n + 1, C, s :: ss => match cS n C s, cSs n C ss with
    | some x, some xs => some (x :: xs)
    | _, _ => none
end

structure SitS (C : CC) (X : Cx) (cls : Nat → Value) (W : WX) (F : Nat → List U → Sto → R U) : Prop where
  s : Sit C X cls W F
  own : PassesOwn (model X.prog X.w) X.A X.env X.xe
  kind : C.sc.kind = .function
  rai : ∀ (e : Option Expr) (p : Pos) (c : Nat), cRai C e = some c → PS X (.Raise e none p) (tS X.K cls W fun ρ S => .ok (.ex c ρ) S)
theorem noComp_sw {e : Expr} (h : notComp e = true) (tg : Option Expr) (l : Nat) (env : Env) : swapsWith e tg l env = pure false := by
  cases e <;> first | rfl | cases h
def SndS (C : CC) (st : Stmt) (sx : SX) : Prop := ∀ X cls W F w, SitS C X cls W F → PS X st (tS X.K cls W (evS F w sx))
theorem each1 {tg : Expr} (h : plainX tg = true) (env : Env) : (assignEach [tg] env).map (·.2) = [assign tg env] := by
  cases tg <;> first | rfl | cases h
theorem ev_set {F : Nat → List U → Sto → R U} {w : Nat} {t : TX} {x : EX} : evS F w (.set t x) = fun ρ S => (evE F x ρ S).toS ρ fun u S1 => match evT F t u ρ S1 with
    | some (ρ1, S2) => .ok (.nx ρ1) S2
    | none => .stuck := by funext ρ S; rw [evS] <;> rfl
theorem ev_par {F : Nat → List U → Sto → R U} {w : Nat} {is : List Nat} {xs : List EX} : evS F w (.par is xs) = fun ρ S => (evEs F xs ρ S).toS ρ fun us S1 => if is.length = us.length ∧ is.all (· < ρ.length) = true then .ok (.nx (setAll is us ρ)) S1 else .stuck := by funext ρ S; rw [evS] <;> rfl
theorem snd_set {C : CC} {tg e : Expr} {p : Pos} {t : TX} {x : EX} (hn : notComp e = true) (hp : plainX tg = true) (hsw : swOf C.sc tg e = some none) (h1 : cT C (cE 40 C) (fun _ => true) 20 tg = some t) (h2 : cE 40 C e = some x) : SndS C (.Assign [tg] e p) (.set t x) := by
  intro X cls W F w s
  rw [ev_set]
  exact ts_asg ((snd_all 40 C e x h2).1 X cls W F s.s) (snd_T (snd_all 40 C) 20 h1 X cls W F s.s wAll fun _ _ => trivial) (noComp_sw hn _ _ _) (sw_of hsw s.s.sc s.kind) (each1 hp _)
theorem isLoc_of {C : CC} {X : Cx} {cls : Nat → Value} {W : WX} {F : Nat → List U → Sto → R U} (s : Sit C X cls W F) {x : Str} (h : isLoc C x = true) : X.env.scope.names.lookup x = some .local := by
  unfold isLoc at h
  rw [s.sc]
  simpa using h
theorem snd_asg {C : CC} {tg e : Expr} {p : Pos} {sx : SX} (h : cAsg C tg e = some sx) : SndS C (.Assign [tg] e p) sx := by
  unfold cAsg at h
  split at h
  · rename_i y py elt t iter ifs scope pos
    split at h
    · rename_i hc
      obtain ⟨hl, hline, hown⟩ := hc
      split at h
      · rename_i i q hi hq
        split at h
        case isFalse => cases h
        case isTrue hcq =>
        cases h
        intro X cls W F w s
        obtain ⟨own, t', cd, el, g1, g2⟩ := snd_comp (fun C => snd_all 40 C) hq
        have c := g1 X cls W F s.s
        have nd : X.N.Nodup := by rw [s.s.hN]; exact s.s.nd
        have hy := s.s.pos hi
        have hyl := isLoc_of s.s hl
        have hsw : swapsWith (.ListComp elt [⟨t, iter, ifs, 0⟩] scope pos) (some (.Name y py)) p.line X.env = pure true := sw_true (by rw [s.s.sc]; exact s.kind) hyl hline hown
        rw [ev_set]
        have et : evT F (.nm i) = fun u ρ S => if i < ρ.length then some (ρ.set i (some u), S) else none := by funext u ρ S; rw [evT] <;> rfl
        rw [et]
        rcases g2 with ⟨it, rfl, h3⟩ | ⟨y2, p2, i2, rfl, hv, hi2, rfl⟩
        · obtain ⟨h4, h5⟩ := h3 X cls W F s.s
          unfold mkL
          split
          · rw [ev_qn, ev_comp]
            exact ts_setLc (mk := fun us S1 => .ok (.ref S1.length) (S1 ++ [.liv (.lst us)])) (fun h => mk_qn h) s.s.calm nd hy hyl hsw h4 c.ok c.hg c.ht c.he h5
          · rw [ev_qv, ev_comp]
            exact ts_setLc (mk := fun us S1 => .ok (.lst us) S1) (fun h => mk_qv h) s.s.calm nd hy hyl hsw h4 c.ok c.hg c.ht c.he h5
        · cases hcq
      · cases h
    · cases h
  · rename_i x px y py kt pt a b k2 pt2
    split at h
    · rename_i ns hns
      split at h
      · rename_i hc
        obtain ⟨hx, hy, rfl⟩ := hc
        split at h
        · rename_i i j xs hi hj hxs
          split at h
          · rename_i hij
            cases h
            intro X cls W F w s
            obtain ⟨a1, a2, a3⟩ := snd_L (snd_all 40 C) hxs
            rw [ev_par]
            exact ts_par s.s.calm (by rw [s.s.hN]; exact s.s.nd) (s.s.pos hi) (s.s.pos hj) hij (isLoc_of s.s hx) (isLoc_of s.s hy) (a3 X cls W F s.s) (sw_of hns s.s.sc s.kind)
          · cases h
        · cases h
      · cases h
    · rename_i hns
      split at h
      · rename_i t x h1 h2
        cases h
        exact snd_set rfl rfl hns h1 h2
      · cases h
    · cases h
  · rename_i x px y py z pz kt pt a b c k2 pt2
    split at h
    · rename_i ns hns
      split at h
      · rename_i hc
        obtain ⟨hx, hy, hz, rfl⟩ := hc
        split at h
        · rename_i i j l xs hi hj hl hxs
          split at h
          · rename_i hij
            cases h
            intro X cls W F w s
            obtain ⟨a1, a2, a3⟩ := snd_L (snd_all 40 C) hxs
            rw [ev_par]
            exact ts_par3 s.s.calm (by rw [s.s.hN]; exact s.s.nd) (s.s.pos hi) (s.s.pos hj) (s.s.pos hl) hij.1 hij.2.1 hij.2.2 (isLoc_of s.s hx) (isLoc_of s.s hy) (isLoc_of s.s hz) (a3 X cls W F s.s) (sw_of hns s.s.sc s.kind)
          · cases h
        · cases h
      · cases h
    · rename_i hns
      split at h
      · rename_i t x h1 h2
        cases h
        exact snd_set rfl rfl hns h1 h2
      · cases h
    · cases h
  · split at h
    · rename_i hc
      split at h
      · rename_i hns
        split at h
        · rename_i t x h1 h2
          cases h
          exact snd_set hc.1 hc.2 hns h1 h2
        · cases h
      · cases h
    · cases h

theorem ev_nil {F : Nat → List U → Sto → R U} {w : Nat} : evSs F w [] = fun ρ S => .ok (.nx ρ) S := by funext ρ S; rw [evSs]
theorem ev_cons {F : Nat → List U → Sto → R U} {w : Nat} {s : SX} {ss : List SX} : evSs F w (s :: ss) = fun ρ S => match evS F w s ρ S with | .ok (.nx ρ1) S1 => evSs F w ss ρ1 S1 | r => r := by funext ρ S; rw [evSs] <;> rfl
theorem ev_ife {F : Nat → List U → Sto → R U} {w : Nat} {c : EX} {a b : List SX} : evS F w (.ife c a b) = fun ρ S => (evE F c ρ S).toS ρ fun u S1 => match truU S1 u with | some true => evSs F w a ρ S1 | some false => evSs F w b ρ S1 | none => .stuck := by funext ρ S; rw [evS] <;> rfl
theorem ev_fo {F : Nat → List U → Sto → R U} {w : Nat} {t : TX} {it : IX} {b : List SX} : evS F w (.fo t it b) = fun ρ S => (evI F it ρ S).toS ρ fun p S1 => lockdS S1 p.2 fun S2 => forL (stepF (evT F t) (evSs F w b)) p.1 ρ S2 := by funext ρ S; rw [evS] <;> rfl
theorem ev_wh {F : Nat → List U → Sto → R U} {w : Nat} {c : EX} {b : List SX} : evS F w (.wh c b) = fun ρ S => whL (evE F c) (evSs F w b) w ρ S := by funext ρ S; rw [evS] <;> rfl
theorem cI_fold {C : CC} {f : Expr → Option EX} {tg e : Expr} {it : IX} (h : cI C f tg e = some it) (env : Env) (x : Value) : foldedSetIterable e env x = pure x := by
  cases e <;> first | rfl | cases h
mutual
theorem snd_S : ∀ (n : Nat) {C : CC} {st : Stmt} {sx : SX}, cS n C st = some sx → SndS C st sx
  | 0, _, _, _, h => by simp [cS] at h
  | n + 1, C, st, sx, h => by
    unfold cS at h
    intro X cls W F w s
    split at h
    · cases h
      have e : evS F w .pass = fun ρ S => .ok (.nx ρ) S := by funext ρ S; rw [evS]
      rw [e]; exact ts_doc
    · rename_i e p _
      split at h
      · rename_i hn
        obtain ⟨x, h1, rfl⟩ := Option.map_eq_some_iff.mp h
        have e' : evS F w (.ex x) = fun ρ S => (evE F x ρ S).toS ρ fun _ S1 => .ok (.nx ρ) S1 := by funext ρ S; rw [evS] <;> rfl
        rw [e']
        exact ts_expr ((snd_all 40 C e x h1).1 X cls W F s.s) (noComp_sw hn _ _ _)
      · cases h
    · exact snd_asg h X cls W F w s
    · rename_i e p
      obtain ⟨x, h1, rfl⟩ := Option.map_eq_some_iff.mp h
      have e' : evS F w (.ret x) = fun ρ S => (evE F x ρ S).toS ρ fun u S1 => .ok (.rt u) S1 := by funext ρ S; rw [evS] <;> rfl
      rw [e']
      exact ts_ret ((snd_all 40 C e x h1).1 X cls W F s.s)
    · cases h
      have e' : evS F w .retN = fun ρ S => .ok (.rt .non) S := by funext ρ S; rw [evS]
      rw [e']; exact ts_retN
    · rename_i c a b p
      split at h
      · rename_i x y z h1 h2 h3
        cases h
        rw [ev_ife]
        exact ts_if ((snd_all 40 C c x h1).2 X cls W F s.s) (snd_Ss n h2 X cls W F w s) (snd_Ss n h3 X cls W F w s)
      · cases h
    · rename_i tg it b p
      split at h
      · rename_i x y z h1 h2 h3
        cases h
        rw [ev_fo]
        exact ts_for s.own s.s.calm (snd_I (snd_all 40 C) h2 X cls W F s.s).1 (snd_T (snd_all 40 C) 20 h1 X cls W F s.s wAll fun _ _ => trivial) (snd_Ss n h3 X cls W F w s) (cI_fold h2 _)
      · cases h
    · rename_i c b p
      split at h
      · rename_i x y h1 h2
        cases h
        rw [ev_wh]
        exact ts_while s.own ((snd_all 40 C c x h1).2 X cls W F s.s) (snd_Ss n h2 X cls W F w s)
      · cases h
    · cases h
      have e' : evS F w .brk = fun ρ S => .ok (.bk ρ) S := by funext ρ S; rw [evS]
      rw [e']; exact ts_brk
    · cases h
      have e' : evS F w .cnt = fun ρ S => .ok (.ct ρ) S := by funext ρ S; rw [evS]
      rw [e']; exact ts_ct
    · cases h
      have e' : evS F w .pass = fun ρ S => .ok (.nx ρ) S := by funext ρ S; rw [evS]
      rw [e']; exact ts_pass
    · rename_i e p
      cases h
      split
      · rename_i c h1
        have e' : evS F w (.rai c) = fun ρ S => .ok (.ex c ρ) S := by funext ρ S; rw [evS]
        rw [e']; exact s.rai e p c h1
      · exact ts_never fun ρ S => by rw [evS]
    · cases h
theorem snd_Ss : ∀ (n : Nat) {C : CC} {st : List Stmt} {sx : List SX}, cSs n C st = some sx → ∀ X cls W F w, SitS C X cls W F → PSs X st (tS X.K cls W (evSs F w sx))
  | 0, _, _, _, h => by simp [cSs] at h
  | n + 1, C, [], sx, h => by
    simp only [cSs] at h
    cases h
    intro X cls W F w s
    rw [ev_nil]; exact tss_nil
  | n + 1, C, st :: sts, sx, h => by
    simp only [cSs] at h
    split at h
    · rename_i x xs h1 h2
      cases h
      intro X cls W F w s
      rw [ev_cons]
      exact tss_cons (snd_S n h1 X cls W F w s) (snd_Ss n h2 X cls W F w s)
    · cases h
end
end Ev
set_option Elab.async false
set_option linter.all false
set_option maxRecDepth 100000
set_option maxHeartbeats 4000000
/-! Ev26: a table of defs, each keeping what its tree yields; the law's end. -/
namespace Ev
open PySem PySem.Spec PyProof.Rows L2

/-- a def of the table -/
structure DR where
  x : Str
  st : Stmt
  ps : List Str
  N : List Str
  nw : List (Nat × Nat)
  fz : List (Nat × Nat)
  dk : List (Nat × Nat)
def tabG (T : List DR) : List (Str × Nat × List Str) := T.zipIdx.map fun p => (p.1.x, p.2, p.1.ps)
def ccOf (T : List DR) (gv : List (Str × U)) (xs : List (Str × Nat)) (r : DR) : CC := ⟨r.N, defScope r.st, fun _ => true, tabG T, gv, r.nw, r.fz, r.dk, xs⟩
structure RowOk (T : List DR) (gv : List (Str × U)) (xs : List (Str × Nat)) (r : DR) (fd : Fd) : Prop where
  np : fd.np = r.ps.length
  nn : fd.nn = r.N.length
  body : cSs 60 (ccOf T gv xs r) (defBody r.st) = some fd.body
  sc : FnScope r.N r.ps (defScope r.st)
structure TblOk (T : List DR) (gv : List (Str × U)) (xs : List (Str × Nat)) (D : List Fd) : Prop where
  row : ∀ (i : Nat) (r : DR), T[i]? = some r → ∃ fd, D[i]? = some fd ∧ RowOk T gv xs r fd
theorem tabG_of {T : List DR} {x : Str} {i : Nat} {ps : List Str} (h : (tabG T).lookup x = some (i, ps)) : ∃ r, T[i]? = some r ∧ r.x = x ∧ r.ps = ps := by
  have hm := PySem.mem_of_lookup h
  obtain ⟨p, hp, e⟩ := List.mem_map.mp hm
  obtain ⟨r, j⟩ := p
  cases e
  have := List.mem_zipIdx_iff_getElem?.mp hp
  exact ⟨r, by simpa using this, rfl, rfl⟩
theorem start_env {K : PySem.W.Frag} {fm : List Addr} {S : Sto} {H : Hp} {N : List Str} {us : List U} {vs : List V} (r : Rps K fm S H us vs) : EnvOk K fm S H (us.map some ++ List.replicate (N.length - us.length) none) (L2.start N vs) := by
  have hl := r.length
  refine ⟨by unfold L2.start; simp [hl], fun i u e => ?_⟩
  unfold L2.start
  by_cases hi : i < us.length
  · rw [List.getElem?_append_left (by simpa using hi), List.getElem?_map] at e
    cases q : us[i]? with
    | none => rw [q] at e; cases e
    | some u' =>
      rw [q] at e
      cases e
      obtain ⟨v, h1, h2⟩ := r.get q
      exact ⟨v, by rw [List.getElem?_append_left (by simpa [← hl] using hi), List.getElem?_map, h1]; rfl, h2⟩
  · rw [List.getElem?_append_right (by simpa using hi), List.getElem?_replicate] at e
    split at e <;> cases e

section
variable {P : Program} {w : World} {K : PySem.W.Frag} {mg : Str → Option Value} {base : Heap} {T : List DR} {gv : List (Str × U)} {D : List Fd} {cls : Nat → Value} {wf : Nat}
/-- the module as the law finds it -/
structure ModOk (K : PySem.W.Frag) (mg : Str → Option Value) (T : List DR) (gv : List (Str × U)) : Prop where
  funs : ∀ r ∈ T, ∃ f fd, Fun K r.x r.x r.st f fd ∧ BindK fd r.ps ∧ mg r.x = some (.ref f)
  blt : ∀ x ∈ blts, mg x = none
  gvs : ∀ x u, gv.lookup x = some u → ∃ w v, mg x = some w ∧ RelV v w ∧ ∀ fm S H, Rp K fm S H u v
theorem run_few {D : List Fd} {wf d i : Nat} {fd : Fd} (h : D[i]? = some fd) (us : List U) (S : Sto) (hl : us.length ≠ fd.np) : run D wf d i us S = .stuck := by
  cases d with
  | zero => rfl
  | succ d =>
    unfold run
    rw [h]
    dsimp only
    rw [if_neg hl]
theorem def_ok (hT : TblOk T gv [] D) (hM : ModOk K mg T gv) : ∀ (d i : Nat) (r : DR), T[i]? = some r → ∀ f fd, Fun K r.x r.x r.st f fd → FnOk P w K mg base (L2.CX P w) d f fd r.ps (spF K cls r.ps.length (run D wf d i))
  | 0, i, r, hr, f, fd, F => ⟨fun vs H Q E h => h.1, fun A outer s H args us vs Q E _ _ _ _ h => by
      obtain ⟨_, _, _, _, _, _, z⟩ := h
      exact z.elim⟩
  | d + 1, i, r, hr, f, fd, F => by
    obtain ⟨D0, hD, ro⟩ := hT.row i r hr
    refine F.okX ro.sc (fun vs H Q E h => h.1) fun cdv A outer s H vs Q E hroom h => ?_
    obtain ⟨hl, fm, S, us, so, rv, q⟩ := h
    have sit : SitS (ccOf T gv [] r) (cxOf (L2.CX P w) P w K mg base r.N r.x (defScope r.st) f cdv A outer s H E) cls (fun c d _ H => E c d H) (run D wf d) := by
      refine ⟨⟨rfl, ro.sc.nd, rfl, rfl, fun _ _ => rfl, takes_of rfl rfl rfl rfl, ?_, hM.blt, fun x j ps hx => ?_, hM.gvs⟩, passes_of rfl, ro.sc.kind, fun e p c hc => ?_⟩
      · have := hroom.un
        show (A.deeper _).units + 64 < cLine
        omega
      · obtain ⟨r', h1, rfl, rfl⟩ := tabG_of hx
        obtain ⟨D1, hD1, ro1⟩ := hT.row j r' h1
        obtain ⟨f', fd', F', b', m'⟩ := hM.funs r' (List.mem_of_getElem? h1)
        exact ⟨⟨d, f', fd', def_ok hT hM d j r' h1 f' fd' F', hroom, m', F'.kp, b'⟩, fun us S hl => run_few hD1 us S (by rw [ro1.np]; exact hl)⟩
      · unfold cRai at hc
        split at hc <;> cases hc
    refine ⟨_, snd_Ss 60 ro.body _ cls _ _ wf sit, fm, S, us.map some ++ List.replicate (D0.nn - us.length) none, so, ?_, ?_⟩
    · rw [ro.nn]; exact start_env rv
    · unfold run at q
      rw [hD] at q
      dsimp only at q
      have hul : us.length = D0.np := by rw [rv.length, hl, ro.np]
      rw [if_pos hul] at q
      rw [hul]
      revert q
      cases evSs (run D wf d) wf D0.body (us.map some ++ List.replicate (D0.nn - D0.np) none) S with
      | stuck => exact fun q => q
      | ok o S1 =>
        cases o with
        | nx ρ1 => exact fun q fm' H' st so' σ eo => q fm' H' st so' .non .non
        | rt u => exact fun q fm' H' st so' v r => q fm' H' st so' v r
        | bk ρ1 => exact fun q => q.elim
        | ct ρ1 => exact fun q => q.elim
        | ex c ρ1 => exact fun q fm' H' st so' σ eo => q fm' H' st so'
/-- what the law promises -/
def spL (K : PySem.W.Frag) : Sp := fun vs H Q E => ∃ (a : Addr) (ns : List Int), vs = [.ref a] ∧ SqL K H a (ns.map V.int) ∧ ns.length ≤ 63 ∧ Only H ∧ ∀ H', Q (.bl true) H'
/-- the law's promise, from what its tree yields -/
theorem law_ok (hT : TblOk T gv [] D) (hM : ModOk K mg T gv) {d i : Nat} {r : DR} (hr : T[i]? = some r) (h1 : r.ps.length = 1) {f : Addr} {fd : FuncData} (F : Fun K r.x r.x r.st f fd)
    (hlaw : ∀ (ns : List Int) (u : U) (S : Sto), ns.length ≤ 63 → rd S u = .fz (ns.map U.int) → ∃ S', run D wf d i [u] S = .ok (.bl true) S') :
    FnOk P w K mg base (L2.CX P w) d f fd r.ps (spL K) := by
  refine (def_ok (cls := fun _ => .none) (wf := wf) hT hM d i r hr f fd F).imp fun vs H Q E ⟨a, ns, e1, hS, hl, ho, q⟩ => ?_
  subst e1
  refine ⟨by rw [h1]; rfl, ?_⟩
  have inH : ∀ z : HO, H a = some z → FzL K H a (ns.map V.int) → ∃ fm S us, StOk K fm S H ∧ Rps K fm S H us [V.ref a] ∧ Aft K (fun _ => .none) (fun c d _ H => E c d H) [] fm S H (run D wf d i us S) fun u fm' S' H' => ∀ v, Rp K fm' S' H' u v → Q v H' := by
    intro z hH fz
    obtain ⟨S', hrun⟩ := hlaw ns (.ref 0) [.frz (ns.map U.int)] hl rfl
    refine ⟨[a], [.frz (ns.map U.int)], [.ref 0], ⟨rfl, fun n m b e1 e2 => ?_, fun n b e => ?_, fun n b c e1 e2 => ?_⟩, .cons (.ref rfl) .nil, ?_⟩
    · have : n = 0 := by
        cases n with
        | zero => rfl
        | succ n => simp at e1
      have : m = 0 := by
        cases m with
        | zero => rfl
        | succ n => simp at e2
      omega
    · cases n with
      | zero => simp at e; subst e; rw [hH]; simp
      | succ n => simp at e
    · cases n with
      | zero =>
        simp at e1 e2
        subst e1 e2
        exact ⟨_, fz, Rps.of_ints ns⟩
      | succ n => simp at e1
    · rw [hrun]
      intro fm' H' st so v rv
      cases rv
      exact q H'
  rcases hS with (h | ⟨o, h⟩) | h
  · rcases ho a with h' | ⟨o, xs, h'⟩
    · rw [h] at h'; cases h'
    · rw [h] at h'; cases h'
  · exact inH _ h (.inl ⟨o, h⟩)
  · obtain ⟨S', hrun⟩ := hlaw ns (.fz (ns.map U.int)) [] hl rfl
    refine ⟨[], [], [.fz (ns.map U.int)], ⟨rfl, fun n m b e1 e2 => by simp at e1, fun n b e => by simp at e, fun n b c e1 e2 => by simp at e1⟩, .cons (.fzK h (Rps.of_ints ns)) .nil, ?_⟩
    rw [hrun]
    intro fm' H' st so v rv
    cases rv
    exact q H'
end
end Ev
set_option Elab.async false
set_option linter.all false
set_option maxRecDepth 100000
set_option maxHeartbeats 1000000
/-! Ev27: plain lemmas about what trees yield. -/
namespace Ev
theorem run_succ {D : List Fd} {wf d i : Nat} {us : List U} {S : Sto} {fd : Fd} (h : D[i]? = some fd) (hl : us.length = fd.np) :
    run D wf (d + 1) i us S = (match evSs (run D wf d) wf fd.body (us.map some ++ List.replicate (fd.nn - fd.np) none) S with
        | .ok (.rt u) S1 => .ok u S1
        | .ok (.nx _) S1 => .ok .non S1
        | .ok (.ex c _) S1 => .ex c S1
        | _ => .stuck) := by
  rw [run, h]
  dsimp only
  rw [if_pos hl] <;> rfl
theorem at1 {d : Nat} (h : 1 ≤ d) : ∃ e, d = e + 1 := ⟨d - 1, by omega⟩
/-- a comprehension whose turns change nothing -/
theorem compL_pure {step : U → Sto → R (Option U)} {S : Sto} (g : U → Option U) : ∀ {us : List U}, (∀ x ∈ us, step x S = .ok (g x) S) → compL step us S = .ok (us.filterMap g) S
  | [], _ => rfl
  | x :: us, h => by
    rw [compL, h x List.mem_cons_self]
    simp only [noEx, R.bind]
    rw [compL_pure g fun y hy => h y (List.mem_cons_of_mem _ hy)]
    simp only [List.filterMap_cons]
    cases g x <;> rfl
theorem compL_map {α : Type} {step : U → Sto → R (Option U)} {S : Sto} {e : α → U} {g : α → U} : ∀ {xs : List α}, (∀ x ∈ xs, step (e x) S = .ok (some (g x)) S) → compL step (xs.map e) S = .ok (xs.map g) S
  | [], _ => rfl
  | x :: us, h => by
    rw [List.map_cons, compL, h x List.mem_cons_self]
    simp only [noEx, R.bind]
    rw [compL_map fun y hy => h y (List.mem_cons_of_mem _ hy)]
    rfl
theorem compL_filter {α : Type} {step : U → Sto → R (Option U)} {S : Sto} {e : α → U} {c : α → Bool} {g : α → U} : ∀ {xs : List α}, (∀ x ∈ xs, step (e x) S = .ok (if c x = true then some (g x) else none) S) → compL step (xs.map e) S = .ok ((xs.filter c).map g) S
  | [], _ => rfl
  | x :: us, h => by
    rw [List.map_cons, compL, h x List.mem_cons_self]
    simp only [noEx, R.bind]
    rw [compL_filter fun y hy => h y (List.mem_cons_of_mem _ hy)]
    cases hc : c x <;> simp [hc, List.filter_cons]
theorem iota_map : ∀ (n : Nat) (lo : Int), iotaU lo n = (List.range n).map fun (i : Nat) => U.int (lo + (i : Int))
  | 0, _ => rfl
  | n + 1, lo => by
    rw [iotaU, iota_map n (lo + 1), List.range_succ_eq_map, List.map_cons, List.map_map]
    congr 1
    · simp
    · apply List.map_congr_left
      intro i _
      simp only [Function.comp_apply]
      congr 1
      omega
theorem blsOf_map {α : Type} (g : α → Bool) : ∀ xs : List α, blsOf (xs.map fun x => U.bl (g x)) = some (xs.map g)
  | [] => rfl
  | x :: xs => by rw [List.map_cons, blsOf, blsOf_map g xs]; rfl
theorem intsOf_map {α : Type} (g : α → Int) : ∀ xs : List α, intsOf (xs.map fun x => U.int (g x)) = some (xs.map g)
  | [] => rfl
  | x :: xs => by rw [List.map_cons, intsOf, intsOf_map g xs]; rfl
theorem intsOf_int (xs : List Int) : intsOf (xs.map U.int) = some xs := by
  have := intsOf_map (fun x => x) xs
  simpa using this

/-- a for whose turns all go on, by an invariant -/
theorem forL_inv {step : U → Rho → Sto → SR} (P : Nat → Rho → Sto → Prop) : ∀ (us : List U) (k : Nat) (ρ : Rho) (S : Sto), P k ρ S →
    (∀ (i : Nat) (x : U) (ρ : Rho) (S : Sto), us[i]? = some x → P (k + i) ρ S → ∃ ρ' S', step x ρ S = .ok (.nx ρ') S' ∧ P (k + i + 1) ρ' S') →
    ∃ ρ' S', forL step us ρ S = .ok (.nx ρ') S' ∧ P (k + us.length) ρ' S'
  | [], k, ρ, S, h, _ => ⟨ρ, S, rfl, h⟩
  | x :: us, k, ρ, S, h, hs => by
    obtain ⟨ρ1, S1, e1, h1⟩ := hs 0 x ρ S rfl h
    obtain ⟨ρ2, S2, e2, h2⟩ := forL_inv P us (k + 1) ρ1 S1 h1 fun i y ρ S hy hp => by
      have e : k + 1 + i = k + (i + 1) := by omega
      rw [e] at hp ⊢
      exact hs (i + 1) y ρ S (by simpa using hy) hp
    refine ⟨ρ2, S2, ?_, ?_⟩
    · rw [forL, e1]; exact e2
    · have e : k + (x :: us).length = k + 1 + us.length := by simp; omega
      rw [e]; exact h2
theorem iota_at {n : Nat} {lo : Int} {i : Nat} {x : U} (h : (iotaU lo n)[i]? = some x) : i < n ∧ x = .int (lo + (i : Int)) := by
  rw [iota_map, List.getElem?_map] at h
  by_cases hi : i < n
  · rw [List.getElem?_range hi] at h
    exact ⟨hi, (Option.some.inj h).symm⟩
  · rw [List.getElem?_eq_none (by simpa using hi)] at h; cases h
theorem iota_len (n : Nat) (lo : Int) : (iotaU lo n).length = n := by rw [iota_map]; simp
theorem mul_l {i j : Int} (h : -(2 ^ 64) < i) (h2 : i < 2 ^ 64) : mulOk i j = true := by
  simp only [mulOk, Bool.or_eq_true, Bool.and_eq_true, decide_eq_true_eq]; exact .inl ⟨h, h2⟩
theorem mul_r {i j : Int} (h : -(2 ^ 64) < j) (h2 : j < 2 ^ 64) : mulOk i j = true := by
  simp only [mulOk, Bool.or_eq_true, Bool.and_eq_true, decide_eq_true_eq]; exact .inr ⟨h, h2⟩
theorem small_i {i : Int} (h : -(2 ^ 62) ≤ i) (h2 : i < 2 ^ 62) : small i = true := by
  simp only [small, Bool.and_eq_true, decide_eq_true_eq]; exact ⟨h, h2⟩

/-! ### by statements -/
section
variable {D : List Fd} {F : Nat → List U → Sto → R U} {w : Nat} {ρ ρ1 : Rho} {S S1 S2 S3 : Sto} {u v z : U} {us ys : List U} {o : Out}
theorem run_rt {d i : Nat} {fd : Fd} (h : D[i]? = some fd) (hl : us.length = fd.np) (hb : evSs (run D w d) w fd.body (us.map some ++ List.replicate (fd.nn - fd.np) none) S = .ok (.rt u) S1) : run D w (d + 1) i us S = .ok u S1 := by
  rw [run_succ h hl, hb]
theorem s_nx {s : SX} {ss : List SX} {r : SR} (h : evS F w s ρ S = .ok (.nx ρ1) S1) (h2 : evSs F w ss ρ1 S1 = r) : evSs F w (s :: ss) ρ S = r := by
  rw [ev_cons]; dsimp only; rw [h]; exact h2
theorem s_rt {s : SX} {ss : List SX} (h : evS F w s ρ S = .ok (.rt u) S1) : evSs F w (s :: ss) ρ S = .ok (.rt u) S1 := by
  rw [ev_cons]; dsimp only; rw [h]
theorem s_nil : evSs F w [] ρ S = .ok (.nx ρ) S := by rw [ev_nil]
theorem st_ret {e : EX} (h : evE F e ρ S = .ok u S1) : evS F w (.ret e) ρ S = .ok (.rt u) S1 := by
  rw [evS]; rw [h]; rfl
theorem st_ex {e : EX} (h : evE F e ρ S = .ok u S1) : evS F w (.ex e) ρ S = .ok (.nx ρ) S1 := by
  rw [evS]; rw [h]; rfl
theorem st_set {t : TX} {e : EX} (h : evE F e ρ S = .ok u S1) (h2 : evT F t u ρ S1 = some (ρ1, S2)) : evS F w (.set t e) ρ S = .ok (.nx ρ1) S2 := by
  rw [ev_set]; dsimp only; rw [h]; dsimp only [R.toS]; rw [h2]
theorem st_nm {i : Nat} {e : EX} (h : evE F e ρ S = .ok u S1) (hi : decide (i < ρ.length) = true) : evS F w (.set (.nm i) e) ρ S = .ok (.nx (ρ.set i (some u))) S1 :=
  st_set h (by rw [evT]; exact if_pos (of_decide_eq_true hi))
theorem st_par {is : List Nat} {es : List EX} (h : evEs F es ρ S = .ok us S1) (hl : is.length = us.length) (ha : is.all (· < ρ.length) = true) : evS F w (.par is es) ρ S = .ok (.nx (setAll is us ρ)) S1 := by
  rw [ev_par]; dsimp only; rw [h]; dsimp only [R.toS]; rw [if_pos ⟨hl, ha⟩]
theorem st_ifT {c : EX} {a b : List SX} {r : SR} (h : evE F c ρ S = .ok u S1) (ht : truU S1 u = some true) (h2 : evSs F w a ρ S1 = r) : evS F w (.ife c a b) ρ S = r := by
  rw [ev_ife]; dsimp only; rw [h]; dsimp only [R.toS]; rw [ht]; exact h2
theorem st_ifF {c : EX} {a b : List SX} {r : SR} (h : evE F c ρ S = .ok u S1) (ht : truU S1 u = some false) (h2 : evSs F w b ρ S1 = r) : evS F w (.ife c a b) ρ S = r := by
  rw [ev_ife]; dsimp only; rw [h]; dsimp only [R.toS]; rw [ht]; exact h2
theorem st_fo {t : TX} {it : IX} {b : List SX} (h : evI F it ρ S = .ok (us, none) S1) (h2 : forL (stepF (evT F t) (evSs F w b)) us ρ S1 = .ok o S2) : evS F w (.fo t it b) ρ S = .ok o S2 := by
  rw [ev_fo]; dsimp only; rw [h]; exact h2
theorem q_comp {t : TX} {it : IX} {cd : Option EX} {el : EX} {own : List Nat} (h : evI F it ρ S = .ok (us, none) S1) (hl : us.length ≤ lim) (h2 : compL (stepC own (evT F t) (evC F cd) (evE F el) ρ) us S1 = .ok ys S2) : evQ F (.comp t it cd el own) ρ S = .ok ys S2 := by
  rw [ev_comp]; dsimp only; rw [h]; dsimp only [R.bind]; rw [if_pos hl]; exact h2
theorem e_qv {q : QX} (h : evQ F q ρ S = .ok us S1) : evE F (.qv q) ρ S = .ok (.lst us) S1 := by rw [ev_qv]; dsimp only; rw [h]; rfl
theorem es_nil : evEs F [] ρ S = .ok [] S := by rw [evEs]
theorem es_cons {a : EX} {es : List EX} (h : evE F a ρ S = .ok u S1) (h2 : evEs F es ρ S1 = .ok us S2) : evEs F (a :: es) ρ S = .ok (u :: us) S2 := by
  rw [evEs, h]; dsimp only [R.bind]; rw [h2]
theorem e_bi {b : Bi} {es : List EX} (h : evEs F es ρ S = .ok us S1) (h2 : biU S1 b us = some v) : evE F (.bi b es) ρ S = .ok v S1 := by
  rw [evE, h]; dsimp only [R.bind]; rw [h2]; rfl
theorem e_bi1 {b : Bi} {e : EX} (h : evE F e ρ S = .ok u S1) (h2 : biU S1 b [u] = some v) : evE F (.bi b [e]) ρ S = .ok v S1 := e_bi (es_cons h es_nil) h2
theorem e_call {i : Nat} {es : List EX} {r : R U} (h : evEs F es ρ S = .ok us S1) (h2 : F i us S1 = r) : evE F (.call i es) ρ S = r := by
  rw [evE, h]; exact h2
theorem e_tup {es : List EX} (h : evEs F es ρ S = .ok us S1) : evE F (.tup es) ρ S = .ok (.tup us) S1 := by
  rw [evE, h]; rfl
theorem e_and {a b : EX} {r : R U} (h : evE F a ρ S = .ok (.bl true) S1) (h2 : evE F b ρ S1 = r) : evE F (.and a b) ρ S = r := by
  rw [evE, h]; exact h2
theorem e_andF {a b : EX} (h : evE F a ρ S = .ok (.bl false) S1) : evE F (.and a b) ρ S = .ok (.bl false) S1 := by
  rw [evE, h]; rfl
theorem e_or {a b : EX} {r : R U} (h : evE F a ρ S = .ok (.bl false) S1) (h2 : evE F b ρ S1 = r) : evE F (.or a b) ρ S = r := by
  rw [evE, h]; exact h2
theorem e_orT {a b : EX} (h : evE F a ρ S = .ok (.bl true) S1) : evE F (.or a b) ρ S = .ok (.bl true) S1 := by
  rw [evE, h]; rfl
theorem e_not {a : EX} {b : Bool} (h : evE F a ρ S = .ok (.bl b) S1) : evE F (.not a) ρ S = .ok (.bl (!b)) S1 := by
  rw [evE, h]; rfl
theorem e_call1 {i : Nat} {a : EX} {r : R U} (h : evE F a ρ S = .ok u S1) (h2 : F i [u] S1 = r) : evE F (.call i [a]) ρ S = r := e_call (es_cons h es_nil) h2
theorem e_call2 {i : Nat} {a b : EX} {r : R U} (h : evE F a ρ S = .ok u S1) (h1 : evE F b ρ S1 = .ok v S2) (h2 : F i [u, v] S2 = r) : evE F (.call i [a, b]) ρ S = r := e_call (es_cons h (es_cons h1 es_nil)) h2
theorem e_call3 {i : Nat} {a b c : EX} {r : R U} (h : evE F a ρ S = .ok u S1) (h1 : evE F b ρ S1 = .ok v S2) (h2 : evE F c ρ S2 = .ok z S3) (h3 : F i [u, v, z] S3 = r) : evE F (.call i [a, b, c]) ρ S = r := e_call (es_cons h (es_cons h1 (es_cons h2 es_nil))) h3
theorem e_var {i : Nat} (h : getR ρ i = some u) : evE F (.var i) ρ S = .ok u S := by rw [ev_var]; dsimp only; rw [h]; rfl
theorem e_cst : evE F (.cst u) ρ S = .ok u S := by rw [ev_cst]
theorem e_bin {op : Op} {a b : EX} (h : evE F a ρ S = .ok u S1) (h1 : evE F b ρ S1 = .ok v S2) (h2 : binU S2 op u v = some z) : evE F (.bin op a b) ρ S = .ok z S2 := by
  rw [ev_bin]; dsimp only; rw [h]; dsimp only [R.bind]; rw [h1]; dsimp only [R.bind]; rw [h2]; rfl
theorem e_cmp {op : Cp} {a b : EX} {k : Bool} (h : evE F a ρ S = .ok u S1) (h1 : evE F b ρ S1 = .ok v S2) (h2 : cmpU S2 op u v = some k) : evE F (.cmp op a b) ρ S = .ok (.bl k) S2 := by
  rw [ev_cmp]; dsimp only; rw [h]; dsimp only [R.bind]; rw [h1]; dsimp only [R.bind]; rw [h2]; rfl
theorem e_ix {a b : EX} (h : evE F a ρ S = .ok u S1) (h1 : evE F b ρ S1 = .ok v S2) (h2 : ixU S2 u v = some z) : evE F (.ix a b) ρ S = .ok z S2 := by
  rw [ev_ix]; dsimp only; rw [h]; dsimp only [R.bind]; rw [h1]; dsimp only [R.bind]; rw [h2]; rfl
theorem e_iteT {c a b : EX} {r : R U} (h : evE F c ρ S = .ok (.bl true) S1) (h2 : evE F a ρ S1 = r) : evE F (.ite c a b) ρ S = r := by
  rw [evE, h]; exact h2
theorem e_iteF {c a b : EX} {r : R U} (h : evE F c ρ S = .ok (.bl false) S1) (h2 : evE F b ρ S1 = r) : evE F (.ite c a b) ρ S = r := by
  rw [evE, h]; exact h2
theorem i_rng1 {a : EX} {j : Int} (h : evE F a ρ S = .ok (.int j) S1) (hs : small j = true) : evI F (.rng1 a) ρ S = .ok (iotaU 0 j.toNat, none) S1 := by
  rw [evI, h]; dsimp only [R.bind]; rw [if_pos hs]
theorem i_rng2 {a b : EX} {i j : Int} (h : evE F a ρ S = .ok (.int i) S1) (h1 : evE F b ρ S1 = .ok (.int j) S2) (hs : small i = true) (hs2 : small j = true) : evI F (.rng2 a b) ρ S = .ok (iotaU i (j - i).toNat, none) S2 := by
  rw [evI, h]; dsimp only [R.bind]; rw [h1]; simp only [hs, hs2, and_self, if_true]
theorem i_tup {a : EX} (h : evE F a ρ S = .ok (.tup us) S1) : evI F (.val a) ρ S = .ok (us, none) S1 := by
  rw [evI, h]; rfl
theorem i_lst {a : EX} (h : evE F a ρ S = .ok (.lst us) S1) : evI F (.val a) ρ S = .ok (us, none) S1 := by
  rw [evI, h]; rfl
/-- one turn: a name set, no test -/
theorem c_nm {own : List Nat} {i : Nat} {el : EX} {x : U} (hi : decide (i < ρ.length) = true) (h : evE F el ((wipeR ρ own).set i (some x)) S = .ok u S1) : stepC own (evT F (.nm i)) (evC F none) (evE F el) ρ x S = .ok (some u) S1 := by
  have hw : ∀ l : List Nat, (wipeR ρ l).length = ρ.length := fun l => by
    induction l with
    | nil => rfl
    | cons a l ih => rw [wipeR, List.length_set, ih]
  rw [stepC, evT, if_pos (by rw [hw]; exact of_decide_eq_true hi)]
  dsimp only
  rw [evC]; dsimp only [R.bind]
  rw [if_pos rfl, h]
/-- .. with a test -/
theorem c_nmI {own : List Nat} {i : Nat} {el c : EX} {x : U} {k : Bool} (hi : decide (i < ρ.length) = true) (h : evE F c ((wipeR ρ own).set i (some x)) S = .ok (.bl k) S) (h2 : evE F el ((wipeR ρ own).set i (some x)) S = .ok u S) :
    stepC own (evT F (.nm i)) (evC F (some c)) (evE F el) ρ x S = .ok (if k = true then some u else none) S := by
  have hw : ∀ l : List Nat, (wipeR ρ l).length = ρ.length := fun l => by
    induction l with
    | nil => rfl
    | cons a l ih => rw [wipeR, List.length_set, ih]
  rw [stepC, evT, if_pos (by rw [hw]; exact of_decide_eq_true hi)]
  dsimp only
  rw [evC, h]; dsimp only [R.bind, optR, truU, rd]
  cases k with
  | true => rw [if_pos rfl, if_pos rfl, h2]
  | false => rw [if_neg (by simp), if_neg (by simp)]
theorem stepF_nm {i : Nat} {b : List SX} {x : U} {r : SR} (hi : decide (i < ρ.length) = true) (h : evSs F w b (ρ.set i (some x)) S = r) : stepF (evT F (.nm i)) (evSs F w b) x ρ S = r := by
  rw [stepF, evT, if_pos (of_decide_eq_true hi)]; exact h
end

/-! ### values -/
theorem okDs_ints (k : Nat) : ∀ xs : List Int, okDs k (xs.map U.int) = true
  | [] => by simp [okDs]
  | x :: xs => by rw [List.map_cons, okDs, okDs_ints k xs]; cases k <;> simp [okD]
theorem okD_ints (xs : List Int) : okD 20 (.tup (xs.map U.int)) = true := by rw [okD]; exact okDs_ints 19 xs
theorem eqUs_ints : ∀ xs ys : List Int, eqUs (xs.map U.int) (ys.map U.int) = decide (xs = ys)
  | [], [] => by simp [eqUs]
  | [], y :: ys => by simp [eqUs]
  | x :: xs, [] => by simp [eqUs]
  | x :: xs, y :: ys => by
    rw [List.map_cons, List.map_cons, eqUs, eqUs_ints xs ys, eqU]
    by_cases h : x = y <;> by_cases h2 : xs = ys <;> simp [h, h2]
theorem eqV_tups (xs ys : List Int) : eqV? (.tup (xs.map U.int)) (.tup (ys.map U.int)) = some (decide (xs = ys)) := by
  unfold eqV?
  rw [if_pos ⟨okD_ints xs, okD_ints ys⟩, eqU, eqUs_ints]
theorem eqV_ints (x y : Int) : eqV? (.int x) (.int y) = some (decide (x = y)) := by
  unfold eqV?
  rw [if_pos ⟨by simp [okD], by simp [okD]⟩, eqU]
  by_cases h : x = y <;> simp [h]
theorem eqV_bls (x y : Bool) : eqV? (.bl x) (.bl y) = some (x == y) := by
  unfold eqV?
  rw [if_pos ⟨by simp [okD], by simp [okD]⟩, eqU]
theorem ixN_nat {n i : Nat} (h : i < n) : ixN n (i : Int) = some i := by
  unfold ixN
  rw [if_pos (by omega), if_pos (by omega)]
  simp
theorem ix_tup {S : Sto} {us : List U} {i : Nat} {z : U} (h : us[i]? = some z) : ixU S (.tup us) (.int (i : Int)) = some z := by
  have hi : i < us.length := (List.getElem?_eq_some_iff.mp h).1
  simp only [ixU, dctOf, seqOf, rd, atU, ixN_nat hi, Option.bind_some]
  exact h
theorem ix_lst {S : Sto} {us : List U} {i : Nat} {z : U} (h : us[i]? = some z) : ixU S (.lst us) (.int (i : Int)) = some z := by
  have hi : i < us.length := (List.getElem?_eq_some_iff.mp h).1
  simp only [ixU, dctOf, seqOf, rd, atU, ixN_nat hi, Option.bind_some]
  exact h
theorem ix_last {S : Sto} {us : List U} {z : U} (h : us.getLast? = some z) : ixU S (.tup us) (.int (-1)) = some z := by
  have hl : us ≠ [] := fun e => by subst e; simp at h
  have hp : 0 < us.length := List.length_pos_iff.mpr hl
  simp only [ixU, dctOf, seqOf, rd, atU]
  have : ixN us.length (-1) = some (us.length - 1) := by
    unfold ixN
    rw [if_neg (by omega), if_pos (by omega)]
    congr 1
    omega
  rw [this, Option.bind_some]
  rw [List.getLast?_eq_getElem?] at h
  exact h
theorem ix_store {S : Sto} {n : Nat} {us : List U} {i : Nat} {z : U} (hs : S[n]? = some (.liv (.lst us))) (h : us[i]? = some z) : ixU S (.ref n) (.int (i : Int)) = some z := by
  have hi : i < us.length := (List.getElem?_eq_some_iff.mp h).1
  simp only [ixU, dctOf, hs, seqOf, rd, atU, ixN_nat hi, Option.bind_some]
  exact h

theorem wipeR_len (ρ : Rho) : ∀ l : List Nat, (wipeR ρ l).length = ρ.length
  | [] => rfl
  | a :: l => by rw [wipeR, List.length_set, wipeR_len ρ l]
section
variable {F : Nat → List U → Sto → R U} {w : Nat} {ρ : Rho} {S S1 : Sto} {u a b : U}
theorem t_two {i j : Nat} (hi : decide (i < ρ.length) = true) (hj : decide (j < ρ.length) = true) : evT F (.tp [.nm i, .nm j]) (.tup [a, b]) ρ S = some ((ρ.set i (some a)).set j (some b), S) := by
  rw [evT]
  show (match unpack 2 (.tup [a, b]) S with | some us => evTs F [.nm i, .nm j] us ρ S | none => none) = _
  have : unpack 2 (.tup [a, b]) S = some [a, b] := rfl
  rw [this]
  dsimp only
  rw [evTs, evT, if_pos (of_decide_eq_true hi)]
  dsimp only
  rw [evTs, evT, if_pos (by rw [List.length_set]; exact of_decide_eq_true hj)]
  dsimp only
  rw [evTs]
theorem c_two {own : List Nat} {i j : Nat} {el : EX} (hi : decide (i < ρ.length) = true) (hj : decide (j < ρ.length) = true) (h : evE F el (((wipeR ρ own).set i (some a)).set j (some b)) S = .ok u S1) :
    stepC own (evT F (.tp [.nm i, .nm j])) (evC F none) (evE F el) ρ (.tup [a, b]) S = .ok (some u) S1 := by
  rw [stepC, t_two (by rw [wipeR_len]; exact hi) (by rw [wipeR_len]; exact hj)]
  dsimp only
  rw [evC]; dsimp only [R.bind]
  rw [if_pos rfl, h]
theorem c_twoI {own : List Nat} {i j : Nat} {el c : EX} {k : Bool} (hi : decide (i < ρ.length) = true) (hj : decide (j < ρ.length) = true) (h : evE F c (((wipeR ρ own).set i (some a)).set j (some b)) S = .ok (.bl k) S) (h2 : evE F el (((wipeR ρ own).set i (some a)).set j (some b)) S = .ok u S) :
    stepC own (evT F (.tp [.nm i, .nm j])) (evC F (some c)) (evE F el) ρ (.tup [a, b]) S = .ok (if k = true then some u else none) S := by
  rw [stepC, t_two (by rw [wipeR_len]; exact hi) (by rw [wipeR_len]; exact hj)]
  dsimp only
  rw [evC, h]; dsimp only [R.bind, optR, truU, rd]
  cases k with
  | true => rw [if_pos rfl, if_pos rfl, h2]
  | false => rw [if_neg (by simp), if_neg (by simp)]
theorem stepF_two {i j : Nat} {bd : List SX} {r : SR} (hi : decide (i < ρ.length) = true) (hj : decide (j < ρ.length) = true) (h : evSs F w bd ((ρ.set i (some a)).set j (some b)) S = r) : stepF (evT F (.tp [.nm i, .nm j])) (evSs F w bd) (.tup [a, b]) ρ S = r := by
  rw [stepF, t_two hi hj]; exact h
theorem zip_ints : ∀ xs ys : List Int, zipU (xs.map U.int) (ys.map U.int) = (xs.zip ys).map fun p => U.tup [.int p.1, .int p.2]
  | [], ys => by simp [zipU]
  | x :: xs, [] => by simp [zipU]
  | x :: xs, y :: ys => by simp [zipU, zip_ints xs ys]
end
end Ev
set_option Elab.async false
set_option linter.all false
set_option maxRecDepth 100000
set_option maxHeartbeats 1000000
/-! Ev28: more plain lemmas about what trees yield: the store. -/
namespace Ev
section
variable {F : Nat → List U → Sto → R U} {w : Nat} {ρ ρ1 : Rho} {S S1 S2 S3 : Sto} {u v z : U} {us ys xs : List U}
theorem e_ist {a : EX} {ts : List Ty} {k : Vt} (h : evE F a ρ S = .ok u S1) (h2 : vtU S1 u = some k) : evE F (.ist a ts) ρ S = .ok (.bl (ts.any k.is)) S1 := by
  rw [evE, h]; dsimp only [R.bind]; rw [h2]; rfl
theorem t_ixL {a b : EX} {n k : Nat} {i : Int} (h : evE F a ρ S = .ok (.ref n) S1) (h1 : evE F b ρ S1 = .ok (.int i) S2) (hs : S2[n]? = some (.liv (.lst xs))) (hk : ixN xs.length i = some k) : evT F (.ix a b) v ρ S = some (ρ, S2.set n (.liv (.lst (xs.set k v)))) := by
  rw [evT, h]; dsimp only; rw [h1]; dsimp only; rw [hs]; dsimp only; rw [hk]
theorem t_ixD {a b : EX} {n : Nat} {i : Int} {kvs : List (Int × U)} (h : evE F a ρ S = .ok (.ref n) S1) (h1 : evE F b ρ S1 = .ok (.int i) S2) (hs : S2[n]? = some (.liv (.dct kvs))) (hk : kvs.length < lim) : evT F (.ix a b) v ρ S = some (ρ, S2.set n (.liv (.dct (dputU kvs i v)))) := by
  rw [evT, h]; dsimp only; rw [h1]; dsimp only; rw [hs]; dsimp only; rw [if_pos hk]
theorem e_mth {a : EX} {es : List EX} {m : Mt} {n : Nat} (h : evE F a ρ S = .ok (.ref n) S1) (hs : S1[n]? = some (.liv (.lst xs))) (h1 : evEs F es ρ S1 = .ok us S2) (h2 : mthU S2 m (.ref n) us = some (v, S3)) : evE F (.mth m a es) ρ S = .ok v S3 := by
  rw [evE, h]; dsimp only [R.bind]
  rw [if_pos (by simp [mtOk, rd, hs]), h1]; dsimp only [R.bind]; rw [h2]; rfl
theorem e_frz {a : EX} {n : Nat} (h : evE F a ρ S = .ok (.ref n) S1) (hs : S1[n]? = some (.liv (.lst xs))) : evE F (.frz a) ρ S = .ok (.lst xs) (S1.set n .ded) := by
  rw [ev_frz]; dsimp only; rw [h]; dsimp only [R.bind]; rw [hs]
theorem q_srt {a : EX} (h : evE F a ρ S = .ok u S1) (h1 : seqOf S1 u = some xs) (h2 : srtU xs = some ys) : evQ F (.srt a) ρ S = .ok ys S1 := by
  rw [evQ, h]; dsimp only [R.bind]; rw [h1]; dsimp only; rw [h2]; rfl
theorem q_lof {a : EX} (h : evE F a ρ S = .ok u S1) (h1 : seqOf S1 u = some xs) : evQ F (.lof a) ρ S = .ok xs S1 := by
  rw [evQ, h]; dsimp only [R.bind]; rw [h1]; rfl
theorem q_disp {es : List EX} (h : evEs F es ρ S = .ok us S1) : evQ F (.disp es) ρ S = .ok us S1 := by rw [evQ]; exact h
theorem e_qn {q : QX} (h : evQ F q ρ S = .ok us S1) : evE F (.qn q) ρ S = .ok (.ref S1.length) (S1 ++ [.liv (.lst us)]) := by rw [ev_qn]; dsimp only; rw [h]; rfl
theorem e_rev {a : EX} (h : evE F a ρ S = .ok u S1) (h2 : revU S1 u = some v) : evE F (.rev a) ρ S = .ok v S1 := by
  rw [evE, h]; dsimp only [R.bind]; rw [h2]; rfl
theorem o_none : evO F none ρ S = .ok none S := by rw [evO]
theorem o_some {a : EX} {i : Int} (h : evE F a ρ S = .ok (.int i) S1) : evO F (some a) ρ S = .ok (some i) S1 := by rw [evO, h]; rfl
theorem e_sl {a : EX} {l r : Option EX} {lo hi : Option Int} (h : evE F a ρ S = .ok u S1) (h1 : evO F l ρ S1 = .ok lo S2) (h2 : evO F r ρ S2 = .ok hi S3) (h3 : slU S3 u lo hi = some v) : evE F (.sl a l r) ρ S = .ok v S3 := by
  rw [evE, h]; dsimp only [R.bind]; rw [h1]; dsimp only [R.bind]; rw [h2]; dsimp only [R.bind]; rw [h3]; rfl
theorem i_enumL {a : EX} (h : evE F a ρ S = .ok (.lst us) S1) : evI F (.enum a) ρ S = .ok (enumU 0 us, none) S1 := by
  rw [evI, h]; rfl
theorem i_zipL {a b : EX} (h : evE F a ρ S = .ok (.lst us) S1) (h1 : evE F b ρ S1 = .ok (.lst ys) S2) : evI F (.zip2 a b) ρ S = .ok (zipU us ys, none) S2 := by
  rw [evI, h]; dsimp only [R.bind]; rw [h1]
theorem i_zipT {a b : EX} (h : evE F a ρ S = .ok (.tup us) S1) (h1 : evE F b ρ S1 = .ok (.tup ys) S2) : evI F (.zip2 a b) ρ S = .ok (zipU us ys, none) S2 := by
  rw [evI, h]; dsimp only [R.bind]; rw [h1]
/-- a comprehension with an invariant of the store -/
theorem compL_inv {step : U → Sto → R (Option U)} (P : Nat → Sto → Prop) (Q : U → Prop) : ∀ (us : List U) (k : Nat) (S : Sto), P k S →
    (∀ (i : Nat) (x : U) (S : Sto), us[i]? = some x → P (k + i) S → ∃ y S', step x S = .ok (some y) S' ∧ Q y ∧ P (k + i + 1) S') →
    ∃ ys S', compL step us S = .ok ys S' ∧ ys.length = us.length ∧ (∀ y ∈ ys, Q y) ∧ P (k + us.length) S'
  | [], k, S, h, _ => ⟨[], S, rfl, rfl, fun _ h => by simp at h, h⟩
  | x :: us, k, S, h, hs => by
    obtain ⟨y, S1, e1, q1, h1⟩ := hs 0 x S rfl h
    obtain ⟨ys, S2, e2, l2, q2, h2⟩ := compL_inv P Q us (k + 1) S1 h1 fun i y S hy hp => by
      have e : k + 1 + i = k + (i + 1) := by omega
      rw [e] at hp ⊢
      exact hs (i + 1) y S (by simpa using hy) hp
    refine ⟨y :: ys, S2, ?_, by simp [l2], fun z hz => ?_, ?_⟩
    · rw [compL, e1]; simp only [noEx, R.bind]; rw [e2]
    · rcases List.mem_cons.mp hz with rfl | hz
      · exact q1
      · exact q2 z hz
    · have e : k + (x :: us).length = k + 1 + us.length := by simp; omega
      rw [e]; exact h2
theorem ints_of : ∀ {ys : List U} {Q : Int → Prop}, (∀ y ∈ ys, ∃ i, y = .int i ∧ Q i) → ∃ ns : List Int, ys = ns.map U.int ∧ ∀ i ∈ ns, Q i
  | [], Q, _ => ⟨[], rfl, fun _ h => by simp at h⟩
  | y :: ys, Q, h => by
    obtain ⟨i, rfl, q⟩ := h y List.mem_cons_self
    obtain ⟨ns, rfl, q2⟩ := ints_of (ys := ys) (Q := Q) fun z hz => h z (List.mem_cons_of_mem _ hz)
    refine ⟨i :: ns, rfl, fun j hj => ?_⟩
    rcases List.mem_cons.mp hj with rfl | hj
    · exact q
    · exact q2 j hj
theorem cut_map {α : Type} (f : α → U) (xs : List α) (lo hi : Option Int) : ∃ ys : List α, cutU (xs.map f) lo hi = ys.map f ∧ ys.length ≤ xs.length := by
  refine ⟨(xs.drop (sIx xs.length 0 lo)).take (sIx xs.length xs.length hi - sIx xs.length 0 lo), ?_, ?_⟩
  · unfold cutU; rw [List.length_map, List.map_take, List.map_drop]
  · rw [List.length_take, List.length_drop]; omega
theorem log_ok {j : Int} (h0 : 0 < j) (h : j < 2 ^ 64) : 0 < j ∧ j.natAbs.log2 < 9000 := by
  refine ⟨h0, ?_⟩
  have : j.natAbs < 2 ^ 64 := by omega
  have := (Nat.log2_lt (by omega : j.natAbs ≠ 0)).mpr this
  omega
theorem zip_map {α β : Type} (f : α → U) (g : β → U) : ∀ (xs : List α) (ys : List β), zipU (xs.map f) (ys.map g) = (xs.zip ys).map fun p => U.tup [f p.1, g p.2]
  | [], ys => by simp [zipU]
  | x :: xs, [] => by simp [zipU]
  | x :: xs, y :: ys => by simp [zipU, zip_map f g xs ys]
end
end Ev
set_option Elab.async false
set_option linter.all false
set_option maxRecDepth 100000
/-! K62a: the defs of the linked text, as trees. -/
namespace K62
open PySem Ev
def top (i : Nat) : Stmt := PySem.Challenge.pw_tentfalls_k62_main_subgroups_of_one_row.main.body.getD i (.Pass ⟨0, 0, 0, 0⟩)
def r_is_number : DR := ⟨"is_number", top 4, ["thing"], ["thing"], [], [], []⟩
def r_is_within : DR := ⟨"is_within", top 5, ["thing", "least", "most"], ["thing", "least", "most"], [], [], []⟩
def r_are_numbers : DR := ⟨"are_numbers", top 6, ["thing"], ["thing", "own"], [], [], []⟩
def r_tupled : DR := ⟨"tupled", top 7, ["value"], ["value", "own"], [], [], []⟩
def r_power : DR := ⟨"power", top 8, ["number", "times"], ["number", "times", "found", "_"], [], [], []⟩
def r_is_fall_in : DR := ⟨"is_fall_in", top 10, ["thing"], ["thing", "k"], [], [], []⟩
def r_sure_sides : DR := ⟨"sure_sides", top 13, ["sides"], ["sides"], [], [], []⟩
def r_is_prime : DR := ⟨"is_prime", top 16, ["number"], ["number", "own"], [], [], []⟩
def r_sure_prime : DR := ⟨"sure_prime", top 17, ["prime"], ["prime"], [], [], []⟩
def r_sure_group : DR := ⟨"sure_group", top 21, ["prime", "fall"], ["prime", "fall", "own", "its"], [], [], []⟩
def r_choices_in : DR := ⟨"choices_in", top 22, ["prime", "many", "some"], ["prime", "many", "some", "place", "upper", "lower"], [], [], []⟩
def r_many_in : DR := ⟨"many_in", top 23, ["prime", "fall", "own"], ["prime", "fall", "own", "found", "size", "later", "far", "near"], [], [], []⟩
def r_rows_above : DR := ⟨"rows_above", top 24, ["fall", "size"], ["fall", "size", "own"], [], [], []⟩
def r_is_within_fall : DR := ⟨"is_within_fall", top 25, ["fall", "own"], ["fall", "own", "far", "near"], [], [], []⟩
def r_how_many_subgroups : DR := ⟨"how_many_subgroups", top 26, ["prime", "fall", "some"], ["prime", "fall", "some", "told", "own", "its"], [], [], []⟩
def r_subgroup_falls : DR := ⟨"subgroup_falls", top 27, ["fall"], ["fall", "own", "found", "number", "later", "row", "most", "size"], [(79, 16)], [], []⟩
def r_group_order : DR := ⟨"group_order", top 28, ["prime", "fall"], ["prime", "fall", "own", "its"], [], [], []⟩
def r_law_box : DR := ⟨"_law_box", top 30, ["script", "k"], ["script", "k", "bit_so"], [(93, 11)], [], []⟩
def r_law_take : DR := ⟨"_law_take", top 31, ["tin", "below_so"], ["tin", "below_so", "once_so", "wide_so", "twice_so", "drawn_so"], [], [], []⟩
def r_law_cells : DR := ⟨"_law_cells", top 32, ["script", "most_so"], ["script", "most_so", "cells_so", "k", "bit_so", "at_so"], [(105, 15), (105, 41)], [(109, 11)], []⟩
def r_law_of : DR := ⟨"_law_of", top 33, ["tin", "goods_so"], ["tin", "goods_so"], [], [], []⟩
def r_law_same : DR := ⟨"_law_same", top 34, ["got", "due"], ["got", "due", "mine", "its"], [], [], []⟩
def r_law_flat : DR := ⟨"_law_flat", top 35, ["rows_so"], ["rows_so", "found", "own"], [(123, 12)], [(126, 11)], []⟩
def r_law_fall : DR := ⟨"_law_fall", top 36, ["row_so"], ["row_so"], [], [], []⟩
def r_law_product : DR := ⟨"_law_product", top 37, ["numbers_so"], ["numbers_so", "found", "x"], [], [], []⟩
def r_law_power : DR := ⟨"_law_power", top 38, ["p", "often_so"], ["p", "often_so", "k"], [], [], []⟩
def r_law_gone : DR := ⟨"_law_gone", top 39, ["p", "fall_so", "k"], ["p", "fall_so", "k", "x"], [], [], []⟩
def r_law_pairs : DR := ⟨"_law_pairs", top 40, ["p", "a", "b", "c", "d"], ["p", "a", "b", "c", "d", "many_so"], [], [], []⟩
def r_law : DR := ⟨"law", top 41, ["script"], ["script", "tin", "lap", "own", "sizes_so", "fall_so", "none_so", "got", "k", "tall_so", "due", "lefts_so", "a", "b", "c", "d", "p", "n", "more_so", "x"], [(162, 19)], [], [(178, 23)]⟩
def tab : List DR := [r_is_number, r_is_within, r_are_numbers, r_tupled, r_power, r_is_fall_in, r_sure_sides, r_is_prime, r_sure_prime, r_sure_group, r_choices_in, r_many_in, r_rows_above, r_is_within_fall, r_how_many_subgroups, r_subgroup_falls, r_group_order, r_law_box, r_law_take, r_law_cells, r_law_of, r_law_same, r_law_flat, r_law_fall, r_law_product, r_law_power, r_law_gone, r_law_pairs, r_law]
def gvs : List (Str × U) := [("MOST_SIDES", .int 6), ("MOST_PRIME", .int 97), ("MOST_POWER", .int 1000), ("MOST_TOLD", .int 2000)]
def d_is_number : Fd := ⟨1, 1, [.ret (.and (.ist (.var 0) [.int]) (.not (.ist (.var 0) [.bool])))]⟩
def d_is_within : Fd := ⟨3, 3, [.ret (.and (.call 0 [.var 0]) (.ch2 .le .le (.var 1) (.var 0) (.var 2)))]⟩
def d_are_numbers : Fd := ⟨1, 2, [.ret (.and (.ist (.var 0) [.tuple]) (.bi .all [.qv (.comp (.nm 1) (.val (.var 0)) none (.call 0 [.var 1]) [1])]))]⟩
def d_tupled : Fd := ⟨1, 2, [.ret (.ite (.ist (.var 0) [.list, .tuple]) (.bi .tuple [.qv (.comp (.nm 1) (.val (.var 0)) none (.call 3 [.var 1]) [1])]) (.var 0))]⟩
def d_power : Fd := ⟨2, 4, [.set (.nm 2) (.cst (.int 1)), .fo (.nm 3) (.rng1 (.var 1)) [.set (.nm 2) (.bin .mul (.var 2) (.var 0))], .ret (.var 2)]⟩
def d_is_fall_in : Fd := ⟨1, 2, [.ret (.and (.call 2 [.var 0]) (.and (.cmp .ne (.var 0) (.tup [])) (.bi .all [.qv (.comp (.nm 1) (.rng1 (.bin .sub (.bi .len [.var 0]) (.cst (.int 1)))) none (.cmp .ge (.ix (.var 0) (.var 1)) (.ix (.var 0) (.bin .add (.var 1) (.cst (.int 1))))) [1])])))]⟩
def d_sure_sides : Fd := ⟨1, 1, [.ife (.not (.call 1 [.var 0, .cst (.int 1), .cst (.int 6)])) [.no] [], .ret (.var 0)]⟩
def d_is_prime : Fd := ⟨1, 2, [.ife (.or (.not (.call 0 [.var 0])) (.not (.ch2 .le .le (.cst (.int 2)) (.var 0) (.cst (.int 97))))) [.ret (.cst (.bl false))] [], .ret (.bi .all [.qv (.comp (.nm 1) (.rng2 (.cst (.int 2)) (.var 0)) none (.cmp .ne (.bin .mod (.var 0) (.var 1)) (.cst (.int 0))) [1])])]⟩
def d_sure_prime : Fd := ⟨1, 1, [.ife (.not (.call 7 [.var 0])) [.no] [], .ret (.var 0)]⟩
def d_sure_group : Fd := ⟨2, 4, [.par [2, 3] [.call 8 [.var 0], .call 3 [.var 1]], .ife (.or (.not (.call 5 [.var 3])) (.cmp .lt (.ix (.var 3) (.bin .sub (.cst (.int 0)) (.cst (.int 1)))) (.cst (.int 0)))) [.no] [], .ex (.call 6 [.bi .len [.var 3]]), .ret (.tup [.var 2, .var 3])]⟩
def d_choices_in : Fd := ⟨3, 6, [.set (.tp [.nm 4, .nm 5]) (.tup [.cst (.int 1), .cst (.int 1)]), .fo (.nm 3) (.rng1 (.var 2)) [.set (.nm 4) (.bin .mul (.var 4) (.bin .sub (.call 4 [.var 0, .bin .sub (.var 1) (.var 3)]) (.cst (.int 1)))), .set (.nm 5) (.bin .mul (.var 5) (.bin .sub (.call 4 [.var 0, .bin .add (.var 3) (.cst (.int 1))]) (.cst (.int 1))))], .ret (.bin .fdiv (.var 4) (.var 5))]⟩
def d_many_in : Fd := ⟨3, 8, [.set (.nm 3) (.cst (.int 1)), .fo (.nm 4) (.rng1 (.ix (.var 1) (.cst (.int 0)))) [.par [6, 7] [.call 12 [.var 1, .var 4], .call 12 [.var 2, .var 4]], .set (.nm 5) (.call 12 [.var 2, .bin .add (.var 4) (.cst (.int 1))]), .set (.nm 3) (.bin .mul (.bin .mul (.var 3) (.call 4 [.var 0, .bin .mul (.var 5) (.bin .sub (.var 6) (.var 7))])) (.call 10 [.var 0, .bin .sub (.var 6) (.var 5), .bin .sub (.var 7) (.var 5)]))], .ret (.var 3)]⟩
def d_rows_above : Fd := ⟨2, 3, [.ret (.bi .len [.qv (.comp (.nm 2) (.val (.var 0)) (some (.cmp .gt (.var 2) (.var 1))) (.var 2) [2])])]⟩
def d_is_within_fall : Fd := ⟨2, 4, [.ret (.and (.cmp .ge (.ix (.var 1) (.bin .sub (.cst (.int 0)) (.cst (.int 1)))) (.cst (.int 0))) (.bi .all [.qv (.comp (.tp [.nm 2, .nm 3]) (.zip2 (.var 0) (.var 1)) none (.cmp .ge (.var 2) (.var 3)) [2, 3])]))]⟩
def d_how_many_subgroups : Fd := ⟨3, 6, [.set (.tp [.nm 4, .nm 5]) (.call 9 [.var 0, .var 1]), .set (.nm 3) (.call 3 [.var 2]), .ife (.or (.not (.call 5 [.var 3])) (.or (.cmp .ne (.bi .len [.var 3]) (.bi .len [.var 5])) (.cmp .gt (.ix (.var 5) (.cst (.int 0))) (.cst (.int 1000))))) [.no] [], .ret (.ite (.call 13 [.var 5, .var 3]) (.call 11 [.var 4, .var 5, .var 3]) (.cst (.int 0)))]⟩
def d_subgroup_falls : Fd := ⟨1, 8, [.set (.nm 1) (.ix (.call 9 [.cst (.int 2), .var 0]) (.cst (.int 1))), .set (.nm 2) (.qv (.disp [.tup []])), .fo (.nm 3) (.val (.var 1)) [.set (.nm 4) (.qn (.disp [])), .fo (.nm 5) (.val (.var 2)) [.set (.nm 6) (.ite (.cmp .ne (.var 5) (.tup [])) (.bi .min2 [.var 3, .ix (.var 5) (.bin .sub (.cst (.int 0)) (.cst (.int 1)))]) (.var 3)), .ife (.cmp .gt (.bin .add (.bin .add (.bi .len [.var 4]) (.var 6)) (.cst (.int 1))) (.cst (.int 2000))) [.no] [], .ex (.mth .extend (.var 4) [.qv (.comp (.nm 7) (.rng1 (.bin .add (.var 6) (.cst (.int 1)))) none (.bin .add (.var 5) (.tup [.var 7])) [7])])], .set (.nm 2) (.var 4)], .ret (.qv (.srt (.var 2)))]⟩
def d_group_order : Fd := ⟨2, 4, [.set (.tp [.nm 2, .nm 3]) (.call 9 [.var 0, .var 1]), .ret (.call 4 [.var 2, .bi .sum [.var 3]])]⟩
def d_law_box : Fd := ⟨2, 3, [.set (.nm 2) (.ite (.cmp .lt (.var 1) (.bi .len [.var 0])) (.ix (.var 0) (.var 1)) (.cst (.int 0))), .ret (.qn (.disp [.bin .mul (.bi .abs [.var 2]) (.bi .int [.cmp .ge (.bi .abs [.var 2]) (.bin .pow (.cst (.int 10)) (.cst (.int 18)))]), .bin .add (.bin .add (.bin .mod (.bi .int [.var 2]) (.cst (.int 2305843009213693951))) (.bin .mul (.cst (.int 39373)) (.var 1))) (.cst (.int 170511)), .cst (.int 0)]))]⟩
def d_law_take : Fd := ⟨2, 6, [.ife (.cmp .gt (.ix (.var 0) (.cst (.int 0))) (.cst (.int 0))) [.set (.nm 5) (.bin .mod (.bi .int [.ix (.var 0) (.cst (.int 0))]) (.var 1)), .set (.ix (.var 0) (.cst (.int 0))) (.bin .fdiv (.ix (.var 0) (.cst (.int 0))) (.var 1)), .ret (.var 5)] [], .set (.ix (.var 0) (.cst (.int 2))) (.bin .add (.ix (.var 0) (.cst (.int 2))) (.cst (.int 1))), .set (.nm 2) (.bin .mod (.bi .int [.bin .mul (.bin .add (.ix (.var 0) (.cst (.int 1))) (.bin .mul (.cst (.int 48271)) (.ix (.var 0) (.cst (.int 2))))) (.bin .add (.cst (.int 39373)) (.ix (.var 0) (.cst (.int 2))))]) (.cst (.int 2147483647))), .set (.nm 3) (.bin .add (.bin .mod (.bi .int [.var 2]) (.cst (.int 40009))) (.cst (.int 7))), .set (.nm 4) (.bin .mod (.bi .int [.bin .mul (.bin .add (.bin .add (.var 2) (.ix (.var 0) (.cst (.int 2)))) (.bin .fdiv (.ix (.var 0) (.cst (.int 1))) (.cst (.int 1000003)))) (.var 3)]) (.cst (.int 2147483629))), .ret (.bin .mod (.bi .int [.bin .fdiv (.bin .mod (.bi .int [.bin .add (.bin .mul (.var 4) (.cst (.int 48271))) (.var 2)]) (.cst (.int 2147483587))) (.cst (.int 64))]) (.var 1))]⟩
def d_law_cells : Fd := ⟨2, 6, [.set (.nm 2) (.or (.qn (.lof (.sl (.var 0) none (some (.var 1))))) (.qn (.disp [.cst (.int 0)]))), .fo (.tp [.nm 3, .nm 4]) (.enum (.sl (.var 0) (some (.var 1)) (some (.cst (.int 63))))) [.set (.nm 5) (.bin .mod (.bi .int [.var 3]) (.var 1)), .set (.ix (.var 2) (.var 5)) (.bin .add (.ix (.var 2) (.var 5)) (.bin .mul (.var 4) (.bin .add (.var 3) (.cst (.int 2)))))], .ret (.frz (.var 2))]⟩
def d_law_of : Fd := ⟨2, 2, [.ret (.ix (.var 1) (.call 18 [.var 0, .bi .len [.var 1]]))]⟩
def d_law_same : Fd := ⟨2, 4, [.ife (.ist (.var 1) [.list, .tuple]) [.ife (.or (.cmp .ne (.ist (.var 0) [.list]) (.ist (.var 1) [.list])) (.cmp .ne (.ist (.var 0) [.tuple]) (.ist (.var 1) [.tuple]))) [.ret (.cst (.bl false))] [], .ret (.and (.cmp .eq (.bi .len [.var 0]) (.bi .len [.var 1])) (.bi .all [.qv (.comp (.tp [.nm 2, .nm 3]) (.zip2 (.var 0) (.var 1)) none (.call 21 [.var 2, .var 3]) [2, 3])]))] [], .ife (.cmp .is (.var 1) (.cst .non)) [.ret (.cmp .is (.var 0) (.cst .non))] [], .ife (.ist (.var 1) [.bool, .str]) [.ret (.and (.cmp .eq (.ist (.var 0) [.bool]) (.ist (.var 1) [.bool])) (.and (.cmp .eq (.ist (.var 0) [.str]) (.ist (.var 1) [.str])) (.cmp .eq (.var 0) (.var 1))))] [], .ret (.and (.ist (.var 0) [.int]) (.and (.not (.ist (.var 0) [.bool])) (.cmp .eq (.var 0) (.var 1))))]⟩
def d_law_flat : Fd := ⟨1, 3, [.set (.nm 1) (.qn (.disp [])), .fo (.nm 2) (.val (.var 0)) [.ex (.mth .extend (.var 1) [.var 2])], .ret (.frz (.var 1))]⟩
def d_law_fall : Fd := ⟨1, 1, [.ret (.bi .tuple [.rev (.qv (.srt (.var 0)))])]⟩
def d_law_product : Fd := ⟨1, 3, [.set (.nm 1) (.cst (.int 1)), .fo (.nm 2) (.val (.var 0)) [.set (.nm 1) (.bin .mul (.var 1) (.var 2))], .ret (.var 1)]⟩
def d_law_power : Fd := ⟨2, 3, [.ret (.call 24 [.qv (.comp (.nm 2) (.rng1 (.var 1)) none (.var 0) [2])])]⟩
def d_law_gone : Fd := ⟨3, 4, [.ret (.call 25 [.var 0, .bi .sum [.qv (.comp (.nm 3) (.val (.var 1)) none (.bi .min2 [.var 2, .var 3]) [3])]])]⟩
def d_law_pairs : Fd := ⟨5, 6, [.ife (.or (.cmp .gt (.var 3) (.var 1)) (.or (.cmp .gt (.var 4) (.var 2)) (.cmp .lt (.var 3) (.var 4)))) [.ret (.cst (.int 0))] [], .par [1, 2, 3] [.bin .sub (.var 1) (.var 4), .bin .sub (.var 2) (.var 4), .bin .sub (.var 3) (.var 4)], .ife (.cmp .eq (.var 3) (.cst (.int 0))) [.ret (.cst (.int 1))] [], .set (.nm 5) (.bin .sub (.call 26 [.var 0, .tup [.var 1, .var 2], .var 3]) (.call 26 [.var 0, .tup [.var 1, .var 2], .bin .sub (.var 3) (.cst (.int 1))])), .ret (.bin .fdiv (.var 5) (.bin .sub (.call 25 [.var 0, .var 3]) (.call 25 [.var 0, .bin .sub (.var 3) (.cst (.int 1))])))]⟩
def d_law : Fd := ⟨1, 20, [.set (.nm 1) (.call 17 [.call 19 [.var 0, .cst (.int 1)], .cst (.int 0)]), .fo (.nm 2) (.rng1 (.cst (.int 3))) [.set (.tp [.nm 16, .nm 17]) (.tup [.call 20 [.var 1, .qv (.disp [.cst (.int 2), .cst (.int 3), .cst (.int 5), .cst (.int 31), .cst (.int 97)])], .bin .add (.cst (.int 1)) (.call 18 [.var 1, .cst (.int 6)])]), .set (.nm 5) (.call 23 [.qv (.comp (.nm 8) (.rng1 (.var 17)) none (.call 18 [.var 1, .call 20 [.var 1, .qv (.disp [.cst (.int 3), .cst (.int 6), .cst (.int 11)])]]) [8])]), .set (.nm 6) (.bin .mul (.tup [.cst (.int 0)]) (.var 17)), .set (.nm 7) (.qv (.disp [.call 16 [.var 16, .var 5], .call 14 [.var 16, .var 5, .var 6], .call 14 [.var 16, .var 5, .var 5]])), .ife (.not (.call 21 [.var 7, .qv (.disp [.call 25 [.var 16, .bi .sum [.var 5]], .cst (.int 1), .cst (.int 1)])])) [.ret (.cst (.bl false))] [], .fo (.nm 8) (.rng2 (.cst (.int 1)) (.bin .add (.ix (.var 5) (.cst (.int 0))) (.cst (.int 2)))) [.set (.nm 18) (.bin .sub (.call 26 [.var 16, .var 5, .var 8]) (.call 26 [.var 16, .var 5, .bin .sub (.var 8) (.cst (.int 1))])), .set (.nm 10) (.ite (.cmp .le (.var 8) (.ix (.var 5) (.cst (.int 0)))) (.bin .fdiv (.var 18) (.bin .sub (.call 25 [.var 16, .var 8]) (.call 25 [.var 16, .bin .sub (.var 8) (.cst (.int 1))]))) (.cst (.int 0))), .ife (.not (.call 21 [.call 14 [.var 16, .var 5, .bin .add (.tup [.var 8]) (.bin .mul (.tup [.cst (.int 0)]) (.bin .sub (.var 17) (.cst (.int 1))))], .var 10])) [.ret (.cst (.bl false))] []], .set (.nm 9) (.bi .len [.qv (.comp (.nm 19) (.val (.var 5)) (some (.cmp .gt (.var 19) (.cst (.int 0)))) (.var 19) [19])]), .set (.nm 10) (.bin .fdiv (.bin .sub (.call 25 [.var 16, .var 9]) (.cst (.int 1))) (.bin .sub (.var 16) (.cst (.int 1)))), .set (.nm 11) (.qn (.disp [])), .fo (.nm 8) (.rng1 (.var 17)) [.set (.nm 3) (.bin .add (.bin .add (.sl (.var 5) none (some (.var 8))) (.tup [.bin .sub (.ix (.var 5) (.var 8)) (.cst (.int 1))])) (.sl (.var 5) (some (.bin .add (.var 8) (.cst (.int 1)))) none)), .ife (.and (.cmp .ge (.ix (.var 3) (.var 8)) (.cst (.int 0))) (.cmp .eq (.var 3) (.call 23 [.var 3]))) [.ex (.mth .append (.var 11) [.call 14 [.var 16, .var 5, .var 3]])] []], .ife (.cmp .ne (.bi .sum [.var 11]) (.var 10)) [.ret (.cst (.bl false))] []], .set (.tp [.nm 12, .nm 13]) (.rev (.qv (.srt (.qv (.disp [.call 18 [.var 1, .cst (.int 8)], .call 18 [.var 1, .cst (.int 8)]]))))), .set (.nm 3) (.call 15 [.tup [.var 12, .var 13]]), .ife (.not (.call 21 [.var 3, .qv (.srt (.call 22 [.qv (.comp (.nm 14) (.rng1 (.bin .add (.var 12) (.cst (.int 1)))) none (.qv (.comp (.nm 15) (.rng1 (.bin .add (.bi .min2 [.var 13, .var 14]) (.cst (.int 1)))) none (.tup [.var 14, .var 15]) [15])) [14])]))])) [.ret (.cst (.bl false))] [], .ife (.cmp .ne (.qv (.comp (.tp [.nm 14, .nm 15]) (.val (.var 3)) (some (.cmp .ne (.call 14 [.var 16, .tup [.var 12, .var 13], .tup [.var 14, .var 15]]) (.call 27 [.var 16, .var 12, .var 13, .var 14, .var 15]))) (.cst (.int 1)) [14, 15])) (.qv (.disp []))) [.ret (.cst (.bl false))] [], .set (.nm 4) .dnew, .fo (.tp [.nm 14, .nm 15]) (.val (.var 3)) [.set (.ix (.var 4) (.bin .add (.var 14) (.var 15))) (.bin .add (.dget (.var 4) (.bin .add (.var 14) (.var 15)) (.cst (.int 0))) (.call 27 [.var 16, .var 12, .var 13, .var 14, .var 15]))], .ret (.cmp .eq (.qv (.compK 4 (.nm 8) (some (.cmp .ne (.ix (.var 4) (.var 8)) (.ix (.var 4) (.bin .sub (.bin .add (.var 12) (.var 13)) (.var 8))))) (.var 8) [8])) (.qv (.disp [])))]⟩
def D : List Fd := [d_is_number, d_is_within, d_are_numbers, d_tupled, d_power, d_is_fall_in, d_sure_sides, d_is_prime, d_sure_prime, d_sure_group, d_choices_in, d_many_in, d_rows_above, d_is_within_fall, d_how_many_subgroups, d_subgroup_falls, d_group_order, d_law_box, d_law_take, d_law_cells, d_law_of, d_law_same, d_law_flat, d_law_fall, d_law_product, d_law_power, d_law_gone, d_law_pairs, d_law]
theorem ok_is_number : RowOk tab gvs [] r_is_number d_is_number := ⟨rfl, rfl, by kernel_rfl, ⟨rfl, rfl, rfl, by decide +kernel, rfl, by decide +kernel, by decide +kernel⟩⟩
theorem ok_is_within : RowOk tab gvs [] r_is_within d_is_within := ⟨rfl, rfl, by kernel_rfl, ⟨rfl, rfl, rfl, by decide +kernel, rfl, by decide +kernel, by decide +kernel⟩⟩
theorem ok_are_numbers : RowOk tab gvs [] r_are_numbers d_are_numbers := ⟨rfl, rfl, by kernel_rfl, ⟨rfl, rfl, rfl, by decide +kernel, rfl, by decide +kernel, by decide +kernel⟩⟩
theorem ok_tupled : RowOk tab gvs [] r_tupled d_tupled := ⟨rfl, rfl, by kernel_rfl, ⟨rfl, rfl, rfl, by decide +kernel, rfl, by decide +kernel, by decide +kernel⟩⟩
theorem ok_power : RowOk tab gvs [] r_power d_power := ⟨rfl, rfl, by kernel_rfl, ⟨rfl, rfl, rfl, by decide +kernel, rfl, by decide +kernel, by decide +kernel⟩⟩
theorem ok_is_fall_in : RowOk tab gvs [] r_is_fall_in d_is_fall_in := ⟨rfl, rfl, by kernel_rfl, ⟨rfl, rfl, rfl, by decide +kernel, rfl, by decide +kernel, by decide +kernel⟩⟩
theorem ok_sure_sides : RowOk tab gvs [] r_sure_sides d_sure_sides := ⟨rfl, rfl, by kernel_rfl, ⟨rfl, rfl, rfl, by decide +kernel, rfl, by decide +kernel, by decide +kernel⟩⟩
theorem ok_is_prime : RowOk tab gvs [] r_is_prime d_is_prime := ⟨rfl, rfl, by kernel_rfl, ⟨rfl, rfl, rfl, by decide +kernel, rfl, by decide +kernel, by decide +kernel⟩⟩
theorem ok_sure_prime : RowOk tab gvs [] r_sure_prime d_sure_prime := ⟨rfl, rfl, by kernel_rfl, ⟨rfl, rfl, rfl, by decide +kernel, rfl, by decide +kernel, by decide +kernel⟩⟩
theorem ok_sure_group : RowOk tab gvs [] r_sure_group d_sure_group := ⟨rfl, rfl, by kernel_rfl, ⟨rfl, rfl, rfl, by decide +kernel, rfl, by decide +kernel, by decide +kernel⟩⟩
theorem ok_choices_in : RowOk tab gvs [] r_choices_in d_choices_in := ⟨rfl, rfl, by kernel_rfl, ⟨rfl, rfl, rfl, by decide +kernel, rfl, by decide +kernel, by decide +kernel⟩⟩
theorem ok_many_in : RowOk tab gvs [] r_many_in d_many_in := ⟨rfl, rfl, by kernel_rfl, ⟨rfl, rfl, rfl, by decide +kernel, rfl, by decide +kernel, by decide +kernel⟩⟩
theorem ok_rows_above : RowOk tab gvs [] r_rows_above d_rows_above := ⟨rfl, rfl, by kernel_rfl, ⟨rfl, rfl, rfl, by decide +kernel, rfl, by decide +kernel, by decide +kernel⟩⟩
theorem ok_is_within_fall : RowOk tab gvs [] r_is_within_fall d_is_within_fall := ⟨rfl, rfl, by kernel_rfl, ⟨rfl, rfl, rfl, by decide +kernel, rfl, by decide +kernel, by decide +kernel⟩⟩
theorem ok_how_many_subgroups : RowOk tab gvs [] r_how_many_subgroups d_how_many_subgroups := ⟨rfl, rfl, by kernel_rfl, ⟨rfl, rfl, rfl, by decide +kernel, rfl, by decide +kernel, by decide +kernel⟩⟩
theorem ok_subgroup_falls : RowOk tab gvs [] r_subgroup_falls d_subgroup_falls := ⟨rfl, rfl, by kernel_rfl, ⟨rfl, rfl, rfl, by decide +kernel, rfl, by decide +kernel, by decide +kernel⟩⟩
theorem ok_group_order : RowOk tab gvs [] r_group_order d_group_order := ⟨rfl, rfl, by kernel_rfl, ⟨rfl, rfl, rfl, by decide +kernel, rfl, by decide +kernel, by decide +kernel⟩⟩
theorem ok_law_box : RowOk tab gvs [] r_law_box d_law_box := ⟨rfl, rfl, by kernel_rfl, ⟨rfl, rfl, rfl, by decide +kernel, rfl, by decide +kernel, by decide +kernel⟩⟩
theorem ok_law_take : RowOk tab gvs [] r_law_take d_law_take := ⟨rfl, rfl, by kernel_rfl, ⟨rfl, rfl, rfl, by decide +kernel, rfl, by decide +kernel, by decide +kernel⟩⟩
theorem ok_law_cells : RowOk tab gvs [] r_law_cells d_law_cells := ⟨rfl, rfl, by kernel_rfl, ⟨rfl, rfl, rfl, by decide +kernel, rfl, by decide +kernel, by decide +kernel⟩⟩
theorem ok_law_of : RowOk tab gvs [] r_law_of d_law_of := ⟨rfl, rfl, by kernel_rfl, ⟨rfl, rfl, rfl, by decide +kernel, rfl, by decide +kernel, by decide +kernel⟩⟩
theorem ok_law_same : RowOk tab gvs [] r_law_same d_law_same := ⟨rfl, rfl, by kernel_rfl, ⟨rfl, rfl, rfl, by decide +kernel, rfl, by decide +kernel, by decide +kernel⟩⟩
theorem ok_law_flat : RowOk tab gvs [] r_law_flat d_law_flat := ⟨rfl, rfl, by kernel_rfl, ⟨rfl, rfl, rfl, by decide +kernel, rfl, by decide +kernel, by decide +kernel⟩⟩
theorem ok_law_fall : RowOk tab gvs [] r_law_fall d_law_fall := ⟨rfl, rfl, by kernel_rfl, ⟨rfl, rfl, rfl, by decide +kernel, rfl, by decide +kernel, by decide +kernel⟩⟩
theorem ok_law_product : RowOk tab gvs [] r_law_product d_law_product := ⟨rfl, rfl, by kernel_rfl, ⟨rfl, rfl, rfl, by decide +kernel, rfl, by decide +kernel, by decide +kernel⟩⟩
theorem ok_law_power : RowOk tab gvs [] r_law_power d_law_power := ⟨rfl, rfl, by kernel_rfl, ⟨rfl, rfl, rfl, by decide +kernel, rfl, by decide +kernel, by decide +kernel⟩⟩
theorem ok_law_gone : RowOk tab gvs [] r_law_gone d_law_gone := ⟨rfl, rfl, by kernel_rfl, ⟨rfl, rfl, rfl, by decide +kernel, rfl, by decide +kernel, by decide +kernel⟩⟩
theorem ok_law_pairs : RowOk tab gvs [] r_law_pairs d_law_pairs := ⟨rfl, rfl, by kernel_rfl, ⟨rfl, rfl, rfl, by decide +kernel, rfl, by decide +kernel, by decide +kernel⟩⟩
theorem ok_law : RowOk tab gvs [] r_law d_law := ⟨rfl, rfl, by kernel_rfl, ⟨rfl, rfl, rfl, by decide +kernel, rfl, by decide +kernel, by decide +kernel⟩⟩
theorem tbl : TblOk tab gvs [] D := ⟨fun i r h => by
  match i, h with
  | 0, h => cases h; exact ⟨_, rfl, ok_is_number⟩
  | 1, h => cases h; exact ⟨_, rfl, ok_is_within⟩
  | 2, h => cases h; exact ⟨_, rfl, ok_are_numbers⟩
  | 3, h => cases h; exact ⟨_, rfl, ok_tupled⟩
  | 4, h => cases h; exact ⟨_, rfl, ok_power⟩
  | 5, h => cases h; exact ⟨_, rfl, ok_is_fall_in⟩
  | 6, h => cases h; exact ⟨_, rfl, ok_sure_sides⟩
  | 7, h => cases h; exact ⟨_, rfl, ok_is_prime⟩
  | 8, h => cases h; exact ⟨_, rfl, ok_sure_prime⟩
  | 9, h => cases h; exact ⟨_, rfl, ok_sure_group⟩
  | 10, h => cases h; exact ⟨_, rfl, ok_choices_in⟩
  | 11, h => cases h; exact ⟨_, rfl, ok_many_in⟩
  | 12, h => cases h; exact ⟨_, rfl, ok_rows_above⟩
  | 13, h => cases h; exact ⟨_, rfl, ok_is_within_fall⟩
  | 14, h => cases h; exact ⟨_, rfl, ok_how_many_subgroups⟩
  | 15, h => cases h; exact ⟨_, rfl, ok_subgroup_falls⟩
  | 16, h => cases h; exact ⟨_, rfl, ok_group_order⟩
  | 17, h => cases h; exact ⟨_, rfl, ok_law_box⟩
  | 18, h => cases h; exact ⟨_, rfl, ok_law_take⟩
  | 19, h => cases h; exact ⟨_, rfl, ok_law_cells⟩
  | 20, h => cases h; exact ⟨_, rfl, ok_law_of⟩
  | 21, h => cases h; exact ⟨_, rfl, ok_law_same⟩
  | 22, h => cases h; exact ⟨_, rfl, ok_law_flat⟩
  | 23, h => cases h; exact ⟨_, rfl, ok_law_fall⟩
  | 24, h => cases h; exact ⟨_, rfl, ok_law_product⟩
  | 25, h => cases h; exact ⟨_, rfl, ok_law_power⟩
  | 26, h => cases h; exact ⟨_, rfl, ok_law_gone⟩
  | 27, h => cases h; exact ⟨_, rfl, ok_law_pairs⟩
  | 28, h => cases h; exact ⟨_, rfl, ok_law⟩
  | i + 29, h => simp [tab] at h⟩
end K62
set_option Elab.async false
set_option linter.all false
set_option maxRecDepth 100000
set_option maxHeartbeats 1000000
/-! K62b: what the small defs yield. -/
namespace K62
open Ev

theorem lim_of {n : Nat} (h : n ≤ 1000) : n ≤ lim := Nat.le_trans h (by decide)
theorem run_is_number {d : Nat} (hd : 1 ≤ d) (i : Int) (S : Sto) : run D 0 d 0 [.int i] S = .ok (.bl true) S := by
  obtain ⟨e, rfl⟩ := at1 hd
  rw [run_succ (fd := d_is_number) rfl rfl]
  simp [d_is_number, evSs, evS, evE, getR, optR, R.bind, R.toS, truU, vtU, rd, Vt.is]
theorem run_is_within {d : Nat} (hd : 2 ≤ d) (i a b : Int) (S : Sto) : run D 0 d 1 [.int i, .int a, .int b] S = .ok (.bl (decide (a ≤ i) && decide (i ≤ b))) S := by
  obtain ⟨e, rfl⟩ := at1 (by omega : 1 ≤ d)
  rw [run_succ (fd := d_is_within) rfl rfl]
  have h1 := run_is_number (d := e) (by omega) i S
  simp only [d_is_within, evSs, evS, evE, evEs, getR, optR, R.bind, R.toS, truU, rd, cmpU]
  simp [h1, R.bind, R.toS, truU, rd, optR]
  by_cases h : a ≤ i <;> simp [h, R.toS]
theorem run_are_numbers {d : Nat} (hd : 2 ≤ d) (xs : List Int) (hl : xs.length ≤ 1000) (S : Sto) : run D 0 d 2 [.tup (xs.map U.int)] S = .ok (.bl true) S := by
  obtain ⟨e, rfl⟩ := at1 (by omega : 1 ≤ d)
  refine run_rt (fd := d_are_numbers) rfl rfl (s_rt (st_ret (e_and (S1 := S) (by simp [evE, getR, optR, R.bind, vtU, rd, Vt.is]) ?_)))
  refine e_bi1 (e_qv (q_comp (i_tup (e_var rfl)) (lim_of (by simpa using hl)) (compL_map (g := fun _ => .bl true) fun x _ => c_nm rfl (e_call1 (e_var rfl) (run_is_number (by omega) x S))))) ?_
  simp [biU, rd, blsOf_map]
theorem run_tupled_int {d : Nat} (hd : 1 ≤ d) (i : Int) (S : Sto) : run D 0 d 3 [.int i] S = .ok (.int i) S := by
  obtain ⟨e, rfl⟩ := at1 hd
  rw [run_succ (fd := d_tupled) rfl rfl]
  simp [d_tupled, evSs, evS, evE, getR, optR, R.bind, R.toS, truU, vtU, rd, Vt.is]
theorem run_tupled {d : Nat} (hd : 2 ≤ d) (xs : List Int) (hl : xs.length ≤ 1000) (S : Sto) : run D 0 d 3 [.tup (xs.map U.int)] S = .ok (.tup (xs.map U.int)) S := by
  obtain ⟨e, rfl⟩ := at1 (by omega : 1 ≤ d)
  refine run_rt (fd := d_tupled) rfl rfl (s_rt (st_ret (e_iteT (S1 := S) (by simp [evE, getR, optR, R.bind, vtU, rd, Vt.is]) ?_)))
  refine e_bi1 (e_qv (q_comp (i_tup (e_var rfl)) (lim_of (by simpa using hl)) (compL_map (g := U.int) fun x _ => c_nm rfl (e_call1 (e_var rfl) (run_tupled_int (by omega) x S))))) ?_
  simp [biU, rd, seqOf]
theorem run_power {d : Nat} (hd : 1 ≤ d) (p : Int) (k : Nat) (hp : -(2 ^ 64) < p) (hp2 : p < 2 ^ 64) (hk : k < 2 ^ 62) (S : Sto) : run D 0 d 4 [.int p, .int k] S = .ok (.int (p ^ k)) S := by
  obtain ⟨e, rfl⟩ := at1 hd
  obtain ⟨ρ', S', h1, h2⟩ := forL_inv (step := stepF (evT (run D 0 e) (.nm 3)) (evSs (run D 0 e) 0 [.set (.nm 2) (.bin .mul (.var 2) (.var 0))])) (fun i ρ S' => S' = S ∧ ∃ y, ρ = [some (.int p), some (.int k), some (.int (p ^ i)), y])
    (iotaU 0 k) 0 [some (.int p), some (.int k), some (.int 1), none] S ⟨rfl, none, by simp⟩ (fun i x ρ S' hx ⟨e1, y, e2⟩ => by
      subst e1 e2
      refine ⟨_, _, stepF_nm rfl (s_nx (st_nm (e_bin (z := .int (p ^ (0 + i) * p)) (e_var rfl) (e_var rfl) ?_) rfl) s_nil), rfl, some x, ?_⟩
      · simp [binU, mulU, rd, mul_r hp hp2]
      · simp [Int.pow_succ])
  obtain ⟨rfl, y, rfl⟩ := h2
  refine run_rt (fd := d_power) rfl rfl (s_nx (st_nm e_cst rfl) (s_nx (st_fo (i_rng1 (j := k) (e_var rfl) (small_i (by omega) (by omega))) h1) (s_rt (st_ret (e_var ?_)))))
  rw [iota_len, Nat.zero_add]; rfl
/-- none above the one ahead -/
abbrev Fall (xs : List Int) : Prop := xs.Pairwise fun a b => b ≤ a
theorem Fall.at {xs : List Int} (h : Fall xs) {i : Nat} (hi : i + 1 < xs.length) : xs[i + 1] ≤ xs[i] := (List.pairwise_iff_getElem.mp h) i (i + 1) (by omega) hi (by omega)
theorem mapI {xs : List Int} {i : Nat} (h : i < xs.length) : (xs.map U.int)[i]? = some (.int xs[i]) := by rw [List.getElem?_map, List.getElem?_eq_getElem h]; rfl
theorem run_is_fall {d : Nat} (hd : 3 ≤ d) (xs : List Int) (hl : xs.length ≤ 1000) (hne : xs ≠ []) (hf : Fall xs) (S : Sto) : run D 0 d 5 [.tup (xs.map U.int)] S = .ok (.bl true) S := by
  obtain ⟨e, rfl⟩ := at1 (by omega : 1 ≤ d)
  have hp : 0 < xs.length := List.length_pos_iff.mpr hne
  refine run_rt (fd := d_is_fall_in) rfl rfl (s_rt (st_ret (e_and (e_call1 (e_var rfl) (run_are_numbers (by omega) xs hl S)) (e_and (S1 := S) (e_cmp (k := true) (e_var rfl) (e_tup es_nil) ?_) ?_))))
  · have := eqV_tups xs []
    show (eqV? (.tup (xs.map U.int)) (.tup [])).map (!·) = some true
    rw [show (U.tup []) = .tup (([] : List Int).map U.int) from rfl, this]
    simp [hne]
  · have hlen : evE (run D 0 e) (.bin .sub (.bi .len [.var 0]) (.cst (.int 1))) [some (.tup (xs.map U.int)), none] S = .ok (.int ((xs.length : Int) - 1)) S := by
      refine e_bin (e_bi1 (v := .int xs.length) (e_var rfl) ?_) e_cst rfl
      simp [biU, seqOf, rd]
    refine e_bi1 (e_qv (q_comp (us := iotaU 0 ((xs.length : Int) - 1).toNat) (ys := (List.range ((xs.length : Int) - 1).toNat).map fun _ => .bl true) (i_rng1 hlen (small_i (by omega) (by omega))) (by rw [iota_len]; exact lim_of (by omega)) ?_)) ?_
    · rw [iota_map]
      refine compL_map fun i hi => ?_
      have hi : i + 1 < xs.length := by have := List.mem_range.mp hi; omega
      refine c_nm rfl (e_cmp (e_ix (z := .int xs[i]) (e_var rfl) (e_var rfl) ?_) (e_ix (z := .int xs[i + 1]) (e_var rfl) (e_bin (e_var rfl) e_cst rfl) ?_) ?_)
      · rw [Int.zero_add]; exact ix_tup (mapI (by omega))
      · rw [Int.zero_add]; exact ix_tup (i := i + 1) (mapI hi)
      · simp only [cmpU]; rw [decide_eq_true (hf.at hi)]
    · simp [biU, rd, blsOf_map]
end K62

set_option Elab.async false
set_option linter.all false
set_option maxRecDepth 100000
set_option maxHeartbeats 1000000
/-! K62c: groups: sure ones, rows above, powers. -/
namespace K62
open Ev
abbrev Good (p : Int) : Prop := p = 2 ∨ p = 3 ∨ p = 5 ∨ p = 31 ∨ p = 97
theorem run_sure_sides {d : Nat} (hd : 3 ≤ d) (n : Int) (h1 : 1 ≤ n) (h6 : n ≤ 6) (S : Sto) : run D 0 d 6 [.int n] S = .ok (.int n) S := by
  obtain ⟨e, rfl⟩ := at1 (by omega : 1 ≤ d)
  refine run_rt (fd := d_sure_sides) rfl rfl (s_nx (st_ifF (e_not (b := true) (e_call3 (e_var rfl) e_cst e_cst ?_)) rfl s_nil) (s_rt (st_ret (e_var rfl))))
  rw [run_is_within (by omega), decide_eq_true h1, decide_eq_true h6]
  rfl
theorem run_is_prime {d : Nat} (hd : 2 ≤ d) (p : Int) (h : Good p) (S : Sto) : run D 0 d 7 [.int p] S = .ok (.bl true) S := by
  obtain ⟨e, rfl⟩ := at1 (by omega : 1 ≤ d)
  have h2 : 2 ≤ p := by rcases h with h | h | h | h | h <;> omega
  have h97 : p ≤ 97 := by rcases h with h | h | h | h | h <;> omega
  have hp : (List.range (p - 2).toNat).all (fun (i : Nat) => decide (p % (2 + (i : Int)) ≠ 0)) = true := by
    rcases h with rfl | rfl | rfl | rfl | rfl <;> decide +kernel
  refine run_rt (fd := d_is_prime) rfl rfl (s_nx (st_ifF (u := .bl false) (S1 := S) (e_or (e_not (b := true) (e_call1 (e_var rfl) (run_is_number (by omega) p S))) ?_) rfl s_nil) (s_rt (st_ret ?_)))
  · refine e_not (b := true) ?_
    rw [ev_ch2]
    simp [evE, getR, optR, R.bind, cmpU, h2, h97]
  · refine e_bi1 (e_qv (q_comp (us := iotaU 2 (p - 2).toNat) (ys := (List.range (p - 2).toNat).map fun (i : Nat) => .bl (decide (p % (2 + (i : Int)) ≠ 0))) (i_rng2 e_cst (e_var rfl) rfl (small_i (by omega) (by omega))) (by rw [iota_len]; exact lim_of (by omega)) ?_)) ?_
    · rw [iota_map]
      refine compL_map fun i hi => c_nm rfl (e_cmp (e_bin (z := .int (p % (2 + (i : Int)))) (e_var rfl) (e_var rfl) ?_) e_cst ?_)
      · simp only [binU, int2, rd]
        rw [if_pos (by omega)]
      · show (eqV? (.int _) (.int 0)).map (!·) = _
        rw [eqV_ints]
        simp
    · simp only [biU, rd]
      rw [blsOf_map]
      simp only [Option.map_some]
      rw [List.all_map] 
      simp only [Function.comp_def, id]
      rw [hp]
theorem run_sure_prime {d : Nat} (hd : 3 ≤ d) (p : Int) (h : Good p) (S : Sto) : run D 0 d 8 [.int p] S = .ok (.int p) S := by
  obtain ⟨e, rfl⟩ := at1 (by omega : 1 ≤ d)
  exact run_rt (fd := d_sure_prime) rfl rfl (s_nx (st_ifF (e_not (b := true) (e_call1 (e_var rfl) (run_is_prime (by omega) p h S))) rfl s_nil) (s_rt (st_ret (e_var rfl))))
/-- falls from 0 of one to six numbers -/
structure Grp (xs : List Int) : Prop where
  len : xs.length ≤ 6
  ne : xs ≠ []
  fall : Fall xs
  low : ∀ x ∈ xs, 0 ≤ x
theorem getLast_of {xs : List Int} (h : xs ≠ []) : (xs.map U.int).getLast? = some (.int (xs.getLast h)) := by
  rw [List.getLast?_map, List.getLast?_eq_some_getLast h]; rfl
theorem neg1 {F : Nat → List U → Sto → R U} {ρ : Rho} {S : Sto} : evE F (.bin .sub (.cst (.int 0)) (.cst (.int 1))) ρ S = .ok (.int (-1)) S := e_bin e_cst e_cst rfl
theorem run_sure_group {d : Nat} (hd : 4 ≤ d) (p : Int) (h : Good p) {xs : List Int} (g : Grp xs) (S : Sto) : run D 0 d 9 [.int p, .tup (xs.map U.int)] S = .ok (.tup [.int p, .tup (xs.map U.int)]) S := by
  obtain ⟨e, rfl⟩ := at1 (by omega : 1 ≤ d)
  have hl : xs.length ≤ 1000 := Nat.le_trans g.len (by decide)
  have hp : 0 < xs.length := List.length_pos_iff.mpr g.ne
  refine run_rt (fd := d_sure_group) rfl rfl (s_nx (st_par (es_cons (e_call1 (e_var rfl) (run_sure_prime (by omega) p h S)) (es_cons (e_call1 (e_var rfl) (run_tupled (by omega) xs hl S)) es_nil)) rfl rfl)
    (s_nx (st_ifF (u := .bl false) (S1 := S) (e_or (e_not (b := true) (e_call1 (e_var rfl) (run_is_fall (by omega) xs hl g.ne g.fall S))) (e_cmp (e_ix (z := .int (xs.getLast g.ne)) (e_var rfl) neg1 (ix_last (getLast_of g.ne))) e_cst ?_)) rfl s_nil)
      (s_nx (st_ex (u := .int xs.length) (e_call1 (u := .int xs.length) (e_bi1 (e_var rfl) ?_) (run_sure_sides (by omega) _ (by omega) (by have := g.len; omega) S))) (s_rt (st_ret (e_tup (es_cons (e_var rfl) (es_cons (e_var rfl) es_nil))))))))
  · have := g.low _ (List.getLast_mem g.ne)
    simp only [cmpU]
    rw [decide_eq_false (by omega)]
  · simp [biU, seqOf, rd]
/-- how many numbers are above s -/
def ab (xs : List Int) (s : Int) : Nat := (xs.filter fun x => decide (s < x)).length
theorem run_rows_above {d : Nat} (hd : 1 ≤ d) (xs : List Int) (hl : xs.length ≤ 1000) (s : Int) (S : Sto) : run D 0 d 12 [.tup (xs.map U.int), .int s] S = .ok (.int (ab xs s)) S := by
  obtain ⟨e, rfl⟩ := at1 (by omega : 1 ≤ d)
  refine run_rt (fd := d_rows_above) rfl rfl (s_rt (st_ret (e_bi1 (e_qv (q_comp (ys := (xs.filter fun x => decide (s < x)).map U.int) (i_tup (e_var rfl)) (lim_of (by simpa using hl)) ?_)) ?_)))
  · exact compL_filter fun x _ => c_nmI rfl (e_cmp (e_var rfl) (e_var rfl) rfl) (e_var rfl)
  · simp [biU, seqOf, rd, ab]
end K62
set_option Elab.async false
set_option linter.all false
set_option maxRecDepth 100000
set_option maxHeartbeats 1000000
/-! K62d: how many parts, how many subgroups. -/
namespace K62
open Ev
def ups (p : Int) (m : Nat) : Nat → Int
  | 0 => 1
  | k + 1 => ups p m k * (p ^ (m - k) - 1)
def los (p : Int) : Nat → Int
  | 0 => 1
  | k + 1 => los p k * (p ^ (k + 1) - 1)
def chs (p : Int) (m k : Nat) : Int := ups p m k / los p k
theorem good_pow {p : Int} (h : Good p) : ∀ j, j ≤ 9 → 0 < p ^ j ∧ p ^ j < 2 ^ 64 := by
  intro j hj
  have : ∀ j : Nat, j < 10 → (0 < p ^ j ∧ p ^ j < 2 ^ 64) := by
    rcases h with rfl | rfl | rfl | rfl | rfl <;> decide +kernel
  exact this j (by omega)
theorem los_ok {p : Int} (h : Good p) : ∀ k, k ≤ 6 → 0 < los p k ∧ (los p k).natAbs.log2 < 9000 := by
  intro k hk
  have : ∀ k : Nat, k < 7 → (0 < los p k ∧ (los p k).natAbs.log2 < 9000) := by
    rcases h with rfl | rfl | rfl | rfl | rfl <;> decide +kernel
  exact this k (by omega)
theorem chs_ok {p : Int} (h : Good p) : ∀ m k, m ≤ 6 → k ≤ m → -(2 ^ 64) < chs p m k ∧ chs p m k < 2 ^ 64 := by
  intro m k hm hk
  have : ∀ m : Nat, m < 7 → ∀ k : Nat, k < 7 → (-(2 ^ 64) < chs p m k ∧ chs p m k < 2 ^ 64) := by
    rcases h with rfl | rfl | rfl | rfl | rfl <;> decide +kernel
  exact this m (by omega) k (by omega)
theorem good_b {p : Int} (h : Good p) : -(2 ^ 64) < p ∧ p < 2 ^ 64 := by rcases h with h | h | h | h | h <;> omega
theorem run_choices {d : Nat} (hd : 2 ≤ d) {p : Int} (hp : Good p) (m k : Nat) (hm : m ≤ 6) (hk : k ≤ m) (S : Sto) : run D 0 d 10 [.int p, .int m, .int k] S = .ok (.int (chs p m k)) S := by
  obtain ⟨e, rfl⟩ := at1 (by omega : 1 ≤ d)
  obtain ⟨b1, b2⟩ := good_b hp
  obtain ⟨ρ', S', h1, h2⟩ := forL_inv (step := stepF (evT (run D 0 e) (.nm 3)) (evSs (run D 0 e) 0 [.set (.nm 4) (.bin .mul (.var 4) (.bin .sub (.call 4 [.var 0, .bin .sub (.var 1) (.var 3)]) (.cst (.int 1)))), .set (.nm 5) (.bin .mul (.var 5) (.bin .sub (.call 4 [.var 0, .bin .add (.var 3) (.cst (.int 1))]) (.cst (.int 1))))]))
    (fun i ρ S' => S' = S ∧ i ≤ k ∧ ∃ y, ρ = [some (.int p), some (.int m), some (.int k), y, some (.int (ups p m i)), some (.int (los p i))])
    (iotaU 0 k) 0 [some (.int p), some (.int m), some (.int k), none, some (.int 1), some (.int 1)] S ⟨rfl, Nat.zero_le _, none, rfl⟩ (fun i x ρ S' hx ⟨e1, hi, y, e2⟩ => by
      subst e1 e2
      obtain ⟨hi, rfl⟩ := iota_at hx
      rw [Nat.zero_add] at *
      obtain ⟨c1, c2⟩ := good_pow hp (m - i) (by omega)
      obtain ⟨c3, c4⟩ := good_pow hp (i + 1) (by omega)
      refine ⟨_, _, stepF_nm rfl (s_nx (st_nm (e_bin (z := .int (ups p m i * (p ^ (m - i) - 1))) (e_var rfl) (e_bin (z := .int (p ^ (m - i) - 1)) (e_call2 (v := .int ((m - i : Nat) : Int)) (e_var rfl) (e_bin (e_var rfl) (e_var rfl) ?_) (run_power (by omega) p (m - i) b1 b2 (by omega) S')) e_cst rfl) ?_) rfl)
        (s_nx (st_nm (e_bin (z := .int (los p i * (p ^ (i + 1) - 1))) (e_var rfl) (e_bin (z := .int (p ^ (i + 1) - 1)) (e_call2 (v := .int ((i + 1 : Nat) : Int)) (e_var rfl) (e_bin (e_var rfl) e_cst ?_) (run_power (by omega) p (i + 1) b1 b2 (by omega) S')) e_cst rfl) ?_) rfl) s_nil)), rfl, by omega, some (.int (0 + (i : Int))), ?_⟩
      · simp only [binU, int2, rd]
        congr 2
        omega
      · simp only [binU, mulU, rd]
        rw [if_pos (mul_r (by omega) (by omega))]
      · simp only [binU, addU, rd]
        congr 2
        omega
      · simp only [binU, mulU, rd]
        rw [if_pos (mul_r (by omega) (by omega))]
      · rfl)
  obtain ⟨rfl, _, y, rfl⟩ := h2
  rw [iota_len, Nat.zero_add] at h1
  obtain ⟨l1, l2⟩ := los_ok hp k (by omega)
  refine run_rt (fd := d_choices_in) rfl rfl (s_nx (st_set (e_tup (es_cons e_cst (es_cons e_cst es_nil))) (t_two rfl rfl)) (s_nx (st_fo (i_rng1 (j := k) (e_var rfl) (small_i (by omega) (by omega))) h1) (s_rt (st_ret (e_bin (e_var rfl) (e_var rfl) ?_)))))
  simp only [binU, int2, rd]
  rw [if_pos ⟨l1, l2⟩]
  rfl
end K62
set_option Elab.async false
set_option linter.all false
set_option maxRecDepth 100000
set_option maxHeartbeats 1000000
/-! K62e: how many subgroups. -/
namespace K62
open Ev
def mny (p : Int) (l m : List Int) : Nat → Int
  | 0 => 1
  | n + 1 => mny p l m n * p ^ (ab m (n + 1) * (ab l n - ab m n)) * chs p (ab l n - ab m (n + 1)) (ab m n - ab m (n + 1))
theorem ab_le (xs : List Int) (s : Int) : ab xs s ≤ xs.length := List.length_filter_le _ _
theorem ab_mono (xs : List Int) {s t : Int} (h : s ≤ t) : ab xs t ≤ ab xs s := by
  unfold ab
  induction xs with
  | nil => simp
  | cons x xs ih =>
    simp only [List.filter_cons]
    by_cases h1 : t < x
    · rw [if_pos (by simpa using h1), if_pos (by simp; omega)]
      simpa using ih
    · rw [if_neg (by simpa using h1)]
      split
      · simp; omega
      · exact ih
theorem exp9 {L N F : Nat} (h1 : L ≤ N) (h2 : N ≤ F) (h3 : F ≤ 6) : L * (F - N) ≤ 9 := by
  have : ∀ L : Nat, L < 7 → ∀ N : Nat, N < 7 → ∀ F : Nat, F < 7 → L ≤ N → N ≤ F → L * (F - N) ≤ 9 := by decide
  exact this L (by omega) N (by omega) F (by omega) h1 h2
theorem run_many {d : Nat} (hd : 3 ≤ d) {p : Int} (hp : Good p) {l m : List Int} (hl : l.length ≤ 6) (hm : m.length ≤ 6) (n : Nat) (h0 : l[0]? = some (n : Int)) (hn : n ≤ 1000) (hs : ∀ s : Nat, ab m s ≤ ab l s) (S : Sto) :
    run D 0 d 11 [.int p, .tup (l.map U.int), .tup (m.map U.int)] S = .ok (.int (mny p l m n)) S := by
  obtain ⟨e, rfl⟩ := at1 (by omega : 1 ≤ d)
  obtain ⟨b1, b2⟩ := good_b hp
  have hl' : l.length ≤ 1000 := by omega
  have hm' : m.length ≤ 1000 := by omega
  obtain ⟨ρ', S', h1, h2⟩ := forL_inv (step := stepF (evT (run D 0 e) (.nm 4)) (evSs (run D 0 e) 0 [.par [6, 7] [.call 12 [.var 1, .var 4], .call 12 [.var 2, .var 4]], .set (.nm 5) (.call 12 [.var 2, .bin .add (.var 4) (.cst (.int 1))]), .set (.nm 3) (.bin .mul (.bin .mul (.var 3) (.call 4 [.var 0, .bin .mul (.var 5) (.bin .sub (.var 6) (.var 7))])) (.call 10 [.var 0, .bin .sub (.var 6) (.var 5), .bin .sub (.var 7) (.var 5)]))]))
    (fun i ρ S' => S' = S ∧ i ≤ n ∧ ∃ y z a b, ρ = [some (.int p), some (.tup (l.map U.int)), some (.tup (m.map U.int)), some (.int (mny p l m i)), y, z, a, b])
    (iotaU 0 n) 0 [some (.int p), some (.tup (l.map U.int)), some (.tup (m.map U.int)), some (.int 1), none, none, none, none] S ⟨rfl, Nat.zero_le _, none, none, none, none, rfl⟩ (fun i x ρ S' hx ⟨e1, hi, y, z, a, b, e2⟩ => by
      subst e1 e2
      obtain ⟨hi, rfl⟩ := iota_at hx
      rw [Nat.zero_add] at *
      have q1 : ab m ((i : Int) + 1) ≤ ab m i := ab_mono m (by omega)
      have q2 := hs i
      have q3 : ab l i ≤ 6 := Nat.le_trans (ab_le l i) hl
      have q4 := exp9 q1 q2 q3
      obtain ⟨c1, c2⟩ := good_pow hp _ q4
      obtain ⟨c3, c4⟩ := chs_ok hp (ab l i - ab m ((i : Int) + 1)) (ab m i - ab m ((i : Int) + 1)) (by omega) (by omega)
      refine ⟨_, _, stepF_nm rfl (s_nx (st_par (es_cons (e_call2 (e_var rfl) (e_var rfl) (run_rows_above (by omega) l hl' (0 + (i : Int)) S')) (es_cons (e_call2 (e_var rfl) (e_var rfl) (run_rows_above (by omega) m hm' (0 + (i : Int)) S')) es_nil)) rfl rfl)
        (s_nx (st_nm (e_call2 (e_var rfl) (e_bin (e_var rfl) e_cst rfl) (run_rows_above (by omega) m hm' (0 + (i : Int) + 1) S')) rfl)
        (s_nx (st_nm (e_bin (z := .int (mny p l m (i + 1))) (e_bin (z := .int (mny p l m i * p ^ (ab m ((i : Int) + 1) * (ab l i - ab m i)))) (e_var rfl) (e_call2 (v := .int ((ab m ((i : Int) + 1) * (ab l i - ab m i) : Nat) : Int)) (e_var rfl) (e_bin (z := .int ((ab m ((i : Int) + 1) * (ab l i - ab m i) : Nat) : Int)) (e_var rfl) (e_bin (e_var rfl) (e_var rfl) rfl) ?_) (run_power (by omega) p _ b1 b2 (by omega) S')) ?_)
          (e_call3 (v := .int ((ab l i - ab m ((i : Int) + 1) : Nat) : Int)) (z := .int ((ab m i - ab m ((i : Int) + 1) : Nat) : Int)) (e_var rfl) (e_bin (e_var rfl) (e_var rfl) ?_) (e_bin (e_var rfl) (e_var rfl) ?_) (run_choices (by omega) hp _ _ (by omega) (by omega) S')) ?_) rfl) s_nil))), rfl, by omega, _, _, _, _, rfl⟩
      · have e0 : (0 : Int) + (i : Int) = ((i : Nat) : Int) := by omega
        simp only [e0]
        simp only [binU, mulU, rd]
        rw [if_pos (mul_r (by omega) (by omega))]
        congr 2
        rw [Int.natCast_mul, Int.natCast_sub q2]
      · simp only [binU, mulU, rd]
        rw [if_pos (mul_r (by omega) (by omega))]
      · have e0 : (0 : Int) + (i : Int) = ((i : Nat) : Int) := by omega
        simp only [e0, binU, int2, rd]
        congr 2
        omega
      · have e0 : (0 : Int) + (i : Int) = ((i : Nat) : Int) := by omega
        simp only [e0, binU, int2, rd]
        congr 2
        omega
      · simp only [binU, mulU, rd]
        rw [if_pos (mul_r (by omega) (by omega))]
        rfl)
  obtain ⟨rfl, _, y, z, a, b, rfl⟩ := h2
  rw [iota_len, Nat.zero_add] at h1
  have hi0 : (l.map U.int)[0]? = some (.int (n : Int)) := by rw [List.getElem?_map, h0]; rfl
  exact run_rt (fd := d_many_in) rfl rfl (s_nx (st_nm e_cst rfl) (s_nx (st_fo (i_rng1 (j := n) (e_ix (e_var rfl) e_cst (ix_tup (i := 0) hi0)) (small_i (by omega) (by omega))) h1) (s_rt (st_ret (e_var rfl)))))
/-- is one nowhere above the other -/
theorem run_within {d : Nat} (hd : 1 ≤ d) {l m : List Int} (hl : l.length ≤ 1000) (hm : m ≠ []) (S : Sto) :
    run D 0 d 13 [.tup (l.map U.int), .tup (m.map U.int)] S = .ok (.bl (decide (0 ≤ m.getLast hm) && (l.zip m).all fun q => decide (q.2 ≤ q.1))) S := by
  obtain ⟨e, rfl⟩ := at1 (by omega : 1 ≤ d)
  by_cases h : 0 ≤ m.getLast hm
  · rw [decide_eq_true h, Bool.true_and]
    refine run_rt (fd := d_is_within_fall) rfl rfl (s_rt (st_ret (e_and (S1 := S) (e_cmp (k := true) (e_ix (e_var rfl) neg1 (ix_last (getLast_of hm))) e_cst ?_) (e_bi1 (e_qv (q_comp (S1 := S) (us := (l.zip m).map fun q => U.tup [.int q.1, .int q.2]) (ys := (l.zip m).map fun q => .bl (decide (q.2 ≤ q.1))) ?_ ?_ ?_)) ?_))))
    · simp only [cmpU]; rw [decide_eq_true h]
    · rw [evI, e_var rfl]; dsimp only [R.bind]
      rw [e_var rfl]; dsimp only [R.bind]
      rw [zip_ints]
    · rw [List.length_map]
      refine lim_of (Nat.le_trans ?_ hl)
      rw [List.length_zip]; omega
    · exact compL_map fun q _ => c_two rfl rfl (e_cmp (e_var rfl) (e_var rfl) rfl)
    · simp only [biU, rd]
      rw [blsOf_map]
      simp [List.all_map, Function.comp_def]
  · rw [decide_eq_false h, Bool.false_and]
    refine run_rt (fd := d_is_within_fall) rfl rfl (s_rt (st_ret (e_andF (e_cmp (k := false) (e_ix (e_var rfl) neg1 (ix_last (getLast_of hm))) e_cst ?_))))
    simp only [cmpU]; rw [decide_eq_false h]
theorem run_group_order {d : Nat} (hd : 5 ≤ d) {p : Int} (hp : Good p) {l : List Int} (g : Grp l) (k : Nat) (hk : l.sum = (k : Int)) (hk2 : k < 2 ^ 62) (S : Sto) : run D 0 d 16 [.int p, .tup (l.map U.int)] S = .ok (.int (p ^ k)) S := by
  obtain ⟨e, rfl⟩ := at1 (by omega : 1 ≤ d)
  obtain ⟨b1, b2⟩ := good_b hp
  refine run_rt (fd := d_group_order) rfl rfl (s_nx (st_set (e_call2 (e_var rfl) (e_var rfl) (run_sure_group (by omega) p hp g S)) (t_two rfl rfl)) (s_rt (st_ret (e_call2 (v := .int (k : Int)) (e_var rfl) (e_bi1 (e_var rfl) ?_) (run_power (by omega) p k b1 b2 hk2 S)))))
  simp only [biU, seqOf, rd]
  rw [intsOf_int, Option.map_some, hk]
/-- what how_many_subgroups is for falls of as many numbers -/
def hmny (p : Int) (l m : List Int) (n : Nat) : Int := if (l.zip m).all (fun q => decide (q.2 ≤ q.1)) = true then mny p l m n else 0
theorem ab_sub : ∀ {l m : List Int}, l.length = m.length → (l.zip m).all (fun q => decide (q.2 ≤ q.1)) = true → ∀ s : Int, ab m s ≤ ab l s
  | [], [], _, _, _ => Nat.le_refl _
  | [], _ :: _, h, _, _ => by simp at h
  | _ :: _, [], h, _, _ => by simp at h
  | x :: l, y :: m, h, ha, s => by
    simp only [List.zip_cons_cons, List.all_cons, Bool.and_eq_true, decide_eq_true_eq] at ha
    have ih := ab_sub (l := l) (m := m) (by simpa using h) ha.2 s
    unfold ab at *
    simp only [List.filter_cons]
    by_cases h1 : s < y
    · rw [if_pos (by simpa using h1), if_pos (by simp; omega)]
      simpa using ih
    · rw [if_neg (by simpa using h1)]
      split
      · simp; omega
      · exact ih
theorem run_how_many {d : Nat} (hd : 5 ≤ d) {p : Int} (hp : Good p) {l m : List Int} (g : Grp l) (hm : Fall m) (hlen : m.length = l.length) (hlow : ∀ h : m ≠ [], 0 ≤ m.getLast h) (n : Nat) (h0 : l[0]? = some (n : Int)) (hn : n ≤ 1000) (S : Sto) :
    run D 0 d 14 [.int p, .tup (l.map U.int), .tup (m.map U.int)] S = .ok (.int (hmny p l m n)) S := by
  obtain ⟨e, rfl⟩ := at1 (by omega : 1 ≤ d)
  have hm6 : m.length ≤ 6 := by have := g.len; omega
  have hmne : m ≠ [] := fun z => g.ne (List.eq_nil_of_length_eq_zero (by rw [← hlen, z]; rfl))
  have hi0 : (l.map U.int)[0]? = some (.int (n : Int)) := by rw [List.getElem?_map, h0]; rfl
  have hlast := hlow hmne
  refine run_rt (fd := d_how_many_subgroups) rfl rfl (s_nx (st_set (e_call2 (e_var rfl) (e_var rfl) (run_sure_group (by omega) p hp g S)) (t_two rfl rfl)) (s_nx (st_nm (e_call1 (e_var rfl) (run_tupled (by omega) m (by omega) S)) rfl)
    (s_nx (st_ifF (u := .bl false) (S1 := S) (e_or (e_not (b := true) (e_call1 (e_var rfl) (run_is_fall (by omega) m (by omega) hmne hm S))) (e_or (S1 := S) (e_cmp (k := false) (e_bi1 (v := .int m.length) (e_var rfl) ?_) (e_bi1 (v := .int l.length) (e_var rfl) ?_) ?_) (e_cmp (e_ix (e_var rfl) e_cst (ix_tup (i := 0) hi0)) e_cst ?_))) rfl s_nil) (s_rt (st_ret ?_)))))
  · simp [biU, seqOf, rd]
  · simp [biU, seqOf, rd]
  · show (eqV? (.int _) (.int _)).map (!·) = _
    rw [eqV_ints, hlen]
    simp
  · simp only [cmpU]; rw [decide_eq_false (by omega)]
  · have hw := run_within (d := e) (by omega) (l := l) (m := m) (by have := g.len; omega) hmne S
    rw [decide_eq_true hlast, Bool.true_and] at hw
    unfold hmny
    split
    · rename_i hall
      rw [hall] at hw
      exact e_iteT (e_call2 (e_var rfl) (e_var rfl) hw) (e_call3 (e_var rfl) (e_var rfl) (e_var rfl) (run_many (by omega) hp g.len hm6 n h0 hn (fun s => ab_sub hlen.symm hall s) S))
    · rename_i hall
      have hall : (l.zip m).all (fun q => decide (q.2 ≤ q.1)) = false := by simpa using hall
      rw [hall] at hw
      exact e_iteF (e_call2 (e_var rfl) (e_var rfl) hw) e_cst
end K62

set_option Elab.async false
set_option linter.all false
set_option maxRecDepth 100000
set_option maxHeartbeats 2000000
/-! K62f: the law's draws. -/
namespace K62
open Ev
/-- the source of draws at n: at most k draws so far -/
def Tin (S : Sto) (n k : Nat) : Prop := ∃ a b c : Int, S[n]? = some (.liv (.lst [.int a, .int b, .int c])) ∧ 0 ≤ c ∧ c ≤ k
/-- all else as it was -/
def Els (n : Nat) (S S' : Sto) : Prop := S'.length = S.length ∧ ∀ m, m ≠ n → S'[m]? = S[m]?
theorem Els.refl {n : Nat} {S : Sto} : Els n S S := ⟨rfl, fun _ _ => rfl⟩
theorem Els.trans {n : Nat} {S S1 S2 : Sto} (h : Els n S S1) (h2 : Els n S1 S2) : Els n S S2 := ⟨h2.1.trans h.1, fun m hm => (h2.2 m hm).trans (h.2 m hm)⟩
theorem Els.set {n : Nat} {S : Sto} {c : C} : Els n S (S.set n c) := ⟨List.length_set, fun m hm => List.getElem?_set_ne (Ne.symm hm)⟩
theorem Tin.mono {S : Sto} {n k k' : Nat} (h : Tin S n k) (hk : k ≤ k') : Tin S n k' := by
  obtain ⟨a, b, c, h1, h2, h3⟩ := h
  exact ⟨a, b, c, h1, h2, by omega⟩
theorem run_take {d : Nat} (hd : 1 ≤ d) {S : Sto} {n k : Nat} (t : Tin S n k) (hk : k < 2 ^ 60) (m : Int) (hm : 0 < m) (hm2 : m < 2 ^ 60) :
    ∃ v S', run D 0 d 18 [.ref n, .int m] S = .ok (.int v) S' ∧ 0 ≤ v ∧ v < m ∧ Tin S' n (k + 1) ∧ Els n S S' := by
  obtain ⟨e, rfl⟩ := at1 hd
  obtain ⟨a, b, c, hs, hc0, hck⟩ := t
  have hn : n < S.length := (List.getElem?_eq_some_iff.mp hs).1
  have g0 : ∀ F ρ, getR ρ 0 = some (.ref n) → evE F (.ix (.var 0) (.cst (.int 0))) ρ S = .ok (.int a) S := fun F ρ hr => e_ix (e_var hr) e_cst (ix_store (i := 0) hs rfl)
  by_cases ha : 0 < a
  · have hfd : binU S .fdiv (.int a) (.int m) = some (.int (a / m)) := by
      simp only [binU, int2, rd]; rw [if_pos (log_ok hm (by omega))]
    refine ⟨a % m, S.set n (.liv (.lst [.int (a / m), .int b, .int c])), ?_, Int.emod_nonneg _ (by omega), Int.emod_lt_of_pos _ hm, ⟨a / m, b, c, List.getElem?_set_self hn, hc0, by omega⟩, .set⟩
    refine run_rt (fd := d_law_take) rfl rfl (s_rt (st_ifT (u := .bl true) (S1 := S) (e_cmp (k := true) (g0 _ _ rfl) e_cst ?_) rfl
      (s_nx (st_nm (e_bin (z := .int (a % m)) (e_bi1 (v := .int a) (g0 _ _ rfl) rfl) (e_var rfl) ?_) rfl)
        (s_nx (st_set (e_bin (g0 _ _ rfl) (e_var rfl) hfd) (t_ixL (k := 0) (e_var rfl) e_cst hs rfl)) (s_rt (st_ret (e_var rfl)))))))
    · simp only [cmpU]; rw [decide_eq_true ha]
    · simp only [binU, int2, rd]; rw [if_pos hm]
  · -- mixed numbers
    have hc1 : -(2 ^ 64) < (39373 + (c + 1)) ∧ (39373 + (c + 1)) < (2 ^ 64 : Int) := by constructor <;> omega
    obtain ⟨once, honce⟩ : ∃ o, o = ((b + 48271 * (c + 1)) * (39373 + (c + 1))) % 2147483647 := ⟨_, rfl⟩
    have ho : 0 ≤ once ∧ once < 2147483647 := by rw [honce]; exact ⟨Int.emod_nonneg _ (by omega), Int.emod_lt_of_pos _ (by omega)⟩
    obtain ⟨wide, hwide⟩ : ∃ o, o = once % 40009 + 7 := ⟨_, rfl⟩
    have hw : 0 ≤ wide ∧ wide < 2 ^ 60 := by rw [hwide]; omega
    obtain ⟨twice, htw⟩ : ∃ o, o = ((once + (c + 1) + b / 1000003) * wide) % 2147483629 := ⟨_, rfl⟩
    have hs1 : (S.set n (.liv (.lst [.int a, .int b, .int (c + 1)])))[n]? = some (.liv (.lst [.int a, .int b, .int (c + 1)])) := List.getElem?_set_self hn
    generalize hS1 : S.set n (.liv (.lst [.int a, .int b, .int (c + 1)])) = S1 at hs1
    have g1 : ∀ F ρ, getR ρ 0 = some (.ref n) → evE F (.ix (.var 0) (.cst (.int 1))) ρ S1 = .ok (.int b) S1 := fun F ρ hr => e_ix (e_var hr) e_cst (ix_store (i := 1) hs1 rfl)
    have g2 : ∀ F ρ, getR ρ 0 = some (.ref n) → evE F (.ix (.var 0) (.cst (.int 2))) ρ S1 = .ok (.int (c + 1)) S1 := fun F ρ hr => e_ix (e_var hr) e_cst (ix_store (i := 2) hs1 rfl)
    refine ⟨((twice * 48271 + once) % 2147483587 / 64) % m, S1, ?_, Int.emod_nonneg _ (by omega), Int.emod_lt_of_pos _ hm, ⟨a, b, c + 1, hs1, by omega, by omega⟩, by rw [← hS1]; exact .set⟩
    refine run_rt (fd := d_law_take) rfl rfl (s_nx (st_ifF (u := .bl false) (S1 := S) (e_cmp (k := false) (g0 _ _ rfl) e_cst ?_) rfl s_nil)
      (s_nx (st_set (e_bin (z := .int (c + 1)) (e_ix (e_var rfl) e_cst (ix_store (i := 2) hs rfl)) e_cst rfl) (by rw [← hS1]; exact t_ixL (k := 2) (e_var rfl) e_cst hs rfl))
      (s_nx (st_nm (e_bin (z := .int once) (e_bi1 (v := .int ((b + 48271 * (c + 1)) * (39373 + (c + 1)))) (e_bin (z := .int ((b + 48271 * (c + 1)) * (39373 + (c + 1)))) (e_bin (z := .int (b + 48271 * (c + 1))) (g1 _ _ rfl) (e_bin (z := .int (48271 * (c + 1))) e_cst (g2 _ _ rfl) ?_) rfl) (e_bin (z := .int (39373 + (c + 1))) e_cst (g2 _ _ rfl) rfl) ?_) rfl) e_cst ?_) rfl)
      (s_nx (st_nm (e_bin (z := .int wide) (e_bin (z := .int (once % 40009)) (e_bi1 (v := .int once) (e_var rfl) rfl) e_cst rfl) e_cst ?_) rfl)
      (s_nx (st_nm (e_bin (z := .int twice) (e_bi1 (v := .int ((once + (c + 1) + b / 1000003) * wide)) (e_bin (z := .int ((once + (c + 1) + b / 1000003) * wide)) (e_bin (z := .int (once + (c + 1) + b / 1000003)) (e_bin (z := .int (once + (c + 1))) (e_var rfl) (g2 _ _ rfl) rfl) (e_bin (z := .int (b / 1000003)) (g1 _ _ rfl) e_cst ?_) rfl) (e_var rfl) ?_) rfl) e_cst ?_) rfl)
      (s_rt (st_ret (e_bin (z := .int (((twice * 48271 + once) % 2147483587 / 64) % m)) (e_bi1 (v := .int ((twice * 48271 + once) % 2147483587 / 64)) (e_bin (z := .int ((twice * 48271 + once) % 2147483587 / 64)) (e_bin (z := .int ((twice * 48271 + once) % 2147483587)) (e_bi1 (v := .int (twice * 48271 + once)) (e_bin (z := .int (twice * 48271 + once)) (e_bin (z := .int (twice * 48271)) (e_var rfl) e_cst ?_) (e_var rfl) rfl) rfl) e_cst rfl) e_cst ?_) rfl) (e_var rfl) ?_))))))))
    · simp only [cmpU]; rw [decide_eq_false ha]
    · simp only [binU, mulU, rd]; rw [if_pos (mul_l (by omega) (by omega))]
    · simp only [binU, mulU, rd]; rw [if_pos (mul_r hc1.1 hc1.2)]
    · simp only [binU, int2, rd]; rw [honce]; rfl
    · rw [hwide]; rfl
    · simp only [binU, int2, rd]; rw [if_pos (log_ok (by omega) (by omega))]
    · simp only [binU, mulU, rd]; rw [if_pos (mul_r (by omega) (by omega))]
    · simp only [binU, int2, rd]; rw [htw]; rfl
    · simp only [binU, mulU, rd]; rw [if_pos (mul_r (by omega) (by omega))]
    · simp only [binU, int2, rd]; rw [if_pos (log_ok (by omega) (by omega))]
    · simp only [binU, int2, rd]; rw [if_pos hm]
theorem run_of {d : Nat} (hd : 2 ≤ d) {S : Sto} {n k : Nat} (t : Tin S n k) (hk : k < 2 ^ 60) (gs : List Int) (hg : gs ≠ []) (hg2 : gs.length < 1000) :
    ∃ v S', run D 0 d 20 [.ref n, .lst (gs.map U.int)] S = .ok (.int v) S' ∧ v ∈ gs ∧ Tin S' n (k + 1) ∧ Els n S S' := by
  obtain ⟨e, rfl⟩ := at1 (by omega : 1 ≤ d)
  have hp : 0 < gs.length := List.length_pos_iff.mpr hg
  obtain ⟨v, S', h1, h2, h3, h4, h5⟩ := run_take (d := e) (by omega) t hk gs.length (by omega) (by omega)
  obtain ⟨i, rfl⟩ := Int.eq_ofNat_of_zero_le h2
  have hi : i < gs.length := by omega
  refine ⟨gs[i], S', ?_, List.getElem_mem hi, h4, h5⟩
  refine run_rt (fd := d_law_of) rfl rfl (s_rt (st_ret (e_ix (e_var rfl) (e_call2 (v := .int gs.length) (e_var rfl) (e_bi1 (e_var rfl) ?_) h1) (ix_lst (mapI hi)))))
  simp [biU, seqOf, rd]
theorem run_box {d : Nat} (hd : 1 ≤ d) {S : Sto} (zs : List Int) (hz : zs ≠ []) : ∃ S', run D 0 d 17 [.lst (zs.map U.int), .int 0] S = .ok (.ref S.length) S' ∧ Tin S' S.length 0 := by
  obtain ⟨e, rfl⟩ := at1 hd
  have hp : 0 < zs.length := List.length_pos_iff.mpr hz
  obtain ⟨m, hm⟩ : ∃ m : Int, m = if zs[0] < 0 then -zs[0] else zs[0] := ⟨_, rfl⟩
  obtain ⟨k, hk⟩ : ∃ k : Int, k = if 10 ^ 18 ≤ m then 1 else 0 := ⟨_, rfl⟩
  have hk2 : -(2 ^ 64) < k ∧ k < 2 ^ 64 := by rw [hk]; split <;> constructor <;> decide
  have habs : ∀ S, biU S .abs [.int zs[0]] = some (.int m) := fun S => by rw [hm]; rfl
  refine ⟨S ++ [.liv (.lst [.int (m * k), .int (zs[0] % 2305843009213693951 + 39373 * 0 + 170511), .int 0])], ?_, m * k, zs[0] % 2305843009213693951 + 39373 * 0 + 170511, 0, ?_, Int.le_refl 0, Int.le_refl 0⟩
  · refine run_rt (fd := d_law_box) rfl rfl (s_nx (st_nm (u := .int zs[0]) (e_iteT (S1 := S) (e_cmp (k := true) (e_var rfl) (e_bi1 (v := .int zs.length) (e_var rfl) ?_) ?_) (e_ix (e_var rfl) (e_var rfl) (ix_lst (i := 0) (mapI hp)))) rfl)
      (s_rt (st_ret (e_qn (q_disp (es_cons (e_bin (z := .int (m * k)) (e_bi1 (e_var rfl) (habs _)) (e_bi1 (u := .bl (decide (10 ^ 18 ≤ m))) (v := .int k) (e_cmp (e_bi1 (e_var rfl) (habs _)) (e_bin (z := .int (10 ^ 18)) e_cst e_cst ?_) ?_) ?_) ?_) (es_cons (e_bin (z := .int (zs[0] % 2305843009213693951 + 39373 * 0 + 170511)) (e_bin (z := .int (zs[0] % 2305843009213693951 + 39373 * 0)) (e_bin (z := .int (zs[0] % 2305843009213693951)) (e_bi1 (e_var rfl) rfl) e_cst ?_) (e_bin (z := .int (39373 * 0)) e_cst (e_var rfl) ?_) ?_) e_cst ?_) (es_cons e_cst es_nil))))))))
    · simp [biU, seqOf, rd]
    · simp only [cmpU]; rw [decide_eq_true (by omega)]
    · rfl
    · rfl
    · simp only [biU]
      by_cases hq : 10 ^ 18 ≤ m
      · rw [if_pos (decide_eq_true hq), hk, if_pos hq]
      · rw [if_neg (by simpa using hq), hk, if_neg hq]
    · simp only [binU, mulU, rd]
      rw [if_pos (mul_r hk2.1 hk2.2)]
    · rfl
    · rfl
    · rfl
    · rfl
  · rw [List.getElem?_append_right (Nat.le_refl _)]; simp
end K62
set_option Elab.async false
set_option linter.all false
set_option maxRecDepth 100000
set_option maxHeartbeats 2000000
/-! K62g: the law's cells, sameness, own powers. -/
namespace K62
open Ev
theorem e_orU {F : Nat → List U → Sto → R U} {ρ : Rho} {S S1 : Sto} {u : U} {a b : EX} (h : evE F a ρ S = .ok u S1) (ht : truU S1 u = some true) : evE F (.or a b) ρ S = .ok u S1 := by
  rw [evE, h]; dsimp only [R.bind]; rw [ht]
theorem e_orUF {F : Nat → List U → Sto → R U} {ρ : Rho} {S S1 : Sto} {u : U} {a b : EX} {r : R U} (h : evE F a ρ S = .ok u S1) (ht : truU S1 u = some false) (h2 : evE F b ρ S1 = r) : evE F (.or a b) ρ S = r := by
  rw [evE, h]; dsimp only [R.bind]; rw [ht]; exact h2
theorem rd_app {S T : Sto} {u : U} {xs : List U} (h : rd S u = .fz xs) : rd (S ++ T) u = .fz xs := by
  cases u with
  | ref n =>
    cases e : S[n]? with
    | none => simp [rd, e] at h
    | some c =>
      have hn : n < S.length := (List.getElem?_eq_some_iff.mp e).1
      have e2 : (S ++ T)[n]? = some c := by rw [List.getElem?_append_left hn]; exact e
      cases c with
      | liv o => cases o <;> simp [rd, e] at h
      | lck o => cases o <;> simp [rd, e] at h
      | frz ys => simp [rd, e] at h; simp [rd, e2, h]
      | ded => simp [rd, e] at h
  | _ => exact h
theorem last_at {S : Sto} {c : C} : (S ++ [c])[S.length]? = some c := by rw [List.getElem?_append_right (Nat.le_refl _)]; simp
theorem enum_at : ∀ (xs : List U) (k i : Nat) (z : U), (enumU k xs)[i]? = some z → ∃ x, xs[i]? = some x ∧ z = .tup [.int ((k + i : Nat) : Int), x]
  | [], k, i, z, h => by simp [enumU] at h
  | x :: xs, k, 0, z, h => by simp [enumU] at h; exact ⟨x, rfl, h.symm⟩
  | x :: xs, k, i + 1, z, h => by
    have h : (enumU (k + 1) xs)[i]? = some z := h
    obtain ⟨y, h1, h2⟩ := enum_at xs (k + 1) i z h
    refine ⟨y, by simpa using h1, ?_⟩
    rw [h2]
    congr 4
    omega
theorem run_cells {d : Nat} (hd : 1 ≤ d) {S : Sto} {u : U} (ns : List Int) (hl : ns.length ≤ 63) (hu : rd S u = .fz (ns.map U.int)) : ∃ zs S', zs ≠ [] ∧ run D 0 d 19 [u, .int 1] S = .ok (.lst (zs.map U.int)) S' := by
  obtain ⟨e, rfl⟩ := at1 hd
  -- the first numbers
  have first : ∃ (zs : List Int) (T : Sto) (n : Nat), zs ≠ [] ∧ (S ++ T)[n]? = some (.liv (.lst (zs.map U.int))) ∧
      evE (run D 0 e) (.or (.qn (.lof (.sl (.var 0) none (some (.var 1))))) (.qn (.disp [.cst (.int 0)]))) [some u, some (.int 1), none, none, none, none] S = .ok (.ref n) (S ++ T) := by
    obtain ⟨ys, hy, _⟩ := cut_map U.int ns none (some 1)
    have h1 : evE (run D 0 e) (.qn (.lof (.sl (.var 0) none (some (.var 1))))) [some u, some (.int 1), none, none, none, none] S = .ok (.ref S.length) (S ++ [.liv (.lst (ys.map U.int))]) := by
      refine e_qn (q_lof (u := .lst (ys.map U.int)) (e_sl (e_var rfl) o_none (o_some (e_var rfl)) ?_) rfl)
      unfold slU; rw [hu]; dsimp only; rw [hy]
    by_cases hne : ys = []
    · subst hne
      refine ⟨[0], [.liv (.lst []), .liv (.lst [.int 0])], S.length + 1, by simp, ?_, ?_⟩
      · rw [List.getElem?_append_right (by omega)]
        have : S.length + 1 - S.length = 1 := by omega
        rw [this]; rfl
      · have h2 := e_orUF (b := .qn (.disp [.cst (.int 0)])) h1 (by simp [truU, rd, last_at]) (e_qn (q_disp (es_cons e_cst es_nil)))
        rw [h2]
        simp
    · refine ⟨ys, [.liv (.lst (ys.map U.int))], S.length, hne, last_at, ?_⟩
      refine e_orU h1 ?_
      simp [truU, rd, last_at, hne]
  obtain ⟨zs, T, n, hz, hs, he⟩ := first
  obtain ⟨ys, hy, hyl⟩ := cut_map U.int ns (some 1) (some 63)
  obtain ⟨ρ', S', h1, h2⟩ := forL_inv (step := stepF (evT (run D 0 e) (.tp [.nm 3, .nm 4])) (evSs (run D 0 e) 0 [.set (.nm 5) (.bin .mod (.bi .int [.var 3]) (.var 1)), .set (.ix (.var 2) (.var 5)) (.bin .add (.ix (.var 2) (.var 5)) (.bin .mul (.var 4) (.bin .add (.var 3) (.cst (.int 2)))))]))
    (fun i ρ S' => (∃ zs : List Int, zs ≠ [] ∧ S'[n]? = some (.liv (.lst (zs.map U.int)))) ∧ ∃ y z a, ρ = [some u, some (.int 1), some (.ref n), y, z, a])
    (enumU 0 (ys.map U.int)) 0 [some u, some (.int 1), some (.ref n), none, none, none] (S ++ T) ⟨⟨zs, hz, hs⟩, none, none, none, rfl⟩ (fun i x ρ S' hx ⟨⟨zs, hz, hs⟩, y, z, a, e2⟩ => by
      subst e2
      obtain ⟨x', hx', rfl⟩ := enum_at _ _ _ _ hx
      rw [List.getElem?_map] at hx'
      obtain ⟨v, hv, rfl⟩ := Option.map_eq_some_iff.mp hx'
      have hi : i < ys.length := (List.getElem?_eq_some_iff.mp hv).1
      rw [Nat.zero_add] at *
      have hp : 0 < zs.length := List.length_pos_iff.mpr hz
      have hm : ((i : Nat) : Int) % 1 = 0 := Int.emod_one _
      have hn : n < S'.length := (List.getElem?_eq_some_iff.mp hs).1
      refine ⟨_, _, stepF_two rfl rfl (s_nx (st_nm (e_bin (z := .int 0) (e_bi1 (e_var rfl) rfl) (e_var rfl) ?_) rfl)
        (s_nx (st_set (e_bin (z := .int (zs[0] + v * ((i : Int) + 2))) (e_ix (z := .int zs[0]) (e_var rfl) (e_var rfl) (ix_store (i := 0) hs (mapI hp))) (e_bin (z := .int (v * ((i : Int) + 2))) (e_var rfl) (e_bin (e_var rfl) e_cst rfl) ?_) rfl) (t_ixL (k := 0) (e_var rfl) (e_var rfl) hs ?_)) s_nil)), ⟨zs.set 0 (zs[0] + v * ((i : Int) + 2)), ?_, ?_⟩, _, _, _, rfl⟩
      · simp only [binU, int2, rd]
        rw [if_pos (by omega), hm]
      · simp only [binU, mulU, rd]
        rw [if_pos (mul_r (by omega) (by omega))]
      · exact ixN_nat (n := (zs.map U.int).length) (i := 0) (by simpa using hp)
      · intro z; apply hz; exact List.eq_nil_of_length_eq_zero (by rw [← List.length_set (as := zs) (i := 0) (a := zs[0] + v * ((i : Int) + 2)), z]; rfl)
      · rw [List.getElem?_set_self hn, List.map_set])
  obtain ⟨⟨zs', hz', hs'⟩, y, z, a, rfl⟩ := h2
  refine ⟨zs', S'.set n .ded, hz', run_rt (fd := d_law_cells) rfl rfl (s_nx (st_nm he rfl) (s_nx (st_fo (i_enumL (us := ys.map U.int) (e_sl (e_var rfl) (o_some (e_var rfl)) (o_some e_cst) ?_)) h1) (s_rt (st_ret (e_frz (e_var rfl) hs')))))⟩
  unfold slU; rw [rd_app hu]; dsimp only; rw [hy]
end K62
set_option Elab.async false
set_option linter.all false
set_option maxRecDepth 100000
set_option maxHeartbeats 2000000
/-! K62h: sameness, falls, own powers. -/
namespace K62
open Ev
theorem run_same_int {d : Nat} (hd : 1 ≤ d) (a b : Int) (S : Sto) : run D 0 d 21 [.int a, .int b] S = .ok (.bl (decide (a = b))) S := by
  obtain ⟨e, rfl⟩ := at1 hd
  refine run_rt (fd := d_law_same) rfl rfl (s_nx (st_ifF (e_ist (k := .int) (e_var rfl) rfl) rfl s_nil) (s_nx (st_ifF (e_cmp (k := false) (e_var rfl) e_cst rfl) rfl s_nil) (s_nx (st_ifF (e_ist (k := .int) (e_var rfl) rfl) rfl s_nil)
    (s_rt (st_ret (e_and (S1 := S) (e_ist (k := .int) (e_var rfl) rfl) (e_and (S1 := S) (e_not (b := false) (e_ist (k := .int) (e_var rfl) rfl)) (e_cmp (e_var rfl) (e_var rfl) ?_))))))))
  simp only [cmpU, rd]
  exact eqV_ints a b
theorem lenU (S : Sto) (us : List U) : biU S .len [.lst us] = some (.int us.length) := by simp [biU, seqOf, rd]
theorem lenT (S : Sto) (us : List U) : biU S .len [.tup us] = some (.int us.length) := by simp [biU, seqOf, rd]
theorem cmp_eqI (S : Sto) (a b : Int) : cmpU S .eq (.int a) (.int b) = some (decide (a = b)) := by simp only [cmpU, rd]; exact eqV_ints a b
theorem cmp_neB (S : Sto) (a b : Bool) : cmpU S .ne (.bl a) (.bl b) = some (!(a == b)) := by
  simp only [cmpU, rd]
  rw [eqV_bls]; rfl
theorem run_same_lst {α β : Type} {d : Nat} (S : Sto) (g : α → U) (h : β → U) (c : α → β → Bool) (xs : List α) (ys : List β) (hl : xs.length ≤ 1000)
    (hel : ∀ x ∈ xs, ∀ y ∈ ys, run D 0 d 21 [g x, h y] S = .ok (.bl (c x y)) S) :
    run D 0 (d + 1) 21 [.lst (xs.map g), .lst (ys.map h)] S = .ok (.bl (decide (xs.length = ys.length) && (xs.zip ys).all fun p => c p.1 p.2)) S := by
  refine run_rt (fd := d_law_same) rfl rfl (s_rt (st_ifT (S1 := S) (e_ist (k := .lst) (e_var rfl) rfl) rfl
    (s_nx (st_ifF (u := .bl false) (S1 := S) (e_or (S1 := S) (e_cmp (k := false) (e_ist (k := .lst) (e_var rfl) rfl) (e_ist (k := .lst) (e_var rfl) rfl) (cmp_neB _ _ _)) (e_cmp (k := false) (e_ist (k := .lst) (e_var rfl) rfl) (e_ist (k := .lst) (e_var rfl) rfl) (cmp_neB _ _ _))) rfl s_nil) (s_rt (st_ret ?_)))))
  have hlen : ∀ k, decide (xs.length = ys.length) = k → evE (run D 0 d) (.cmp .eq (.bi .len [.var 0]) (.bi .len [.var 1])) [some (.lst (xs.map g)), some (.lst (ys.map h)), none, none] S = .ok (.bl k) S := by
    intro k hk
    refine e_cmp (e_bi1 (e_var rfl) (lenU _ _)) (e_bi1 (e_var rfl) (lenU _ _)) ?_
    rw [cmp_eqI, List.length_map, List.length_map, ← hk]
    congr 1
    exact decide_eq_decide.mpr (by omega)
  by_cases he : xs.length = ys.length
  · rw [decide_eq_true he, Bool.true_and]
    refine e_and (hlen true (decide_eq_true he)) (e_bi1 (e_qv (q_comp (S1 := S) (us := (xs.zip ys).map fun p => U.tup [g p.1, h p.2]) (ys := (xs.zip ys).map fun p => .bl (c p.1 p.2)) ?_ ?_ (compL_map fun p hp => c_two rfl rfl (e_call2 (e_var rfl) (e_var rfl) ?_)))) ?_)
    · rw [i_zipL (e_var rfl) (e_var rfl), zip_map]
    · rw [List.length_map, List.length_zip]; exact lim_of (by omega)
    · have := List.of_mem_zip hp
      exact hel p.1 this.1 p.2 this.2
    · simp only [biU, rd]
      rw [blsOf_map]
      simp [List.all_map, Function.comp_def]
  · rw [decide_eq_false he, Bool.false_and]
    exact e_andF (hlen false (decide_eq_false he))
theorem run_same_tup {α β : Type} {d : Nat} (S : Sto) (g : α → U) (h : β → U) (c : α → β → Bool) (xs : List α) (ys : List β) (hl : xs.length ≤ 1000)
    (hel : ∀ x ∈ xs, ∀ y ∈ ys, run D 0 d 21 [g x, h y] S = .ok (.bl (c x y)) S) :
    run D 0 (d + 1) 21 [.tup (xs.map g), .tup (ys.map h)] S = .ok (.bl (decide (xs.length = ys.length) && (xs.zip ys).all fun p => c p.1 p.2)) S := by
  refine run_rt (fd := d_law_same) rfl rfl (s_rt (st_ifT (S1 := S) (e_ist (k := .tup) (e_var rfl) rfl) rfl
    (s_nx (st_ifF (u := .bl false) (S1 := S) (e_or (S1 := S) (e_cmp (k := false) (e_ist (k := .tup) (e_var rfl) rfl) (e_ist (k := .tup) (e_var rfl) rfl) (cmp_neB _ _ _)) (e_cmp (k := false) (e_ist (k := .tup) (e_var rfl) rfl) (e_ist (k := .tup) (e_var rfl) rfl) (cmp_neB _ _ _))) rfl s_nil) (s_rt (st_ret ?_)))))
  have hlen : ∀ k, decide (xs.length = ys.length) = k → evE (run D 0 d) (.cmp .eq (.bi .len [.var 0]) (.bi .len [.var 1])) [some (.tup (xs.map g)), some (.tup (ys.map h)), none, none] S = .ok (.bl k) S := by
    intro k hk
    refine e_cmp (e_bi1 (e_var rfl) (lenT _ _)) (e_bi1 (e_var rfl) (lenT _ _)) ?_
    rw [cmp_eqI, List.length_map, List.length_map, ← hk]
    congr 1
    exact decide_eq_decide.mpr (by omega)
  by_cases he : xs.length = ys.length
  · rw [decide_eq_true he, Bool.true_and]
    refine e_and (hlen true (decide_eq_true he)) (e_bi1 (e_qv (q_comp (S1 := S) (us := (xs.zip ys).map fun p => U.tup [g p.1, h p.2]) (ys := (xs.zip ys).map fun p => .bl (c p.1 p.2)) ?_ ?_ (compL_map fun p hp => c_two rfl rfl (e_call2 (e_var rfl) (e_var rfl) ?_)))) ?_)
    · rw [i_zipT (e_var rfl) (e_var rfl), zip_map]
    · rw [List.length_map, List.length_zip]; exact lim_of (by omega)
    · have := List.of_mem_zip hp
      exact hel p.1 this.1 p.2 this.2
    · simp only [biU, rd]
      rw [blsOf_map]
      simp [List.all_map, Function.comp_def]
  · rw [decide_eq_false he, Bool.false_and]
    exact e_andF (hlen false (decide_eq_false he))
theorem zip_self {α : Type} {c : α → α → Bool} : ∀ {xs : List α}, (∀ x ∈ xs, c x x = true) → (xs.zip xs).all (fun p => c p.1 p.2) = true
  | [], _ => rfl
  | x :: xs, h => by
    rw [List.zip_cons_cons, List.all_cons, h x List.mem_cons_self, zip_self fun y hy => h y (List.mem_cons_of_mem _ hy)]; rfl
/-- lists of ints that are one are the same -/
theorem run_same_ints {d : Nat} (hd : 2 ≤ d) (xs : List Int) (hl : xs.length ≤ 1000) (S : Sto) : run D 0 d 21 [.lst (xs.map U.int), .lst (xs.map U.int)] S = .ok (.bl true) S := by
  obtain ⟨e, rfl⟩ := at1 (by omega : 1 ≤ d)
  rw [run_same_lst S U.int U.int (fun a b => decide (a = b)) xs xs hl (fun x _ y _ => run_same_int (by omega) x y S)]
  rw [zip_self (c := fun a b : Int => decide (a = b)) fun x _ => decide_eq_true rfl]
  simp
theorem run_same_pairs {d : Nat} (hd : 3 ≤ d) (xs : List (List Int)) (hl : xs.length ≤ 1000) (h2 : ∀ x ∈ xs, x.length ≤ 1000) (S : Sto) : run D 0 d 21 [.lst (xs.map fun x => .tup (x.map U.int)), .lst (xs.map fun x => .tup (x.map U.int))] S = .ok (.bl true) S := by
  obtain ⟨e, rfl⟩ := at1 (by omega : 1 ≤ d)
  obtain ⟨e, rfl⟩ := at1 (by omega : 1 ≤ e)
  rw [run_same_lst (d := e + 1) S (fun x : List Int => U.tup (x.map U.int)) (fun x : List Int => U.tup (x.map U.int)) (fun x y => decide (x.length = y.length) && (x.zip y).all fun p => decide (p.1 = p.2)) xs xs hl
    (fun x hx y hy => run_same_tup S U.int U.int (fun a b => decide (a = b)) x y (h2 x hx) (fun a _ b _ => run_same_int (by omega) a b S))]
  rw [zip_self (c := fun x y : List Int => decide (x.length = y.length) && (x.zip y).all fun p => decide (p.1 = p.2)) fun x _ => by
    rw [zip_self (c := fun a b : Int => decide (a = b)) fun x _ => decide_eq_true rfl]; simp]
  simp
theorem run_lfall {d : Nat} (hd : 1 ≤ d) (xs : List Int) (S : Sto) : run D 0 d 23 [.lst (xs.map U.int)] S = .ok (.tup ((srtI xs).reverse.map U.int)) S := by
  obtain ⟨e, rfl⟩ := at1 hd
  have hs : srtU (xs.map U.int) = some ((srtI xs).map U.int) := by
    unfold srtU
    split
    · rename_i h
      rw [List.length_map] at h
      match xs, h with
      | [], _ => rfl
      | [x], _ => rfl
    · rw [intsOf_int]
  refine run_rt (fd := d_law_fall) rfl rfl (s_rt (st_ret (e_bi1 (e_rev (e_qv (q_srt (e_var rfl) rfl hs)) rfl) ?_)))
  simp [biU, seqOf, rd]
theorem run_lfallT {d : Nat} (hd : 1 ≤ d) (xs : List Int) (S : Sto) : run D 0 d 23 [.tup (xs.map U.int)] S = .ok (.tup ((srtI xs).reverse.map U.int)) S := by
  obtain ⟨e, rfl⟩ := at1 hd
  have hs : srtU (xs.map U.int) = some ((srtI xs).map U.int) := by
    unfold srtU
    split
    · rename_i h
      rw [List.length_map] at h
      match xs, h with
      | [], _ => rfl
      | [x], _ => rfl
    · rw [intsOf_int]
  refine run_rt (fd := d_law_fall) rfl rfl (s_rt (st_ret (e_bi1 (e_rev (e_qv (q_srt (e_var rfl) rfl hs)) rfl) ?_)))
  simp [biU, seqOf, rd]
theorem run_lpower {d : Nat} (hd : 2 ≤ d) {p : Int} (hp : Good p) (k : Nat) (hk : k ≤ 1000) (S : Sto) : run D 0 d 25 [.int p, .int k] S = .ok (.int (p ^ k)) S := by
  obtain ⟨e, rfl⟩ := at1 (by omega : 1 ≤ d)
  obtain ⟨e, rfl⟩ := at1 (by omega : 1 ≤ e)
  obtain ⟨b1, b2⟩ := good_b hp
  -- the product of so many
  have prod : ∀ S : Sto, run D 0 (e + 1) 24 [.lst ((List.range k).map fun _ => .int p)] S = .ok (.int (p ^ k)) S := by
    intro S
    obtain ⟨ρ', S', h1, h2⟩ := forL_inv (step := stepF (evT (run D 0 e) (.nm 2)) (evSs (run D 0 e) 0 [.set (.nm 1) (.bin .mul (.var 1) (.var 2))])) (fun i ρ S' => S' = S ∧ ∃ y, ρ = [some (.lst ((List.range k).map fun _ => .int p)), some (.int (p ^ i)), y])
      ((List.range k).map fun _ => .int p) 0 [some (.lst ((List.range k).map fun _ => .int p)), some (.int 1), none] S ⟨rfl, none, by simp⟩ (fun i x ρ S' hx ⟨e1, y, e2⟩ => by
        subst e1 e2
        rw [List.getElem?_map] at hx
        obtain ⟨j, _, rfl⟩ := Option.map_eq_some_iff.mp hx
        refine ⟨_, _, stepF_nm rfl (s_nx (st_nm (e_bin (z := .int (p ^ (0 + i) * p)) (e_var rfl) (e_var rfl) ?_) rfl) s_nil), rfl, some (.int p), ?_⟩
        · simp only [binU, mulU, rd]; rw [if_pos (mul_r b1 b2)]
        · rw [← Int.pow_succ]; rfl)
    obtain ⟨rfl, y, rfl⟩ := h2
    rw [List.length_map, List.length_range, Nat.zero_add] at h1
    exact run_rt (fd := d_law_product) rfl rfl (s_nx (st_nm e_cst rfl) (s_nx (st_fo (i_lst (e_var rfl)) h1) (s_rt (st_ret (e_var rfl)))))
  refine run_rt (fd := d_law_power) rfl rfl (s_rt (st_ret (e_call1 (u := .lst ((List.range k).map fun _ => .int p)) (S1 := S) (e_qv (q_comp (us := iotaU 0 k) (i_rng1 (j := k) (e_var rfl) (small_i (by omega) (by omega))) (by rw [iota_len]; exact lim_of hk) ?_)) (prod S))))
  rw [iota_map]
  exact compL_map fun i _ => c_nm rfl (e_var rfl)
/-- the sum of the least of k and each -/
def mns (xs : List Int) (k : Int) : Int := (xs.map fun x => if x < k then x else k).sum
theorem run_lgone {d : Nat} (hd : 3 ≤ d) {p : Int} (hp : Good p) (xs : List Int) (hl : xs.length ≤ 1000) (k : Int) (j : Nat) (hj : mns xs k = (j : Int)) (hj2 : j ≤ 1000) (S : Sto) : run D 0 d 26 [.int p, .tup (xs.map U.int), .int k] S = .ok (.int (p ^ j)) S := by
  obtain ⟨e, rfl⟩ := at1 (by omega : 1 ≤ d)
  refine run_rt (fd := d_law_gone) rfl rfl (s_rt (st_ret (e_call2 (v := .int (j : Int)) (e_var rfl) (e_bi1 (e_qv (q_comp (us := xs.map U.int) (ys := xs.map fun x => .int (if x < k then x else k)) (i_tup (e_var rfl)) (lim_of (by simpa using hl)) (compL_map fun x _ => c_nm rfl (e_bi (es_cons (e_var rfl) (es_cons (e_var rfl) es_nil)) ?_)))) ?_) (run_lpower (by omega) hp j hj2 S))))
  · rfl
  · simp only [biU, seqOf, rd]
    rw [intsOf_map, Option.map_some]
    rw [show (xs.map fun x => if x < k then x else k).sum = mns xs k from rfl, hj]
end K62
set_option Elab.async false
set_option linter.all false
set_option maxRecDepth 100000
set_option maxHeartbeats 2000000
/-! K62i: the law's pairs; flat lists. -/
namespace K62
open Ev
theorem good_div {p : Int} (hp : Good p) (c : Nat) (h1 : 1 ≤ c) (h2 : c ≤ 11) : 0 < p ^ c - p ^ (c - 1) ∧ (p ^ c - p ^ (c - 1)).natAbs.log2 < 9000 := by
  have : ∀ c : Nat, c < 12 → 1 ≤ c → (0 < p ^ c - p ^ (c - 1) ∧ (p ^ c - p ^ (c - 1)).natAbs.log2 < 9000) := by
    rcases hp with rfl | rfl | rfl | rfl | rfl <;> decide +kernel
  exact this c (by omega) h1
theorem mns_two (a b k : Nat) : mns [(a : Int), (b : Int)] k = ((min a k + min b k : Nat) : Int) := by
  simp only [mns, List.map_cons, List.map_nil, List.sum_cons, List.sum_nil]
  split <;> split <;> omega
/-- what the law's pairs are for a pair within -/
def lp (p : Int) (a b c d : Nat) : Int :=
  if c = d then 1 else (p ^ (min (a - d) (c - d) + min (b - d) (c - d)) - p ^ (min (a - d) (c - d - 1) + min (b - d) (c - d - 1))) / (p ^ (c - d) - p ^ (c - d - 1))
theorem run_lpairs {d : Nat} (hd : 4 ≤ d) {p : Int} (hp : Good p) (a b c e : Nat) (h1 : c ≤ a) (h2 : e ≤ b) (h3 : e ≤ c) (ha : a ≤ 11) (hb : b ≤ 11) (S : Sto) : run D 0 d 27 [.int p, .int a, .int b, .int c, .int e] S = .ok (.int (lp p a b c e)) S := by
  obtain ⟨d, rfl⟩ := at1 (by omega : 1 ≤ d)
  refine run_rt (fd := d_law_pairs) rfl rfl (s_nx (st_ifF (u := .bl false) (S1 := S) (e_or (S1 := S) (e_cmp (k := false) (e_var rfl) (e_var rfl) ?_) (e_or (S1 := S) (e_cmp (k := false) (e_var rfl) (e_var rfl) ?_) (e_cmp (k := false) (e_var rfl) (e_var rfl) ?_))) rfl s_nil)
    (s_nx (st_par (us := [.int ((a - e : Nat) : Int), .int ((b - e : Nat) : Int), .int ((c - e : Nat) : Int)]) (es_cons (e_bin (e_var rfl) (e_var rfl) ?_) (es_cons (e_bin (e_var rfl) (e_var rfl) ?_) (es_cons (e_bin (e_var rfl) (e_var rfl) ?_) es_nil))) rfl rfl) ?_))
  · simp only [cmpU]; rw [decide_eq_false (by omega)]
  · simp only [cmpU]; rw [decide_eq_false (by omega)]
  · simp only [cmpU]; rw [decide_eq_false (by omega)]
  · simp only [binU, int2, rd]; congr 2; omega
  · simp only [binU, int2, rd]; congr 2; omega
  · simp only [binU, int2, rd]; congr 2; omega
  · by_cases hc : c = e
    · subst hc
      refine s_rt (st_ifT (u := .bl true) (S1 := S) (e_cmp (k := true) (e_var rfl) e_cst ?_) rfl (s_rt (st_ret ?_)))
      · rw [cmp_eqI, decide_eq_true (by omega)]
      · rw [lp, if_pos rfl]; exact e_cst
    · have hce : ((c - e : Nat) : Int) - 1 = ((c - e - 1 : Nat) : Int) := by omega
      obtain ⟨g1, g2⟩ := good_div hp (c - e) (by omega) (by omega)
      refine s_nx (st_ifF (u := .bl false) (S1 := S) (e_cmp (k := false) (e_var rfl) e_cst ?_) rfl s_nil)
        (s_nx (st_nm (e_bin (e_call3 (e_var rfl) (e_tup (es_cons (e_var rfl) (es_cons (e_var rfl) es_nil))) (e_var rfl) (run_lgone (by omega) hp [((a - e : Nat) : Int), ((b - e : Nat) : Int)] (by simp) ((c - e : Nat) : Int) _ (mns_two _ _ _) (by omega) S))
          (e_call3 (z := .int ((c - e - 1 : Nat) : Int)) (e_var rfl) (e_tup (es_cons (e_var rfl) (es_cons (e_var rfl) es_nil))) (e_bin (e_var rfl) e_cst ?_) (run_lgone (by omega) hp [((a - e : Nat) : Int), ((b - e : Nat) : Int)] (by simp) ((c - e - 1 : Nat) : Int) _ (mns_two _ _ _) (by omega) S)) rfl) rfl)
        (s_rt (st_ret (e_bin (e_var rfl) (e_bin (e_call2 (e_var rfl) (e_var rfl) (run_lpower (by omega) hp (c - e) (by omega) S)) (e_call2 (v := .int ((c - e - 1 : Nat) : Int)) (e_var rfl) (e_bin (e_var rfl) e_cst ?_) (run_lpower (by omega) hp (c - e - 1) (by omega) S)) rfl) ?_))))
      · rw [cmp_eqI, decide_eq_false (by omega)]
      · rw [← hce]; rfl
      · rw [← hce]; rfl
      · simp only [binU, int2, rd]
        rw [if_pos ⟨g1, g2⟩, lp, if_neg hc]
theorem e_mthE {F : Nat → List U → Sto → R U} {ρ : Rho} {S : Sto} {a b : EX} {n : Nat} {xs ys : List U} (h : evE F a ρ S = .ok (.ref n) S) (hs : S[n]? = some (.liv (.lst xs))) (h1 : evE F b ρ S = .ok (.lst ys) S) (hl : xs.length + ys.length ≤ lim) :
    evE F (.mth .extend a [b]) ρ S = .ok .non (S.set n (.liv (.lst (xs ++ ys)))) := by
  refine e_mth h hs (es_cons h1 es_nil) ?_
  simp only [mthU, hs, rd]
  rw [if_pos hl]
theorem e_mthA {F : Nat → List U → Sto → R U} {ρ : Rho} {S : Sto} {a b : EX} {n : Nat} {xs : List U} {y : U} (h : evE F a ρ S = .ok (.ref n) S) (hs : S[n]? = some (.liv (.lst xs))) (h1 : evE F b ρ S = .ok y S) (hl : xs.length < lim) :
    evE F (.mth .append a [b]) ρ S = .ok .non (S.set n (.liv (.lst (xs ++ [y])))) := by
  refine e_mth h hs (es_cons h1 es_nil) ?_
  simp only [mthU, hs]
  rw [if_pos hl]
theorem set_set {S : Sto} {n : Nat} {c c' : C} : (S.set n c).set n c' = S.set n c' := by rw [List.set_set]
theorem app_set {S : Sto} {c c' : C} : (S ++ [c]).set S.length c' = S ++ [c'] := by rw [List.set_append_right _ _ (Nat.le_refl _), Nat.sub_self]; rfl
theorem flat_len {α : Type} : ∀ (rows : List (List α)) (k : Nat), (rows.take k).flatten.length ≤ rows.flatten.length
  | [], k => by simp
  | r :: rows, 0 => by simp
  | r :: rows, k + 1 => by have := flat_len rows k; simp only [List.take_succ_cons, List.flatten_cons, List.length_append]; omega
theorem take_next {α : Type} {rows : List (List α)} {i : Nat} {r : List α} (h : rows[i]? = some r) : (rows.take (i + 1)).flatten = (rows.take i).flatten ++ r := by
  obtain ⟨hi, rfl⟩ := List.getElem?_eq_some_iff.mp h
  rw [List.take_succ_eq_append_getElem hi, List.flatten_append]; simp
theorem run_lflat {d : Nat} (hd : 1 ≤ d) (rows : List (List U)) (hl : rows.flatten.length ≤ 1000) (S : Sto) : run D 0 d 22 [.lst (rows.map U.lst)] S = .ok (.lst rows.flatten) (S ++ [.ded]) := by
  obtain ⟨e, rfl⟩ := at1 hd
  obtain ⟨ρ', S', h1, h2⟩ := forL_inv (step := stepF (evT (run D 0 e) (.nm 2)) (evSs (run D 0 e) 0 [.ex (.mth .extend (.var 1) [.var 2])]))
    (fun i ρ S' => S' = S ++ [.liv (.lst (rows.take i).flatten)] ∧ ∃ y, ρ = [some (.lst (rows.map U.lst)), some (.ref S.length), y])
    (rows.map U.lst) 0 [some (.lst (rows.map U.lst)), some (.ref S.length), none] (S ++ [.liv (.lst [])]) ⟨by simp, none, rfl⟩ (fun i x ρ S' hx ⟨e1, y, e2⟩ => by
      subst e1 e2
      rw [List.getElem?_map] at hx
      obtain ⟨r, hr, rfl⟩ := Option.map_eq_some_iff.mp hx
      rw [Nat.zero_add]
      have hl2 : ((rows.take i).flatten ++ r).length ≤ 1000 := by rw [← take_next hr]; exact Nat.le_trans (flat_len rows (i + 1)) hl
      refine ⟨_, _, stepF_nm rfl (s_nx (st_ex (e_mthE (xs := (rows.take i).flatten) (ys := r) (e_var rfl) last_at (e_var rfl) (by rw [List.length_append] at hl2; exact lim_of hl2))) s_nil), ?_, some (.lst r), rfl⟩
      rw [app_set, take_next hr])
  obtain ⟨rfl, y, rfl⟩ := h2
  rw [List.length_map, Nat.zero_add, List.take_length] at h1
  have h := run_rt (d := e) (i := 22) (us := [U.lst (rows.map U.lst)]) (S := S) (fd := d_law_flat) rfl rfl (s_nx (st_nm (e_qn (q_disp es_nil)) rfl) (s_nx (st_fo (i_lst (e_var rfl)) h1) (s_rt (st_ret (e_frz (e_var rfl) last_at)))))
  rw [h, app_set]
end K62
set_option Elab.async false
set_option linter.all false
set_option maxRecDepth 100000
set_option maxHeartbeats 2000000
/-! K62j: the falls under one of two numbers. -/
namespace K62
open Ev
theorem forL_nx {step : U → Rho → Sto → SR} {x : U} {us : List U} {ρ ρ1 : Rho} {S S1 : Sto} {r : SR} (h : step x ρ S = .ok (.nx ρ1) S1) (h2 : forL step us ρ1 S1 = r) : forL step (x :: us) ρ S = r := by
  rw [forL, h]; exact h2
theorem forL_one {step : U → Rho → Sto → SR} {x : U} {ρ ρ1 : Rho} {S S1 : Sto} (h : step x ρ S = .ok (.nx ρ1) S1) : forL step [x] ρ S = .ok (.nx ρ1) S1 := forL_nx h rfl
theorem st_foL {F : Nat → List U → Sto → R U} {w : Nat} {ρ : Rho} {S S1 S2 : Sto} {t : TX} {it : IX} {b : List SX} {n : Nat} {us ys : List U} {o : Out} (h : evI F it ρ S = .ok (us, some n) S1) (hs : S1[n]? = some (.liv (.lst ys))) (h2 : forL (stepF (evT F t) (evSs F w b)) us ρ (S1.set n (.lck (.lst ys))) = .ok o S2) :
    evS F w (.fo t it b) ρ S = .ok o (S2.set n (.liv (.lst ys))) := by
  rw [ev_fo]; dsimp only; rw [h]; dsimp only [R.toS, lockdS]; rw [hs]; dsimp only; rw [h2]
theorem i_ref {F : Nat → List U → Sto → R U} {ρ : Rho} {S S1 : Sto} {a : EX} {n : Nat} {ys : List U} (h : evE F a ρ S = .ok (.ref n) S1) (hs : S1[n]? = some (.liv (.lst ys))) : evI F (.val a) ρ S = .ok (ys, some n) S1 := by
  rw [evI, h]; dsimp only [R.bind, lockOf]; rw [hs]; rfl
/-- the pairs -/
def prs (a b : Nat) : List (Nat × Nat) := (List.range (a + 1)).flatMap fun c => (List.range (min b c + 1)).map fun d => (c, d)
def tu (q : Nat × Nat) : U := .tup [.int q.1, .int q.2]
theorem prs_srt : ∀ a : Nat, a < 8 → ∀ b : Nat, b < 8 → srtT ((prs a b).map fun q => [(q.1 : Int), (q.2 : Int)]) = (prs a b).map fun q => [(q.1 : Int), (q.2 : Int)] := by decide +kernel
theorem tups_tu : ∀ qs : List (Nat × Nat), tupsI (qs.map tu) = some (qs.map fun q => [(q.1 : Int), (q.2 : Int)])
  | [] => rfl
  | q :: qs => by rw [List.map_cons, tu, tupsI, tups_tu qs]; rfl
theorem srt_tu {a b : Nat} (ha : a < 8) (hb : b < 8) : srtU ((prs a b).map tu) = some ((prs a b).map tu) := by
  unfold srtU
  split
  · rfl
  · rename_i h
    have hn : intsOf ((prs a b).map tu) = none := by
      match hq : prs a b with
      | [] => rw [hq] at h; exact absurd (by decide) h
      | q :: qs => rfl
    rw [hn]
    dsimp only
    rw [tups_tu]
    dsimp only
    rw [if_pos (by simp), prs_srt a ha b hb, List.map_map]
    rfl
theorem flatM_len : ∀ a : Nat, a < 8 → ∀ b : Nat, b < 8 → ∀ i : Nat, i < 9 → (((List.range i).flatMap fun c => (List.range (min b c + 1)).map fun d => (c, d)).length ≤ 64) := by decide +kernel
theorem pre_next (b i : Nat) : (((List.range (i + 1)).flatMap fun c => (List.range (min b c + 1)).map fun d => (c, d)).map tu) = (((List.range i).flatMap fun c => (List.range (min b c + 1)).map fun d => (c, d)).map tu) ++ (List.range (min b i + 1)).map fun (d : Nat) => tu (i, d) := by
  rw [List.range_succ, List.flatMap_append, List.map_append, List.flatMap_singleton, List.map_map]
  rfl
theorem run_subfalls {d : Nat} (hd : 5 ≤ d) (a b : Nat) (ha : a < 8) (hb : b ≤ a) (S : Sto) : ∃ S', run D 0 d 15 [.tup [.int a, .int b]] S = .ok (.lst ((prs a b).map tu)) S' := by
  obtain ⟨e, rfl⟩ := at1 (by omega : 1 ≤ d)
  have g : Grp [(a : Int), (b : Int)] := by
    refine ⟨by simp, by simp, ?_, by intro x hx; simp at hx; omega⟩
    exact List.pairwise_cons.mpr ⟨fun x hx => by simp at hx; omega, List.pairwise_singleton _ _⟩
  -- first lap
  have L1 : ∀ ρ4 ρ5 ρ6 ρ7 : Option U, ∃ ρ5' ρ6' ρ7', forL (stepF (evT (run D 0 e) (.nm 5)) (evSs (run D 0 e) 0 [.set (.nm 6) (.ite (.cmp .ne (.var 5) (.tup [])) (.bi .min2 [.var 3, .ix (.var 5) (.bin .sub (.cst (.int 0)) (.cst (.int 1)))]) (.var 3)), .ife (.cmp .gt (.bin .add (.bin .add (.bi .len [.var 4]) (.var 6)) (.cst (.int 1))) (.cst (.int 2000))) [.no] [], .ex (.mth .extend (.var 4) [.qv (.comp (.nm 7) (.rng1 (.bin .add (.var 6) (.cst (.int 1)))) none (.bin .add (.var 5) (.tup [.var 7])) [7])])]))
      [.tup []] [some (.tup [.int a, .int b]), some (.tup [.int a, .int b]), some (.lst [.tup []]), some (.int a), some (.ref S.length), none, none, none] (S ++ [.liv (.lst [])])
      = .ok (.nx [some (.tup [.int a, .int b]), some (.tup [.int a, .int b]), some (.lst [.tup []]), some (.int a), some (.ref S.length), ρ5', ρ6', ρ7']) (S ++ [C.liv (.lst ((List.range (a + 1)).map fun (c : Nat) => U.tup [.int (c : Int)]))]) := fun ρ4 ρ5 ρ6 ρ7 => by
    refine ⟨some (.tup []), some (.int a), none, forL_nx (stepF_nm rfl (s_nx (st_nm (e_iteF (S1 := S ++ [.liv (.lst [])]) (e_cmp (k := false) (e_var rfl) (e_tup es_nil) (by simp only [cmpU, rd]; rw [show eqV? (.tup []) (.tup []) = some true from eqV_tups [] []]; rfl)) (e_var rfl)) rfl)
      (s_nx (st_ifF (u := .bl false) (S1 := S ++ [.liv (.lst [])]) (e_cmp (k := false) (e_bin (z := .int ((0 : Nat) + a + 1)) (e_bin (z := .int ((0 : Nat) + a)) (e_bi1 (v := .int ((0 : Nat) : Int)) (e_var rfl) ?_) (e_var rfl) rfl) e_cst rfl) e_cst ?_) rfl s_nil)
      (s_nx (st_ex (e_mthE (xs := []) (ys := (List.range (a + 1)).map fun (c : Nat) => U.tup [.int (c : Int)]) (e_var rfl) last_at (e_qv (q_comp (us := iotaU 0 (a + 1)) (S1 := S ++ [.liv (.lst [])]) ?_ (by rw [iota_len]; exact lim_of (by omega)) ?_)) ?_)) s_nil)))) ?_⟩
    · simp [biU, seqOf, rd, last_at]
    · simp only [cmpU]; rw [decide_eq_false (by omega)]
    · refine (i_rng1 (j := (a : Int) + 1) (e_bin (e_var rfl) e_cst rfl) (small_i (by omega) (by omega))).trans ?_
      rw [show ((a : Int) + 1).toNat = a + 1 by omega]
    · rw [iota_map]
      refine compL_map fun i _ => c_nm rfl (e_bin (e_var rfl) (e_tup (es_cons (e_var rfl) es_nil)) ?_)
      simp only [binU, addU, rd, Int.zero_add]
      rfl
    · simp only [List.length_map, List.length_range, List.length_nil]; exact lim_of (by omega)
    · rw [app_set]; rfl
  -- second lap
  have L2 : ∀ (X : U) ρ5 ρ6 ρ7, ∃ ρ5' ρ6' ρ7', forL (stepF (evT (run D 0 e) (.nm 5)) (evSs (run D 0 e) 0 [.set (.nm 6) (.ite (.cmp .ne (.var 5) (.tup [])) (.bi .min2 [.var 3, .ix (.var 5) (.bin .sub (.cst (.int 0)) (.cst (.int 1)))]) (.var 3)), .ife (.cmp .gt (.bin .add (.bin .add (.bi .len [.var 4]) (.var 6)) (.cst (.int 1))) (.cst (.int 2000))) [.no] [], .ex (.mth .extend (.var 4) [.qv (.comp (.nm 7) (.rng1 (.bin .add (.var 6) (.cst (.int 1)))) none (.bin .add (.var 5) (.tup [.var 7])) [7])])]))
      ((List.range (a + 1)).map fun (c : Nat) => U.tup [.int (c : Int)]) [some (.tup [.int a, .int b]), some (.tup [.int a, .int b]), some X, some (.int b), some (.ref (S.length + 1)), ρ5, ρ6, ρ7] (S ++ [.lck (.lst ((List.range (a + 1)).map fun (c : Nat) => U.tup [.int (c : Int)])), .liv (.lst [])])
      = .ok (.nx [some (.tup [.int a, .int b]), some (.tup [.int a, .int b]), some X, some (.int b), some (.ref (S.length + 1)), ρ5', ρ6', ρ7']) (S ++ [.lck (.lst ((List.range (a + 1)).map fun (c : Nat) => U.tup [.int (c : Int)])), .liv (.lst ((prs a b).map tu))]) := fun X ρ5 ρ6 ρ7 => by
    obtain ⟨ρ', S', h1, h2⟩ := forL_inv (step := stepF (evT (run D 0 e) (.nm 5)) (evSs (run D 0 e) 0 [.set (.nm 6) (.ite (.cmp .ne (.var 5) (.tup [])) (.bi .min2 [.var 3, .ix (.var 5) (.bin .sub (.cst (.int 0)) (.cst (.int 1)))]) (.var 3)), .ife (.cmp .gt (.bin .add (.bin .add (.bi .len [.var 4]) (.var 6)) (.cst (.int 1))) (.cst (.int 2000))) [.no] [], .ex (.mth .extend (.var 4) [.qv (.comp (.nm 7) (.rng1 (.bin .add (.var 6) (.cst (.int 1)))) none (.bin .add (.var 5) (.tup [.var 7])) [7])])]))
      (fun i ρ S' => S' = S ++ [.lck (.lst ((List.range (a + 1)).map fun (c : Nat) => U.tup [.int (c : Int)])), .liv (.lst (((List.range i).flatMap fun c => (List.range (min b c + 1)).map fun d => (c, d)).map tu))] ∧ ∃ x y z, ρ = [some (.tup [.int a, .int b]), some (.tup [.int a, .int b]), some X, some (.int b), some (.ref (S.length + 1)), x, y, z])
      ((List.range (a + 1)).map fun (c : Nat) => U.tup [.int (c : Int)]) 0 [some (.tup [.int a, .int b]), some (.tup [.int a, .int b]), some X, some (.int b), some (.ref (S.length + 1)), ρ5, ρ6, ρ7] (S ++ [.lck (.lst ((List.range (a + 1)).map fun (c : Nat) => U.tup [.int (c : Int)])), .liv (.lst [])]) ⟨rfl, ρ5, ρ6, ρ7, rfl⟩ (fun i x ρ S' hx ⟨e1, x', y, z, e2⟩ => by
        subst e1 e2
        rw [List.getElem?_map] at hx
        obtain ⟨j, hj, rfl⟩ := Option.map_eq_some_iff.mp hx
        have hi : i < a + 1 := by have := (List.getElem?_eq_some_iff.mp hj).1; simpa using this
        rw [List.getElem?_range hi] at hj
        obtain rfl := Option.some.inj hj
        rw [Nat.zero_add]
        generalize hC : C.lck (.lst ((List.range (a + 1)).map fun (c : Nat) => U.tup [.int (c : Int)])) = c0
        have hlen := flatM_len a ha b (by omega) i (by omega)
        obtain ⟨xs, hxs⟩ : ∃ xs, xs = ((List.range i).flatMap fun c => (List.range (min b c + 1)).map fun d => (c, d)).map tu := ⟨_, rfl⟩
        have hl2 : xs.length ≤ 64 := by rw [hxs, List.length_map]; exact hlen
        rw [← hxs]
        have hat : (S ++ [c0, .liv (.lst xs)])[S.length + 1]? = some (.liv (.lst xs)) := by
          rw [List.getElem?_append_right (by omega), show S.length + 1 - S.length = 1 by omega]; rfl
        refine ⟨_, _, stepF_nm rfl (s_nx (st_nm (u := .int ((min b i : Nat) : Int)) (e_iteT (S1 := S ++ [c0, .liv (.lst xs)]) (e_cmp (k := true) (e_var rfl) (e_tup es_nil) ?_) (e_bi (es_cons (e_var rfl) (es_cons (e_ix (z := .int (i : Int)) (e_var rfl) neg1 rfl) es_nil)) ?_)) rfl)
          (s_nx (st_ifF (u := .bl false) (S1 := S ++ [c0, .liv (.lst xs)]) (e_cmp (k := false) (e_bin (z := .int ((xs.length : Int) + ((min b i : Nat) : Int) + 1)) (e_bin (z := .int ((xs.length : Int) + ((min b i : Nat) : Int))) (e_bi1 (v := .int (xs.length : Int)) (e_var rfl) ?_) (e_var rfl) rfl) e_cst rfl) e_cst ?_) rfl s_nil)
          (s_nx (st_ex (e_mthE (xs := xs) (ys := (List.range (min b i + 1)).map fun (d : Nat) => tu (i, d)) (e_var rfl) hat (e_qv (q_comp (us := iotaU 0 (min b i + 1)) (S1 := S ++ [c0, .liv (.lst xs)]) ?_ (by rw [iota_len]; exact lim_of (by omega)) ?_)) ?_)) s_nil))), ?_, some (.tup [.int (i : Int)]), some (.int ((min b i : Nat) : Int)), z, rfl⟩
        · simp only [cmpU, rd]; rw [show eqV? (.tup [.int (i : Int)]) (.tup []) = some (decide ([(i : Int)] = [])) from eqV_tups [(i : Int)] []]; rfl
        · simp only [biU]
          congr 2
          split <;> omega
        · simp [biU, seqOf, rd, hat]
        · simp only [cmpU]; rw [decide_eq_false (by omega)]
        · refine (i_rng1 (j := ((min b i : Nat) : Int) + 1) (e_bin (e_var rfl) e_cst rfl) (small_i (by omega) (by omega))).trans ?_
          rw [show (((min b i : Nat) : Int) + 1).toNat = min b i + 1 by omega]
        · rw [iota_map]
          refine compL_map fun k _ => c_nm rfl (e_bin (e_var rfl) (e_tup (es_cons (e_var rfl) es_nil)) ?_)
          simp only [binU, addU, rd, Int.zero_add]
          rfl
        · simp only [List.length_map, List.length_range]; exact lim_of (by omega)
        · rw [List.set_append_right _ _ (by omega), show S.length + 1 - S.length = 1 by omega]
          rw [pre_next, ← hxs]; rfl)
    obtain ⟨rfl, x, y, z, rfl⟩ := h2
    rw [List.length_map, List.length_range, Nat.zero_add] at h1
    exact ⟨x, y, z, h1⟩
  obtain ⟨r5, r6, r7, h1⟩ := L1 none none none none
  obtain ⟨q5, q6, q7, h2⟩ := L2 (.ref S.length) r5 r6 r7
  have e2 : (S ++ [C.liv (.lst ((List.range (a + 1)).map fun (c : Nat) => U.tup [.int (c : Int)]))]) ++ [.liv (.lst [])] = S ++ [.liv (.lst ((List.range (a + 1)).map fun (c : Nat) => U.tup [.int (c : Int)])), .liv (.lst [])] := by simp
  have e3 : (S ++ [C.liv (.lst ((List.range (a + 1)).map fun (c : Nat) => U.tup [.int (c : Int)])), .liv (.lst [])])[S.length]? = some (.liv (.lst ((List.range (a + 1)).map fun (c : Nat) => U.tup [.int (c : Int)]))) := by
    rw [List.getElem?_append_right (Nat.le_refl _), Nat.sub_self]; rfl
  have e4 : (S ++ [C.liv (.lst ((List.range (a + 1)).map fun (c : Nat) => U.tup [.int (c : Int)])), .liv (.lst [])]).set S.length (.lck (.lst ((List.range (a + 1)).map fun (c : Nat) => U.tup [.int (c : Int)]))) = S ++ [.lck (.lst ((List.range (a + 1)).map fun (c : Nat) => U.tup [.int (c : Int)])), .liv (.lst [])] := by
    rw [List.set_append_right _ _ (Nat.le_refl _), Nat.sub_self]; rfl
  have e5 : (S ++ [C.liv (.lst ((List.range (a + 1)).map fun (c : Nat) => U.tup [.int (c : Int)]))]).length = S.length + 1 := by simp
  have e6 : ((S ++ [C.lck (.lst ((List.range (a + 1)).map fun (c : Nat) => U.tup [.int (c : Int)])), .liv (.lst ((prs a b).map tu))]).set S.length (.liv (.lst ((List.range (a + 1)).map fun (c : Nat) => U.tup [.int (c : Int)]))))[S.length + 1]? = some (.liv (.lst ((prs a b).map tu))) := by
    rw [List.set_append_right _ _ (Nat.le_refl _), Nat.sub_self, List.getElem?_append_right (by omega), show S.length + 1 - S.length = 1 by omega]; rfl
  have n2 : evS (run D 0 e) 0 (.set (.nm 4) (.qn (.disp []))) [some (.tup [.int a, .int b]), some (.tup [.int a, .int b]), some (.ref S.length), some (.int b), some (.ref S.length), r5, r6, r7] (S ++ [C.liv (.lst ((List.range (a + 1)).map fun (c : Nat) => U.tup [.int (c : Int)]))]) = .ok (.nx [some (.tup [.int a, .int b]), some (.tup [.int a, .int b]), some (.ref S.length), some (.int b), some (.ref (S.length + 1)), r5, r6, r7]) (S ++ [C.liv (.lst ((List.range (a + 1)).map fun (c : Nat) => U.tup [.int (c : Int)])), .liv (.lst [])]) := by
    refine (st_nm (e_qn (q_disp es_nil)) rfl).trans ?_
    rw [e2, e5]; rfl
  have f2 := st_foL (t := .nm 5) (it := .val (.var 2)) (i_ref (ρ := [some (.tup [.int a, .int b]), some (.tup [.int a, .int b]), some (.ref S.length), some (.int b), some (.ref (S.length + 1)), r5, r6, r7]) (e_var rfl) e3) e3 (by rw [e4]; exact h2)
  have lap2 := stepF_nm (i := 3) (x := .int b) (ρ := [some (.tup [.int a, .int b]), some (.tup [.int a, .int b]), some (.ref S.length), some (.int a), some (.ref S.length), r5, r6, r7]) rfl (s_nx n2 (s_nx f2 (s_nx (st_nm (i := 2) (e := .var 4) (e_var rfl) rfl) s_nil)))
  have lap1 := stepF_nm (F := run D 0 e) (w := 0) (i := 3) (x := .int a) (ρ := [some (.tup [.int a, .int b]), some (.tup [.int a, .int b]), some (.lst [.tup []]), none, none, none, none, none]) (S := S) rfl (s_nx (st_nm (i := 4) (e_qn (q_disp es_nil)) rfl) (s_nx (st_fo (t := .nm 5) (it := .val (.var 2)) (i_lst (e_var rfl)) h1) (s_nx (st_nm (i := 2) (e := .var 4) (e_var rfl) rfl) s_nil)))
  have lp := forL_nx lap1 (forL_one lap2)
  exact ⟨_, run_rt (fd := d_subgroup_falls) rfl rfl (s_nx (st_nm (e_ix (e_call2 e_cst (e_var rfl) (run_sure_group (by omega) 2 (.inl rfl) g S)) e_cst (ix_tup (i := 1) rfl)) rfl) (s_nx (st_nm (e_qv (q_disp (es_cons (e_tup es_nil) es_nil))) rfl)
    (s_nx (st_fo (i_tup (e_var rfl)) lp) (s_rt (st_ret (e_qv (q_srt (xs := (prs a b).map tu) (e_var rfl) (by simp only [seqOf, rd, e6]) (srt_tu ha (by omega)))))))))⟩
end K62
set_option Elab.async false
set_option linter.all false
set_option maxRecDepth 100000
set_option maxHeartbeats 2000000
/-! K62k: plain algebra of how many subgroups. -/
namespace K62
open Ev
/-! ### ints sorted -/
theorem insI_mem {x y : Int} : ∀ {ys : List Int}, y ∈ insI x ys ↔ y = x ∨ y ∈ ys
  | [] => by simp [insI]
  | z :: ys => by
    rw [insI]
    split
    · simp
    · rw [List.mem_cons, insI_mem (ys := ys), List.mem_cons]
      constructor
      · rintro (h | h | h) <;> simp [h]
      · rintro (h | h | h) <;> simp [h]
theorem insI_len {x : Int} : ∀ {ys : List Int}, (insI x ys).length = ys.length + 1
  | [] => rfl
  | z :: ys => by
    rw [insI]
    split
    · rfl
    · rw [List.length_cons, insI_len (ys := ys)]; rfl
theorem insI_srt {x : Int} : ∀ {ys : List Int}, ys.Pairwise (· ≤ ·) → (insI x ys).Pairwise (· ≤ ·)
  | [], _ => by simp [insI]
  | z :: ys, h => by
    rw [insI]
    have h2 := List.pairwise_cons.mp h
    split
    · rename_i hx
      refine List.pairwise_cons.mpr ⟨fun y hy => ?_, h⟩
      rcases List.mem_cons.mp hy with rfl | hy
      · exact hx
      · exact Int.le_trans hx (h2.1 y hy)
    · rename_i hx
      refine List.pairwise_cons.mpr ⟨fun y hy => ?_, insI_srt h2.2⟩
      rcases insI_mem.mp hy with rfl | hy
      · omega
      · exact h2.1 y hy
theorem srtI_mem {y : Int} : ∀ {ys : List Int}, y ∈ srtI ys ↔ y ∈ ys
  | [] => Iff.rfl
  | x :: ys => by rw [srtI, insI_mem, srtI_mem (ys := ys), List.mem_cons]
theorem srtI_len : ∀ {ys : List Int}, (srtI ys).length = ys.length
  | [] => rfl
  | x :: ys => by rw [srtI, insI_len, srtI_len (ys := ys)]; rfl
theorem srtI_srt : ∀ {ys : List Int}, (srtI ys).Pairwise (· ≤ ·)
  | [] => List.Pairwise.nil
  | x :: ys => insI_srt srtI_srt
theorem insI_end {x : Int} : ∀ {ys : List Int}, ys.Pairwise (· ≤ ·) → (∀ y ∈ ys, y ≤ x) → insI x ys = ys ++ [x]
  | [], _, _ => rfl
  | y :: ys, h, hx => by
    have h2 := List.pairwise_cons.mp h
    have ih := insI_end h2.2 fun z hz => hx z (List.mem_cons_of_mem _ hz)
    rw [insI]
    split
    · rename_i hxy
      have e : x = y := Int.le_antisymm hxy (hx y List.mem_cons_self)
      subst e
      rw [List.cons_append, ← ih]
      match ys, h2.1 with
      | [], _ => rfl
      | z :: zs, hz => rw [insI, if_pos (hz z List.mem_cons_self)]
    · rw [ih]; rfl
theorem fall_rev {xs : List Int} : Fall xs ↔ xs.reverse.Pairwise (· ≤ ·) := by rw [List.pairwise_reverse]
theorem srtI_fall : ∀ {xs : List Int}, Fall xs → srtI xs = xs.reverse
  | [], _ => rfl
  | x :: xs, h => by
    have h2 := List.pairwise_cons.mp h
    rw [srtI, srtI_fall h2.2, List.reverse_cons]
    exact insI_end (fall_rev.mp h2.2) fun y hy => h2.1 y (List.mem_reverse.mp hy)
theorem fall_iff {xs : List Int} : xs = (srtI xs).reverse ↔ Fall xs := by
  constructor
  · intro h
    rw [fall_rev, h, List.reverse_reverse]
    exact srtI_srt
  · intro h
    rw [srtI_fall h, List.reverse_reverse]
/-! ### how many above -/
theorem ab_congr {xs : List Int} {s t : Int} (h : ∀ x ∈ xs, (s < x ↔ t < x)) : ab xs s = ab xs t := by
  unfold ab
  congr 1
  apply List.filter_congr
  intro x hx
  exact decide_eq_decide.mpr (h x hx)
theorem ab_cons (x : Int) (xs : List Int) (s : Int) : ab (x :: xs) s = (if s < x then 1 else 0) + ab xs s := by
  unfold ab
  rw [List.filter_cons]
  by_cases h : s < x
  · rw [if_pos (by simpa using h), if_pos h, List.length_cons]; omega
  · rw [if_neg (by simpa using h), if_neg h]; omega
theorem ab_set (s w : Int) : ∀ (xs : List Int) (j : Nat) (hj : j < xs.length), ab (xs.set j w) s + (if s < xs[j] then 1 else 0) = ab xs s + (if s < w then 1 else 0)
  | x :: xs, 0, _ => by
    rw [List.set_cons_zero, ab_cons, ab_cons]
    simp only [List.getElem_cons_zero]
    omega
  | x :: xs, j + 1, hj => by
    have := ab_set s w xs j (by simpa using hj)
    rw [List.set_cons_succ, ab_cons, ab_cons]
    simp only [List.getElem_cons_succ]
    omega
theorem ab_zero : ∀ (n : Nat) (s : Nat), ab (List.replicate n 0) s = 0
  | 0, _ => rfl
  | n + 1, s => by rw [List.replicate_succ, ab_cons, ab_zero n s, if_neg (by omega)]
/-! ### sums of the least -/
def ms (l : List Int) : Nat → Nat
  | 0 => 0
  | k + 1 => ms l k + ab l k
theorem mns_ms {l : List Int} (h : ∀ x ∈ l, 0 ≤ x) : ∀ k : Nat, mns l k = ms l k
  | 0 => by
    rw [ms, mns]
    have : ∀ l : List Int, (∀ x ∈ l, 0 ≤ x) → (l.map fun x => if x < ((0 : Nat) : Int) then x else ((0 : Nat) : Int)).sum = 0 := by
      intro l
      induction l with
      | nil => intro _; rfl
      | cons x l ih =>
        intro h
        rw [List.map_cons, List.sum_cons, ih fun y hy => h y (List.mem_cons_of_mem _ hy)]
        have := h x List.mem_cons_self
        rw [if_neg (by omega)]
        rfl
    rw [this l h]; rfl
  | k + 1 => by
    have ih := mns_ms h k
    rw [ms]
    have : ∀ l : List Int, mns l ((k + 1 : Nat) : Int) = mns l k + ab l k := by
      intro l
      induction l with
      | nil => rfl
      | cons x l ih2 =>
        rw [ab_cons]
        simp only [mns, List.map_cons, List.sum_cons] at ih2 ⊢
        rw [ih2]
        split <;> split <;> split <;> omega
    rw [this, ih]; omega
theorem ms_le {l : List Int} (hl : l.length ≤ 6) : ∀ k, ms l k ≤ 6 * k
  | 0 => Nat.le_refl _
  | k + 1 => by
    have := ms_le hl k
    have := ab_le l k
    rw [ms]; omega
/-! ### parts -/
theorem chs_zero (p : Int) (x : Nat) : chs p x 0 = 1 := by simp [chs, ups, los]
theorem chs_all {p : Int} (hp : Good p) (x : Nat) (hx : x ≤ 6) : chs p x x = 1 := by
  have : ∀ x : Nat, x < 7 → chs p x x = 1 := by rcases hp with rfl | rfl | rfl | rfl | rfl <;> decide +kernel
  exact this x (by omega)
theorem chs_one {p : Int} (hp : Good p) (x : Nat) (hx : x ≤ 6) (h1 : 1 ≤ x) : chs p x 1 * (p - 1) = p ^ x - 1 := by
  have : ∀ x : Nat, x < 7 → 1 ≤ x → chs p x 1 * (p - 1) = p ^ x - 1 := by rcases hp with rfl | rfl | rfl | rfl | rfl <;> decide +kernel
  exact this x (by omega) h1
theorem chs_but {p : Int} (hp : Good p) (x : Nat) (hx : x ≤ 6) (h1 : 1 ≤ x) : chs p x (x - 1) * (p - 1) = p ^ x - 1 := by
  have : ∀ x : Nat, x < 7 → 1 ≤ x → chs p x (x - 1) * (p - 1) = p ^ x - 1 := by rcases hp with rfl | rfl | rfl | rfl | rfl <;> decide +kernel
  exact this x (by omega) h1
theorem good_p {p : Int} (hp : Good p) : 2 ≤ p := by rcases hp with h | h | h | h | h <;> omega
theorem pow_p {p : Int} (hp : Good p) (k : Nat) : 0 < p ^ k := Int.pow_pos (by have := good_p hp; omega)
theorem mny_same {p : Int} (hp : Good p) {l m : List Int} (hl : l.length ≤ 6) (i : Nat) (h : ab m i = ab l i) : mny p l m (i + 1) = mny p l m i := by
  have := ab_le l i
  rw [mny, h, Nat.sub_self, Nat.mul_zero, Int.pow_zero, chs_all hp _ (by omega)]
  simp
theorem mny_zero (p : Int) (l : List Int) {m : List Int} (h : ∀ s : Nat, ab m s = 0) : ∀ n, mny p l m n = 1
  | 0 => rfl
  | n + 1 => by
    have e : ab m ((n : Int) + 1) = 0 := h (n + 1)
    rw [mny, mny_zero p l h n, h, e, Nat.zero_mul, Int.pow_zero, Nat.sub_self, chs_zero]; rfl
theorem mny_all {p : Int} (hp : Good p) {l : List Int} (hl : l.length ≤ 6) : ∀ n, mny p l l n = 1
  | 0 => rfl
  | n + 1 => by rw [mny_same hp hl n rfl, mny_all hp hl n]
/-- one row of k -/
theorem mny_row1 {p : Int} (hp : Good p) {l m : List Int} (k : Nat) (hm : ∀ s : Nat, ab m s = if s < k then 1 else 0) (hs : ∀ s : Nat, ab m s ≤ ab l s) : ∀ n, n + 1 ≤ k → mny p l m n * p ^ n = p ^ ms l n
  | 0, _ => by simp [mny, ms]
  | n + 1, h => by
    have ih := mny_row1 hp k hm hs n (by omega)
    have e1 : ab m ((n : Int) + 1) = 1 := by have := hm (n + 1); rw [if_pos (by omega)] at this; exact this
    have e2 : ab m n = 1 := by rw [hm, if_pos (by omega)]
    have e3 := hs n
    rw [e2] at e3
    rw [mny, e1, e2, Nat.sub_self, chs_zero, Nat.one_mul, Int.mul_one, ms, Int.pow_succ, Int.pow_add, ← ih]
    rw [show p ^ ab l n = p ^ (ab l n - 1) * p by rw [← Int.pow_succ]; congr 1; omega]
    simp only [Int.mul_assoc, Int.mul_comm, Int.mul_left_comm]
theorem mny_row {p : Int} (hp : Good p) {l m : List Int} (hl : l.length ≤ 6) (k : Nat) (hm : ∀ s : Nat, ab m s = if s < k + 1 then 1 else 0) (hs : ∀ s : Nat, ab m s ≤ ab l s) (n : Nat) (hn : k + 1 ≤ n) :
    mny p l m n * (p ^ (k + 1) - p ^ k) = p ^ ms l (k + 1) - p ^ ms l k := by
  induction n with
  | zero => omega
  | succ n ih =>
    by_cases h : n = k
    · subst h
      have h1 := mny_row1 hp (n + 1) hm hs n (by omega)
      have e1 : ab m ((n : Int) + 1) = 0 := by have := hm (n + 1); rw [if_neg (by omega)] at this; exact this
      have e2 : ab m n = 1 := by rw [hm, if_pos (by omega)]
      have e3 := hs n
      rw [e2] at e3
      have e4 := ab_le l n
      have h2 := chs_one hp (ab l n) (by omega) e3
      rw [mny, e1, e2, Nat.zero_mul, Int.pow_zero, Int.mul_one, Nat.sub_zero, Nat.sub_zero, ms, Int.pow_add p (ms l n), ← h1]
      rw [show p ^ (n + 1) - p ^ n = p ^ n * (p - 1) by rw [Int.pow_succ, Int.mul_sub, Int.mul_one]]
      rw [show mny p l m n * chs p (ab l n) 1 * (p ^ n * (p - 1)) = mny p l m n * p ^ n * (chs p (ab l n) 1 * (p - 1)) by simp only [Int.mul_assoc, Int.mul_comm, Int.mul_left_comm]]
      rw [h2, Int.mul_sub, Int.mul_one]
    · rw [← ih (by omega)]
      congr 1
      have e2 : ab m n = 0 := by rw [hm, if_neg (by omega)]
      have e1 : ab m ((n : Int) + 1) = 0 := by have := hm (n + 1); rw [if_neg (by omega)] at this; exact this
      rw [mny, e1, e2, Nat.zero_mul, Int.pow_zero, Int.mul_one, Nat.sub_self, chs_zero, Int.mul_one]
/-- one number lowered -/
theorem mny_low1 {p : Int} (hp : Good p) {l m : List Int} (hl : l.length ≤ 6) (w : Nat) (hm : ∀ s : Nat, s ≠ w → ab m s = ab l s) : ∀ n, n ≤ w → mny p l m n = 1
  | 0, _ => rfl
  | n + 1, h => by rw [mny_same hp hl n (hm n (by omega)), mny_low1 hp hl w hm n (by omega)]
theorem mny_low {p : Int} (hp : Good p) {l m : List Int} (hl : l.length ≤ 6) (w : Nat) (hm : ∀ s : Nat, s ≠ w → ab m s = ab l s) (hw : ab m w + 1 = ab l w) (n : Nat) (hn : w + 1 ≤ n) (hlt : ab l ((w : Int) + 1) < ab l w) :
    mny p l m n * (p - 1) = p ^ ab l w - p ^ ab l ((w : Int) + 1) := by
  induction n with
  | zero => omega
  | succ n ih =>
    by_cases h : n = w
    · subst h
      have e1 : ab m ((n : Int) + 1) = ab l ((n : Int) + 1) := hm (n + 1) (by omega)
      have e4 := ab_le l n
      rw [mny, mny_low1 hp hl n hm n (Nat.le_refl _), e1, show ab l n - ab m n = 1 by omega, Nat.mul_one, Int.one_mul]
      rw [show ab m n - ab l ((n : Int) + 1) = ab l n - ab l ((n : Int) + 1) - 1 by omega, Int.mul_assoc, chs_but hp _ (by omega) (by omega)]
      rw [Int.mul_sub, ← Int.pow_add, Int.mul_one]
      congr 2
      omega
    · rw [mny_same hp hl n (hm n (by omega)), ih (by omega)]
/-! ### the three sides -/
theorem hmny_zero (p : Int) {l : List Int} (h : ∀ x ∈ l, 0 ≤ x) (n : Nat) : hmny p l (List.replicate l.length 0) n = 1 := by
  have hz : ∀ l : List Int, (∀ x ∈ l, 0 ≤ x) → (l.zip (List.replicate l.length 0)).all (fun q => decide (q.2 ≤ q.1)) = true := by
    intro l
    induction l with
    | nil => intro _; rfl
    | cons x l ih =>
      intro h
      rw [List.length_cons, List.replicate_succ, List.zip_cons_cons, List.all_cons, ih fun y hy => h y (List.mem_cons_of_mem _ hy), Bool.and_true]
      exact decide_eq_true (h x List.mem_cons_self)
  rw [hmny, if_pos (hz l h), mny_zero p l (ab_zero _)]
theorem hmny_all {p : Int} (hp : Good p) {l : List Int} (hl : l.length ≤ 6) (n : Nat) : hmny p l l n = 1 := by
  rw [hmny, if_pos (zip_self (c := fun a b : Int => decide (b ≤ a)) fun x _ => decide_eq_true (Int.le_refl _)), mny_all hp hl]
theorem hmny_row {p : Int} (hp : Good p) {l : List Int} {x : Int} (hl : l.length ≤ 5) (h : ∀ x ∈ l, 0 ≤ x) (n k : Nat) (hx : x = (n : Int)) (hk : k + 1 ≤ n) :
    hmny p (x :: l) (((k + 1 : Nat) : Int) :: List.replicate l.length 0) n = (p ^ ms (x :: l) (k + 1) - p ^ ms (x :: l) k) / (p ^ (k + 1) - p ^ k) := by
  have hz : ∀ l : List Int, (∀ x ∈ l, 0 ≤ x) → (l.zip (List.replicate l.length 0)).all (fun q => decide (q.2 ≤ q.1)) = true := by
    intro l
    induction l with
    | nil => intro _; rfl
    | cons x l ih =>
      intro h
      rw [List.length_cons, List.replicate_succ, List.zip_cons_cons, List.all_cons, ih fun y hy => h y (List.mem_cons_of_mem _ hy), Bool.and_true]
      exact decide_eq_true (h x List.mem_cons_self)
  have ha : ((x :: l).zip (((k + 1 : Nat) : Int) :: List.replicate l.length 0)).all (fun q => decide (q.2 ≤ q.1)) = true := by
    rw [List.zip_cons_cons, List.all_cons, hz l h, Bool.and_true]
    exact decide_eq_true (by dsimp only; omega)
  have hm : ∀ s : Nat, ab (((k + 1 : Nat) : Int) :: List.replicate l.length 0) s = if s < k + 1 then 1 else 0 := by
    intro s
    rw [ab_cons, ab_zero]
    split <;> split <;> omega
  have hs := fun s : Nat => ab_sub (l := x :: l) (m := ((k + 1 : Nat) : Int) :: List.replicate l.length 0) (by simp) ha s
  have := mny_row hp (l := x :: l) (m := ((k + 1 : Nat) : Int) :: List.replicate l.length 0) (by rw [List.length_cons]; omega) k hm hs n hk
  rw [hmny, if_pos ha, ← this]
  refine (Int.mul_ediv_cancel _ ?_).symm
  have h1 := pow_p hp k
  have h2 := good_p hp
  have h3 : p ^ (k + 1) - p ^ k = p ^ k * (p - 1) := by rw [Int.pow_succ, Int.mul_sub, Int.mul_one]
  rw [h3]
  exact Int.ne_of_gt (Int.mul_pos h1 (by omega))
theorem hmny_over (p : Int) {l m : List Int} {x : Int} (n : Nat) (hx : x = (n : Int)) : hmny p (x :: l) (((n + 1 : Nat) : Int) :: m) n = 0 := by
  rw [hmny, if_neg]
  rw [List.zip_cons_cons, List.all_cons, decide_eq_false (by dsimp only; omega), Bool.false_and]
  simp
/-! ### numbers lowered -/
/-- how many are before the block of the number at j -/
def bef (l : List Int) (j : Nat) : Nat := match l[j]? with
  | some v => ab l v
  | none => ab l 0
theorem set_fall {l : List Int} (h : Fall l) (j : Nat) (hj : j < l.length) (hn : ∀ h2 : j + 1 < l.length, l[j + 1] < l[j]) : Fall (l.set j (l[j] - 1)) := by
  refine List.pairwise_iff_getElem.mpr fun a b ha hb hab => ?_
  rw [List.length_set] at ha hb
  have hp := List.pairwise_iff_getElem.mp h
  rw [List.getElem_set, List.getElem_set]
  by_cases h1 : j = a
  · subst h1
    rw [if_pos rfl, if_neg (by omega)]
    have h2 := hn (by omega)
    by_cases h3 : b = j + 1
    · subst h3; omega
    · have := hp (j + 1) b (by omega) hb (by omega)
      omega
  · rw [if_neg h1]
    have := hp a b ha hb hab
    split
    · rename_i e; subst e; omega
    · exact this
theorem low_zip (l : List Int) (j : Nat) (hj : j < l.length) : (l.zip (l.set j (l[j] - 1))).all (fun q => decide (q.2 ≤ q.1)) = true := by
  rw [List.all_eq_true]
  intro q hq
  obtain ⟨i, hi, rfl⟩ := List.mem_iff_getElem.mp hq
  rw [List.getElem_zip]
  dsimp only
  rw [List.getElem_set]
  refine decide_eq_true ?_
  split
  · rename_i e; subst e; omega
  · exact Int.le_refl _
/-- one number lowered: the two ends -/
theorem hmny_low {p : Int} (hp : Good p) {l : List Int} (g : Grp l) (n : Nat) (h0 : l[0]? = some (n : Int)) (j : Nat) (hj : j < l.length) (hv : 0 ≤ l[j] - 1) (hf : Fall (l.set j (l[j] - 1))) :
    hmny p l (l.set j (l[j] - 1)) n * (p - 1) = p ^ bef l (j + 1) - p ^ bef l j := by
  obtain ⟨w, hw⟩ := Int.eq_ofNat_of_zero_le hv
  have hpw := List.pairwise_iff_getElem.mp g.fall
  have hln : l[j] ≤ n := by
    have h00 : l[0]'(by omega) = (n : Int) := by rw [List.getElem?_eq_getElem (by omega)] at h0; exact Option.some.inj h0
    rw [← h00]
    by_cases e : j = 0
    · subst e; exact Int.le_refl _
    · exact hpw 0 j (by omega) hj (by omega)
  have hset := fun s : Int => ab_set s (l[j] - 1) l j hj
  have hm : ∀ s : Nat, s ≠ w → ab (l.set j (l[j] - 1)) s = ab l s := by
    intro s hs
    have := hset s
    split at this <;> split at this <;> omega
  have hw1 : ab (l.set j (l[j] - 1)) w + 1 = ab l w := by
    have := hset w
    split at this <;> split at this <;> omega
  have hlt : ab l ((w : Int) + 1) < ab l w := by
    have h1 : ab (l.set j (l[j] - 1)) ((w : Int) + 1) ≤ ab (l.set j (l[j] - 1)) w := ab_mono _ (by omega)
    have h2 := hm (w + 1) (by omega)
    have h2 : ab (l.set j (l[j] - 1)) ((w : Int) + 1) = ab l ((w : Int) + 1) := h2
    omega
  rw [hmny, if_pos (low_zip l j hj), mny_low hp g.len w hm hw1 n (by omega) hlt]
  have eb : bef l j = ab l ((w : Int) + 1) := by
    rw [bef, List.getElem?_eq_getElem hj]
    dsimp only
    congr 1
    omega
  have ea : bef l (j + 1) = ab l w := by
    rw [bef]
    by_cases h2 : j + 1 < l.length
    · rw [List.getElem?_eq_getElem h2]
      dsimp only
      have h3 := (List.pairwise_iff_getElem.mp hf) j (j + 1) (by rw [List.length_set]; exact hj) (by rw [List.length_set]; exact h2) (by omega)
      rw [List.getElem_set, List.getElem_set, if_neg (by omega), if_pos rfl] at h3
      refine ab_congr fun x hx => ?_
      obtain ⟨i, hi, rfl⟩ := List.mem_iff_getElem.mp hx
      by_cases hij : i ≤ j
      · have : l[j] ≤ l[i] := by
          by_cases e : i = j
          · subst e; exact Int.le_refl _
          · exact hpw i j hi hj (by omega)
        omega
      · have : l[i] ≤ l[j + 1] := by
          by_cases e : i = j + 1
          · subst e; exact Int.le_refl _
          · exact hpw (j + 1) i h2 hi (by omega)
        omega
    · rw [List.getElem?_eq_none (by omega)]
      dsimp only
      refine ab_congr fun x hx => ?_
      obtain ⟨i, hi, rfl⟩ := List.mem_iff_getElem.mp hx
      have : l[j] ≤ l[i] := by
        by_cases e : i = j
        · subst e; exact Int.le_refl _
        · exact hpw i j hi hj (by omega)
      omega
  rw [ea, eb]
theorem bef_stay {l : List Int} (g : Grp l) (j : Nat) (hj : j < l.length) (hc : ¬ (0 ≤ l[j] - 1 ∧ Fall (l.set j (l[j] - 1)))) : bef l (j + 1) = bef l j := by
  have hpw := List.pairwise_iff_getElem.mp g.fall
  have hlow := g.low _ (List.getElem_mem hj)
  unfold bef
  rw [List.getElem?_eq_getElem hj]
  dsimp only
  by_cases h2 : j + 1 < l.length
  · rw [List.getElem?_eq_getElem h2]
    dsimp only
    have hle := hpw j (j + 1) hj h2 (by omega)
    have hlow2 := g.low _ (List.getElem_mem h2)
    congr 1
    by_cases h3 : l[j] ≤ 0
    · omega
    · have : ¬ l[j + 1] < l[j] := fun h4 => hc ⟨by omega, set_fall g.fall j hj fun _ => h4⟩
      omega
  · rw [List.getElem?_eq_none (by omega)]
    dsimp only
    by_cases h3 : l[j] ≤ 0
    · congr 1; omega
    · exact absurd ⟨by omega, set_fall g.fall j hj fun h4 => absurd h4 h2⟩ hc
theorem bef_first {l : List Int} (g : Grp l) : bef l 0 = 0 := by
  have hp : 0 < l.length := List.length_pos_iff.mpr g.ne
  have hpw := List.pairwise_iff_getElem.mp g.fall
  rw [bef, List.getElem?_eq_getElem hp]
  dsimp only
  unfold ab
  rw [List.length_eq_zero_iff, List.filter_eq_nil_iff]
  intro x hx
  obtain ⟨i, hi, rfl⟩ := List.mem_iff_getElem.mp hx
  have : l[i] ≤ l[0] := by
    by_cases e : i = 0
    · subst e; exact Int.le_refl _
    · exact hpw 0 i hp hi (by omega)
  simpa using this
/-! ### two numbers -/
theorem two_all {p : Int} (hp : Good p) : ∀ a : Nat, a < 8 → ∀ b : Nat, b < 8 → b ≤ a → (prs a b).all (fun q => decide (hmny p [(a : Int), (b : Int)] [(q.1 : Int), (q.2 : Int)] a = lp p a b q.1 q.2)) = true := by
  rcases hp with rfl | rfl | rfl | rfl | rfl <;> decide +kernel
end K62
set_option Elab.async false
set_option linter.all false
set_option maxRecDepth 100000
set_option maxHeartbeats 2000000
/-! K62l: the law's laps. -/
namespace K62
open Ev
abbrev bdRows : List SX := [.set (.nm 18) (.bin .sub (.call 26 [.var 16, .var 5, .var 8]) (.call 26 [.var 16, .var 5, .bin .sub (.var 8) (.cst (.int 1))])), .set (.nm 10) (.ite (.cmp .le (.var 8) (.ix (.var 5) (.cst (.int 0)))) (.bin .fdiv (.var 18) (.bin .sub (.call 25 [.var 16, .var 8]) (.call 25 [.var 16, .bin .sub (.var 8) (.cst (.int 1))]))) (.cst (.int 0))), .ife (.not (.call 21 [.call 14 [.var 16, .var 5, .bin .add (.tup [.var 8]) (.bin .mul (.tup [.cst (.int 0)]) (.bin .sub (.var 17) (.cst (.int 1))))], .var 10])) [.ret (.cst (.bl false))] []]
abbrev bdLow : List SX := [.set (.nm 3) (.bin .add (.bin .add (.sl (.var 5) none (some (.var 8))) (.tup [.bin .sub (.ix (.var 5) (.var 8)) (.cst (.int 1))])) (.sl (.var 5) (some (.bin .add (.var 8) (.cst (.int 1)))) none)), .ife (.and (.cmp .ge (.ix (.var 3) (.var 8)) (.cst (.int 0))) (.cmp .eq (.var 3) (.call 23 [.var 3]))) [.ex (.mth .append (.var 11) [.call 14 [.var 16, .var 5, .var 3]])] []]
abbrev bdLap : List SX := [.set (.tp [.nm 16, .nm 17]) (.tup [.call 20 [.var 1, .qv (.disp [.cst (.int 2), .cst (.int 3), .cst (.int 5), .cst (.int 31), .cst (.int 97)])], .bin .add (.cst (.int 1)) (.call 18 [.var 1, .cst (.int 6)])]), .set (.nm 5) (.call 23 [.qv (.comp (.nm 8) (.rng1 (.var 17)) none (.call 18 [.var 1, .call 20 [.var 1, .qv (.disp [.cst (.int 3), .cst (.int 6), .cst (.int 11)])]]) [8])]), .set (.nm 6) (.bin .mul (.tup [.cst (.int 0)]) (.var 17)), .set (.nm 7) (.qv (.disp [.call 16 [.var 16, .var 5], .call 14 [.var 16, .var 5, .var 6], .call 14 [.var 16, .var 5, .var 5]])), .ife (.not (.call 21 [.var 7, .qv (.disp [.call 25 [.var 16, .bi .sum [.var 5]], .cst (.int 1), .cst (.int 1)])])) [.ret (.cst (.bl false))] [], .fo (.nm 8) (.rng2 (.cst (.int 1)) (.bin .add (.ix (.var 5) (.cst (.int 0))) (.cst (.int 2)))) bdRows, .set (.nm 9) (.bi .len [.qv (.comp (.nm 19) (.val (.var 5)) (some (.cmp .gt (.var 19) (.cst (.int 0)))) (.var 19) [19])]), .set (.nm 10) (.bin .fdiv (.bin .sub (.call 25 [.var 16, .var 9]) (.cst (.int 1))) (.bin .sub (.var 16) (.cst (.int 1)))), .set (.nm 11) (.qn (.disp [])), .fo (.nm 8) (.rng1 (.var 17)) bdLow, .ife (.cmp .ne (.bi .sum [.var 11]) (.var 10)) [.ret (.cst (.bl false))] []]
abbrev RL (u r : U) (y2 y3 y4 : Option U) (l : List Int) (y6 y7 y8 y9 y10 y11 y12 y13 y14 y15 : Option U) (p : Int) (y18 y19 : Option U) : Rho :=
  [some u, some r, y2, y3, y4, some (.tup (l.map U.int)), y6, y7, y8, y9, y10, y11, y12, y13, y14, y15, some (.int p), some (.int (l.length : Int)), y18, y19]
theorem rep_one (k : Nat) : (List.replicate k [U.int 0]).flatten = (List.replicate k (0 : Int)).map U.int := by
  induction k with
  | zero => rfl
  | succ k ih => rw [List.replicate_succ, List.flatten_cons, ih, List.replicate_succ]; rfl
theorem zeros_mul (S : Sto) (k : Nat) (hk : k ≤ 1000) : binU S .mul (.tup [.int 0]) (.int (k : Int)) = some (.tup ((List.replicate k (0 : Int)).map U.int)) := by
  simp only [binU, mulU, rd]
  rw [if_pos ⟨by simp, by omega, by omega⟩, Int.toNat_natCast, rep_one]
theorem add_tup (S : Sto) (xs ys : List Int) (h : xs.length + ys.length ≤ 1000) : binU S .add (.tup (xs.map U.int)) (.tup (ys.map U.int)) = some (.tup ((xs ++ ys).map U.int)) := by
  simp only [binU, addU, rd]
  rw [List.length_map, List.length_map, if_pos (lim_of h), List.map_append]
theorem cut_lo (xs : List Int) (j : Nat) (hj : j ≤ xs.length) (S : Sto) : slU S (.tup (xs.map U.int)) none (some (j : Int)) = some (.tup ((xs.take j).map U.int)) := by
  simp only [slU, rd, cutU, sIx]
  rw [if_neg (by omega), List.length_map, Int.toNat_natCast, Nat.min_eq_left hj, List.drop_zero, List.map_take]; rfl
theorem cut_hi (xs : List Int) (j : Nat) (hj : j ≤ xs.length) (S : Sto) : slU S (.tup (xs.map U.int)) (some (j : Int)) none = some (.tup ((xs.drop j).map U.int)) := by
  simp only [slU, rd, cutU, sIx]
  rw [if_neg (by omega), List.length_map, Int.toNat_natCast, Nat.min_eq_left hj, List.map_drop, List.take_of_length_le (by simp)]
theorem rows_loop {e : Nat} (he : 5 ≤ e) {p : Int} (hp : Good p) {x : Int} {l : List Int} (g : Grp (x :: l)) (n : Nat) (hx : x = (n : Int)) (hn : n ≤ 11) (S : Sto) (u r : U) (y2 y3 y4 y6 y7 y8 y9 y10 y11 y12 y13 y14 y15 y18 y19 : Option U) :
    ∃ z8 z10 z18, forL (stepF (evT (run D 0 e) (.nm 8)) (evSs (run D 0 e) 0 bdRows)) (iotaU 1 (n + 1)) (RL u r y2 y3 y4 (x :: l) y6 y7 y8 y9 y10 y11 y12 y13 y14 y15 p y18 y19) S
      = .ok (.nx (RL u r y2 y3 y4 (x :: l) y6 y7 z8 y9 z10 y11 y12 y13 y14 y15 p z18 y19)) S := by
  have hl5 : l.length ≤ 5 := by have := g.len; rw [List.length_cons] at this; omega
  have hl0 : ∀ y ∈ l, 0 ≤ y := fun y hy => g.low y (List.mem_cons_of_mem _ hy)
  obtain ⟨ρ', S', h1, h2⟩ := forL_inv (step := stepF (evT (run D 0 e) (.nm 8)) (evSs (run D 0 e) 0 bdRows))
    (fun i ρ S' => S' = S ∧ ∃ z8 z10 z18, ρ = RL u r y2 y3 y4 (x :: l) y6 y7 z8 y9 z10 y11 y12 y13 y14 y15 p z18 y19)
    (iotaU 1 (n + 1)) 0 (RL u r y2 y3 y4 (x :: l) y6 y7 y8 y9 y10 y11 y12 y13 y14 y15 p y18 y19) S ⟨rfl, y8, y10, y18, rfl⟩ (fun i v ρ S' hv ⟨e1, z8, z10, z18, e2⟩ => by
      subst e1 e2
      obtain ⟨hi, rfl⟩ := iota_at hv
      have e0 : (1 : Int) + (i : Int) = ((i + 1 : Nat) : Int) := by omega
      rw [e0]
      have m1 : mns (x :: l) ((i + 1 : Nat) : Int) = ((ms (x :: l) (i + 1) : Nat) : Int) := mns_ms g.low _
      have m2 : mns (x :: l) (i : Int) = ((ms (x :: l) i : Nat) : Int) := mns_ms g.low _
      have b1 := ms_le g.len (i + 1)
      have b2 := ms_le g.len i
      have hl6 : (x :: l).length ≤ 1000 := by have := g.len; omega
      have sub1 : ∀ S, binU S .sub (.int ((i + 1 : Nat) : Int)) (.int 1) = some (.int (i : Int)) := fun S => by simp only [binU, int2, rd]; congr 2; omega
      -- what is due
      obtain ⟨due, hdue⟩ : ∃ due : Int, due = if i + 1 ≤ n then (p ^ ms (x :: l) (i + 1) - p ^ ms (x :: l) i) / (p ^ (i + 1) - p ^ i) else 0 := ⟨_, rfl⟩
      have hgot : hmny p (x :: l) (((i + 1 : Nat) : Int) :: List.replicate l.length 0) n = due := by
        rw [hdue]
        split
        · rename_i h; exact hmny_row hp hl5 hl0 n i hx h
        · obtain rfl : i = n := by omega
          exact hmny_over p i hx
      refine ⟨_, _, stepF_nm rfl (s_nx (st_nm (u := .int (p ^ ms (x :: l) (i + 1) - p ^ ms (x :: l) i)) (e_bin (e_call3 (e_var rfl) (e_var rfl) (e_var rfl) (run_lgone (by omega) hp (x :: l) hl6 _ _ m1 (by omega) S'))
          (e_call3 (e_var rfl) (e_var rfl) (e_bin (e_var rfl) e_cst (sub1 _)) (run_lgone (by omega) hp (x :: l) hl6 _ _ m2 (by omega) S')) rfl) rfl)
        (s_nx (st_nm (u := .int due) (S1 := S') ?_ rfl)
        (s_nx (st_ifF (u := .bl false) (S1 := S') (e_not (b := true) (e_call2 (u := .int due) (S1 := S') (e_call3 (z := .tup ((((i + 1 : Nat) : Int) :: List.replicate l.length 0).map U.int)) (e_var rfl) (e_var rfl) (e_bin (e_tup (es_cons (e_var rfl) es_nil)) (e_bin (e_tup (es_cons e_cst es_nil)) (e_bin (z := .int (l.length : Int)) (e_var rfl) e_cst ?_) (zeros_mul S' _ (by omega))) ?_) ?_) (e_var rfl) ?_)) rfl s_nil) s_nil))), rfl, _, _, _, rfl⟩
      · by_cases h : i + 1 ≤ n
        · obtain ⟨g1, g2⟩ := good_div hp (i + 1) (by omega) (by omega)
          rw [Nat.add_sub_cancel] at g1 g2
          refine e_iteT (S1 := S') (e_cmp (k := true) (e_var rfl) (e_ix (z := .int x) (e_var rfl) e_cst (ix_tup (i := 0) rfl)) ?_) (e_bin (e_var rfl) (e_bin (e_call2 (e_var rfl) (e_var rfl) (run_lpower (by omega) hp (i + 1) (by omega) S')) (e_call2 (e_var rfl) (e_bin (e_var rfl) e_cst (sub1 _)) (run_lpower (by omega) hp i (by omega) S')) rfl) ?_)
          · simp only [cmpU]; rw [decide_eq_true (by omega)]
          · simp only [binU, int2, rd]
            rw [if_pos ⟨g1, g2⟩, hdue, if_pos h]
        · refine e_iteF (S1 := S') (e_cmp (k := false) (e_var rfl) (e_ix (z := .int x) (e_var rfl) e_cst (ix_tup (i := 0) rfl)) ?_) ?_
          · simp only [cmpU]; rw [decide_eq_false (by omega)]
          · rw [hdue, if_neg h]; exact e_cst
      · simp only [binU, int2, rd, List.length_cons]; congr 2; omega
      · exact add_tup _ [((i + 1 : Nat) : Int)] (List.replicate l.length 0) (by simp; omega)
      · rw [← hgot]
        refine run_how_many (by omega) hp g ?_ (by simp) ?_ n (by rw [← hx]; rfl) (by omega) S'
        · refine List.pairwise_cons.mpr ⟨fun y hy => ?_, ?_⟩
          · rw [List.eq_of_mem_replicate hy]; omega
          · exact List.pairwise_replicate.mpr (.inr (Int.le_refl _))
        · intro hne
          have := List.getLast_mem hne
          rcases List.mem_cons.mp this with h | h
          · rw [h]; omega
          · rw [List.eq_of_mem_replicate h]; exact Int.le_refl _
      · have := run_same_int (d := e) (by omega) due due S'
        rw [decide_eq_true rfl] at this
        exact this)
  obtain ⟨rfl, z8, z10, z18, rfl⟩ := h2
  exact ⟨z8, z10, z18, h1⟩
end K62
set_option Elab.async false
set_option linter.all false
set_option maxRecDepth 100000
set_option maxHeartbeats 2000000
/-! K62m: the law's lowered falls; a lap. -/
namespace K62
open Ev
theorem low_own {l : List Int} {i : Nat} (hi : i < l.length) : l.take i ++ [l[i] - 1] ++ l.drop (i + 1) = l.set i (l[i] - 1) := by
  rw [List.set_eq_take_append_cons_drop, if_pos hi]; simp
theorem low_loop {e : Nat} (he : 5 ≤ e) {p : Int} (hp : Good p) {l : List Int} (g : Grp l) (n : Nat) (h0 : l[0]? = some (n : Int)) (hn : n ≤ 1000) (S : Sto) (u r : U) (y2 y3 y4 y6 y7 y8 y9 y10 y12 y13 y14 y15 y18 y19 : Option U) :
    ∃ (z3 z8 : Option U) (ls : List Int), forL (stepF (evT (run D 0 e) (.nm 8)) (evSs (run D 0 e) 0 bdLow)) (iotaU 0 l.length) (RL u r y2 y3 y4 l y6 y7 y8 y9 y10 (some (.ref S.length)) y12 y13 y14 y15 p y18 y19) (S ++ [.liv (.lst [])])
      = .ok (.nx (RL u r y2 z3 y4 l y6 y7 z8 y9 y10 (some (.ref S.length)) y12 y13 y14 y15 p y18 y19)) (S ++ [.liv (.lst (ls.map U.int))]) ∧ ls.sum * (p - 1) = p ^ ab l 0 - 1 := by
  have hl6 := g.len
  obtain ⟨ρ', S', h1, h2⟩ := forL_inv (step := stepF (evT (run D 0 e) (.nm 8)) (evSs (run D 0 e) 0 bdLow))
    (fun i ρ S' => ∃ ls : List Int, S' = S ++ [.liv (.lst (ls.map U.int))] ∧ ls.length ≤ i ∧ ls.sum * (p - 1) = p ^ bef l i - 1 ∧ ∃ z3 z8, ρ = RL u r y2 z3 y4 l y6 y7 z8 y9 y10 (some (.ref S.length)) y12 y13 y14 y15 p y18 y19)
    (iotaU 0 l.length) 0 (RL u r y2 y3 y4 l y6 y7 y8 y9 y10 (some (.ref S.length)) y12 y13 y14 y15 p y18 y19) (S ++ [.liv (.lst [])]) ⟨[], rfl, Nat.le_refl _, by rw [bef_first g]; simp, y3, y8, rfl⟩ (fun i v ρ S' hv ⟨ls, e1, hls, hsum, z3, z8, e2⟩ => by
      subst e1 e2
      obtain ⟨hi, rfl⟩ := iota_at hv
      rw [Nat.zero_add] at *
      rw [Int.zero_add] at *
      obtain ⟨own, hown⟩ : ∃ own, own = l.set i (l[i] - 1) := ⟨_, rfl⟩
      have hlen : own.length = l.length := by rw [hown, List.length_set]
      have hat : own[i]'(by omega) = l[i] - 1 := by subst hown; simp
      have hsl := cut_lo l i (by omega) (S ++ [.liv (.lst (ls.map U.int))])
      have hsh := cut_hi l (i + 1) (by omega) (S ++ [.liv (.lst (ls.map U.int))])
      have hset : evS (run D 0 e) 0 (.set (.nm 3) (.bin .add (.bin .add (.sl (.var 5) none (some (.var 8))) (.tup [.bin .sub (.ix (.var 5) (.var 8)) (.cst (.int 1))])) (.sl (.var 5) (some (.bin .add (.var 8) (.cst (.int 1)))) none)))
          (RL u r y2 z3 y4 l y6 y7 (some (.int (i : Int))) y9 y10 (some (.ref S.length)) y12 y13 y14 y15 p y18 y19) (S ++ [.liv (.lst (ls.map U.int))]) = .ok (.nx (RL u r y2 (some (.tup (own.map U.int))) y4 l y6 y7 (some (.int (i : Int))) y9 y10 (some (.ref S.length)) y12 y13 y14 y15 p y18 y19)) (S ++ [.liv (.lst (ls.map U.int))]) := by
        refine (st_nm (u := .tup (own.map U.int)) (e_bin (u := .tup ((l.take i ++ [l[i] - 1]).map U.int)) (e_bin (e_sl (e_var rfl) o_none (o_some (e_var rfl)) hsl) (e_tup (es_cons (e_bin (z := .int (l[i] - 1)) (e_ix (e_var rfl) (e_var rfl) (ix_tup (mapI hi))) e_cst rfl) es_nil)) ?_) (e_sl (e_var rfl) (o_some (i := ((i + 1 : Nat) : Int)) (e_bin (e_var rfl) e_cst rfl)) o_none hsh) ?_) rfl).trans rfl
        · exact add_tup _ (l.take i) [l[i] - 1] (by simp; omega)
        · rw [hown, ← low_own hi]
          exact add_tup _ (l.take i ++ [l[i] - 1]) (l.drop (i + 1)) (by simp; omega)
      have hix : ixU (S ++ [.liv (.lst (ls.map U.int))]) (.tup (own.map U.int)) (.int (i : Int)) = some (.int (l[i] - 1)) := by
        rw [← hat]; exact ix_tup (mapI (by omega))
      have hfall := run_lfallT (d := e) (by omega) own (S ++ [.liv (.lst (ls.map U.int))])
      have hfeq : cmpU (S ++ [.liv (.lst (ls.map U.int))]) .eq (.tup (own.map U.int)) (.tup ((srtI own).reverse.map U.int)) = some (decide (Fall own)) := by
        simp only [cmpU, rd]
        rw [eqV_tups]
        congr 1
        exact decide_eq_decide.mpr fall_iff
      by_cases hc : 0 ≤ l[i] - 1 ∧ Fall own
      · have hm := run_how_many (d := e) (by omega) hp g hc.2 hlen (fun hne => by
          have hlast := List.getLast_mem hne
          have hmem : own.getLast hne ∈ l.set i (l[i] - 1) := by rw [← hown]; exact hlast
          rcases List.mem_or_eq_of_mem_set hmem with h | h
          · exact g.low _ h
          · rw [h]; exact hc.1) n h0 hn (S ++ [.liv (.lst (ls.map U.int))])
        refine ⟨_, _, stepF_nm rfl (s_nx hset (s_nx (st_ifT (u := .bl true) (S1 := S ++ [.liv (.lst (ls.map U.int))]) (e_and (S1 := S ++ [.liv (.lst (ls.map U.int))]) (e_cmp (k := true) (e_ix (e_var rfl) (e_var rfl) hix) e_cst ?_) (e_cmp (k := true) (e_var rfl) (e_call1 (e_var rfl) hfall) ?_)) rfl
          (s_nx (st_ex (e_mthA (xs := ls.map U.int) (y := .int (hmny p l own n)) (e_var rfl) last_at (e_call3 (e_var rfl) (e_var rfl) (e_var rfl) hm) ?_)) s_nil)) s_nil)), ls ++ [hmny p l own n], ?_, ?_, ?_, _, _, rfl⟩
        · simp only [cmpU]; rw [decide_eq_true hc.1]
        · rw [hfeq, decide_eq_true hc.2]
        · rw [List.length_map]; exact Nat.lt_of_le_of_lt (Nat.le_trans hls (Nat.le_of_lt hi)) (Nat.lt_of_le_of_lt hl6 (by decide))
        · rw [app_set, List.map_append]; rfl
        · simp; omega
        · have := hmny_low hp g n h0 i hi hc.1 (hown ▸ hc.2)
          rw [← hown] at this
          rw [List.sum_append, Int.add_mul, hsum]
          simp only [List.sum_cons, List.sum_nil, Int.add_zero]
          rw [this]; omega
      · refine ⟨_, _, stepF_nm rfl (s_nx hset (s_nx (st_ifF (u := .bl false) (S1 := S ++ [.liv (.lst (ls.map U.int))]) ?_ rfl s_nil) s_nil)), ls, rfl, by omega, ?_, _, _, rfl⟩
        · by_cases h3 : 0 ≤ l[i] - 1
          · refine e_and (S1 := S ++ [.liv (.lst (ls.map U.int))]) (e_cmp (k := true) (e_ix (e_var rfl) (e_var rfl) hix) e_cst ?_) (e_cmp (k := false) (e_var rfl) (e_call1 (e_var rfl) hfall) ?_)
            · simp only [cmpU]; rw [decide_eq_true h3]
            · rw [hfeq, decide_eq_false fun h => hc ⟨h3, h⟩]
          · refine e_andF (e_cmp (k := false) (e_ix (e_var rfl) (e_var rfl) hix) e_cst ?_)
            simp only [cmpU]; rw [decide_eq_false h3]
        · rw [hsum, bef_stay g i hi (hown ▸ hc)])
  obtain ⟨ls, rfl, _, hsum, z3, z8, rfl⟩ := h2
  rw [iota_len, Nat.zero_add] at *
  refine ⟨z3, z8, ls, h1, ?_⟩
  rw [hsum, bef, List.getElem?_eq_none (Nat.le_refl _)]
end K62
set_option Elab.async false
set_option linter.all false
set_option maxRecDepth 100000
set_option maxHeartbeats 2000000
/-! K62n: one lap of the law. -/
namespace K62
open Ev
theorem Tin.app {S : Sto} {n k : Nat} {T : Sto} (h : Tin S n k) : Tin (S ++ T) n k := by
  obtain ⟨a, b, c, h1, h2, h3⟩ := h
  exact ⟨a, b, c, by rw [List.getElem?_append_left (List.getElem?_eq_some_iff.mp h1).1]; exact h1, h2, h3⟩
theorem run_lap {e : Nat} (he : 5 ≤ e) {S : Sto} {r c : Nat} (t : Tin S r c) (hc : c ≤ 1000) (u : U) (y2 y3 y4 y5 y6 y7 y8 y9 y10 y11 y12 y13 y14 y15 y16 y17 y18 y19 : Option U) :
    ∃ ρ' S', evSs (run D 0 e) 0 bdLap [some u, some (.ref r), y2, y3, y4, y5, y6, y7, y8, y9, y10, y11, y12, y13, y14, y15, y16, y17, y18, y19] S = .ok (.nx ρ') S' ∧ Tin S' r (c + 14) ∧
      ∃ (p : Int) (z3 z4 z5 z6 z7 z8 z9 z10 z11 z12 z13 z14 z15 z17 z18 z19 : Option U), Good p ∧ ρ' = [some u, some (.ref r), y2, z3, z4, z5, z6, z7, z8, z9, z10, z11, z12, z13, z14, z15, some (.int p), z17, z18, z19] := by
  obtain ⟨p, S1, h1, hpm, t1, _⟩ := run_of (d := e) (by omega) t (by omega) [2, 3, 5, 31, 97] (by simp) (by simp)
  have hp : Good p := by simpa using hpm
  obtain ⟨v, S2, h2, hv0, hv6, t2, _⟩ := run_take (d := e) (by omega) t1 (by omega) 6 (by omega) (by omega)
  obtain ⟨n, hn⟩ : ∃ n : Nat, (n : Int) = 1 + v := ⟨(1 + v).toNat, by omega⟩
  obtain ⟨ys, S3, h3, hyl, hyq, t3⟩ := compL_inv (step := stepC [8] (evT (run D 0 e) (.nm 8)) (evC (run D 0 e) none) (evE (run D 0 e) (.call 18 [.var 1, .call 20 [.var 1, .qv (.disp [.cst (.int 3), .cst (.int 6), .cst (.int 11)])]]))
      [some u, some (.ref r), y2, y3, y4, y5, y6, y7, y8, y9, y10, y11, y12, y13, y14, y15, some (.int p), some (.int (n : Int)), y18, y19])
    (fun k S => Tin S r (c + 2 + 2 * k)) (fun y => ∃ i, y = U.int i ∧ (0 ≤ i ∧ i < 11)) (iotaU 0 n) 0 S2 t2 (fun i x S hx tt => by
      have hi := (iota_at hx).1
      obtain ⟨m, S4, g1, g2, g3, _⟩ := run_of (d := e) (by omega) tt (by omega) [3, 6, 11] (by simp) (by simp)
      have hm : 0 < m ∧ m ≤ 11 := by
        simp at g2; omega
      obtain ⟨w, S5, k1, k2, k3, k4, _⟩ := run_take (d := e) (by omega) g3 (by omega) m hm.1 (by omega)
      exact ⟨_, S5, c_nm rfl (e_call2 (e_var rfl) (e_call2 (e_var rfl) (e_qv (q_disp (es_cons e_cst (es_cons e_cst (es_cons e_cst es_nil))))) g1) k1), ⟨w, rfl, k2, by omega⟩, k4.mono (by omega)⟩)
  obtain ⟨draws, rfl, hdr⟩ := ints_of hyq
  rw [List.length_map, iota_len] at hyl
  rw [iota_len] at t3
  have hlen : ((srtI draws).reverse).length = n := by rw [List.length_reverse, srtI_len, hyl]
  have hmem : ∀ x ∈ (srtI draws).reverse, 0 ≤ x ∧ x < 11 := fun x hx => hdr x (srtI_mem.mp (List.mem_reverse.mp hx))
  have hfl : Fall (srtI draws).reverse := by
    show List.Pairwise _ _
    rw [List.pairwise_reverse]; exact srtI_srt
  have hfall := run_lfall (d := e) (by omega) draws S3
  generalize (srtI draws).reverse = l at hlen hmem hfl hfall
  match l, hlen, hmem, hfl, hfall with
  | [], hlen, _, _, _ => exact absurd hlen (by simp; omega)
  | x :: l, hlen, hmem, hfl, hfall =>
  have g : Grp (x :: l) := ⟨by omega, by simp, hfl, fun y hy => (hmem y hy).1⟩
  have hx := hmem x List.mem_cons_self
  obtain ⟨n0, hn0⟩ := Int.eq_ofNat_of_zero_le hx.1
  have h0 : (x :: l)[0]? = some (n0 : Int) := by rw [← hn0]; rfl
  subst hlen
  -- the sum of the numbers
  obtain ⟨k, hk, hk2⟩ : ∃ k : Nat, (x :: l).sum = (k : Int) ∧ k ≤ 66 := by
    have : ∀ l : List Int, (∀ y ∈ l, 0 ≤ y ∧ y < 11) → 0 ≤ l.sum ∧ l.sum ≤ 11 * l.length := by
      intro l
      induction l with
      | nil => intro _; simp
      | cons a l ih =>
        intro h
        have h1 := ih fun y hy => h y (List.mem_cons_of_mem _ hy)
        have h2 := h a List.mem_cons_self
        rw [List.sum_cons, List.length_cons]
        omega
    have h := this (x :: l) hmem
    have := g.len
    exact ⟨(x :: l).sum.toNat, by omega, by omega⟩
  have hgo := run_group_order (d := e) (by omega) hp g k hk (by omega) S3
  have hz := run_how_many (d := e) (by omega) hp g (m := List.replicate (x :: l).length 0) (List.pairwise_replicate.mpr (.inr (Int.le_refl _))) (by simp) (fun hne => by
    rw [List.eq_of_mem_replicate (List.getLast_mem hne)]; exact Int.le_refl _) n0 h0 (by omega) S3
  rw [hmny_zero p g.low] at hz
  have ha := run_how_many (d := e) (by omega) hp g (m := x :: l) hfl rfl (fun hne => g.low _ (List.getLast_mem hne)) n0 h0 (by omega) S3
  rw [hmny_all hp g.len] at ha
  have hpw := run_lpower (d := e) (by omega) hp k (by omega) S3
  have hsame := run_same_ints (d := e) (by omega) [p ^ k, 1, 1] (by simp) S3
  have hsum : biU S3 .sum [.tup ((x :: l).map U.int)] = some (.int (k : Int)) := by
    simp only [biU, seqOf, rd]
    rw [intsOf_int, Option.map_some, hk]
  obtain ⟨z8, z10, z18, hrows⟩ := rows_loop he hp g n0 hn0 (by omega) S3 u (.ref r) y2 y3 y4 (some (.tup ((List.replicate (x :: l).length (0 : Int)).map U.int))) (some (.lst ([p ^ k, 1, 1].map U.int))) y8 y9 y10 y11 y12 y13 y14 y15 y18 y19
  rw [← show (x + 2 - 1).toNat = n0 + 1 by omega] at hrows
  have htall : ab (x :: l) 0 ≤ 6 := Nat.le_trans (ab_le _ _) g.len
  have hpt := run_lpower (d := e) (by omega) hp (ab (x :: l) 0) (by omega) S3
  obtain ⟨due, hdue⟩ : ∃ due : Int, due = (p ^ ab (x :: l) 0 - 1) / (p - 1) := ⟨_, rfl⟩
  obtain ⟨z3, z8', ls, hlow, hls⟩ := low_loop he hp g n0 h0 (by omega) S3 u (.ref r) y2 y3 y4 (some (.tup ((List.replicate (x :: l).length (0 : Int)).map U.int))) (some (.lst ([p ^ k, 1, 1].map U.int))) z8 (some (.int (ab (x :: l) 0))) (some (.int due)) y12 y13 y14 y15 z18 y19
  have hp2 := good_p hp
  have hp3 := good_b hp
  have hds : due = ls.sum := by
    rw [hdue, ← hls]
    exact Int.mul_ediv_cancel _ (by omega)
  have hl6 := g.len
  refine ⟨_, _, s_nx (st_set (e_tup (es_cons (e_call2 (e_var rfl) (e_qv (q_disp (es_cons e_cst (es_cons e_cst (es_cons e_cst (es_cons e_cst (es_cons e_cst es_nil))))))) h1) (es_cons (e_bin (z := .int ((x :: l).length : Int)) e_cst (e_call2 (e_var rfl) e_cst h2) ?_) es_nil))) (t_two rfl rfl))
    (s_nx (st_nm (e_call1 (e_qv (q_comp (us := iotaU 0 (x :: l).length) (i_rng1 (j := ((x :: l).length : Int)) (e_var rfl) (small_i (by omega) (by omega))) (by rw [iota_len]; exact lim_of (by omega)) h3)) hfall) rfl)
    (s_nx (st_nm (e_bin (e_tup (es_cons e_cst es_nil)) (e_var rfl) (zeros_mul S3 _ (by omega))) rfl)
    (s_nx (st_nm (u := .lst ([p ^ k, 1, 1].map U.int)) (e_qv (q_disp (es_cons (e_call2 (e_var rfl) (e_var rfl) hgo) (es_cons (e_call3 (e_var rfl) (e_var rfl) (e_var rfl) hz) (es_cons (e_call3 (e_var rfl) (e_var rfl) (e_var rfl) ha) es_nil))))) rfl)
    (s_nx (st_ifF (u := .bl false) (S1 := S3) (e_not (b := true) (e_call2 (e_var rfl) (e_qv (q_disp (es_cons (e_call2 (e_var rfl) (e_bi1 (e_var rfl) hsum) hpw) (es_cons e_cst (es_cons e_cst es_nil))))) hsame)) rfl s_nil)
    (s_nx (st_fo (i_rng2 (j := x + 2) e_cst (e_bin (e_ix (z := .int x) (e_var rfl) e_cst (ix_tup (i := 0) rfl)) e_cst rfl) rfl (small_i (by omega) (by omega))) hrows)
    (s_nx (st_nm (u := .int (ab (x :: l) 0)) (e_bi1 (e_qv (q_comp (us := (x :: l).map U.int) (ys := ((x :: l).filter fun y => decide (0 < y)).map U.int) (i_tup (e_var rfl)) (lim_of (by rw [List.length_map]; omega)) (compL_filter fun y _ => c_nmI rfl (e_cmp (e_var rfl) e_cst rfl) (e_var rfl)))) ?_) rfl)
    (s_nx (st_nm (u := .int due) (e_bin (e_bin (e_call2 (e_var rfl) (e_var rfl) hpt) e_cst rfl) (e_bin (e_var rfl) e_cst rfl) ?_) rfl)
    (s_nx (st_nm (e_qn (q_disp es_nil)) rfl)
    (s_nx (st_fo (i_rng1 (j := ((x :: l).length : Int)) (e_var rfl) (small_i (by omega) (by omega))) hlow)
    (s_nx (st_ifF (u := .bl false) (S1 := S3 ++ [.liv (.lst (ls.map U.int))]) (e_cmp (k := false) (e_bi1 (v := .int ls.sum) (e_var rfl) ?_) (e_var rfl) ?_) rfl s_nil) s_nil)))))))))), (t3.mono (by omega)).app, p, _, _, _, _, _, _, _, _, _, _, _, _, _, _, _, _, hp, rfl⟩
  · simp only [binU, addU, rd]; rw [hn]
  · simp [biU, seqOf, rd, ab]
  · simp only [binU, int2, rd]
    rw [if_pos (log_ok (by omega) (by omega)), hdue]
  · simp only [biU, seqOf, rd, last_at]
    rw [intsOf_int]; rfl
  · show (eqV? (.int _) (.int _)).map (!·) = _
    rw [eqV_ints, decide_eq_true hds.symm]; rfl
end K62
set_option Elab.async false
set_option linter.all false
set_option maxRecDepth 100000
set_option maxHeartbeats 2000000
/-! K62o: the sizes; the law. -/
namespace K62
open Ev
theorem e_dnew {F : Nat → List U → Sto → R U} {ρ : Rho} {S : Sto} : evE F .dnew ρ S = .ok (.ref S.length) (S ++ [.liv (.dct [])]) := by rw [evE]
theorem e_dget {F : Nat → List U → Sto → R U} {ρ : Rho} {S : Sto} {a b c : EX} {n : Nat} {i : Int} {u : U} {kvs : List (Int × U)} (h : evE F a ρ S = .ok (.ref n) S) (hs : S[n]? = some (.liv (.dct kvs))) (h1 : evE F b ρ S = .ok (.int i) S) (h2 : evE F c ρ S = .ok u S) :
    evE F (.dget a b c) ρ S = .ok ((dvalU kvs i).getD u) S := by
  have hd : dctOf S (.ref n) = some kvs := by simp [dctOf, hs]
  rw [evE, h]; dsimp only [R.bind]
  rw [hd, if_pos (show (some kvs).isSome = true from rfl), h1]; dsimp only [R.bind]
  rw [h2]; dsimp only [R.bind]
  simp only [dgetU, hd]; rfl
theorem q_compK {F : Nat → List U → Sto → R U} {ρ : Rho} {S S2 : Sto} {t : TX} {i n : Nat} {cd : Option EX} {el : EX} {own : List Nat} {kvs : List (Int × U)} {ys : List U} (h : getR ρ i = some (.ref n)) (hs : S[n]? = some (.liv (.dct kvs))) (hl : kvs.length ≤ lim)
    (h2 : compL (stepC own (evT F t) (evC F cd) (evE F el) ρ) (kvs.map fun kv => .int kv.1) (S.set n (.lck (.dct kvs))) = .ok ys S2) : evQ F (.compK i t cd el own) ρ S = .ok ys (S2.set n (.liv (.dct kvs))) := by
  rw [ev_compK]; dsimp only; rw [h]; dsimp only; rw [hs]; dsimp only; rw [if_pos hl, h2]; rfl
theorem t_twoL {F : Nat → List U → Sto → R U} {ρ : Rho} {S : Sto} {a b : U} {i j : Nat} (hi : decide (i < ρ.length) = true) (hj : decide (j < ρ.length) = true) : evT F (.tp [.nm i, .nm j]) (.lst [a, b]) ρ S = some ((ρ.set i (some a)).set j (some b), S) := by
  rw [evT]
  show (match unpack 2 (.lst [a, b]) S with | some us => evTs F [.nm i, .nm j] us ρ S | none => none) = _
  have : unpack 2 (.lst [a, b]) S = some [a, b] := rfl
  rw [this]
  dsimp only
  rw [evTs, evT, if_pos (of_decide_eq_true hi)]
  dsimp only
  rw [evTs, evT, if_pos (by rw [List.length_set]; exact of_decide_eq_true hj)]
  dsimp only
  rw [evTs]
/-! ### plain dicts -/
def gtI (kvs : List (Int × Int)) (k : Int) : Option Int := (kvs.find? fun kv => decide (kv.1 = k)).map (·.2)
def ptI (kvs : List (Int × Int)) (k : Int) (v : Int) : List (Int × Int) :=
  if (kvs.any fun kv => decide (kv.1 = k)) = true then kvs.map (fun kv => if kv.1 = k then (kv.1, v) else kv) else kvs ++ [(k, v)]
def ku (kvs : List (Int × Int)) : List (Int × U) := kvs.map fun kv => (kv.1, U.int kv.2)
theorem get_ku (k : Int) : ∀ kvs : List (Int × Int), dvalU (ku kvs) k = (gtI kvs k).map U.int
  | [] => rfl
  | kv :: kvs => by
    have ih := get_ku k kvs
    simp only [dvalU, gtI, ku, List.map_cons, List.find?_cons] at ih ⊢
    by_cases h : kv.1 = k
    · simp [h]
    · simp only [h, decide_false]; exact ih
theorem put_ku (k v : Int) (kvs : List (Int × Int)) : dputU (ku kvs) k (.int v) = ku (ptI kvs k v) := by
  unfold dputU ptI ku
  rw [List.any_map]
  by_cases h : (kvs.any fun kv => decide (kv.1 = k)) = true
  · rw [if_pos h, if_pos (by simpa [Function.comp_def] using h), List.map_map, List.map_map]
    apply List.map_congr_left
    intro kv _
    simp only [Function.comp_apply]
    split <;> rfl
  · rw [if_neg h, if_neg (by simpa [Function.comp_def] using h), List.map_append]; rfl
theorem pt_len (k v : Int) (kvs : List (Int × Int)) : (ptI kvs k v).length ≤ kvs.length + 1 := by
  unfold ptI
  split
  · simp
  · simp
def szI (p : Int) (a b : Nat) : List (Nat × Nat) → List (Int × Int) → List (Int × Int)
  | [], kvs => kvs
  | q :: qs, kvs => szI p a b qs (ptI kvs ((q.1 : Int) + q.2) ((gtI kvs ((q.1 : Int) + q.2)).getD 0 + lp p a b q.1 q.2))
def evenI (a b : Nat) (kvs : List (Int × Int)) : Bool := kvs.all fun kv => match gtI kvs kv.1, gtI kvs ((a : Int) + b - kv.1) with
  | some x, some y => decide (x = y)
  | _, _ => false
theorem sz_even {p : Int} (hp : Good p) : ∀ a : Nat, a < 8 → ∀ b : Nat, b < 8 → b ≤ a → evenI a b (szI p a b (prs a b) []) = true := by
  rcases hp with rfl | rfl | rfl | rfl | rfl <;> decide +kernel
theorem prs_mem {a b : Nat} {q : Nat × Nat} (h : q ∈ prs a b) : q.1 ≤ a ∧ q.2 ≤ b ∧ q.2 ≤ q.1 := by
  obtain ⟨c, hc, hq⟩ := List.mem_flatMap.mp h
  obtain ⟨d, hd, rfl⟩ := List.mem_map.mp hq
  have h1 := List.mem_range.mp hc
  have h2 := List.mem_range.mp hd
  simp only; omega
theorem prs_len {a b : Nat} (ha : a < 8) (hb : b < 8) : (prs a b).length ≤ 64 := flatM_len a ha b hb (a + 1) (by omega)
end K62
set_option Elab.async false
set_option linter.all false
set_option maxRecDepth 100000
set_option maxHeartbeats 4000000
/-! K62p: the law holds. -/
namespace K62
open Ev
abbrev bdSz : List SX := [.set (.ix (.var 4) (.bin .add (.var 14) (.var 15))) (.bin .add (.dget (.var 4) (.bin .add (.var 14) (.var 15)) (.cst (.int 0))) (.call 27 [.var 16, .var 12, .var 13, .var 14, .var 15]))]
abbrev R2 (u r : U) (y2 y3 y4 y5 y6 y7 y8 y9 y10 y11 : Option U) (a b : Nat) (y14 y15 : Option U) (p : Int) (y17 y18 y19 : Option U) : Rho :=
  [some u, some r, y2, y3, y4, y5, y6, y7, y8, y9, y10, y11, some (.int a), some (.int b), y14, y15, some (.int p), y17, y18, y19]

theorem sz_loop {e : Nat} (he : 5 ≤ e) {p : Int} (hp : Good p) (a b : Nat) (ha : a < 8) (hb : b ≤ a) (S : Sto) (u r : U) (y2 y3 y5 y6 y7 y8 y9 y10 y11 y17 y18 y19 : Option U) : ∀ (qs : List (Nat × Nat)) (kvs : List (Int × Int)) (y14 y15 : Option U), (∀ q ∈ qs, q.1 ≤ a ∧ q.2 ≤ b ∧ q.2 ≤ q.1) → kvs.length + qs.length ≤ 64 →
    ∃ z14 z15, forL (stepF (evT (run D 0 e) (.tp [.nm 14, .nm 15])) (evSs (run D 0 e) 0 bdSz)) (qs.map tu) (R2 u r y2 y3 (some (.ref S.length)) y5 y6 y7 y8 y9 y10 y11 a b y14 y15 p y17 y18 y19) (S ++ [.liv (.dct (ku kvs))])
      = .ok (.nx (R2 u r y2 y3 (some (.ref S.length)) y5 y6 y7 y8 y9 y10 y11 a b z14 z15 p y17 y18 y19)) (S ++ [.liv (.dct (ku (szI p a b qs kvs)))])
  | [], kvs, y14, y15, _, _ => ⟨y14, y15, rfl⟩
  | q :: qs, kvs, y14, y15, hq, hl => by
    have hq1 := hq q List.mem_cons_self
    obtain ⟨z14, z15, ih⟩ := sz_loop he hp a b ha hb S u r y2 y3 y5 y6 y7 y8 y9 y10 y11 y17 y18 y19 qs (ptI kvs ((q.1 : Int) + q.2) ((gtI kvs ((q.1 : Int) + q.2)).getD 0 + lp p a b q.1 q.2)) (some (.int q.1)) (some (.int q.2)) (fun x hx => hq x (List.mem_cons_of_mem _ hx)) (by
      have := pt_len ((q.1 : Int) + q.2) ((gtI kvs ((q.1 : Int) + q.2)).getD 0 + lp p a b q.1 q.2) kvs
      rw [List.length_cons] at hl; omega)
    refine ⟨z14, z15, forL_nx (stepF_two rfl rfl (s_nx (st_set (e_bin (z := .int ((gtI kvs ((q.1 : Int) + q.2)).getD 0 + lp p a b q.1 q.2)) (e_dget (e_var rfl) last_at (e_bin (e_var rfl) (e_var rfl) rfl) e_cst) (e_call (es_cons (e_var rfl) (es_cons (e_var rfl) (es_cons (e_var rfl) (es_cons (e_var rfl) (es_cons (e_var rfl) es_nil))))) (run_lpairs (by omega) hp a b q.1 q.2 hq1.1 hq1.2.1 hq1.2.2 (by omega) (by omega) _)) ?_)
      (t_ixD (e_var rfl) (e_bin (e_var rfl) (e_var rfl) rfl) last_at ?_)) s_nil)) ?_⟩
    · rw [get_ku]
      cases gtI kvs ((q.1 : Int) + q.2) <;> rfl
    · rw [ku, List.length_map]; rw [List.length_cons] at hl; exact Nat.lt_of_le_of_lt (by omega : kvs.length ≤ 64) (by decide)
    · rw [app_set, put_ku]; exact ih
end K62
set_option Elab.async false
set_option linter.all false
set_option maxRecDepth 100000
set_option maxHeartbeats 4000000
/-! K62q: the law holds. -/
namespace K62
open Ev
theorem iota0 (n : Nat) : iotaU 0 n = (List.range n).map fun (i : Nat) => U.int (i : Int) := by
  rw [iota_map]; simp
theorem eq_nils (S : Sto) : cmpU S .eq (.lst []) (.lst []) = some true := by simp [cmpU, rd, eqV?, okD, okDs, eqU, eqUs]
theorem ne_nils (S : Sto) : cmpU S .ne (.lst []) (.lst []) = some false := by simp [cmpU, rd, eqV?, okD, okDs, eqU, eqUs]
theorem flat_prs (a b : Nat) : ((List.range (a + 1)).map fun c => (List.range (min b c + 1)).map fun d => tu (c, d)).flatten = (prs a b).map tu := by
  rw [prs, List.map_flatMap, List.flatMap_def]
  congr 1
  apply List.map_congr_left
  intro c _
  rw [List.map_map]; rfl
theorem ix_lckD {S : Sto} {n : Nat} {kvs : List (Int × Int)} {k x : Int} (hs : S[n]? = some (.lck (.dct (ku kvs)))) (h : gtI kvs k = some x) : ixU S (.ref n) (.int k) = some (.int x) := by
  have hd : dctOf S (.ref n) = some (ku kvs) := by simp [dctOf, hs]
  simp only [ixU, hd]
  rw [get_ku, h]; rfl
/-- the part of two numbers -/
abbrev bdEnd : List SX := [.set (.nm 3) (.call 15 [.tup [.var 12, .var 13]]), .ife (.not (.call 21 [.var 3, .qv (.srt (.call 22 [.qv (.comp (.nm 14) (.rng1 (.bin .add (.var 12) (.cst (.int 1)))) none (.qv (.comp (.nm 15) (.rng1 (.bin .add (.bi .min2 [.var 13, .var 14]) (.cst (.int 1)))) none (.tup [.var 14, .var 15]) [15])) [14])]))])) [.ret (.cst (.bl false))] [], .ife (.cmp .ne (.qv (.comp (.tp [.nm 14, .nm 15]) (.val (.var 3)) (some (.cmp .ne (.call 14 [.var 16, .tup [.var 12, .var 13], .tup [.var 14, .var 15]]) (.call 27 [.var 16, .var 12, .var 13, .var 14, .var 15]))) (.cst (.int 1)) [14, 15])) (.qv (.disp []))) [.ret (.cst (.bl false))] [], .set (.nm 4) .dnew, .fo (.tp [.nm 14, .nm 15]) (.val (.var 3)) bdSz, .ret (.cmp .eq (.qv (.compK 4 (.nm 8) (some (.cmp .ne (.ix (.var 4) (.var 8)) (.ix (.var 4) (.bin .sub (.bin .add (.var 12) (.var 13)) (.var 8))))) (.var 8) [8])) (.qv (.disp [])))]
theorem run_end {e : Nat} (he : 6 ≤ e) {p : Int} (hp : Good p) (a b : Nat) (ha : a < 8) (hb : b ≤ a) (S : Sto) (u r : U) (y2 y3 y4 y5 y6 y7 y8 y9 y10 y11 y14 y15 y17 y18 y19 : Option U) :
    ∃ S', evSs (run D 0 e) 0 bdEnd (R2 u r y2 y3 y4 y5 y6 y7 y8 y9 y10 y11 a b y14 y15 p y17 y18 y19) S = .ok (.rt (.bl true)) S' := by
  obtain ⟨S1, h1⟩ := run_subfalls (d := e) (by omega) a b ha hb S
  have hlen := prs_len ha (b := b) (by omega)
  have hfl := run_lflat (d := e) (by omega) ((List.range (a + 1)).map fun c => (List.range (min b c + 1)).map fun d => tu (c, d)) (by rw [flat_prs, List.length_map]; omega) S1
  rw [flat_prs] at hfl
  have hpairs := run_same_pairs (d := e) (by omega) ((prs a b).map fun q => [(q.1 : Int), (q.2 : Int)]) (by rw [List.length_map]; omega) (fun x hx => by
    obtain ⟨q, _, rfl⟩ := List.mem_map.mp hx
    simp) (S1 ++ [.ded])
  rw [show ((prs a b).map fun q => [(q.1 : Int), (q.2 : Int)]).map (fun x => U.tup (x.map U.int)) = (prs a b).map tu by rw [List.map_map]; rfl] at hpairs
  obtain ⟨S2, hS2⟩ : ∃ S2, S2 = S1 ++ [C.ded] := ⟨_, rfl⟩
  rw [← hS2] at hpairs hfl
  have g : Grp [(a : Int), (b : Int)] := by
    refine ⟨by simp, by simp, ?_, by intro x hx; simp at hx; omega⟩
    exact List.pairwise_cons.mpr ⟨fun x hx => by simp at hx; omega, List.pairwise_singleton _ _⟩
  obtain ⟨z14, z15, hsz⟩ := sz_loop (e := e) (by omega) hp a b ha hb S2 u r y2 (some (.lst ((prs a b).map tu))) y5 y6 y7 y8 y9 y10 y11 y17 y18 y19 (prs a b) [] y14 y15 (fun q hq => prs_mem hq) (by simpa using hlen)
  obtain ⟨K, hK⟩ : ∃ K, K = szI p a b (prs a b) [] := ⟨_, rfl⟩
  have hev := sz_even hp a ha b (by omega) hb
  rw [← hK] at hsz hev
  have szlen : ∀ (qs : List (Nat × Nat)) (kvs : List (Int × Int)), (szI p a b qs kvs).length ≤ kvs.length + qs.length := by
    intro qs
    induction qs with
    | nil => intro kvs; exact Nat.le_refl _
    | cons q qs ih =>
      intro kvs
      have := ih (ptI kvs ((q.1 : Int) + q.2) ((gtI kvs ((q.1 : Int) + q.2)).getD 0 + lp p a b q.1 q.2))
      have := pt_len ((q.1 : Int) + q.2) ((gtI kvs ((q.1 : Int) + q.2)).getD 0 + lp p a b q.1 q.2) kvs
      rw [szI, List.length_cons]; omega
  have hKl : K.length ≤ 64 := by have := szlen (prs a b) []; rw [← hK] at this; simp only [List.length_nil] at this; omega
  refine ⟨_, s_nx (st_nm (e_call1 (e_tup (es_cons (e_var rfl) (es_cons (e_var rfl) es_nil))) h1) rfl)
    (s_nx (st_ifF (u := .bl false) (S1 := S2) (e_not (b := true) (e_call2 (u := .lst ((prs a b).map tu)) (S1 := S1) (e_var rfl) (e_qv (q_srt (u := .lst ((prs a b).map tu)) (S1 := S2) (e_call1 (u := .lst (((List.range (a + 1)).map fun c => (List.range (min b c + 1)).map fun d => tu (c, d)).map U.lst)) (S1 := S1) (e_qv (q_comp (us := iotaU 0 (a + 1)) (S1 := S1) ?_ (by rw [iota_len]; exact lim_of (by omega)) ?_)) hfl) rfl (srt_tu ha (by omega)))) hpairs)) rfl s_nil)
    (s_nx (st_ifF (u := .bl false) (S1 := S2) (e_cmp (k := false) (e_qv (q_comp (us := (prs a b).map tu) (ys := []) (S1 := S2) (i_lst (e_var rfl)) (lim_of (by rw [List.length_map]; omega)) ?_)) (e_qv (q_disp es_nil)) (ne_nils _)) rfl s_nil)
    (s_nx (st_nm e_dnew rfl)
    (s_nx (st_fo (i_lst (e_var rfl)) hsz)
    (s_rt (st_ret (e_cmp (k := true) (e_qv (q_compK (n := S2.length) (kvs := ku K) (ys := []) (S2 := S2 ++ [C.lck (.dct (ku K))]) rfl last_at (lim_of (by rw [ku, List.length_map]; omega)) ?_)) (e_qv (q_disp es_nil)) (eq_nils _))))))))⟩
  · refine (i_rng1 (j := (a : Int) + 1) (e_bin (e_var rfl) e_cst rfl) (small_i (by omega) (by omega))).trans ?_
    rw [show ((a : Int) + 1).toNat = a + 1 by omega]
  · rw [iota0, List.map_map]
    refine compL_map fun c _ => c_nm rfl (e_qv (q_comp (us := iotaU 0 (min b c + 1)) (S1 := S1) ?_ (by rw [iota_len]; exact lim_of (by omega)) ?_))
    · refine (i_rng1 (j := ((min b c : Nat) : Int) + 1) (e_bin (u := .int ((min b c : Nat) : Int)) (e_bi (es_cons (e_var rfl) (es_cons (e_var rfl) es_nil)) ?_) e_cst rfl) (small_i (by omega) (by omega))).trans ?_
      · simp only [biU]
        congr 2
        split <;> omega
      · rw [show (((min b c : Nat) : Int) + 1).toNat = min b c + 1 by omega]
    · rw [iota0]
      exact compL_map fun d _ => c_nm rfl (e_tup (es_cons (e_var rfl) (es_cons (e_var rfl) es_nil)))
  · have h2 := two_all hp a ha b (by omega) hb
    rw [List.all_eq_true] at h2
    have := compL_filter (S := S2) (xs := prs a b) (e := tu) (c := fun _ => false) (g := fun _ => U.int 1) (step := stepC [14, 15] (evT (run D 0 e) (.tp [.nm 14, .nm 15])) (evC (run D 0 e) (some (.cmp .ne (.call 14 [.var 16, .tup [.var 12, .var 13], .tup [.var 14, .var 15]]) (.call 27 [.var 16, .var 12, .var 13, .var 14, .var 15])))) (evE (run D 0 e) (.cst (.int 1)))
      (R2 u r y2 (some (.lst ((prs a b).map tu))) y4 y5 y6 y7 y8 y9 y10 y11 a b y14 y15 p y17 y18 y19)) (fun q hq => by
        have hq1 := prs_mem hq
        have hlp := of_decide_eq_true (h2 q hq)
        have hm := run_how_many (d := e) (by omega) hp g (m := [(q.1 : Int), (q.2 : Int)]) (List.pairwise_cons.mpr ⟨fun x hx => by simp at hx; omega, List.pairwise_singleton _ _⟩) rfl (fun hne => by simp) a rfl (by omega) S2
        rw [hlp] at hm
        exact c_twoI rfl rfl (e_cmp (k := false) (e_call3 (e_var rfl) (e_tup (es_cons (e_var rfl) (es_cons (e_var rfl) es_nil))) (e_tup (es_cons (e_var rfl) (es_cons (e_var rfl) es_nil))) hm) (e_call (es_cons (e_var rfl) (es_cons (e_var rfl) (es_cons (e_var rfl) (es_cons (e_var rfl) (es_cons (e_var rfl) es_nil))))) (run_lpairs (by omega) hp a b q.1 q.2 hq1.1 hq1.2.1 hq1.2.2 (by omega) (by omega) S2)) (by
          show (eqV? (.int _) (.int _)).map (!·) = _
          rw [eqV_ints, decide_eq_true rfl]; rfl)) e_cst)
    rw [List.filter_eq_nil_iff.mpr (by simp)] at this
    exact this
  · rw [app_set, ku, List.map_map]
    have := compL_filter (S := S2 ++ [C.lck (.dct (ku K))]) (xs := K) (e := fun kv => U.int kv.1) (c := fun _ => false) (g := fun kv => U.int kv.1) (step := stepC [8] (evT (run D 0 e) (.nm 8)) (evC (run D 0 e) (some (.cmp .ne (.ix (.var 4) (.var 8)) (.ix (.var 4) (.bin .sub (.bin .add (.var 12) (.var 13)) (.var 8)))))) (evE (run D 0 e) (.var 8))
      (R2 u r y2 (some (.lst ((prs a b).map tu))) (some (.ref S2.length)) y5 y6 y7 y8 y9 y10 y11 a b z14 z15 p y17 y18 y19)) (fun kv hkv => by
        rw [evenI, List.all_eq_true] at hev
        have hk := hev kv hkv
        cases e1 : gtI K kv.1 with
        | none => rw [e1] at hk; simp at hk
        | some x => cases e2 : gtI K ((a : Int) + b - kv.1) with
          | none => rw [e1, e2] at hk; simp at hk
          | some y =>
            rw [e1, e2] at hk
            have hk := of_decide_eq_true hk
            subst hk
            exact c_nmI rfl (e_cmp (k := false) (e_ix (e_var rfl) (e_var rfl) (ix_lckD last_at e1)) (e_ix (e_var rfl) (e_bin (e_bin (e_var rfl) (e_var rfl) rfl) (e_var rfl) rfl) (ix_lckD last_at e2)) (by
              show (eqV? (.int _) (.int _)).map (!·) = _
              rw [eqV_ints, decide_eq_true rfl]; rfl)) (e_var rfl))
    rw [List.filter_eq_nil_iff.mpr (by simp)] at this
    exact this
theorem run_law {d : Nat} (hd : 7 ≤ d) (ns : List Int) (u : U) (S : Sto) (hl : ns.length ≤ 63) (hu : rd S u = .fz (ns.map U.int)) : ∃ S', run D 0 d 28 [u] S = .ok (.bl true) S' := by
  obtain ⟨e, rfl⟩ := at1 (by omega : 1 ≤ d)
  obtain ⟨zs, S1, hz, h1⟩ := run_cells (d := e) (by omega) ns hl hu
  obtain ⟨S2, h2, t2⟩ := run_box (d := e) (by omega) (S := S1) zs hz
  generalize S1.length = r at h2 t2
  obtain ⟨ρ', S3, h3, t3, y2, y3, y4, y5, y6, y7, y8, y9, y10, y11, y12, y13, y14, y15, y16, y17, y18, y19, hρ, hpp⟩ := forL_inv (step := stepF (evT (run D 0 e) (.nm 2)) (evSs (run D 0 e) 0 bdLap))
    (fun i ρ S' => Tin S' r (14 * i) ∧ ∃ (y2 y3 y4 y5 y6 y7 y8 y9 y10 y11 y12 y13 y14 y15 y16 y17 y18 y19 : Option U), ρ = [some u, some (.ref r), y2, y3, y4, y5, y6, y7, y8, y9, y10, y11, y12, y13, y14, y15, y16, y17, y18, y19] ∧ (0 < i → ∃ p, Good p ∧ y16 = some (.int p)))
    (iotaU 0 3) 0 [some u, some (.ref r), none, none, none, none, none, none, none, none, none, none, none, none, none, none, none, none, none, none] S2 ⟨t2, none, none, none, none, none, none, none, none, none, none, none, none, none, none, none, none, none, none, rfl, fun h => absurd h (by decide)⟩ (fun i x ρ S' hx ⟨t, y2, y3, y4, y5, y6, y7, y8, y9, y10, y11, y12, y13, y14, y15, y16, y17, y18, y19, hρ, _⟩ => by
      subst hρ
      have hi := (iota_at hx).1
      obtain ⟨ρ1, S4, g1, g2, p, z3, z4, z5, z6, z7, z8, z9, z10, z11, z12, z13, z14, z15, z17, z18, z19, hp, rfl⟩ := run_lap (e := e) (by omega) t (by omega) u (some x) y3 y4 y5 y6 y7 y8 y9 y10 y11 y12 y13 y14 y15 y16 y17 y18 y19
      exact ⟨_, S4, stepF_nm rfl g1, g2.mono (by omega), _, _, _, _, _, _, _, _, _, _, _, _, _, _, _, _, _, _, rfl, fun _ => ⟨p, hp, rfl⟩⟩)
  subst hρ
  rw [iota_len] at t3 hpp
  obtain ⟨p, hp, rfl⟩ := hpp (by decide)
  obtain ⟨v, S4, k1, v0, v8, t4, _⟩ := run_take (d := e) (by omega) t3 (by omega) 8 (by omega) (by omega)
  obtain ⟨w, S5, k2, w0, w8, t5, _⟩ := run_take (d := e) (by omega) t4 (by omega) 8 (by omega) (by omega)
  obtain ⟨a, b, hab, ha, hb⟩ : ∃ a b : Nat, (srtI [v, w]).reverse = [(a : Int), (b : Int)] ∧ a < 8 ∧ b ≤ a := by
    by_cases h : v ≤ w
    · refine ⟨w.toNat, v.toNat, ?_, by omega, by omega⟩
      simp only [srtI, insI]
      rw [if_pos h]
      simp; omega
    · refine ⟨v.toNat, w.toNat, ?_, by omega, by omega⟩
      simp only [srtI, insI]
      rw [if_neg h]
      simp; omega
  have hsrt : srtU [U.int v, U.int w] = some ((srtI [v, w]).map U.int) := rfl
  have hrev : revU S5 (.lst ((srtI [v, w]).map U.int)) = some (.lst [.int a, .int b]) := by
    simp only [revU, rd]
    rw [← List.map_reverse, hab]; rfl
  obtain ⟨S6, h6⟩ := run_end (e := e) (by omega) hp a b ha hb S5 u (.ref r) y2 y3 y4 y5 y6 y7 y8 y9 y10 y11 y14 y15 y17 y18 y19
  exact ⟨S6, run_rt (fd := d_law) rfl rfl (s_nx (st_nm (e_call2 (e_call2 (e_var rfl) e_cst h1) e_cst h2) rfl)
    (s_nx (st_fo (i_rng1 e_cst rfl) h3)
    (s_nx (st_set (e_rev (e_qv (q_srt (e_qv (q_disp (es_cons (e_call2 (e_var rfl) e_cst k1) (es_cons (e_call2 (e_var rfl) e_cst k2) es_nil)))) rfl hsrt)) hrev) (t_twoL rfl rfl)) h6)))⟩
end K62
set_option Elab.async false
set_option linter.all false
set_option maxRecDepth 100000
set_option maxHeartbeats 4000000
/-! K62r: the program's top. -/
namespace K62
open PySem Ev L2
theorem len0 {α : Type} {xs : List α} (h : xs.length = 0) : xs = [] := List.eq_nil_of_length_eq_zero h
theorem len1 {α : Type} {xs : List α} (h : xs.length = 1) : ∃ a, xs = [a] := List.length_eq_one_iff.mp h
theorem lenS {α : Type} {xs : List α} {n : Nat} (h : xs.length = n + 1) : ∃ a ys, xs = a :: ys ∧ ys.length = n := by
  match xs, h with
  | a :: ys, h => exact ⟨a, ys, rfl, by simpa using h⟩
theorem bk1 {P : List Value → List Value → Prop} (h0 : ∀ a, P [] [a]) (h1 : ∀ a, P [a] []) : ∀ us ws : List Value, (us ++ ws).length = 1 → P us ws := by
  intro us ws h
  match us with
  | [] => obtain ⟨a, rfl⟩ := len1 (xs := ws) h; exact h0 a
  | [a] =>
    have : ws = [] := len0 (by simp at h; simpa using h)
    subst this; exact h1 a
  | a :: b :: us => simp at h
theorem bkS {P : List Value → List Value → Prop} {n : Nat} (h0 : ∀ ws : List Value, ws.length = n + 1 → P [] ws) (h1 : ∀ a, ∀ us ws : List Value, (us ++ ws).length = n → P (a :: us) ws) : ∀ us ws : List Value, (us ++ ws).length = n + 1 → P us ws := by
  intro us ws h
  match us with
  | [] => exact h0 ws h
  | a :: us => exact h1 a us ws (by simpa using h)

theorem bk2 {P : List Value → List Value → Prop} (h0 : ∀ a b, P [] [a, b]) (h1 : ∀ a b, P [a] [b]) (h2 : ∀ a b, P [a, b] []) : ∀ us ws : List Value, (us ++ ws).length = 2 → P us ws :=
  bkS (n := 1) (fun ws h => by obtain ⟨a, ys, rfl, i⟩ := lenS h; obtain ⟨b, rfl⟩ := len1 i; exact h0 a b) fun a => bk1 (P := fun us ws => P (a :: us) ws) (h1 a) (h2 a)
theorem bk3 {P : List Value → List Value → Prop} (h0 : ∀ a b c, P [] [a, b, c]) (h1 : ∀ a b c, P [a] [b, c]) (h2 : ∀ a b c, P [a, b] [c]) (h3 : ∀ a b c, P [a, b, c] []) : ∀ us ws : List Value, (us ++ ws).length = 3 → P us ws :=
  bkS (n := 2) (fun ws h => by obtain ⟨a, ys, rfl, i⟩ := lenS h; obtain ⟨b, zs, rfl, j⟩ := lenS i; obtain ⟨c, rfl⟩ := len1 j; exact h0 a b c) fun a => bk2 (P := fun us ws => P (a :: us) ws) (h1 a) (h2 a) (h3 a)
theorem bk4 {P : List Value → List Value → Prop} (h0 : ∀ a b c d, P [] [a, b, c, d]) (h1 : ∀ a b c d, P [a] [b, c, d]) (h2 : ∀ a b c d, P [a, b] [c, d]) (h3 : ∀ a b c d, P [a, b, c] [d]) (h4 : ∀ a b c d, P [a, b, c, d] []) : ∀ us ws : List Value, (us ++ ws).length = 4 → P us ws :=
  bkS (n := 3) (fun ws h => by obtain ⟨a, ys, rfl, i⟩ := lenS h; obtain ⟨b, zs, rfl, j⟩ := lenS i; obtain ⟨c, us, rfl, k⟩ := lenS j; obtain ⟨d, rfl⟩ := len1 k; exact h0 a b c d) fun a => bk3 (P := fun us ws => P (a :: us) ws) (h1 a) (h2 a) (h3 a) (h4 a)
theorem bk5 {P : List Value → List Value → Prop} (h0 : ∀ a b c d e, P [] [a, b, c, d, e]) (h1 : ∀ a b c d e, P [a] [b, c, d, e]) (h2 : ∀ a b c d e, P [a, b] [c, d, e]) (h3 : ∀ a b c d e, P [a, b, c] [d, e]) (h4 : ∀ a b c d e, P [a, b, c, d] [e]) (h5 : ∀ a b c d e, P [a, b, c, d, e] []) : ∀ us ws : List Value, (us ++ ws).length = 5 → P us ws :=
  bkS (n := 4) (fun ws h => by obtain ⟨a, ys, rfl, i⟩ := lenS h; obtain ⟨b, zs, rfl, j⟩ := lenS i; obtain ⟨c, us, rfl, k⟩ := lenS j; obtain ⟨d, vs, rfl, m⟩ := lenS k; obtain ⟨e, rfl⟩ := len1 m; exact h0 a b c d e) fun a => bk4 (P := fun us ws => P (a :: us) ws) (h1 a) (h2 a) (h3 a) (h4 a) (h5 a)

theorem bind_is_number {kV doc pm cdv ct : Value} {an : Option Addr} : BindK (PySem.W.fnOf "is_number" "is_number" (defArgs (top 4)) (defBody (top 4)) (defScope (top 4)) .none kV doc pm an cdv ct) ["thing"] :=
  bk1 (fun _ => rfl) (fun _ => rfl)
theorem bind_is_within {kV doc pm cdv ct : Value} {an : Option Addr} : BindK (PySem.W.fnOf "is_within" "is_within" (defArgs (top 5)) (defBody (top 5)) (defScope (top 5)) .none kV doc pm an cdv ct) ["thing", "least", "most"] :=
  bk3 (fun _ _ _ => rfl) (fun _ _ _ => rfl) (fun _ _ _ => rfl) (fun _ _ _ => rfl)
theorem bind_are_numbers {kV doc pm cdv ct : Value} {an : Option Addr} : BindK (PySem.W.fnOf "are_numbers" "are_numbers" (defArgs (top 6)) (defBody (top 6)) (defScope (top 6)) .none kV doc pm an cdv ct) ["thing"] :=
  bk1 (fun _ => rfl) (fun _ => rfl)
theorem bind_tupled {kV doc pm cdv ct : Value} {an : Option Addr} : BindK (PySem.W.fnOf "tupled" "tupled" (defArgs (top 7)) (defBody (top 7)) (defScope (top 7)) .none kV doc pm an cdv ct) ["value"] :=
  bk1 (fun _ => rfl) (fun _ => rfl)
theorem bind_power {kV doc pm cdv ct : Value} {an : Option Addr} : BindK (PySem.W.fnOf "power" "power" (defArgs (top 8)) (defBody (top 8)) (defScope (top 8)) .none kV doc pm an cdv ct) ["number", "times"] :=
  bk2 (fun _ _ => rfl) (fun _ _ => rfl) (fun _ _ => rfl)
theorem bind_is_fall_in {kV doc pm cdv ct : Value} {an : Option Addr} : BindK (PySem.W.fnOf "is_fall_in" "is_fall_in" (defArgs (top 10)) (defBody (top 10)) (defScope (top 10)) .none kV doc pm an cdv ct) ["thing"] :=
  bk1 (fun _ => rfl) (fun _ => rfl)
theorem bind_sure_sides {kV doc pm cdv ct : Value} {an : Option Addr} : BindK (PySem.W.fnOf "sure_sides" "sure_sides" (defArgs (top 13)) (defBody (top 13)) (defScope (top 13)) .none kV doc pm an cdv ct) ["sides"] :=
  bk1 (fun _ => rfl) (fun _ => rfl)
theorem bind_is_prime {kV doc pm cdv ct : Value} {an : Option Addr} : BindK (PySem.W.fnOf "is_prime" "is_prime" (defArgs (top 16)) (defBody (top 16)) (defScope (top 16)) .none kV doc pm an cdv ct) ["number"] :=
  bk1 (fun _ => rfl) (fun _ => rfl)
theorem bind_sure_prime {kV doc pm cdv ct : Value} {an : Option Addr} : BindK (PySem.W.fnOf "sure_prime" "sure_prime" (defArgs (top 17)) (defBody (top 17)) (defScope (top 17)) .none kV doc pm an cdv ct) ["prime"] :=
  bk1 (fun _ => rfl) (fun _ => rfl)
theorem bind_sure_group {kV doc pm cdv ct : Value} {an : Option Addr} : BindK (PySem.W.fnOf "sure_group" "sure_group" (defArgs (top 21)) (defBody (top 21)) (defScope (top 21)) .none kV doc pm an cdv ct) ["prime", "fall"] :=
  bk2 (fun _ _ => rfl) (fun _ _ => rfl) (fun _ _ => rfl)
theorem bind_choices_in {kV doc pm cdv ct : Value} {an : Option Addr} : BindK (PySem.W.fnOf "choices_in" "choices_in" (defArgs (top 22)) (defBody (top 22)) (defScope (top 22)) .none kV doc pm an cdv ct) ["prime", "many", "some"] :=
  bk3 (fun _ _ _ => rfl) (fun _ _ _ => rfl) (fun _ _ _ => rfl) (fun _ _ _ => rfl)
theorem bind_many_in {kV doc pm cdv ct : Value} {an : Option Addr} : BindK (PySem.W.fnOf "many_in" "many_in" (defArgs (top 23)) (defBody (top 23)) (defScope (top 23)) .none kV doc pm an cdv ct) ["prime", "fall", "own"] :=
  bk3 (fun _ _ _ => rfl) (fun _ _ _ => rfl) (fun _ _ _ => rfl) (fun _ _ _ => rfl)
theorem bind_rows_above {kV doc pm cdv ct : Value} {an : Option Addr} : BindK (PySem.W.fnOf "rows_above" "rows_above" (defArgs (top 24)) (defBody (top 24)) (defScope (top 24)) .none kV doc pm an cdv ct) ["fall", "size"] :=
  bk2 (fun _ _ => rfl) (fun _ _ => rfl) (fun _ _ => rfl)
theorem bind_is_within_fall {kV doc pm cdv ct : Value} {an : Option Addr} : BindK (PySem.W.fnOf "is_within_fall" "is_within_fall" (defArgs (top 25)) (defBody (top 25)) (defScope (top 25)) .none kV doc pm an cdv ct) ["fall", "own"] :=
  bk2 (fun _ _ => rfl) (fun _ _ => rfl) (fun _ _ => rfl)
theorem bind_how_many_subgroups {kV doc pm cdv ct : Value} {an : Option Addr} : BindK (PySem.W.fnOf "how_many_subgroups" "how_many_subgroups" (defArgs (top 26)) (defBody (top 26)) (defScope (top 26)) .none kV doc pm an cdv ct) ["prime", "fall", "some"] :=
  bk3 (fun _ _ _ => rfl) (fun _ _ _ => rfl) (fun _ _ _ => rfl) (fun _ _ _ => rfl)
theorem bind_subgroup_falls {kV doc pm cdv ct : Value} {an : Option Addr} : BindK (PySem.W.fnOf "subgroup_falls" "subgroup_falls" (defArgs (top 27)) (defBody (top 27)) (defScope (top 27)) .none kV doc pm an cdv ct) ["fall"] :=
  bk1 (fun _ => rfl) (fun _ => rfl)
theorem bind_group_order {kV doc pm cdv ct : Value} {an : Option Addr} : BindK (PySem.W.fnOf "group_order" "group_order" (defArgs (top 28)) (defBody (top 28)) (defScope (top 28)) .none kV doc pm an cdv ct) ["prime", "fall"] :=
  bk2 (fun _ _ => rfl) (fun _ _ => rfl) (fun _ _ => rfl)
theorem bind_law_box {kV doc pm cdv ct : Value} {an : Option Addr} : BindK (PySem.W.fnOf "_law_box" "_law_box" (defArgs (top 30)) (defBody (top 30)) (defScope (top 30)) .none kV doc pm an cdv ct) ["script", "k"] :=
  bk2 (fun _ _ => rfl) (fun _ _ => rfl) (fun _ _ => rfl)
theorem bind_law_take {kV doc pm cdv ct : Value} {an : Option Addr} : BindK (PySem.W.fnOf "_law_take" "_law_take" (defArgs (top 31)) (defBody (top 31)) (defScope (top 31)) .none kV doc pm an cdv ct) ["tin", "below_so"] :=
  bk2 (fun _ _ => rfl) (fun _ _ => rfl) (fun _ _ => rfl)
theorem bind_law_cells {kV doc pm cdv ct : Value} {an : Option Addr} : BindK (PySem.W.fnOf "_law_cells" "_law_cells" (defArgs (top 32)) (defBody (top 32)) (defScope (top 32)) .none kV doc pm an cdv ct) ["script", "most_so"] :=
  bk2 (fun _ _ => rfl) (fun _ _ => rfl) (fun _ _ => rfl)
theorem bind_law_of {kV doc pm cdv ct : Value} {an : Option Addr} : BindK (PySem.W.fnOf "_law_of" "_law_of" (defArgs (top 33)) (defBody (top 33)) (defScope (top 33)) .none kV doc pm an cdv ct) ["tin", "goods_so"] :=
  bk2 (fun _ _ => rfl) (fun _ _ => rfl) (fun _ _ => rfl)
theorem bind_law_same {kV doc pm cdv ct : Value} {an : Option Addr} : BindK (PySem.W.fnOf "_law_same" "_law_same" (defArgs (top 34)) (defBody (top 34)) (defScope (top 34)) .none kV doc pm an cdv ct) ["got", "due"] :=
  bk2 (fun _ _ => rfl) (fun _ _ => rfl) (fun _ _ => rfl)
theorem bind_law_flat {kV doc pm cdv ct : Value} {an : Option Addr} : BindK (PySem.W.fnOf "_law_flat" "_law_flat" (defArgs (top 35)) (defBody (top 35)) (defScope (top 35)) .none kV doc pm an cdv ct) ["rows_so"] :=
  bk1 (fun _ => rfl) (fun _ => rfl)
theorem bind_law_fall {kV doc pm cdv ct : Value} {an : Option Addr} : BindK (PySem.W.fnOf "_law_fall" "_law_fall" (defArgs (top 36)) (defBody (top 36)) (defScope (top 36)) .none kV doc pm an cdv ct) ["row_so"] :=
  bk1 (fun _ => rfl) (fun _ => rfl)
theorem bind_law_product {kV doc pm cdv ct : Value} {an : Option Addr} : BindK (PySem.W.fnOf "_law_product" "_law_product" (defArgs (top 37)) (defBody (top 37)) (defScope (top 37)) .none kV doc pm an cdv ct) ["numbers_so"] :=
  bk1 (fun _ => rfl) (fun _ => rfl)
theorem bind_law_power {kV doc pm cdv ct : Value} {an : Option Addr} : BindK (PySem.W.fnOf "_law_power" "_law_power" (defArgs (top 38)) (defBody (top 38)) (defScope (top 38)) .none kV doc pm an cdv ct) ["p", "often_so"] :=
  bk2 (fun _ _ => rfl) (fun _ _ => rfl) (fun _ _ => rfl)
theorem bind_law_gone {kV doc pm cdv ct : Value} {an : Option Addr} : BindK (PySem.W.fnOf "_law_gone" "_law_gone" (defArgs (top 39)) (defBody (top 39)) (defScope (top 39)) .none kV doc pm an cdv ct) ["p", "fall_so", "k"] :=
  bk3 (fun _ _ _ => rfl) (fun _ _ _ => rfl) (fun _ _ _ => rfl) (fun _ _ _ => rfl)
theorem bind_law_pairs {kV doc pm cdv ct : Value} {an : Option Addr} : BindK (PySem.W.fnOf "_law_pairs" "_law_pairs" (defArgs (top 40)) (defBody (top 40)) (defScope (top 40)) .none kV doc pm an cdv ct) ["p", "a", "b", "c", "d"] :=
  bk5 (fun _ _ _ _ _ => rfl) (fun _ _ _ _ _ => rfl) (fun _ _ _ _ _ => rfl) (fun _ _ _ _ _ => rfl) (fun _ _ _ _ _ => rfl) (fun _ _ _ _ _ => rfl)
theorem bind_law {kV doc pm cdv ct : Value} {an : Option Addr} : BindK (PySem.W.fnOf "law" "law" (defArgs (top 41)) (defBody (top 41)) (defScope (top 41)) .none kV doc pm an cdv ct) ["script"] :=
  bk1 (fun _ => rfl) (fun _ => rfl)
theorem all_mk {l : PySem.W.OpenLaw} {w : World} {K : PySem.W.Frag} {h : Heap} {mg : Str → Option Value} {fa : Addr} (X : K.In h) (G : h.Ns mainGlobals mg) (hfa : mg "law" = some (.ref fa))
    {f0 f1 f2 f3 f4 f5 f6 f7 f8 f9 f10 f11 f12 f13 f14 f15 f16 f17 f18 f19 f20 f21 f22 f23 f24 f25 f26 f27 f28 : Addr} {od0 an0 od1 an1 od2 an2 od3 an3 od4 an4 od5 an5 od6 an6 od7 an7 od8 an8 od9 an9 od10 an10 od11 an11 od12 an12 od13 an13 od14 an14 od15 an15 od16 an16 od17 an17 od18 an18 od19 an19 od20 an20 od21 an21 od22 an22 od23 an23 od24 an24 od25 an25 od26 an26 od27 an27 od28 an28 : Option Addr} {sl0 sl1 sl2 sl3 sl4 sl5 sl6 sl7 sl8 sl9 sl10 sl11 sl12 sl13 sl14 sl15 sl16 sl17 sl18 sl19 sl20 sl21 sl22 sl23 sl24 sl25 sl26 sl27 sl28 : Array (Option Value)}
    {oc0 kV0 dc0 pm0 cd0 ct0 oc1 kV1 dc1 pm1 cd1 ct1 oc2 kV2 dc2 pm2 cd2 ct2 oc3 kV3 dc3 pm3 cd3 ct3 oc4 kV4 dc4 pm4 cd4 ct4 oc5 kV5 dc5 pm5 cd5 ct5 oc6 kV6 dc6 pm6 cd6 ct6 oc7 kV7 dc7 pm7 cd7 ct7 oc8 kV8 dc8 pm8 cd8 ct8 oc9 kV9 dc9 pm9 cd9 ct9 oc10 kV10 dc10 pm10 cd10 ct10 oc11 kV11 dc11 pm11 cd11 ct11 oc12 kV12 dc12 pm12 cd12 ct12 oc13 kV13 dc13 pm13 cd13 ct13 oc14 kV14 dc14 pm14 cd14 ct14 oc15 kV15 dc15 pm15 cd15 ct15 oc16 kV16 dc16 pm16 cd16 ct16 oc17 kV17 dc17 pm17 cd17 ct17 oc18 kV18 dc18 pm18 cd18 ct18 oc19 kV19 dc19 pm19 cd19 ct19 oc20 kV20 dc20 pm20 cd20 ct20 oc21 kV21 dc21 pm21 cd21 ct21 oc22 kV22 dc22 pm22 cd22 ct22 oc23 kV23 dc23 pm23 cd23 ct23 oc24 kV24 dc24 pm24 cd24 ct24 oc25 kV25 dc25 pm25 cd25 ct25 oc26 kV26 dc26 pm26 cd26 ct26 oc27 kV27 dc27 pm27 cd27 ct27 oc28 kV28 dc28 pm28 cd28 ct28 : Value}
    (a0 : PySem.W.nsIn K mainGlobals "is_number" = some (some (.ref f0))) (l0 : K.lookup f0 = some ⟨oc0, od0, .func (PySem.W.fnOf "is_number" "is_number" (defArgs (top 4)) (defBody (top 4)) (defScope (top 4)) .none kV0 dc0 pm0 an0 cd0 ct0), sl0⟩) (c0 : PySem.W.codeIn K cd0 "is_number" = true) (k0 : PySem.W.keepIn K (.ref f0) = true)
    (a1 : PySem.W.nsIn K mainGlobals "is_within" = some (some (.ref f1))) (l1 : K.lookup f1 = some ⟨oc1, od1, .func (PySem.W.fnOf "is_within" "is_within" (defArgs (top 5)) (defBody (top 5)) (defScope (top 5)) .none kV1 dc1 pm1 an1 cd1 ct1), sl1⟩) (c1 : PySem.W.codeIn K cd1 "is_within" = true) (k1 : PySem.W.keepIn K (.ref f1) = true)
    (a2 : PySem.W.nsIn K mainGlobals "are_numbers" = some (some (.ref f2))) (l2 : K.lookup f2 = some ⟨oc2, od2, .func (PySem.W.fnOf "are_numbers" "are_numbers" (defArgs (top 6)) (defBody (top 6)) (defScope (top 6)) .none kV2 dc2 pm2 an2 cd2 ct2), sl2⟩) (c2 : PySem.W.codeIn K cd2 "are_numbers" = true) (k2 : PySem.W.keepIn K (.ref f2) = true)
    (a3 : PySem.W.nsIn K mainGlobals "tupled" = some (some (.ref f3))) (l3 : K.lookup f3 = some ⟨oc3, od3, .func (PySem.W.fnOf "tupled" "tupled" (defArgs (top 7)) (defBody (top 7)) (defScope (top 7)) .none kV3 dc3 pm3 an3 cd3 ct3), sl3⟩) (c3 : PySem.W.codeIn K cd3 "tupled" = true) (k3 : PySem.W.keepIn K (.ref f3) = true)
    (a4 : PySem.W.nsIn K mainGlobals "power" = some (some (.ref f4))) (l4 : K.lookup f4 = some ⟨oc4, od4, .func (PySem.W.fnOf "power" "power" (defArgs (top 8)) (defBody (top 8)) (defScope (top 8)) .none kV4 dc4 pm4 an4 cd4 ct4), sl4⟩) (c4 : PySem.W.codeIn K cd4 "power" = true) (k4 : PySem.W.keepIn K (.ref f4) = true)
    (a5 : PySem.W.nsIn K mainGlobals "is_fall_in" = some (some (.ref f5))) (l5 : K.lookup f5 = some ⟨oc5, od5, .func (PySem.W.fnOf "is_fall_in" "is_fall_in" (defArgs (top 10)) (defBody (top 10)) (defScope (top 10)) .none kV5 dc5 pm5 an5 cd5 ct5), sl5⟩) (c5 : PySem.W.codeIn K cd5 "is_fall_in" = true) (k5 : PySem.W.keepIn K (.ref f5) = true)
    (a6 : PySem.W.nsIn K mainGlobals "sure_sides" = some (some (.ref f6))) (l6 : K.lookup f6 = some ⟨oc6, od6, .func (PySem.W.fnOf "sure_sides" "sure_sides" (defArgs (top 13)) (defBody (top 13)) (defScope (top 13)) .none kV6 dc6 pm6 an6 cd6 ct6), sl6⟩) (c6 : PySem.W.codeIn K cd6 "sure_sides" = true) (k6 : PySem.W.keepIn K (.ref f6) = true)
    (a7 : PySem.W.nsIn K mainGlobals "is_prime" = some (some (.ref f7))) (l7 : K.lookup f7 = some ⟨oc7, od7, .func (PySem.W.fnOf "is_prime" "is_prime" (defArgs (top 16)) (defBody (top 16)) (defScope (top 16)) .none kV7 dc7 pm7 an7 cd7 ct7), sl7⟩) (c7 : PySem.W.codeIn K cd7 "is_prime" = true) (k7 : PySem.W.keepIn K (.ref f7) = true)
    (a8 : PySem.W.nsIn K mainGlobals "sure_prime" = some (some (.ref f8))) (l8 : K.lookup f8 = some ⟨oc8, od8, .func (PySem.W.fnOf "sure_prime" "sure_prime" (defArgs (top 17)) (defBody (top 17)) (defScope (top 17)) .none kV8 dc8 pm8 an8 cd8 ct8), sl8⟩) (c8 : PySem.W.codeIn K cd8 "sure_prime" = true) (k8 : PySem.W.keepIn K (.ref f8) = true)
    (a9 : PySem.W.nsIn K mainGlobals "sure_group" = some (some (.ref f9))) (l9 : K.lookup f9 = some ⟨oc9, od9, .func (PySem.W.fnOf "sure_group" "sure_group" (defArgs (top 21)) (defBody (top 21)) (defScope (top 21)) .none kV9 dc9 pm9 an9 cd9 ct9), sl9⟩) (c9 : PySem.W.codeIn K cd9 "sure_group" = true) (k9 : PySem.W.keepIn K (.ref f9) = true)
    (a10 : PySem.W.nsIn K mainGlobals "choices_in" = some (some (.ref f10))) (l10 : K.lookup f10 = some ⟨oc10, od10, .func (PySem.W.fnOf "choices_in" "choices_in" (defArgs (top 22)) (defBody (top 22)) (defScope (top 22)) .none kV10 dc10 pm10 an10 cd10 ct10), sl10⟩) (c10 : PySem.W.codeIn K cd10 "choices_in" = true) (k10 : PySem.W.keepIn K (.ref f10) = true)
    (a11 : PySem.W.nsIn K mainGlobals "many_in" = some (some (.ref f11))) (l11 : K.lookup f11 = some ⟨oc11, od11, .func (PySem.W.fnOf "many_in" "many_in" (defArgs (top 23)) (defBody (top 23)) (defScope (top 23)) .none kV11 dc11 pm11 an11 cd11 ct11), sl11⟩) (c11 : PySem.W.codeIn K cd11 "many_in" = true) (k11 : PySem.W.keepIn K (.ref f11) = true)
    (a12 : PySem.W.nsIn K mainGlobals "rows_above" = some (some (.ref f12))) (l12 : K.lookup f12 = some ⟨oc12, od12, .func (PySem.W.fnOf "rows_above" "rows_above" (defArgs (top 24)) (defBody (top 24)) (defScope (top 24)) .none kV12 dc12 pm12 an12 cd12 ct12), sl12⟩) (c12 : PySem.W.codeIn K cd12 "rows_above" = true) (k12 : PySem.W.keepIn K (.ref f12) = true)
    (a13 : PySem.W.nsIn K mainGlobals "is_within_fall" = some (some (.ref f13))) (l13 : K.lookup f13 = some ⟨oc13, od13, .func (PySem.W.fnOf "is_within_fall" "is_within_fall" (defArgs (top 25)) (defBody (top 25)) (defScope (top 25)) .none kV13 dc13 pm13 an13 cd13 ct13), sl13⟩) (c13 : PySem.W.codeIn K cd13 "is_within_fall" = true) (k13 : PySem.W.keepIn K (.ref f13) = true)
    (a14 : PySem.W.nsIn K mainGlobals "how_many_subgroups" = some (some (.ref f14))) (l14 : K.lookup f14 = some ⟨oc14, od14, .func (PySem.W.fnOf "how_many_subgroups" "how_many_subgroups" (defArgs (top 26)) (defBody (top 26)) (defScope (top 26)) .none kV14 dc14 pm14 an14 cd14 ct14), sl14⟩) (c14 : PySem.W.codeIn K cd14 "how_many_subgroups" = true) (k14 : PySem.W.keepIn K (.ref f14) = true)
    (a15 : PySem.W.nsIn K mainGlobals "subgroup_falls" = some (some (.ref f15))) (l15 : K.lookup f15 = some ⟨oc15, od15, .func (PySem.W.fnOf "subgroup_falls" "subgroup_falls" (defArgs (top 27)) (defBody (top 27)) (defScope (top 27)) .none kV15 dc15 pm15 an15 cd15 ct15), sl15⟩) (c15 : PySem.W.codeIn K cd15 "subgroup_falls" = true) (k15 : PySem.W.keepIn K (.ref f15) = true)
    (a16 : PySem.W.nsIn K mainGlobals "group_order" = some (some (.ref f16))) (l16 : K.lookup f16 = some ⟨oc16, od16, .func (PySem.W.fnOf "group_order" "group_order" (defArgs (top 28)) (defBody (top 28)) (defScope (top 28)) .none kV16 dc16 pm16 an16 cd16 ct16), sl16⟩) (c16 : PySem.W.codeIn K cd16 "group_order" = true) (k16 : PySem.W.keepIn K (.ref f16) = true)
    (a17 : PySem.W.nsIn K mainGlobals "_law_box" = some (some (.ref f17))) (l17 : K.lookup f17 = some ⟨oc17, od17, .func (PySem.W.fnOf "_law_box" "_law_box" (defArgs (top 30)) (defBody (top 30)) (defScope (top 30)) .none kV17 dc17 pm17 an17 cd17 ct17), sl17⟩) (c17 : PySem.W.codeIn K cd17 "_law_box" = true) (k17 : PySem.W.keepIn K (.ref f17) = true)
    (a18 : PySem.W.nsIn K mainGlobals "_law_take" = some (some (.ref f18))) (l18 : K.lookup f18 = some ⟨oc18, od18, .func (PySem.W.fnOf "_law_take" "_law_take" (defArgs (top 31)) (defBody (top 31)) (defScope (top 31)) .none kV18 dc18 pm18 an18 cd18 ct18), sl18⟩) (c18 : PySem.W.codeIn K cd18 "_law_take" = true) (k18 : PySem.W.keepIn K (.ref f18) = true)
    (a19 : PySem.W.nsIn K mainGlobals "_law_cells" = some (some (.ref f19))) (l19 : K.lookup f19 = some ⟨oc19, od19, .func (PySem.W.fnOf "_law_cells" "_law_cells" (defArgs (top 32)) (defBody (top 32)) (defScope (top 32)) .none kV19 dc19 pm19 an19 cd19 ct19), sl19⟩) (c19 : PySem.W.codeIn K cd19 "_law_cells" = true) (k19 : PySem.W.keepIn K (.ref f19) = true)
    (a20 : PySem.W.nsIn K mainGlobals "_law_of" = some (some (.ref f20))) (l20 : K.lookup f20 = some ⟨oc20, od20, .func (PySem.W.fnOf "_law_of" "_law_of" (defArgs (top 33)) (defBody (top 33)) (defScope (top 33)) .none kV20 dc20 pm20 an20 cd20 ct20), sl20⟩) (c20 : PySem.W.codeIn K cd20 "_law_of" = true) (k20 : PySem.W.keepIn K (.ref f20) = true)
    (a21 : PySem.W.nsIn K mainGlobals "_law_same" = some (some (.ref f21))) (l21 : K.lookup f21 = some ⟨oc21, od21, .func (PySem.W.fnOf "_law_same" "_law_same" (defArgs (top 34)) (defBody (top 34)) (defScope (top 34)) .none kV21 dc21 pm21 an21 cd21 ct21), sl21⟩) (c21 : PySem.W.codeIn K cd21 "_law_same" = true) (k21 : PySem.W.keepIn K (.ref f21) = true)
    (a22 : PySem.W.nsIn K mainGlobals "_law_flat" = some (some (.ref f22))) (l22 : K.lookup f22 = some ⟨oc22, od22, .func (PySem.W.fnOf "_law_flat" "_law_flat" (defArgs (top 35)) (defBody (top 35)) (defScope (top 35)) .none kV22 dc22 pm22 an22 cd22 ct22), sl22⟩) (c22 : PySem.W.codeIn K cd22 "_law_flat" = true) (k22 : PySem.W.keepIn K (.ref f22) = true)
    (a23 : PySem.W.nsIn K mainGlobals "_law_fall" = some (some (.ref f23))) (l23 : K.lookup f23 = some ⟨oc23, od23, .func (PySem.W.fnOf "_law_fall" "_law_fall" (defArgs (top 36)) (defBody (top 36)) (defScope (top 36)) .none kV23 dc23 pm23 an23 cd23 ct23), sl23⟩) (c23 : PySem.W.codeIn K cd23 "_law_fall" = true) (k23 : PySem.W.keepIn K (.ref f23) = true)
    (a24 : PySem.W.nsIn K mainGlobals "_law_product" = some (some (.ref f24))) (l24 : K.lookup f24 = some ⟨oc24, od24, .func (PySem.W.fnOf "_law_product" "_law_product" (defArgs (top 37)) (defBody (top 37)) (defScope (top 37)) .none kV24 dc24 pm24 an24 cd24 ct24), sl24⟩) (c24 : PySem.W.codeIn K cd24 "_law_product" = true) (k24 : PySem.W.keepIn K (.ref f24) = true)
    (a25 : PySem.W.nsIn K mainGlobals "_law_power" = some (some (.ref f25))) (l25 : K.lookup f25 = some ⟨oc25, od25, .func (PySem.W.fnOf "_law_power" "_law_power" (defArgs (top 38)) (defBody (top 38)) (defScope (top 38)) .none kV25 dc25 pm25 an25 cd25 ct25), sl25⟩) (c25 : PySem.W.codeIn K cd25 "_law_power" = true) (k25 : PySem.W.keepIn K (.ref f25) = true)
    (a26 : PySem.W.nsIn K mainGlobals "_law_gone" = some (some (.ref f26))) (l26 : K.lookup f26 = some ⟨oc26, od26, .func (PySem.W.fnOf "_law_gone" "_law_gone" (defArgs (top 39)) (defBody (top 39)) (defScope (top 39)) .none kV26 dc26 pm26 an26 cd26 ct26), sl26⟩) (c26 : PySem.W.codeIn K cd26 "_law_gone" = true) (k26 : PySem.W.keepIn K (.ref f26) = true)
    (a27 : PySem.W.nsIn K mainGlobals "_law_pairs" = some (some (.ref f27))) (l27 : K.lookup f27 = some ⟨oc27, od27, .func (PySem.W.fnOf "_law_pairs" "_law_pairs" (defArgs (top 40)) (defBody (top 40)) (defScope (top 40)) .none kV27 dc27 pm27 an27 cd27 ct27), sl27⟩) (c27 : PySem.W.codeIn K cd27 "_law_pairs" = true) (k27 : PySem.W.keepIn K (.ref f27) = true)
    (a28 : PySem.W.nsIn K mainGlobals "law" = some (some (.ref f28))) (l28 : K.lookup f28 = some ⟨oc28, od28, .func (PySem.W.fnOf "law" "law" (defArgs (top 41)) (defBody (top 41)) (defScope (top 41)) .none kV28 dc28 pm28 an28 cd28 ct28), sl28⟩) (c28 : PySem.W.codeIn K cd28 "law" = true) (k28 : PySem.W.keepIn K (.ref f28) = true)
    {t0} (v0 : PySem.W.nsIn K mainGlobals "MOST_SIDES" = some (some (.int 6 t0)))
    {t1} (v1 : PySem.W.nsIn K mainGlobals "MOST_PRIME" = some (some (.int 97 t1)))
    {t2} (v2 : PySem.W.nsIn K mainGlobals "MOST_POWER" = some (some (.int 1000 t2)))
    {t3} (v3 : PySem.W.nsIn K mainGlobals "MOST_TOLD" = some (some (.int 2000 t3)))
    (z0 : PySem.W.nsIn K mainGlobals "abs" = some none)
    (z1 : PySem.W.nsIn K mainGlobals "int" = some none)
    (z2 : PySem.W.nsIn K mainGlobals "len" = some none)
    (z3 : PySem.W.nsIn K mainGlobals "min" = some none)
    (z4 : PySem.W.nsIn K mainGlobals "max" = some none)
    (z5 : PySem.W.nsIn K mainGlobals "tuple" = some none)
    (z6 : PySem.W.nsIn K mainGlobals "all" = some none)
    (z7 : PySem.W.nsIn K mainGlobals "any" = some none)
    (z8 : PySem.W.nsIn K mainGlobals "sum" = some none)
    (z9 : PySem.W.nsIn K mainGlobals "bool" = some none)
    (z10 : PySem.W.nsIn K mainGlobals "str" = some none)
    (z11 : PySem.W.nsIn K mainGlobals "list" = some none)
    (z12 : PySem.W.nsIn K mainGlobals "sorted" = some none)
    (z13 : PySem.W.nsIn K mainGlobals "isinstance" = some none)
    (z14 : PySem.W.nsIn K mainGlobals "range" = some none)
    (z15 : PySem.W.nsIn K mainGlobals "enumerate" = some none)
    (z16 : PySem.W.nsIn K mainGlobals "zip" = some none)
    : ∃ fd : FuncData, (∀ (s : Shared) (v : Value), BindsTo s fd ⟨[v], []⟩ [("script", v)]) ∧ ∀ base : Heap, K.In base → base.Ns mainGlobals mg → FnOk l.prog w K mg base (L2.CX l.prog w) 12 fa fd ["script"] (spL K) := by
  have e := hfa.symm.trans (PySem.W.mg_of X G a28)
  cases e
  have F0 := fun_mk (st := top 4) l0 c0 k0
  have F1 := fun_mk (st := top 5) l1 c1 k1
  have F2 := fun_mk (st := top 6) l2 c2 k2
  have F3 := fun_mk (st := top 7) l3 c3 k3
  have F4 := fun_mk (st := top 8) l4 c4 k4
  have F5 := fun_mk (st := top 10) l5 c5 k5
  have F6 := fun_mk (st := top 13) l6 c6 k6
  have F7 := fun_mk (st := top 16) l7 c7 k7
  have F8 := fun_mk (st := top 17) l8 c8 k8
  have F9 := fun_mk (st := top 21) l9 c9 k9
  have F10 := fun_mk (st := top 22) l10 c10 k10
  have F11 := fun_mk (st := top 23) l11 c11 k11
  have F12 := fun_mk (st := top 24) l12 c12 k12
  have F13 := fun_mk (st := top 25) l13 c13 k13
  have F14 := fun_mk (st := top 26) l14 c14 k14
  have F15 := fun_mk (st := top 27) l15 c15 k15
  have F16 := fun_mk (st := top 28) l16 c16 k16
  have F17 := fun_mk (st := top 30) l17 c17 k17
  have F18 := fun_mk (st := top 31) l18 c18 k18
  have F19 := fun_mk (st := top 32) l19 c19 k19
  have F20 := fun_mk (st := top 33) l20 c20 k20
  have F21 := fun_mk (st := top 34) l21 c21 k21
  have F22 := fun_mk (st := top 35) l22 c22 k22
  have F23 := fun_mk (st := top 36) l23 c23 k23
  have F24 := fun_mk (st := top 37) l24 c24 k24
  have F25 := fun_mk (st := top 38) l25 c25 k25
  have F26 := fun_mk (st := top 39) l26 c26 k26
  have F27 := fun_mk (st := top 40) l27 c27 k27
  have F28 := fun_mk (st := top 41) l28 c28 k28
  have hM : ModOk K mg tab gvs := by
    refine ⟨fun r hr => ?_, fun x hx => ?_, fun x u hx => ?_⟩
    · simp only [tab, List.mem_cons, List.not_mem_nil, or_false] at hr
      rcases hr with rfl | rfl | rfl | rfl | rfl | rfl | rfl | rfl | rfl | rfl | rfl | rfl | rfl | rfl | rfl | rfl | rfl | rfl | rfl | rfl | rfl | rfl | rfl | rfl | rfl | rfl | rfl | rfl | rfl
      · exact ⟨_, _, F0, bind_is_number, PySem.W.mg_of X G a0⟩
      · exact ⟨_, _, F1, bind_is_within, PySem.W.mg_of X G a1⟩
      · exact ⟨_, _, F2, bind_are_numbers, PySem.W.mg_of X G a2⟩
      · exact ⟨_, _, F3, bind_tupled, PySem.W.mg_of X G a3⟩
      · exact ⟨_, _, F4, bind_power, PySem.W.mg_of X G a4⟩
      · exact ⟨_, _, F5, bind_is_fall_in, PySem.W.mg_of X G a5⟩
      · exact ⟨_, _, F6, bind_sure_sides, PySem.W.mg_of X G a6⟩
      · exact ⟨_, _, F7, bind_is_prime, PySem.W.mg_of X G a7⟩
      · exact ⟨_, _, F8, bind_sure_prime, PySem.W.mg_of X G a8⟩
      · exact ⟨_, _, F9, bind_sure_group, PySem.W.mg_of X G a9⟩
      · exact ⟨_, _, F10, bind_choices_in, PySem.W.mg_of X G a10⟩
      · exact ⟨_, _, F11, bind_many_in, PySem.W.mg_of X G a11⟩
      · exact ⟨_, _, F12, bind_rows_above, PySem.W.mg_of X G a12⟩
      · exact ⟨_, _, F13, bind_is_within_fall, PySem.W.mg_of X G a13⟩
      · exact ⟨_, _, F14, bind_how_many_subgroups, PySem.W.mg_of X G a14⟩
      · exact ⟨_, _, F15, bind_subgroup_falls, PySem.W.mg_of X G a15⟩
      · exact ⟨_, _, F16, bind_group_order, PySem.W.mg_of X G a16⟩
      · exact ⟨_, _, F17, bind_law_box, PySem.W.mg_of X G a17⟩
      · exact ⟨_, _, F18, bind_law_take, PySem.W.mg_of X G a18⟩
      · exact ⟨_, _, F19, bind_law_cells, PySem.W.mg_of X G a19⟩
      · exact ⟨_, _, F20, bind_law_of, PySem.W.mg_of X G a20⟩
      · exact ⟨_, _, F21, bind_law_same, PySem.W.mg_of X G a21⟩
      · exact ⟨_, _, F22, bind_law_flat, PySem.W.mg_of X G a22⟩
      · exact ⟨_, _, F23, bind_law_fall, PySem.W.mg_of X G a23⟩
      · exact ⟨_, _, F24, bind_law_product, PySem.W.mg_of X G a24⟩
      · exact ⟨_, _, F25, bind_law_power, PySem.W.mg_of X G a25⟩
      · exact ⟨_, _, F26, bind_law_gone, PySem.W.mg_of X G a26⟩
      · exact ⟨_, _, F27, bind_law_pairs, PySem.W.mg_of X G a27⟩
      · exact ⟨_, _, F28, bind_law, PySem.W.mg_of X G a28⟩
    · simp only [blts, List.mem_cons, List.not_mem_nil, or_false] at hx
      rcases hx with rfl | rfl | rfl | rfl | rfl | rfl | rfl | rfl | rfl | rfl | rfl | rfl | rfl | rfl | rfl | rfl | rfl
      · exact PySem.W.mg_none_of X G z0
      · exact PySem.W.mg_none_of X G z1
      · exact PySem.W.mg_none_of X G z2
      · exact PySem.W.mg_none_of X G z3
      · exact PySem.W.mg_none_of X G z4
      · exact PySem.W.mg_none_of X G z5
      · exact PySem.W.mg_none_of X G z6
      · exact PySem.W.mg_none_of X G z7
      · exact PySem.W.mg_none_of X G z8
      · exact PySem.W.mg_none_of X G z9
      · exact PySem.W.mg_none_of X G z10
      · exact PySem.W.mg_none_of X G z11
      · exact PySem.W.mg_none_of X G z12
      · exact PySem.W.mg_none_of X G z13
      · exact PySem.W.mg_none_of X G z14
      · exact PySem.W.mg_none_of X G z15
      · exact PySem.W.mg_none_of X G z16
    · have hx2 := PySem.mem_of_lookup hx
      simp only [gvs, List.mem_cons, List.not_mem_nil, or_false, Prod.mk.injEq] at hx2
      rcases hx2 with ⟨rfl, rfl⟩ | ⟨rfl, rfl⟩ | ⟨rfl, rfl⟩ | ⟨rfl, rfl⟩
      · exact ⟨_, .int 6, PySem.W.mg_of X G v0, ⟨_, rfl⟩, fun _ _ _ => .int _⟩
      · exact ⟨_, .int 97, PySem.W.mg_of X G v1, ⟨_, rfl⟩, fun _ _ _ => .int _⟩
      · exact ⟨_, .int 1000, PySem.W.mg_of X G v2, ⟨_, rfl⟩, fun _ _ _ => .int _⟩
      · exact ⟨_, .int 2000, PySem.W.mg_of X G v3, ⟨_, rfl⟩, fun _ _ _ => .int _⟩
  refine ⟨PySem.W.fnOf "law" "law" (defArgs (top 41)) (defBody (top 41)) (defScope (top 41)) .none kV28 dc28 pm28 an28 cd28 ct28, fun s v => .of_eq rfl, fun base _ _ => ?_⟩
  exact law_ok (wf := 0) (d := 12) (i := 28) (r := r_law) tbl hM rfl rfl F28 fun ns u S hl hu => run_law (by decide) ns u S hl hu
theorem walk {l : PySem.W.OpenLaw} {q : Program} {loose : List Str} {XP : (Str → Option Value) → Heap → Prop} {YP : World → Heap → Prop} {d : DefRec} {K : Params → PySem.W.Frag} (hn : l.most = some 63) (hdf : d.params.defaults = [])
    (hY : ∀ (w : World) (h : Heap), YP w h → (K w.params).In h)
    (F : ∀ (w : World) (mg : Str → Option Value) (fa : Addr) (h : Heap), (K w.params).In h → h.Ns mainGlobals mg → mg d.name = some (.ref fa) →
      ∃ fd : FuncData, (∀ (s : Shared) (u : Value), BindsTo s fd ⟨[u], []⟩ [("script", u)]) ∧ ∀ base : Heap, (K w.params).In base → base.Ns mainGlobals mg → FnOk l.prog w (K w.params) mg base (L2.CX l.prog w) 12 fa fd ["script"] (spL (K w.params))) :
    PySem.W.WalkO q loose XP YP l.row.toRowW d [] (fun f vs => PySem.call f vs) :=
  L2.walk_of (n := 63) (k := 12) (x := "script") (CX := fun w => L2.CX l.prog w) (sp := fun w => spL (K w.params)) hn (by decide) hdf ⟨rfl, by decide, by decide⟩ hY F (fun _ _ a ns hl ho hS => ⟨a, ns, rfl, hS, hl, ho, fun _ => rfl⟩) fun w H s e s' z => by
    obtain ⟨x, B, H', c, d', h1, h2, h3, h4, h5, h6, h7, h8⟩ := z
    exact h8
end K62
open PySem PySem.W PyProof.Rows
set_option maxRecDepth 100000 in
set_option maxHeartbeats 0 in
theorem PySem.Challenge.cw_tentfalls_k62_main_subgroups_of_one_row_holds : PySem.Challenge.rw_tentfalls_k62_main_subgroups_of_one_row.Holds := by
  w_on; o_law; k_head; (case hw => w_witness2)
  k_fill
  refine K62.walk (l := PySem.Challenge.rw_tentfalls_k62_main_subgroups_of_one_row) rfl rfl (fun w h Y => PySem.W.kIn_of Y) ?F
  case F =>
    intro w mg fa h KX G hmg
    refine' K62.all_mk KX G hmg ?a0 ?l0 ?c0 ?k0 ?a1 ?l1 ?c1 ?k1 ?a2 ?l2 ?c2 ?k2 ?a3 ?l3 ?c3 ?k3 ?a4 ?l4 ?c4 ?k4 ?a5 ?l5 ?c5 ?k5 ?a6 ?l6 ?c6 ?k6 ?a7 ?l7 ?c7 ?k7 ?a8 ?l8 ?c8 ?k8 ?a9 ?l9 ?c9 ?k9 ?a10 ?l10 ?c10 ?k10 ?a11 ?l11 ?c11 ?k11 ?a12 ?l12 ?c12 ?k12 ?a13 ?l13 ?c13 ?k13 ?a14 ?l14 ?c14 ?k14 ?a15 ?l15 ?c15 ?k15 ?a16 ?l16 ?c16 ?k16 ?a17 ?l17 ?c17 ?k17 ?a18 ?l18 ?c18 ?k18 ?a19 ?l19 ?c19 ?k19 ?a20 ?l20 ?c20 ?k20 ?a21 ?l21 ?c21 ?k21 ?a22 ?l22 ?c22 ?k22 ?a23 ?l23 ?c23 ?k23 ?a24 ?l24 ?c24 ?k24 ?a25 ?l25 ?c25 ?k25 ?a26 ?l26 ?c26 ?k26 ?a27 ?l27 ?c27 ?k27 ?a28 ?l28 ?c28 ?k28 ?v0 ?v1 ?v2 ?v3 ?z0 ?z1 ?z2 ?z3 ?z4 ?z5 ?z6 ?z7 ?z8 ?z9 ?z10 ?z11 ?z12 ?z13 ?z14 ?z15 ?z16
    (case a0 => k_is)
    (case l0 => k_is)
    (case c0 => k_is)
    (case k0 => k_is)
    (case a1 => k_is)
    (case l1 => k_is)
    (case c1 => k_is)
    (case k1 => k_is)
    (case a2 => k_is)
    (case l2 => k_is)
    (case c2 => k_is)
    (case k2 => k_is)
    (case a3 => k_is)
    (case l3 => k_is)
    (case c3 => k_is)
    (case k3 => k_is)
    (case a4 => k_is)
    (case l4 => k_is)
    (case c4 => k_is)
    (case k4 => k_is)
    (case a5 => k_is)
    (case l5 => k_is)
    (case c5 => k_is)
    (case k5 => k_is)
    (case a6 => k_is)
    (case l6 => k_is)
    (case c6 => k_is)
    (case k6 => k_is)
    (case a7 => k_is)
    (case l7 => k_is)
    (case c7 => k_is)
    (case k7 => k_is)
    (case a8 => k_is)
    (case l8 => k_is)
    (case c8 => k_is)
    (case k8 => k_is)
    (case a9 => k_is)
    (case l9 => k_is)
    (case c9 => k_is)
    (case k9 => k_is)
    (case a10 => k_is)
    (case l10 => k_is)
    (case c10 => k_is)
    (case k10 => k_is)
    (case a11 => k_is)
    (case l11 => k_is)
    (case c11 => k_is)
    (case k11 => k_is)
    (case a12 => k_is)
    (case l12 => k_is)
    (case c12 => k_is)
    (case k12 => k_is)
    (case a13 => k_is)
    (case l13 => k_is)
    (case c13 => k_is)
    (case k13 => k_is)
    (case a14 => k_is)
    (case l14 => k_is)
    (case c14 => k_is)
    (case k14 => k_is)
    (case a15 => k_is)
    (case l15 => k_is)
    (case c15 => k_is)
    (case k15 => k_is)
    (case a16 => k_is)
    (case l16 => k_is)
    (case c16 => k_is)
    (case k16 => k_is)
    (case a17 => k_is)
    (case l17 => k_is)
    (case c17 => k_is)
    (case k17 => k_is)
    (case a18 => k_is)
    (case l18 => k_is)
    (case c18 => k_is)
    (case k18 => k_is)
    (case a19 => k_is)
    (case l19 => k_is)
    (case c19 => k_is)
    (case k19 => k_is)
    (case a20 => k_is)
    (case l20 => k_is)
    (case c20 => k_is)
    (case k20 => k_is)
    (case a21 => k_is)
    (case l21 => k_is)
    (case c21 => k_is)
    (case k21 => k_is)
    (case a22 => k_is)
    (case l22 => k_is)
    (case c22 => k_is)
    (case k22 => k_is)
    (case a23 => k_is)
    (case l23 => k_is)
    (case c23 => k_is)
    (case k23 => k_is)
    (case a24 => k_is)
    (case l24 => k_is)
    (case c24 => k_is)
    (case k24 => k_is)
    (case a25 => k_is)
    (case l25 => k_is)
    (case c25 => k_is)
    (case k25 => k_is)
    (case a26 => k_is)
    (case l26 => k_is)
    (case c26 => k_is)
    (case k26 => k_is)
    (case a27 => k_is)
    (case l27 => k_is)
    (case c27 => k_is)
    (case k27 => k_is)
    (case a28 => k_is)
    (case l28 => k_is)
    (case c28 => k_is)
    (case k28 => k_is)
    (case v0 => k_is)
    (case v1 => k_is)
    (case v2 => k_is)
    (case v3 => k_is)
    (case z0 => k_is)
    (case z1 => k_is)
    (case z2 => k_is)
    (case z3 => k_is)
    (case z4 => k_is)
    (case z5 => k_is)
    (case z6 => k_is)
    (case z7 => k_is)
    (case z8 => k_is)
    (case z9 => k_is)
    (case z10 => k_is)
    (case z11 => k_is)
    (case z12 => k_is)
    (case z13 => k_is)
    (case z14 => k_is)
    (case z15 => k_is)
    (case z16 => k_is)
#print axioms PySem.Challenge.cw_tentfalls_k62_main_subgroups_of_one_row_holds
