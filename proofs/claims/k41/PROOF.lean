import PyProof.Rows.All
import Wide.All
import OpenK.AllK
import Wide.FinOn
import HandS.ForMost
import HandS.Exc
import HandS.Flow
import HandS.Wide
import HandS.Style
import HandS.IsInst
import HandS.NoneIn
import HandS.TupMul
import HandS.SortInts
import HandS.TupAny
import HandS.Deep
import HandS.Walk
import HandS.Zip
import HandS.CallSlots
import HandS.ExcSuper
import HandS.ExcIs
import HandS.Small
import HandS.WordsExc
import HandS.SortOrd
import HandS.TupSets
import HandS.NamedTupSort
import KE.KSortTupAny
import KE.KTupSum
import KE.GoesMore
import KE.GoesEnum
import KE.KExcSuper
import KE.KSuper
import HandS.Conv
import KE.KExcLine
import KE.RegKIsAll
import KE.RegKTryMore
import KE.RegKSuper
import PySem.Challenge.RW_tentfalls_k41_main_falls_of_twelve_numbe
set_option Elab.async false
set_option linter.all false
set_option maxRecDepth 100000
/-! Ev1: an own small language of trees (what the bodies of the program come down to), and what it yields: values without addresses, a store of the objects that change. -/
namespace Ev
open PySem

/-- a value: lists that never change again are values, those that change stand in the store -/
inductive U where
  | non | bl (b : Bool) | int (i : Int) | str (x : Str) | tup (xs : List U) | lst (xs : List U) | fz (xs : List U) | ref (n : Nat) | exc (c : Nat)

/-- what stands in the store -/
inductive O where
  | lst (xs : List U)
  | dct (kvs : List (Int × U))

/-- a place: alive; locked (walked just now: read, not changed); the script's list, never changed; dead -/
inductive C where
  | liv (o : O)
  | lck (o : O)
  | frz (xs : List U)
  | ded

abbrev Sto := List C

inductive Op where | add | sub | mul | fdiv | mod | pow
inductive Cp where | lt | le | gt | ge | eq | ne | is | isnot | isin | notin
inductive Ty where | int | bool | str | list | tuple
inductive Bi where | abs | int | len | min2 | max2 | tuple | all | any | sum | minL | maxL
inductive Mt where | append | extend | pop0 | pop1 | index

mutual
inductive EX where
  | var (i : Nat)
  | cst (u : U)
  | tup (es : List EX)
  | bin (o : Op) (a b : EX)
  | cmp (o : Cp) (a b : EX)
  | ch2 (o p : Cp) (a b c : EX)
  | and (a b : EX)
  | or (a b : EX)
  | not (a : EX)
  | ite (c a b : EX)
  | ix (a b : EX)
  | sl (a : EX) (lo hi : Option EX)
  | rev (a : EX)
  | call (f : Nat) (es : List EX)
  | bi (b : Bi) (es : List EX)
  | ist (a : EX) (ts : List Ty)
  | mth (m : Mt) (a : EX) (es : List EX)
  | qv (q : QX)
  | qn (q : QX)
  | frz (a : EX)
  | dnew
  | dget (a b c : EX)
inductive QX where
  | disp (es : List EX)
  | comp (tg : TX) (it : IX) (cd : Option EX) (el : EX) (own : List Nat)
  | compK (i : Nat) (tg : TX) (cd : Option EX) (el : EX) (own : List Nat)
  | lof (a : EX)
  | srt (a : EX)
  | rep (es : List EX) (n : EX)
inductive IX where
  | val (a : EX)
  | rng1 (a : EX)
  | rng2 (a b : EX)
  | rng3 (a b c : EX)
  | enum (a : EX)
  | zip2 (a b : EX)
  | zip3 (a b c : EX)
inductive TX where
  | nm (i : Nat)
  | tp (ts : List TX)
  | ix (a b : EX)
end

inductive SX where
  | ex (e : EX)
  | set (t : TX) (e : EX)
  | par (is : List Nat) (es : List EX)
  | aug (i : Nat) (o : Op) (e : EX)
  | augs (a b : EX) (o : Op) (e : EX)
  | ife (c : EX) (a b : List SX)
  | fo (t : TX) (it : IX) (b : List SX)
  | wh (c : EX) (b : List SX)
  | ret (e : EX)
  | retN
  | brk
  | cnt
  | pass
  | rai (c : Nat)
  | no
  | tryx (b : List SX) (n c i : Nat) (h : List SX)

/-- a result -/
inductive R (α : Type) where
  | ok (a : α) (S : Sto)
  | ex (c : Nat) (S : Sto)
  | stuck

def R.bind {α β : Type} (r : R α) (f : α → Sto → R β) : R β :=
  match r with
  | .ok a S => f a S
  | .ex c S => .ex c S
  | .stuck => .stuck

abbrev Rho := List (Option U)

/-! ### values -/
mutual
def eqU : U → U → Bool
  | .non, .non => true
  | .bl a, .bl b => a == b
  | .bl a, .int b => (if a then 1 else 0) == b
  | .int a, .bl b => a == (if b then 1 else 0)
  | .int a, .int b => a == b
  | .str a, .str b => a == b
  | .tup xs, .tup ys => eqUs xs ys
  | .lst xs, .lst ys => eqUs xs ys
  | _, _ => false
def eqUs : List U → List U → Bool
  | [], [] => true
  | x :: xs, y :: ys => eqU x y && eqUs xs ys
  | _, _ => false
end
mutual
/-- of depth k at most, of plain things alone -/
def okD : Nat → U → Bool
  | _, .non => true
  | _, .bl _ => true
  | _, .int _ => true
  | _, .str x => PyData.strOk x
  | k + 1, .tup xs => okDs k xs
  | k + 1, .lst xs => okDs k xs
  | _, _ => false
def okDs : Nat → List U → Bool
  | _, [] => true
  | k, x :: xs => okD k x && okDs k xs
end
def eqV? (u v : U) : Option Bool := if okD 20 u = true ∧ okD 20 v = true then some (eqU u v) else none

/-- the list at a ref is read -/
def rd (S : Sto) : U → U
  | .ref n => match S[n]? with
    | some (.liv (.lst xs)) => .lst xs
    | some (.lck (.lst xs)) => .lst xs
    | some (.frz xs) => .fz xs
    | _ => .ref n
  | u => u

def seqOf (S : Sto) (u : U) : Option (List U) :=
  match rd S u with
  | .tup xs => some xs
  | .lst xs => some xs
  | .fz xs => some xs
  | _ => none

def intOf : U → Option Int
  | .int i => some i
  | _ => none
def intsOf : List U → Option (List Int)
  | [] => some []
  | .int i :: r => (intsOf r).map (i :: ·)
  | _ :: _ => none
def blsOf : List U → Option (List Bool)
  | [] => some []
  | .bl b :: r => (blsOf r).map (b :: ·)
  | _ :: _ => none

/-- sizeLine -/
abbrev lim : Nat := 16777216

def mulOk (i j : Int) : Bool := (decide (-(2 ^ 64) < i) && decide (i < 2 ^ 64)) || (decide (-(2 ^ 64) < j) && decide (j < 2 ^ 64))

def addU : U → U → Option U
  | .int i, .int j => some (.int (i + j))
  | .tup xs, .tup ys => if xs.length + ys.length ≤ lim then some (.tup (xs ++ ys)) else none
  | .lst xs, .lst ys => if xs.length + ys.length ≤ lim then some (.lst (xs ++ ys)) else none
  | _, _ => none
def mulU : U → U → Option U
  | .int i, .int j => if mulOk i j = true then some (.int (i * j)) else none
  | .tup xs, .int k => if xs.length ≤ 1000 ∧ k ≤ 1000 ∧ -(2 ^ 62) ≤ k then some (.tup (List.replicate k.toNat xs).flatten) else none
  | _, _ => none
def int2 (f : Int → Int → Option U) : U → U → Option U
  | .int i, .int j => f i j
  | _, _ => none
def binU (S : Sto) (o : Op) (u v : U) : Option U :=
  match o with
  | .add => addU (rd S u) (rd S v)
  | .mul => mulU (rd S u) (rd S v)
  | .sub => int2 (fun i j => some (.int (i - j))) (rd S u) (rd S v)
  | .fdiv => int2 (fun i j => if 0 < j ∧ j.natAbs.log2 < 9000 then some (.int (i / j)) else none) (rd S u) (rd S v)
  | .mod => int2 (fun i j => if 0 < j then some (.int (i % j)) else none) (rd S u) (rd S v)
  | .pow => int2 (fun i j => if 0 ≤ j ∧ j ≤ 1000000 ∧ i.natAbs < 2 ^ 64 then some (.int (i ^ j.toNat)) else none) (rd S u) (rd S v)

def cmpU (S : Sto) (o : Cp) (u v : U) : Option Bool :=
  match o with
  | .lt => match u, v with | .int i, .int j => some (decide (i < j)) | _, _ => none
  | .le => match u, v with | .int i, .int j => some (decide (i ≤ j)) | _, _ => none
  | .gt => match u, v with | .int i, .int j => some (decide (j < i)) | _, _ => none
  | .ge => match u, v with | .int i, .int j => some (decide (j ≤ i)) | _, _ => none
  | .eq => eqV? (rd S u) (rd S v)
  | .ne => (eqV? (rd S u) (rd S v)).map (!·)
  | .is => match v with
    | .non => some (match u with | .non => true | _ => false)
    | .bl b => some (match u with | .bl a => a == b | _ => false)
    | _ => none
  | .isnot => match v with
    | .non => some (match u with | .non => false | _ => true)
    | .bl b => some (match u with | .bl a => !(a == b) | _ => true)
    | _ => none
  | .isin => match rd S v with
    | .lst xs => if okD 20 (.lst xs) = true ∧ okD 20 (rd S u) = true then some (xs.any fun z => eqU z (rd S u)) else none
    | _ => none
  | .notin => match rd S v with
    | .lst xs => if okD 20 (.lst xs) = true ∧ okD 20 (rd S u) = true then some (!xs.any fun z => eqU z (rd S u)) else none
    | _ => none

def ixN (n : Nat) (i : Int) : Option Nat := if 0 ≤ i then (if i < n then some i.toNat else none) else if -(n : Int) ≤ i then some (i + n).toNat else none
def atU (xs : List U) (i : Int) : Option U := (ixN xs.length i).bind fun j => xs[j]?
def sIx (n d : Nat) : Option Int → Nat
  | none => d
  | some v => if v < 0 then (v + (n : Int)).toNat else min v.toNat n
def cutU (xs : List U) (lo hi : Option Int) : List U := (xs.drop (sIx xs.length 0 lo)).take (sIx xs.length xs.length hi - sIx xs.length 0 lo)

/-! dicts with whole numbers as keys -/
def dvalU (kvs : List (Int × U)) (k : Int) : Option U := (kvs.find? fun kv => decide (kv.1 = k)).map (·.2)
def dputU (kvs : List (Int × U)) (k : Int) (v : U) : List (Int × U) :=
  if (kvs.any fun kv => decide (kv.1 = k)) = true then kvs.map (fun kv => if kv.1 = k then (kv.1, v) else kv) else kvs ++ [(k, v)]
def dctOf (S : Sto) : U → Option (List (Int × U))
  | .ref n => match S[n]? with
    | some (.liv (.dct kvs)) => some kvs
    | some (.lck (.dct kvs)) => some kvs
    | _ => none
  | _ => none
def ixU (S : Sto) (u v : U) : Option U :=
  match v with
  | .int i => match dctOf S u with
    | some kvs => dvalU kvs i
    | none => match seqOf S u with
      | some xs => atU xs i
      | none => none
  | _ => none
def dgetU (S : Sto) (u k d : U) : Option U :=
  match k, dctOf S u with
  | .int i, some kvs => some ((dvalU kvs i).getD d)
  | _, _ => none
def slU (S : Sto) (u : U) (lo hi : Option Int) : Option U :=
  match rd S u with
  | .tup xs => some (.tup (cutU xs lo hi))
  | .lst xs => some (.lst (cutU xs lo hi))
  | .fz xs => some (.lst (cutU xs lo hi))
  | _ => none
def revU (S : Sto) (u : U) : Option U :=
  match rd S u with
  | .tup xs => some (.tup xs.reverse)
  | .lst xs => some (.lst xs.reverse)
  | _ => none

/-- truth -/
def truU (S : Sto) (u : U) : Option Bool :=
  match rd S u with
  | .bl b => some b
  | .int i => some (decide (i ≠ 0))
  | .tup xs => some (!xs.isEmpty)
  | .lst xs => some (!xs.isEmpty)
  | .non => some false
  | _ => none

/-- of what kind a value is -/
inductive Vt where | non | bl | int | str | tup | lst
def vtU (S : Sto) (u : U) : Option Vt :=
  match rd S u with
  | .non => some .non
  | .bl _ => some .bl
  | .int _ => some .int
  | .str _ => some .str
  | .tup _ => some .tup
  | .lst _ => some .lst
  | _ => none
def Vt.is : Vt → Ty → Bool
  | .bl, .bool => true
  | .bl, .int => true
  | .int, .int => true
  | .str, .str => true
  | .tup, .tuple => true
  | .lst, .list => true
  | _, _ => false

def biU (S : Sto) (b : Bi) (us : List U) : Option U :=
  match b, us with
  | .abs, [.int i] => some (.int (if i < 0 then -i else i))
  | .int, [.int i] => some (.int i)
  | .int, [.bl k] => some (.int (if k then 1 else 0))
  | .len, [u] => (seqOf S u).map fun xs => .int xs.length
  | .min2, [.int i, .int j] => some (.int (if j < i then j else i))
  | .max2, [.int i, .int j] => some (.int (if j > i then j else i))
  | .tuple, [u] => (seqOf S u).map fun xs => .tup xs
  | .all, [u] => match rd S u with
    | .lst xs => (blsOf xs).map fun bs => .bl (bs.all id)
    | _ => none
  | .any, [u] => match rd S u with
    | .lst xs => (blsOf xs).map fun bs => .bl (bs.any id)
    | _ => none
  | .sum, [u] => match seqOf S u with
    | some xs => (intsOf xs).map fun ns => .int ns.sum
    | none => none
  | _, _ => none

/-- ints sorted -/
def insI (x : Int) : List Int → List Int
  | [] => [x]
  | y :: ys => if x ≤ y then x :: y :: ys else y :: insI x ys
def srtI : List Int → List Int
  | [] => []
  | x :: xs => insI x (srtI xs)

/-! tuples of ints sorted -/
def tupsI : List U → Option (List (List Int))
  | [] => some []
  | .tup xs :: r => match intsOf xs, tupsI r with
    | some ns, some ts => some (ns :: ts)
    | _, _ => none
  | _ :: _ => none
def insT (x : List Int) : List (List Int) → List (List Int)
  | [] => [x]
  | y :: ys => if HT.lexLt y x = true then y :: insT x ys else x :: y :: ys
def srtT : List (List Int) → List (List Int)
  | [] => []
  | x :: xs => insT x (srtT xs)
/-- sorted: of ints, of tuples of ints, of one thing -/
def srtU (xs : List U) : Option (List U) :=
  if xs.length < 2 then some xs else match intsOf xs with
    | some ns => some ((srtI ns).map U.int)
    | none => match tupsI xs with
      | some ts => if ts.all (fun t => !t.isEmpty) = true then some ((srtT ts).map fun t => .tup (t.map U.int)) else none
      | none => none

def iotaU (lo : Int) : Nat → List U
  | 0 => []
  | n + 1 => .int lo :: iotaU (lo + 1) n
def iotaC (lo c : Int) : Nat → List U
  | 0 => []
  | n + 1 => .int lo :: iotaC (lo + c) c n
def enumU (k : Nat) : List U → List U
  | [] => []
  | x :: xs => .tup [.int k, x] :: enumU (k + 1) xs
def zipU : List U → List U → List U
  | x :: xs, y :: ys => .tup [x, y] :: zipU xs ys
  | _, _ => []

def small (i : Int) : Bool := decide (-(2 ^ 62) ≤ i) && decide (i < 2 ^ 62)

def getR (ρ : Rho) (i : Nat) : Option U := (ρ[i]?).join
def unpack (n : Nat) (u : U) (S : Sto) : Option (List U) :=
  match seqOf S u with
  | some xs => if xs.length = n then some xs else none
  | none => none

def wipeR (ρ : Rho) : List Nat → Rho
  | [] => ρ
  | v :: vs => (wipeR ρ vs).set v none

def mthU (S : Sto) (m : Mt) (u : U) (us : List U) : Option (U × Sto) :=
  match u with
  | .ref n => match S[n]? with
    | some (.liv (.lst xs)) => match m, us with
      | .append, [v] => if xs.length < lim then some (.non, S.set n (.liv (.lst (xs ++ [v])))) else none
      | .extend, [v] => match rd S v with
        | .lst ys => if xs.length + ys.length ≤ lim then some (.non, S.set n (.liv (.lst (xs ++ ys)))) else none
        | _ => none
      | .pop0, [] => match xs.getLast? with
        | some y => some (y, S.set n (.liv (.lst xs.dropLast)))
        | none => none
      | .index, [v] => if okD 20 (.lst xs) = true ∧ okD 20 (rd S v) = true then match xs.findIdx? (fun z => eqU z (rd S v)) with
          | some j => some (.int (j : Nat), S)
          | none => none
        else none
      | .pop1, [.int i] => if small i = true then match ixN xs.length i with
          | some k => match xs[k]? with
            | some y => some (y, S.set n (.liv (.lst (xs.eraseIdx k))))
            | none => none
          | none => none
        else none
      | _, _ => none
    | _ => none
  | _ => none

def mtOk (S : Sto) (_ : Mt) (u : U) : Bool :=
  match rd S u with
  | .lst _ => true
  | _ => false
def mthR : Option (U × Sto) → R U
  | some (v, S) => .ok v S
  | none => .stuck

/-! ### what a tree yields. F: the calls of the program's own defs -/
section
variable (F : Nat → List U → Sto → R U)

/-- nothing is raised through a comprehension -/
def noEx {α : Type} : R α → R α
  | .ok a S => .ok a S
  | _ => .stuck
/-- while the place n is locked -/
def lockd {α : Type} (S : Sto) (l : Option Nat) (f : Sto → R α) : R α :=
  match l with
  | none => f S
  | some n => match S[n]? with
    | some (.liv (.lst us)) => (f (S.set n (.lck (.lst us)))).bind fun a S2 => .ok a (S2.set n (.liv (.lst us)))
    | _ => .stuck
/-- a comprehension's turns -/
def compL (step : U → Sto → R (Option U)) : List U → Sto → R (List U)
  | [], S => .ok [] S
  | x :: xs, S => (noEx (step x S)).bind fun o S1 => (compL step xs S1).bind fun ys S2 => .ok (match o with | some y => y :: ys | none => ys) S2

inductive Out where
  | nx (ρ : Rho)
  | rt (u : U)
  | bk (ρ : Rho)
  | ct (ρ : Rho)
  | ex (c : Nat) (ρ : Rho)

inductive SR where
  | ok (o : Out) (S : Sto)
  | stuck

def lockdS (S : Sto) (l : Option Nat) (f : Sto → SR) : SR :=
  match l with
  | none => f S
  | some n => match S[n]? with
    | some (.liv (.lst us)) => (match f (S.set n (.lck (.lst us))) with
      | .ok a S2 => .ok a (S2.set n (.liv (.lst us)))
      | .stuck => .stuck)
    | _ => .stuck
/-- a for's turns -/
def forL (step : U → Rho → Sto → SR) : List U → Rho → Sto → SR
  | [], ρ, S => .ok (.nx ρ) S
  | x :: xs, ρ, S => match step x ρ S with
    | .ok (.nx ρ1) S1 => forL step xs ρ1 S1
    | .ok (.ct ρ1) S1 => forL step xs ρ1 S1
    | .ok (.bk ρ1) S1 => .ok (.nx ρ1) S1
    | r => r
/-- a while's turns -/
def whL (c : Rho → Sto → R U) (step : Rho → Sto → SR) : Nat → Rho → Sto → SR
  | 0, _, _ => .stuck
  | w + 1, ρ, S => match c ρ S with
    | .ok u S0 => (match truU S0 u with
      | some true => (match step ρ S0 with
        | .ok (.nx ρ1) S1 => whL c step w ρ1 S1
        | .ok (.ct ρ1) S1 => whL c step w ρ1 S1
        | .ok (.bk ρ1) S1 => .ok (.nx ρ1) S1
        | r => r)
      | some false => .ok (.nx ρ) S0
      | none => .stuck)
    | .ex k S0 => .ok (.ex k ρ) S0
    | .stuck => .stuck

/-- what a walk walks: its items, and the place of the store that is locked meanwhile -/
def lockOf (S : Sto) (u : U) : Option (List U × Option Nat) :=
  match u with
  | .ref n => match S[n]? with
    | some (.liv (.lst xs)) => some (xs, some n)
    | some (.lck (.lst xs)) => some (xs, none)
    | _ => none
  | .tup xs => some (xs, none)
  | .lst xs => some (xs, none)
  | _ => none

def lockS (S : Sto) (n : Nat) : Sto :=
  match S[n]? with
  | some (.liv (.lst us)) => S.set n (.lck (.lst us))
  | _ => S

def optR {α : Type} (S : Sto) : Option α → R α
  | some a => .ok a S
  | none => .stuck

mutual
def evE : EX → Rho → Sto → R U
  | .var i, ρ, S => optR S (getR ρ i)
  | .cst u, _, S => .ok u S
  | .tup es, ρ, S => (evEs es ρ S).bind fun us S1 => .ok (.tup us) S1
  | .bin o a b, ρ, S => (evE a ρ S).bind fun u S1 => (evE b ρ S1).bind fun v S2 => optR S2 (binU S2 o u v)
  | .cmp o a b, ρ, S => (evE a ρ S).bind fun u S1 => (evE b ρ S1).bind fun v S2 => optR S2 ((cmpU S2 o u v).map U.bl)
  | .ch2 o p a b c, ρ, S => (evE a ρ S).bind fun u S1 => (evE b ρ S1).bind fun v S2 => match cmpU S2 o u v with
    | some true => (evE c ρ S2).bind fun w S3 => optR S3 ((cmpU S3 p v w).map U.bl)
    | some false => .ok (.bl false) S2
    | none => .stuck
  | .and a b, ρ, S => (evE a ρ S).bind fun u S1 => match truU S1 u with
    | some true => evE b ρ S1
    | some false => .ok u S1
    | none => .stuck
  | .or a b, ρ, S => (evE a ρ S).bind fun u S1 => match truU S1 u with
    | some true => .ok u S1
    | some false => evE b ρ S1
    | none => .stuck
  | .not a, ρ, S => (evE a ρ S).bind fun u S1 => optR S1 ((truU S1 u).map fun k => .bl (!k))
  | .ite c a b, ρ, S => (evE c ρ S).bind fun u S1 => match truU S1 u with
    | some true => evE a ρ S1
    | some false => evE b ρ S1
    | none => .stuck
  | .ix a b, ρ, S => (evE a ρ S).bind fun u S1 => (evE b ρ S1).bind fun v S2 => optR S2 (ixU S2 u v)
  | .sl a lo hi, ρ, S => (evE a ρ S).bind fun u S1 => (evO lo ρ S1).bind fun l S2 => (evO hi ρ S2).bind fun h S3 => optR S3 (slU S3 u l h)
  | .rev a, ρ, S => (evE a ρ S).bind fun u S1 => optR S1 (revU S1 u)
  | .call f es, ρ, S => (evEs es ρ S).bind fun us S1 => F f us S1
  | .bi b es, ρ, S => (evEs es ρ S).bind fun us S1 => optR S1 (biU S1 b us)
  | .ist a ts, ρ, S => (evE a ρ S).bind fun u S1 => optR S1 ((vtU S1 u).map fun k => .bl (ts.any k.is))
  | .mth m a es, ρ, S => (evE a ρ S).bind fun u S1 => if mtOk S1 m u = true then (evEs es ρ S1).bind fun us S2 => mthR (mthU S2 m u us) else .stuck
  | .qv q, ρ, S => (evQ q ρ S).bind fun us S1 => .ok (.lst us) S1
  | .qn q, ρ, S => (evQ q ρ S).bind fun us S1 => .ok (.ref S1.length) (S1 ++ [.liv (.lst us)])
  | .frz a, ρ, S => (evE a ρ S).bind fun u S1 => match u with
    | .ref n => match S1[n]? with
      | some (.liv (.lst xs)) => .ok (.lst xs) (S1.set n .ded)
      | _ => .stuck
    | _ => .ok u S1
  | .dnew, _, S => .ok (.ref S.length) (S ++ [.liv (.dct [])])
  | .dget a b c, ρ, S => (evE a ρ S).bind fun u S1 => if (dctOf S1 u).isSome = true then (evE b ρ S1).bind fun v S2 => (evE c ρ S2).bind fun w S3 => optR S3 (dgetU S3 u v w) else .stuck
def evEs : List EX → Rho → Sto → R (List U)
  | [], _, S => .ok [] S
  | e :: es, ρ, S => (evE e ρ S).bind fun u S1 => (evEs es ρ S1).bind fun us S2 => .ok (u :: us) S2
def evO : Option EX → Rho → Sto → R (Option Int)
  | none, _, S => .ok none S
  | some e, ρ, S => (evE e ρ S).bind fun u S1 => match u with
    | .int i => .ok (some i) S1
    | _ => .stuck
def evQ : QX → Rho → Sto → R (List U)
  | .disp es, ρ, S => evEs es ρ S
  | .comp tg it cd el own, ρ, S => (evI it ρ S).bind fun p S1 =>
    if p.1.length ≤ lim then
      lockd S1 p.2 fun S2 => compL (fun x S => match evT tg x (wipeR ρ own) S with
          | some (ρ1, S1) => (evC cd ρ1 S1).bind fun k S2 => if k = true then (evE el ρ1 S2).bind fun y S3 => .ok (some y) S3 else .ok none S2
          | none => .stuck) p.1 S2
    else .stuck
  | .compK i tg cd el own, ρ, S => match getR ρ i with
    | some (.ref n) => match S[n]? with
      | some (.liv (.dct kvs)) => if kvs.length ≤ lim then
          (compL (fun x S => match evT tg x (wipeR ρ own) S with
            | some (ρ1, S1) => (evC cd ρ1 S1).bind fun k S2 => if k = true then (evE el ρ1 S2).bind fun y S3 => .ok (some y) S3 else .ok none S2
            | none => .stuck) (kvs.map fun kv => .int kv.1) (S.set n (.lck (.dct kvs)))).bind fun ys S2 => .ok ys (S2.set n (.liv (.dct kvs)))
        else .stuck
      | _ => .stuck
    | _ => .stuck
  | .lof a, ρ, S => (evE a ρ S).bind fun u S1 => optR S1 (seqOf S1 u)
  | .srt a, ρ, S => (evE a ρ S).bind fun u S1 => match seqOf S1 u with
    | some xs => optR S1 (srtU xs)
    | none => .stuck
  | .rep es n, ρ, S => (evEs es ρ S).bind fun us S1 => (evE n ρ S1).bind fun v S2 => match v with
    | .int k => if us.length * k.toNat ≤ lim ∧ -(2 ^ 63) ≤ k ∧ k < 2 ^ 63 then .ok (List.replicate k.toNat us).flatten S2 else .stuck
    | _ => .stuck
def evC : Option EX → Rho → Sto → R Bool
  | none, _, S => .ok true S
  | some e, ρ, S => (evE e ρ S).bind fun u S1 => optR S1 (truU S1 u)
def evI : IX → Rho → Sto → R (List U × Option Nat)
  | .val a, ρ, S => (evE a ρ S).bind fun u S1 => optR S1 (lockOf S1 u)
  | .rng1 a, ρ, S => (evE a ρ S).bind fun u S1 => match u with
    | .int j => if small j = true then .ok (iotaU 0 j.toNat, none) S1 else .stuck
    | _ => .stuck
  | .rng2 a b, ρ, S => (evE a ρ S).bind fun u S1 => (evE b ρ S1).bind fun v S2 => match u, v with
    | .int i, .int j => if small i = true ∧ small j = true then .ok (iotaU i (j - i).toNat, none) S2 else .stuck
    | _, _ => .stuck
  | .rng3 a b c, ρ, S => (evE a ρ S).bind fun u S1 => (evE b ρ S1).bind fun v S2 => (evE c ρ S2).bind fun w S3 => match u, v, w with
    | .int i, .int j, .int (-1) => if small i = true ∧ small j = true then .ok (iotaC i (-1) (i - j).toNat, none) S3 else .stuck
    | _, _, _ => .stuck
  | .enum a, ρ, S => (evE a ρ S).bind fun u S1 => match lockOf S1 u with
    | some (xs, l) => .ok (enumU 0 xs, l) S1
    | none => .stuck
  | .zip2 a b, ρ, S => (evE a ρ S).bind fun u S1 => (evE b ρ S1).bind fun v S2 => match u, v with
    | .tup xs, .tup ys => .ok (zipU xs ys, none) S2
    | .lst xs, .lst ys => .ok (zipU xs ys, none) S2
    | _, _ => .stuck
  | .zip3 _ _ _, _, _ => .stuck
/-- a value is put to a target -/
def evT : TX → U → Rho → Sto → Option (Rho × Sto)
  | .nm i, u, ρ, S => if i < ρ.length then some (ρ.set i (some u), S) else none
  | .tp ts, u, ρ, S => match unpack ts.length u S with
    | some us => evTs ts us ρ S
    | none => none
  | .ix a b, v, ρ, S => match evE a ρ S with
    | .ok (.ref n) S1 => match evE b ρ S1 with
      | .ok (.int i) S2 => match S2[n]? with
        | some (.liv (.lst xs)) => match ixN xs.length i with
          | some k => some (ρ, S2.set n (.liv (.lst (xs.set k v))))
          | none => none
        | some (.liv (.dct kvs)) => if kvs.length < lim then some (ρ, S2.set n (.liv (.dct (dputU kvs i v)))) else none
        | _ => none
      | _ => none
    | _ => none
def evTs : List TX → List U → Rho → Sto → Option (Rho × Sto)
  | [], [], ρ, S => some (ρ, S)
  | t :: ts, u :: us, ρ, S => match evT t u ρ S with
    | some (ρ1, S1) => evTs ts us ρ1 S1
    | none => none
  | _, _, _, _ => none
end

def R.toS (ρ : Rho) {α : Type} (r : R α) (f : α → Sto → SR) : SR :=
  match r with
  | .ok a S => f a S
  | .ex c S => .ok (.ex c ρ) S
  | .stuck => .stuck

def setAll : List Nat → List U → Rho → Rho
  | i :: is, u :: us, ρ => setAll is us (ρ.set i (some u))
  | _, _, ρ => ρ

variable (w : Nat)
mutual
def evS : SX → Rho → Sto → SR
  | .ex e, ρ, S => (evE F e ρ S).toS ρ fun _ S1 => .ok (.nx ρ) S1
  | .set t e, ρ, S => (evE F e ρ S).toS ρ fun u S1 => match evT F t u ρ S1 with
    | some (ρ1, S2) => .ok (.nx ρ1) S2
    | none => .stuck
  | .par is es, ρ, S => (evEs F es ρ S).toS ρ fun us S1 => if is.length = us.length ∧ is.all (· < ρ.length) = true then .ok (.nx (setAll is us ρ)) S1 else .stuck
  | .aug i o e, ρ, S => match getR ρ i with
    | some x => (evE F e ρ S).toS ρ fun y S1 => match binU S1 o x y with
      | some (.int z) => .ok (.nx (ρ.set i (some (.int z)))) S1
      | _ => .stuck
    | none => .stuck
  | .augs a b o e, ρ, S => (evE F a ρ S).toS ρ fun u S1 => (evE F b ρ S1).toS ρ fun i S2 => match u, i with
    | .ref n, .int i => match S2[n]? with
      | some (.liv (.lst xs)) => match atU xs i, ixN xs.length i with
        | some x, some k => (evE F e ρ S2).toS ρ fun y S3 => match binU S3 o x y, S3[n]? with
          | some (.int z), some (.liv (.lst ys)) => if ys.length = xs.length then .ok (.nx ρ) (S3.set n (.liv (.lst (ys.set k (.int z))))) else .stuck
          | _, _ => .stuck
        | _, _ => .stuck
      | _ => .stuck
    | _, _ => .stuck
  | .ife c a b, ρ, S => (evE F c ρ S).toS ρ fun u S1 => match truU S1 u with
    | some true => evSs a ρ S1
    | some false => evSs b ρ S1
    | none => .stuck
  | .fo t it b, ρ, S => (evI F it ρ S).toS ρ fun p S1 => lockdS S1 p.2 fun S2 => forL (fun x ρ S => match evT F t x ρ S with
        | some (ρ1, S1) => evSs b ρ1 S1
        | none => .stuck) p.1 ρ S2
  | .wh c b, ρ, S => whL (fun ρ S => evE F c ρ S) (fun ρ S => evSs b ρ S) w ρ S
  | .ret e, ρ, S => (evE F e ρ S).toS ρ fun u S1 => .ok (.rt u) S1
  | .retN, _, S => .ok (.rt .non) S
  | .brk, ρ, S => .ok (.bk ρ) S
  | .cnt, ρ, S => .ok (.ct ρ) S
  | .pass, ρ, S => .ok (.nx ρ) S
  | .rai c, ρ, S => .ok (.ex c ρ) S
  | .no, _, _ => .stuck
  | .tryx b n c i h, ρ, S => match evSs b ρ S with
    | .ok (.ex c' ρ1) S1 => if c' = c then (if i < ρ1.length then (match evSs h (ρ1.set i (some (.exc c'))) S1 with
        | .ok (.nx ρ2) S2 => .ok (.nx (ρ2.set i none)) S2
        | .ok (.ct ρ2) S2 => .ok (.ct (ρ2.set i none)) S2
        | .ok (.bk ρ2) S2 => .ok (.bk (ρ2.set i none)) S2
        | .ok (.rt u) S2 => .ok (.rt u) S2
        | _ => .stuck) else .stuck)
      else if c' < n then .ok (.ex c' ρ1) S1 else .stuck
    | r => r
def evSs : List SX → Rho → Sto → SR
  | [], ρ, S => .ok (.nx ρ) S
  | s :: ss, ρ, S => match evS s ρ S with
    | .ok (.nx ρ1) S1 => evSs ss ρ1 S1
    | r => r
end
end

/-- a def: its names, its body -/
structure Fd where
  np : Nat
  nn : Nat
  body : List SX

/-- the defs, by level -/
def run (D : List Fd) (w : Nat) : Nat → Nat → List U → Sto → R U
  | 0, _, _, _ => .stuck
  | d + 1, f, us, S => match D[f]? with
    | some fd => if us.length = fd.np then
        (match evSs (run D w d) w fd.body (us.map some ++ List.replicate (fd.nn - fd.np) none) S with
        | .ok (.rt u) S1 => .ok u S1
        | .ok (.nx _) S1 => .ok .non S1
        | .ok (.ex c _) S1 => .ex c S1
        | _ => .stuck)
      else .stuck
    | none => .stuck
end Ev
set_option Elab.async false
set_option linter.all false
set_option maxRecDepth 100000
/-! Ev2: values U against the layer's values V over the abstract heap; the store against it. -/
namespace Ev
open PySem PySem.Spec PyProof.Rows L2

def Live (fm : List Addr) (S : Sto) (a : Addr) : Prop := ∃ (n : Nat) (c : C), fm[n]? = some a ∧ S[n]? = some c ∧ c ≠ C.ded

/-- a tuple of the written part -/
def TupK (K : PySem.W.Frag) (a : Addr) (xs : List V) : Prop :=
  ∃ (o : Obj) (its : Array Value) (n : Nat), K.lookup a = some o ∧ o.cls = .type "tuple" ∧ o.data = .seq its n ∧ its.size ≤ sizeLine ∧ Vals xs its.toList

/-- a list that is read alone -/
def FzL (K : PySem.W.Frag) (H : Hp) (a : Addr) (xs : List V) : Prop :=
  (∃ o, H a = some (.frz o (.lst xs))) ∨
    ∃ (o : Obj) (its : Array Value) (n : Nat), K.lookup a = some o ∧ o.cls = .type "list" ∧ o.dict = none ∧ o.data = .seq its n ∧ its.size ≤ sizeLine ∧ Vals xs its.toList
/-- a list of the written part -/
def ListK (K : PySem.W.Frag) (a : Addr) (xs : List V) : Prop :=
  ∃ (o : Obj) (its : Array Value) (n : Nat), K.lookup a = some o ∧ o.cls = .type "list" ∧ o.dict = none ∧ o.data = .seq its n ∧ its.size ≤ sizeLine ∧ Vals xs its.toList
theorem FzL.sq {K : PySem.W.Frag} {H : Hp} {a : Addr} {xs : List V} : FzL K H a xs → SqL K H a xs
  | .inl h => .inl (.inr h)
  | .inr h => .inr h

mutual
inductive Rp (K : PySem.W.Frag) (fm : List Addr) (S : Sto) (H : Hp) : U → V → Prop
  | non : Rp K fm S H .non .non
  | bl (b : Bool) : Rp K fm S H (.bl b) (.bl b)
  | int (i : Int) : Rp K fm S H (.int i) (.int i)
  | str (x : Str) : Rp K fm S H (.str x) (.str x)
  | tup {a : Addr} {us : List U} {vs : List V} : H a = some (.tup vs) → ¬ Live fm S a → Rps K fm S H us vs → Rp K fm S H (.tup us) (.ref a)
  | tupK {a : Addr} {us : List U} {vs : List V} : TupK K a vs → Rps K fm S H us vs → Rp K fm S H (.tup us) (.ref a)
  | lst {a : Addr} {us : List U} {vs : List V} : H a = some (.lst vs) → ¬ Live fm S a → Rps K fm S H us vs → Rp K fm S H (.lst us) (.ref a)
  | fzK {a : Addr} {us : List U} {vs : List V} : ListK K a vs → Rps K fm S H us vs → Rp K fm S H (.fz us) (.ref a)
  | ref {a : Addr} {n : Nat} : fm[n]? = some a → Rp K fm S H (.ref n) (.ref a)
  | exc {a : Addr} {c : Nat} : Rp K fm S H (.exc c) (.ref a)
inductive Rps (K : PySem.W.Frag) (fm : List Addr) (S : Sto) (H : Hp) : List U → List V → Prop
  | nil : Rps K fm S H [] []
  | cons {u : U} {v : V} {us : List U} {vs : List V} : Rp K fm S H u v → Rps K fm S H us vs → Rps K fm S H (u :: us) (v :: vs)
end

def Fre : HO → Prop
  | .frz _ _ => False
  | _ => True
/-- what values lean on -/
structure Gr (fm : List Addr) (S : Sto) (H : Hp) (fm' : List Addr) (S' : Sto) (H' : Hp) : Prop where
  ext : ∀ (n : Nat) (a : Addr), fm[n]? = some a → fm'[n]? = some a
  keep : ∀ (a : Addr) (o : HO), Fre o → H a = some o → ¬ Live fm S a → H' a = some o ∧ ¬ Live fm' S' a
/-- a step of the world -/
structure Stp (fm : List Addr) (S : Sto) (H : Hp) (fm' : List Addr) (S' : Sto) (H' : Hp) : Prop where
  ext : ∀ (n : Nat) (a : Addr), fm[n]? = some a → fm'[n]? = some a
  keep : ∀ (a : Addr) (o : HO), H a = some o → ¬ Live fm S a → H' a = some o ∧ ¬ Live fm' S' a
  frz : ∀ (a : Addr) (o : Obj) (u : HO), H a = some (.frz o u) → H' a = some (.frz o u)
  lk : ∀ (n : Nat) (a : Addr) (o : O), fm[n]? = some a → S[n]? = some (.lck o) → S'[n]? = some (.lck o) ∧ H' a = H a
  there : ∀ (a : Addr), H a ≠ none → H' a ≠ none
  new : ∀ (n : Nat) (a : Addr), fm'[n]? = some a → fm[n]? = some a ∨ H a = none

/-- a dict's pairs -/
inductive RK (K : PySem.W.Frag) (fm : List Addr) (S : Sto) (H : Hp) : List (Int × U) → List (Key × V) → Prop
  | nil : RK K fm S H [] []
  | cons {k : Int} {u : U} {v : V} {us : List (Int × U)} {vs : List (Key × V)} : Rp K fm S H u v → RK K fm S H us vs → RK K fm S H ((k, u) :: us) ((.inl k, v) :: vs)
def ObjR (K : PySem.W.Frag) (fm : List Addr) (S : Sto) (H : Hp) (a : Addr) : O → Prop
  | .lst us => ∃ vs, H a = some (.lst vs) ∧ Rps K fm S H us vs
  | .dct us => ∃ vs, H a = some (.dK vs) ∧ RK K fm S H us vs
/-- the same while it is locked -/
def LckR (K : PySem.W.Frag) (fm : List Addr) (S : Sto) (H : Hp) (a : Addr) : O → Prop
  | .lst us => ∃ vs, H a = some (.lst vs) ∧ Rps K fm S H us vs
  | .dct us => ∃ o vs, H a = some (.frz o (.dK vs)) ∧ RK K fm S H us vs
/-- what a place says of the object -/
def CelR (K : PySem.W.Frag) (fm : List Addr) (S : Sto) (H : Hp) (a : Addr) : C → Prop
  | .liv o => ObjR K fm S H a o
  | .lck o => LckR K fm S H a o
  | .frz us => ∃ vs, FzL K H a vs ∧ Rps K fm S H us vs
  | .ded => True

structure StOk (K : PySem.W.Frag) (fm : List Addr) (S : Sto) (H : Hp) : Prop where
  len : fm.length = S.length
  inj : ∀ (n m : Nat) (a : Addr), fm[n]? = some a → fm[m]? = some a → n = m
  here : ∀ (n : Nat) (a : Addr), fm[n]? = some a → H a ≠ none
  obj : ∀ (n : Nat) (a : Addr) (c : C), fm[n]? = some a → S[n]? = some c → CelR K fm S H a c

section
variable {K : PySem.W.Frag} {fm fm' fm1 fm2 : List Addr} {S S' S1 S2 : Sto} {H H' H1 H2 : Hp}

theorem Stp.refl : Stp fm S H fm S H := ⟨fun _ _ h => h, fun _ _ h n => ⟨h, n⟩, fun _ _ _ h => h, fun _ _ _ _ h => ⟨h, rfl⟩, fun _ h => h, fun _ _ h => .inl h⟩
theorem Stp.trans (x : Stp fm S H fm1 S1 H1) (y : Stp fm1 S1 H1 fm2 S2 H2) : Stp fm S H fm2 S2 H2 where
  ext := fun n a h => y.ext n a (x.ext n a h)
  keep := fun a o h n => let ⟨h1, n1⟩ := x.keep a o h n; y.keep a o h1 n1
  frz := fun a o u h => y.frz a o u (x.frz a o u h)
  lk := fun n a o h1 h2 => let ⟨s1, e1⟩ := x.lk n a o h1 h2; let ⟨s2, e2⟩ := y.lk n a o (x.ext n a h1) s1; ⟨s2, e2.trans e1⟩
  there := fun a h => y.there a (x.there a h)
  new := fun n a h => (y.new n a h).elim (fun h => x.new n a h) fun h => .inr (Classical.byContradiction fun z => x.there a z h)
theorem Stp.toGr (x : Stp fm S H fm' S' H') : Gr fm S H fm' S' H' := ⟨x.ext, fun a o _ h n => x.keep a o h n⟩
theorem FzL.mono {a : Addr} {xs : List V} (e : H' a = H a) : FzL K H a xs → FzL K H' a xs
  | .inl ⟨o, h⟩ => .inl ⟨o, e.trans h⟩
  | .inr h => .inr h
mutual
theorem Rp.mono (x : Gr fm S H fm' S' H') : ∀ {u : U} {v : V}, Rp K fm S H u v → Rp K fm' S' H' u v
  | _, _, .non => .non
  | _, _, .bl b => .bl b
  | _, _, .int i => .int i
  | _, _, .str z => .str z
  | _, _, .tup h n t => let ⟨h1, n1⟩ := x.keep _ (.tup _) trivial h n; .tup h1 n1 (Rps.mono x t)
  | _, _, .tupK h t => .tupK h (Rps.mono x t)
  | _, _, .lst h n t => let ⟨h1, n1⟩ := x.keep _ (.lst _) trivial h n; .lst h1 n1 (Rps.mono x t)
  | _, _, .fzK h t => .fzK h (Rps.mono x t)
  | _, _, .ref h => .ref (x.ext _ _ h)
  | _, _, .exc => .exc
theorem Rps.mono (x : Gr fm S H fm' S' H') : ∀ {us : List U} {vs : List V}, Rps K fm S H us vs → Rps K fm' S' H' us vs
  | _, _, .nil => .nil
  | _, _, .cons h t => .cons (Rp.mono x h) (Rps.mono x t)
end

theorem RK.mono (x : Gr fm S H fm' S' H') : ∀ {us : List (Int × U)} {vs : List (Key × V)}, RK K fm S H us vs → RK K fm' S' H' us vs
  | _, _, .nil => .nil
  | _, _, .cons h t => .cons (h.mono x) (RK.mono x t)
theorem Rps.length : ∀ {us : List U} {vs : List V}, Rps K fm S H us vs → us.length = vs.length
  | _, _, .nil => rfl
  | _, _, .cons _ t => congrArg (· + 1) (Rps.length t)
theorem Rps.get : ∀ {us : List U} {vs : List V} {i : Nat} {u : U}, Rps K fm S H us vs → us[i]? = some u → ∃ v, vs[i]? = some v ∧ Rp K fm S H u v
  | _, _, _, _, .nil, e => by simp at e
  | _, _, 0, _, .cons h _, e => by simp at e; subst e; exact ⟨_, rfl, h⟩
  | _, _, i + 1, _, .cons _ t, e => by
    obtain ⟨v, e1, r⟩ := Rps.get (i := i) t (by simpa using e)
    exact ⟨v, by simpa using e1, r⟩
theorem Rps.getV : ∀ {us : List U} {vs : List V} {i : Nat} {v : V}, Rps K fm S H us vs → vs[i]? = some v → ∃ u, us[i]? = some u ∧ Rp K fm S H u v
  | _, _, _, _, .nil, e => by simp at e
  | _, _, 0, _, .cons h _, e => by simp at e; subst e; exact ⟨_, rfl, h⟩
  | _, _, i + 1, _, .cons _ t, e => by
    obtain ⟨v, e1, r⟩ := Rps.getV (i := i) t (by simpa using e)
    exact ⟨v, by simpa using e1, r⟩
theorem Rps.append : ∀ {us us' : List U} {vs vs' : List V}, Rps K fm S H us vs → Rps K fm S H us' vs' → Rps K fm S H (us ++ us') (vs ++ vs')
  | _, _, _, _, .nil, s => s
  | _, _, _, _, .cons h t, s => .cons h (Rps.append t s)
theorem Rps.take : ∀ {us : List U} {vs : List V} (n : Nat), Rps K fm S H us vs → Rps K fm S H (us.take n) (vs.take n)
  | _, _, 0, _ => .nil
  | _, _, _ + 1, .nil => .nil
  | _, _, n + 1, .cons h t => .cons h (Rps.take n t)
theorem Rps.drop : ∀ {us : List U} {vs : List V} (n : Nat), Rps K fm S H us vs → Rps K fm S H (us.drop n) (vs.drop n)
  | _, _, 0, r => r
  | _, _, _ + 1, .nil => .nil
  | _, _, n + 1, .cons _ t => Rps.drop n t
theorem Rps.set {u : U} {v : V} (r : Rp K fm S H u v) : ∀ {us : List U} {vs : List V} (i : Nat), Rps K fm S H us vs → Rps K fm S H (us.set i u) (vs.set i v)
  | _, _, _, .nil => .nil
  | _, _, 0, .cons _ t => .cons r t
  | _, _, i + 1, .cons h t => .cons h (Rps.set r i t)
theorem Rps.reverse : ∀ {us : List U} {vs : List V}, Rps K fm S H us vs → Rps K fm S H us.reverse vs.reverse
  | _, _, .nil => .nil
  | _, _, .cons h t => by rw [List.reverse_cons, List.reverse_cons]; exact Rps.append (Rps.reverse t) (.cons h .nil)
theorem Rps.dropLast : ∀ {us : List U} {vs : List V}, Rps K fm S H us vs → Rps K fm S H us.dropLast vs.dropLast := fun h => by
  rw [List.dropLast_eq_take, List.dropLast_eq_take, h.length]; exact h.take _
theorem Rps.eraseIdx : ∀ {us : List U} {vs : List V} (i : Nat), Rps K fm S H us vs → Rps K fm S H (us.eraseIdx i) (vs.eraseIdx i)
  | _, _, _, .nil => .nil
  | _, _, 0, .cons _ t => t
  | _, _, i + 1, .cons h t => .cons h (Rps.eraseIdx i t)
theorem Rps.rep {us : List U} {vs : List V} (h : Rps K fm S H us vs) : ∀ k : Nat, Rps K fm S H (List.replicate k us).flatten (List.replicate k vs).flatten
  | 0 => .nil
  | k + 1 => by rw [List.replicate_succ, List.replicate_succ, List.flatten_cons, List.flatten_cons]; exact h.append (h.rep k)
theorem Rps.ints : ∀ {us : List U} {vs : List V} {ns : List Int}, Rps K fm S H us vs → intsOf us = some ns → vs = ns.map V.int
  | _, _, _, .nil, e => by simp [intsOf] at e; subst e; rfl
  | _, _, ns, .cons h t, e => by
    cases h <;> simp [intsOf] at e
    obtain ⟨ms, e1, rfl⟩ := e
    rw [Rps.ints t e1]; rfl
theorem Rps.bls : ∀ {us : List U} {vs : List V} {bs : List Bool}, Rps K fm S H us vs → blsOf us = some bs → vs = bs.map V.bl
  | _, _, _, .nil, e => by simp [blsOf] at e; subst e; rfl
  | _, _, ns, .cons h t, e => by
    cases h <;> simp [blsOf] at e
    obtain ⟨ms, e1, rfl⟩ := e
    rw [Rps.bls t e1]; rfl
theorem Rps.of_ints : ∀ (ns : List Int), Rps K fm S H (ns.map U.int) (ns.map V.int)
  | [] => .nil
  | n :: ns => .cons (.int n) (Rps.of_ints ns)

theorem StOk.fresh (so : StOk K fm S H) {p : Addr} (h : H p = none) : ¬ Live fm S p := fun ⟨n, _, e, _⟩ => so.here n p e h
theorem StOk.notin (so : StOk K fm S H) {p : Addr} (h : H p = none) (n : Nat) : fm[n]? ≠ some p := fun e => so.here n p e h

/-- a new object beside the store -/
theorem stp_new (so : StOk K fm S H) {p : Addr} {o : HO} (h : H p = none) : Stp fm S H fm S (upd H p o) where
  ext := fun _ _ h => h
  keep := fun a o' e n => ⟨by rw [upd_ne (ne_of_none e h)]; exact e, n⟩
  frz := fun a o u e => by rw [upd_ne (ne_of_none e h)]; exact e
  lk := fun n a o' e1 e2 => ⟨e2, upd_ne fun z => so.notin h n (z ▸ e1)⟩
  there := fun a e => by
    by_cases z : a = p
    · subst z; exact absurd h e
    · rw [upd_ne z]; exact e
  new := fun _ _ h => .inl h
theorem ObjR.mono {a : Addr} (x : Gr fm S H fm' S' H') (e : H' a = H a) : ∀ {o : O}, ObjR K fm S H a o → ObjR K fm' S' H' a o
  | .lst us, ⟨vs, h, r⟩ => ⟨vs, e.trans h, r.mono x⟩
  | .dct us, ⟨vs, h, r⟩ => ⟨vs, e.trans h, r.mono x⟩
theorem LckR.mono {a : Addr} (x : Gr fm S H fm' S' H') (e : H' a = H a) : ∀ {o : O}, LckR K fm S H a o → LckR K fm' S' H' a o
  | .lst us, ⟨vs, h, r⟩ => ⟨vs, e.trans h, r.mono x⟩
  | .dct us, ⟨o, vs, h, r⟩ => ⟨o, vs, e.trans h, r.mono x⟩
theorem CelR.mono {a : Addr} (x : Gr fm S H fm' S' H') (e : H' a = H a) : ∀ {c : C}, CelR K fm S H a c → CelR K fm' S' H' a c
  | .liv _, h => ObjR.mono (K := K) x e h
  | .lck _, h => LckR.mono (K := K) x e h
  | .frz _, ⟨vs, h, r⟩ => ⟨vs, h.mono e, r.mono x⟩
  | .ded, _ => trivial
theorem ok_new (so : StOk K fm S H) {p : Addr} {o : HO} (h : H p = none) : StOk K fm S (upd H p o) where
  len := so.len
  inj := so.inj
  here := fun n a e => (stp_new so h).there a (so.here n a e)
  obj := fun n a c e1 e2 => CelR.mono (stp_new so h).toGr (upd_ne fun z => so.notin h n (z ▸ e1)) (so.obj n a c e1 e2)
theorem rp_newT (so : StOk K fm S H) {p : Addr} {us : List U} {vs : List V} (h : H p = none) (r : Rps K fm S H us vs) : Rp K fm S (upd H p (.tup vs)) (.tup us) (.ref p) :=
  .tup upd_same (so.fresh h) (r.mono (stp_new so h).toGr)
theorem rp_newL (so : StOk K fm S H) {p : Addr} {us : List U} {vs : List V} (h : H p = none) (r : Rps K fm S H us vs) : Rp K fm S (upd H p (.lst vs)) (.lst us) (.ref p) :=
  .lst upd_same (so.fresh h) (r.mono (stp_new so h).toGr)

/-! ### a new list in the store -/
theorem get_app {α : Type} {l : List α} {x y : α} {n : Nat} (h : (l ++ [x])[n]? = some y) : (l[n]? = some y ∧ n < l.length) ∨ (n = l.length ∧ y = x) := by
  by_cases hn : n < l.length
  · rw [List.getElem?_append_left hn] at h; exact .inl ⟨h, hn⟩
  · rw [List.getElem?_append_right (by omega)] at h
    have : n - l.length = 0 := by
      cases q : n - l.length with
      | zero => rfl
      | succ m => rw [q] at h; simp at h
    rw [this] at h
    simp at h
    exact .inr ⟨by omega, h.symm⟩
theorem stp_put (so : StOk K fm S H) {p : Addr} {o : HO} {c : C} (h : H p = none) : Stp fm S H (fm ++ [p]) (S ++ [c]) (upd H p o) where
  ext := fun n a e => by
    have : n < fm.length := (List.getElem?_eq_some_iff.mp e).1
    rw [List.getElem?_append_left this]; exact e
  keep := fun a o' e nl => ⟨by rw [upd_ne (ne_of_none e h)]; exact e, fun ⟨n, c', e1, e2, e3⟩ => by
    rcases get_app e1 with ⟨e1, hn⟩ | ⟨_, e1⟩
    · rw [List.getElem?_append_left (by rw [← so.len]; exact hn)] at e2
      exact nl ⟨n, c', e1, e2, e3⟩
    · subst e1; rw [h] at e; cases e⟩
  frz := fun a o u e => by rw [upd_ne (ne_of_none e h)]; exact e
  lk := fun n a o' e1 e2 => ⟨by
    have : n < S.length := (List.getElem?_eq_some_iff.mp e2).1
    rw [List.getElem?_append_left this]; exact e2, upd_ne fun z => so.notin h n (z ▸ e1)⟩
  there := fun a e => by
    by_cases z : a = p
    · subst z; exact absurd h e
    · rw [upd_ne z]; exact e
  new := fun n a e => by
    rcases get_app e with ⟨e, _⟩ | ⟨_, e⟩
    · exact .inl e
    · subst e; exact .inr h
theorem ok_putO (so : StOk K fm S H) {p : Addr} {o : O} {ho : HO} (h : H p = none) (r : ObjR K (fm ++ [p]) (S ++ [.liv o]) (upd H p ho) p o) : StOk K (fm ++ [p]) (S ++ [.liv o]) (upd H p ho) where
  len := by simp [so.len]
  inj := fun n m a e1 e2 => by
    rcases get_app e1 with ⟨q1, hn⟩ | ⟨hn, q1⟩ <;> rcases get_app e2 with ⟨q2, hm⟩ | ⟨hm, q2⟩
    · exact so.inj n m a q1 q2
    · rw [q2] at q1; exact absurd q1 (so.notin h n)
    · rw [q1] at q2; exact absurd q2 (so.notin h m)
    · omega
  here := fun n a e => by
    rcases get_app e with ⟨e, _⟩ | ⟨_, e⟩
    · exact (stp_new so h).there a (so.here n a e)
    · subst e; rw [upd_same]; simp
  obj := fun n a c e1 e2 => by
    have x := stp_put (o := ho) (c := .liv o) so h
    rcases get_app e1 with ⟨e1, hn⟩ | ⟨hn, e1⟩
    · rw [List.getElem?_append_left (by rw [← so.len]; exact hn)] at e2
      exact CelR.mono x.toGr (upd_ne fun z => so.notin h n (z ▸ e1)) (so.obj n a c e1 e2)
    · subst e1
      rcases get_app e2 with ⟨_, hm⟩ | ⟨_, e2⟩
      · rw [← so.len] at hm; omega
      · subst e2; exact r
theorem ok_put (so : StOk K fm S H) {p : Addr} {us : List U} {vs : List V} (h : H p = none) (r : Rps K fm S H us vs) : StOk K (fm ++ [p]) (S ++ [.liv (.lst us)]) (upd H p (.lst vs)) :=
  ok_putO so h ⟨vs, upd_same, r.mono (stp_put so h).toGr⟩

/-! ### a list of the store changed -/
theorem live_set {n : Nat} {c c' : C} (h : S[n]? = some c) (hc : c ≠ C.ded) (hc' : c' ≠ .ded) {a : Addr} : Live fm (S.set n c') a ↔ Live fm S a := by
  have hn : n < S.length := (List.getElem?_eq_some_iff.mp h).1
  constructor
  · rintro ⟨m, d, e1, e2, e3⟩
    by_cases z : m = n
    · subst z; exact ⟨m, c, e1, h, hc⟩
    · rw [List.getElem?_set_ne (Ne.symm z)] at e2; exact ⟨m, d, e1, e2, e3⟩
  · rintro ⟨m, d, e1, e2, e3⟩
    by_cases z : m = n
    · subst z; exact ⟨m, c', e1, List.getElem?_set_self hn, hc'⟩
    · exact ⟨m, d, e1, by rw [List.getElem?_set_ne (Ne.symm z)]; exact e2, e3⟩
theorem ObjR.nofrz {a : Addr} {ob : Obj} {u : HO} : ∀ {o : O}, ObjR K fm S H a o → H a ≠ some (.frz ob u)
  | .lst us, ⟨vs, h, _⟩, e => by rw [h] at e; cases e
  | .dct us, ⟨vs, h, _⟩, e => by rw [h] at e; cases e
theorem stp_set (so : StOk K fm S H) {n : Nat} {a : Addr} {o o' : O} {ho : HO} (hf : fm[n]? = some a) (hs : S[n]? = some (.liv o)) : Stp fm S H fm (S.set n (.liv o')) (upd H a ho) where
  ext := fun _ _ h => h
  keep := fun b o1 e nl => ⟨by
    rw [upd_ne]; exact e
    intro z; subst z
    exact nl ⟨n, _, hf, hs, by simp⟩, fun l => nl ((live_set hs (by simp) (by simp)).mp l)⟩
  frz := fun b ob u e => by
    rw [upd_ne]; exact e
    intro z; subst z
    exact ObjR.nofrz (so.obj n _ _ hf hs) e
  lk := fun m b o1 e1 e2 => by
    have z : m ≠ n := by rintro rfl; rw [hs] at e2; cases e2
    refine ⟨by rw [List.getElem?_set_ne (Ne.symm z)]; exact e2, upd_ne ?_⟩
    intro q; subst q
    exact z (so.inj _ _ _ e1 hf)
  there := fun b e => by
    by_cases z : b = a
    · subst z; rw [upd_same]; simp
    · rw [upd_ne z]; exact e
  new := fun _ _ h => .inl h
theorem ok_setO (so : StOk K fm S H) {n : Nat} {a : Addr} {o o' : O} {ho : HO} (hf : fm[n]? = some a) (hs : S[n]? = some (.liv o)) (r : ObjR K fm (S.set n (.liv o')) (upd H a ho) a o') :
    StOk K fm (S.set n (.liv o')) (upd H a ho) where
  len := by simp [so.len]
  inj := so.inj
  here := fun m b e => (stp_set (ho := ho) (o' := o') so hf hs).there b (so.here m b e)
  obj := fun m b c e1 e2 => by
    have x := stp_set (ho := ho) (o' := o') so hf hs
    have hn : n < S.length := (List.getElem?_eq_some_iff.mp hs).1
    by_cases z : m = n
    · subst z
      rw [List.getElem?_set_self hn] at e2
      cases e2
      rw [hf] at e1; cases e1
      exact r
    · rw [List.getElem?_set_ne (Ne.symm z)] at e2
      refine CelR.mono x.toGr (upd_ne ?_) (so.obj m b c e1 e2)
      intro q; subst q
      exact z (so.inj _ _ _ e1 hf)
theorem ok_set (so : StOk K fm S H) {n : Nat} {a : Addr} {o : O} {us : List U} {vs : List V} (hf : fm[n]? = some a) (hs : S[n]? = some (.liv o)) (r : Rps K fm S H us vs) :
    StOk K fm (S.set n (.liv (.lst us))) (upd H a (.lst vs)) := ok_setO so hf hs ⟨vs, upd_same, r.mono (stp_set so hf hs).toGr⟩

/-! ### locked, let go, dead -/
theorem stp_cell (so : StOk K fm S H) {n : Nat} {o : O} {c' : C} (hs : S[n]? = some (.liv o)) : Stp fm S H fm (S.set n c') H where
  ext := fun _ _ h => h
  keep := fun b o1 e nl => ⟨e, fun ⟨m, d, e1, e2, e3⟩ => by
    by_cases z : m = n
    · subst z; exact nl ⟨m, _, e1, hs, by simp⟩
    · rw [List.getElem?_set_ne (Ne.symm z)] at e2; exact nl ⟨m, d, e1, e2, e3⟩⟩
  frz := fun _ _ _ e => e
  lk := fun m b o1 e1 e2 => by
    have z : m ≠ n := by rintro rfl; rw [hs] at e2; cases e2
    exact ⟨by rw [List.getElem?_set_ne (Ne.symm z)]; exact e2, rfl⟩
  there := fun _ e => e
  new := fun _ _ h => .inl h
theorem ok_cell (so : StOk K fm S H) {n : Nat} {us : List U} {c' : C} (hs : S[n]? = some (.liv (.lst us))) (hc : c' = .lck (.lst us) ∨ c' = .ded) : StOk K fm (S.set n c') H where
  len := by simp [so.len]
  inj := so.inj
  here := so.here
  obj := fun m b c e1 e2 => by
    have x := stp_cell (c' := c') so hs
    have hn : n < S.length := (List.getElem?_eq_some_iff.mp hs).1
    by_cases z : m = n
    · subst z
      rw [List.getElem?_set_self hn] at e2
      cases e2
      rcases hc with rfl | rfl
      · exact LckR.mono (K := K) (o := .lst us) x.toGr rfl (so.obj m b _ e1 hs)
      · trivial
    · rw [List.getElem?_set_ne (Ne.symm z)] at e2
      exact CelR.mono x.toGr rfl (so.obj m b c e1 e2)
/-! ### an object beside the store, changed: D, locked just now -/
structure Off (D : Addr) (H H' : Hp) : Prop where
  off : ∀ a, a ≠ D → H' a = H a
theorem gr_off {D : Addr} {od : Obj} {u : HO} (hD : H D = some (.frz od u)) (e : Off D H H') : Gr fm S H fm S H' where
  ext := fun _ _ h => h
  keep := fun a o f h nl => ⟨by
    rw [e.off a]; exact h
    intro z; subst z; rw [hD] at h; cases h; exact f, nl⟩
theorem ok_off {D : Addr} {od : Obj} {u : HO} (so : StOk K fm S H) (hD : H D = some (.frz od u)) (hn : ∀ n : Nat, fm[n]? ≠ some D) (e : Off D H H') : StOk K fm S H' where
  len := so.len
  inj := so.inj
  here := fun n a h => by
    rw [e.off a (fun z => hn n (z ▸ h))]
    exact so.here n a h
  obj := fun n a c h1 h2 => CelR.mono (gr_off hD e) (e.off a fun z => hn n (z ▸ h1)) (so.obj n a c h1 h2)
theorem stp_off {D : Addr} (so1 : StOk K fm1 S1 H1) (st : Stp fm1 S1 H1 fm S H) (h1 : H1 D = none) (e : Off D H H') : Stp fm1 S1 H1 fm S H' where
  ext := st.ext
  keep := fun a o h nl => by
    rw [e.off a (fun z => by subst z; rw [h1] at h; cases h)]
    exact st.keep a o h nl
  frz := fun a o u h => by
    rw [e.off a (fun z => by subst z; rw [h1] at h; cases h)]
    exact st.frz a o u h
  lk := fun n a o e1 e2 => by
    rw [e.off a (fun z => by subst z; exact so1.here n _ e1 h1)]
    exact st.lk n a o e1 e2
  there := fun a h => by
    rw [e.off a (fun z => by subst z; exact h h1)]
    exact st.there a h
  new := st.new
/-- from ahead of the lock to behind its opening -/
theorem stp_lock {n : Nat} {a : Addr} {us : List U} (hs : S[n]? = some (.liv (.lst us))) (hf : fm[n]? = some a) (x : Stp fm (S.set n (.lck (.lst us))) H fm' S' H') (so' : StOk K fm' S' H') :
    S'[n]? = some (.lck (.lst us)) ∧ Stp fm S H fm' (S'.set n (.liv (.lst us))) H' ∧ Gr fm' S' H' fm' (S'.set n (.liv (.lst us))) H' ∧ StOk K fm' (S'.set n (.liv (.lst us))) H' := by
  obtain ⟨o, ho⟩ : ∃ o : O, o = .lst us := ⟨_, rfl⟩
  rw [← ho] at hs x ⊢
  have hn : n < S.length := (List.getElem?_eq_some_iff.mp hs).1
  have h0 : (S.set n (.lck o))[n]? = some (.lck o) := List.getElem?_set_self hn
  obtain ⟨h1, h2⟩ := x.lk n a o hf h0
  have hn' : n < S'.length := (List.getElem?_eq_some_iff.mp h1).1
  have hf' := x.ext n a hf
  have l' : ∀ b, Live fm' (S'.set n (.liv o)) b ↔ Live fm' S' b := fun b => live_set h1 (by simp) (by simp)
  have l0 : ∀ b, Live fm (S.set n (.lck o)) b ↔ Live fm S b := fun b => live_set hs (by simp) (by simp)
  have g : Gr fm' S' H' fm' (S'.set n (.liv o)) H' := ⟨fun _ _ h => h, fun b o1 _ e nl => ⟨e, fun z => nl ((l' b).mp z)⟩⟩
  refine ⟨h1, ⟨x.ext, fun b o1 e nl => ?_, x.frz, fun m b o1 e1 e2 => ?_, x.there, x.new⟩, g, ?_⟩
  · obtain ⟨q1, q2⟩ := x.keep b o1 e (fun z => nl ((l0 b).mp z))
    exact ⟨q1, fun z => q2 ((l' b).mp z)⟩
  · have z : m ≠ n := by rintro rfl; rw [hs] at e2; cases e2
    obtain ⟨q1, q2⟩ := x.lk m b o1 e1 (by rw [List.getElem?_set_ne (Ne.symm z)]; exact e2)
    exact ⟨by rw [List.getElem?_set_ne (Ne.symm z)]; exact q1, q2⟩
  · refine ⟨by simp [so'.len], so'.inj, so'.here, fun m b c e1 e2 => ?_⟩
    by_cases z : m = n
    · subst z
      rw [List.getElem?_set_self hn'] at e2
      cases e2
      subst ho; exact ObjR.mono (K := K) (o := .lst us) g rfl (so'.obj m b _ e1 h1)
    · rw [List.getElem?_set_ne (Ne.symm z)] at e2
      exact CelR.mono g rfl (so'.obj m b c e1 e2)
/-- a dict: locked in the heap, too -/
theorem stp_dlock {n : Nat} {a : Addr} {us : List (Int × U)} {vs : List (Key × V)} {od : Obj} (so : StOk K fm S H) (hs : S[n]? = some (.liv (.dct us))) (hf : fm[n]? = some a) (hA : H a = some (.dK vs)) (rk : RK K fm S H us vs) :
    StOk K fm (S.set n (.lck (.dct us))) (upd H a (.frz od (.dK vs))) ∧ Gr fm S H fm (S.set n (.lck (.dct us))) (upd H a (.frz od (.dK vs))) := by
  have hn : n < S.length := (List.getElem?_eq_some_iff.mp hs).1
  have hl : Live fm S a := ⟨n, _, hf, hs, by simp⟩
  have g : Gr fm S H fm (S.set n (.lck (.dct us))) (upd H a (.frz od (.dK vs))) := ⟨fun _ _ h => h, fun b o f e nl => ⟨by
    rw [upd_ne]; exact e
    intro z; subst z; exact nl hl, fun l => nl ((live_set hs (by simp) (by simp)).mp l)⟩⟩
  refine ⟨⟨by simp [so.len], so.inj, fun m b e => ?_, fun m b c e1 e2 => ?_⟩, g⟩
  · by_cases z : b = a
    · subst z; rw [upd_same]; simp
    · rw [upd_ne z]; exact so.here m b e
  · by_cases z : m = n
    · subst z
      rw [List.getElem?_set_self hn] at e2
      cases e2
      rw [hf] at e1; cases e1
      exact ⟨od, vs, upd_same, rk.mono g⟩
    · rw [List.getElem?_set_ne (Ne.symm z)] at e2
      refine CelR.mono g (upd_ne ?_) (so.obj m b c e1 e2)
      intro q; subst q
      exact z (so.inj _ _ _ e1 hf)
theorem stp_dopen {n : Nat} {a : Addr} {us : List (Int × U)} {vs : List (Key × V)} {od : Obj} (so : StOk K fm S H) (hs : S[n]? = some (.liv (.dct us))) (hf : fm[n]? = some a) (hA : H a = some (.dK vs)) (rk : RK K fm S H us vs)
    (x : Stp fm (S.set n (.lck (.dct us))) (upd H a (.frz od (.dK vs))) fm' S' H') (so' : StOk K fm' S' H') :
    H' a = some (.frz od (.dK vs)) ∧ Stp fm S H fm' (S'.set n (.liv (.dct us))) (upd H' a (.dK vs)) ∧ Gr fm' S' H' fm' (S'.set n (.liv (.dct us))) (upd H' a (.dK vs)) ∧ StOk K fm' (S'.set n (.liv (.dct us))) (upd H' a (.dK vs)) := by
  have hn : n < S.length := (List.getElem?_eq_some_iff.mp hs).1
  have hl : Live fm S a := ⟨n, _, hf, hs, by simp⟩
  have h0 : (S.set n (.lck (.dct us)))[n]? = some (.lck (.dct us)) := List.getElem?_set_self hn
  obtain ⟨h1, h2⟩ := x.lk n a _ hf h0
  rw [upd_same] at h2
  have hn' : n < S'.length := (List.getElem?_eq_some_iff.mp h1).1
  have hf' := x.ext n a hf
  have l' : ∀ b, Live fm' (S'.set n (.liv (.dct us))) b ↔ Live fm' S' b := fun b => live_set h1 (by simp) (by simp)
  have l0 : ∀ b, Live fm (S.set n (.lck (.dct us))) b ↔ Live fm S b := fun b => live_set hs (by simp) (by simp)
  have g : Gr fm' S' H' fm' (S'.set n (.liv (.dct us))) (upd H' a (.dK vs)) := ⟨fun _ _ h => h, fun b o1 f e nl => ⟨by
    rw [upd_ne]; exact e
    intro z; subst z; rw [h2] at e; cases e; exact f, fun z => nl ((l' b).mp z)⟩⟩
  refine ⟨h2, ⟨x.ext, fun b o1 e nl => ?_, fun b o u e => ?_, fun m b o1 e1 e2 => ?_, fun b e => ?_, fun m b e => ?_⟩, g, ⟨by simp [so'.len], so'.inj, fun m b e => ?_, fun m b c e1 e2 => ?_⟩⟩
  · have hb : b ≠ a := fun z => nl (z ▸ hl)
    obtain ⟨q1, q2⟩ := x.keep b o1 (by rw [upd_ne hb]; exact e) (fun z => nl ((l0 b).mp z))
    exact ⟨by rw [upd_ne hb]; exact q1, fun z => q2 ((l' b).mp z)⟩
  · have hb : b ≠ a := fun z => by subst z; rw [hA] at e; cases e
    rw [upd_ne hb]
    exact x.frz b o u (by rw [upd_ne hb]; exact e)
  · have z : m ≠ n := by rintro rfl; rw [hs] at e2; cases e2
    have hb : b ≠ a := fun q => by subst q; exact z (so.inj _ _ _ e1 hf)
    obtain ⟨q1, q2⟩ := x.lk m b o1 e1 (by rw [List.getElem?_set_ne (Ne.symm z)]; exact e2)
    exact ⟨by rw [List.getElem?_set_ne (Ne.symm z)]; exact q1, by rw [upd_ne hb, q2, upd_ne hb]⟩
  · by_cases z : b = a
    · subst z; rw [upd_same]; simp
    · rw [upd_ne z]; exact x.there b (by rw [upd_ne z]; exact e)
  · rcases x.new m b e with h | h
    · exact .inl h
    · refine .inr ?_
      have hb : b ≠ a := fun z => by subst z; rw [upd_same] at h; cases h
      rw [upd_ne hb] at h; exact h
  · by_cases z : b = a
    · subst z; rw [upd_same]; simp
    · rw [upd_ne z]; exact so'.here m b e
  · by_cases z : m = n
    · subst z
      rw [List.getElem?_set_self hn'] at e2
      cases e2
      have : b = a := by rw [hf'] at e1; exact (Option.some.inj e1).symm
      subst this
      obtain ⟨o2, vs2, q1, q2⟩ := so'.obj m b _ e1 h1
      rw [h2] at q1; cases q1
      exact ⟨vs, upd_same, q2.mono g⟩
    · rw [List.getElem?_set_ne (Ne.symm z)] at e2
      refine CelR.mono g (upd_ne ?_) (so'.obj m b c e1 e2)
      intro q; subst q
      exact z (so'.inj _ _ _ e1 hf')
end
end Ev
set_option Elab.async false
set_option linter.all false
set_option maxRecDepth 100000
set_option maxHeartbeats 2000000
/-! Ev3: operators, comparisons, built-ins by values. -/
namespace Ev
open PySem PySem.Spec PyProof.Rows L2

section
variable {K : PySem.W.Frag} {fm fm' : List Addr} {S S' : Sto} {H H' : Hp} {u : U} {v : V}

theorem rd_cases (S : Sto) (u : U) : rd S u = u ∨ (∃ (n : Nat) (xs : List U), u = .ref n ∧ (S[n]? = some (.liv (.lst xs)) ∨ S[n]? = some (.lck (.lst xs))) ∧ rd S u = .lst xs) ∨ ∃ (n : Nat) (xs : List U), u = .ref n ∧ S[n]? = some (.frz xs) ∧ rd S u = .fz xs := by
  cases u with
  | ref n =>
    cases e : S[n]? with
    | none => left; simp [rd, e]
    | some c =>
      cases c with
      | liv o =>
        cases o with
        | lst xs => right; left; exact ⟨n, xs, rfl, .inl e, by simp [rd, e]⟩
        | dct _ => left; simp [rd, e]
      | lck o =>
        cases o with
        | lst xs => right; left; exact ⟨n, xs, rfl, .inr e, by simp [rd, e]⟩
        | dct _ => left; simp [rd, e]
      | frz xs => right; right; exact ⟨n, xs, rfl, e, by simp [rd, e]⟩
      | ded => left; simp [rd, e]
  | _ => left; rfl
theorem rp_lst (so : StOk K fm S H) (r : Rp K fm S H u v) {us : List U} (e : rd S u = .lst us) : ∃ a vs, v = .ref a ∧ H a = some (.lst vs) ∧ Rps K fm S H us vs := by
  rcases rd_cases S u with h | ⟨n, xs, rfl, h, h2⟩ | ⟨n, xs, rfl, h, h2⟩
  · rw [h] at e; subst e
    cases r with
    | lst h1 _ h3 => exact ⟨_, _, rfl, h1, h3⟩
  · rw [h2] at e; cases e
    cases r with
    | ref hf =>
      rcases h with h | h
      · obtain ⟨vs, h1, h3⟩ := so.obj _ _ _ hf h; exact ⟨_, vs, rfl, h1, h3⟩
      · obtain ⟨vs, h1, h3⟩ := so.obj _ _ _ hf h; exact ⟨_, vs, rfl, h1, h3⟩
  · rw [h2] at e; cases e
theorem rp_tup (r : Rp K fm S H u v) {us : List U} (e : rd S u = .tup us) : ∃ a vs, v = .ref a ∧ SqT K H a vs ∧ Rps K fm S H us vs := by
  rcases rd_cases S u with h | ⟨n, xs, rfl, h, h2⟩ | ⟨n, xs, rfl, h, h2⟩
  · rw [h] at e; subst e
    cases r with
    | tup h1 _ h3 => exact ⟨_, _, rfl, .inl (.inl h1), h3⟩
    | tupK h1 h3 => exact ⟨_, _, rfl, .inr h1, h3⟩
  · rw [h2] at e; cases e
  · rw [h2] at e; cases e
theorem rp_fz (so : StOk K fm S H) (r : Rp K fm S H u v) {us : List U} (e : rd S u = .fz us) : ∃ a vs, v = .ref a ∧ SqL K H a vs ∧ Rps K fm S H us vs := by
  rcases rd_cases S u with h | ⟨n, xs, rfl, h, h2⟩ | ⟨n, xs, rfl, h, h2⟩
  · rw [h] at e; subst e
    cases r with
    | fzK h1 h3 => exact ⟨_, _, rfl, .inr h1, h3⟩
  · rw [h2] at e; cases e
  · rw [h2] at e; cases e
    cases r with
    | ref hf => obtain ⟨vs, h1, h3⟩ := so.obj _ _ _ hf h; exact ⟨_, vs, rfl, h1.sq, h3⟩
theorem rp_int (r : Rp K fm S H u v) {i : Int} (e : rd S u = .int i) : v = .int i := by
  rcases rd_cases S u with h | ⟨n, xs, rfl, h, h2⟩ | ⟨n, xs, rfl, h, h2⟩
  · rw [h] at e; subst e; cases r; rfl
  · rw [h2] at e; cases e
  · rw [h2] at e; cases e
theorem rp_bl (r : Rp K fm S H u v) {b : Bool} (e : rd S u = .bl b) : v = .bl b := by
  rcases rd_cases S u with h | ⟨n, xs, rfl, h, h2⟩ | ⟨n, xs, rfl, h, h2⟩
  · rw [h] at e; subst e; cases r; rfl
  · rw [h2] at e; cases e
  · rw [h2] at e; cases e
theorem rp_str (r : Rp K fm S H u v) {b : Str} (e : rd S u = .str b) : v = .str b := by
  rcases rd_cases S u with h | ⟨n, xs, rfl, h, h2⟩ | ⟨n, xs, rfl, h, h2⟩
  · rw [h] at e; subst e; cases r; rfl
  · rw [h2] at e; cases e
  · rw [h2] at e; cases e
theorem rp_non (r : Rp K fm S H u v) (e : rd S u = .non) : v = .non := by
  rcases rd_cases S u with h | ⟨n, xs, rfl, h, h2⟩ | ⟨n, xs, rfl, h, h2⟩
  · rw [h] at e; subst e; cases r; rfl
  · rw [h2] at e; cases e
  · rw [h2] at e; cases e
theorem rp_seq (so : StOk K fm S H) (r : Rp K fm S H u v) {us : List U} (e : seqOf S u = some us) : ∃ a vs, v = .ref a ∧ (SqL K H a vs ∨ SqT K H a vs) ∧ Rps K fm S H us vs := by
  unfold seqOf at e
  split at e
  · rename_i xs h; cases e
    obtain ⟨a, vs, h1, h2, h3⟩ := rp_tup r h; exact ⟨a, vs, h1, .inr h2, h3⟩
  · rename_i xs h; cases e
    obtain ⟨a, vs, h1, h2, h3⟩ := rp_lst so r h; exact ⟨a, vs, h1, .inl (SqL.of h2), h3⟩
  · rename_i xs h; cases e
    obtain ⟨a, vs, h1, h2, h3⟩ := rp_fz so r h; exact ⟨a, vs, h1, .inl h2, h3⟩
  · cases e

/-- a value has come, nothing else -/
def VRes (K : PySem.W.Frag) (fm : List Addr) (S : Sto) (H : Hp) (z : U) (Q : VK) : Prop :=
  ∀ (fm' : List Addr) (H' : Hp) (v : V), Stp fm S H fm' S H' → StOk K fm' S H' → Rp K fm' S H' z v → Q v H'
theorem VRes.here {z : U} {Q : VK} (h : VRes K fm S H z Q) (so : StOk K fm S H) (r : Rp K fm S H z v) : Q v H := h fm H v .refl so r
theorem VRes.tup {us : List U} {vs : List V} {Q : VK} (h : VRes K fm S H (.tup us) Q) (so : StOk K fm S H) (r : Rps K fm S H us vs) : ∀ p, H p = none → Q (.ref p) (upd H p (.tup vs)) :=
  fun p hp => h fm _ _ (stp_new so hp) (ok_new so hp) (rp_newT so hp r)
theorem VRes.lst {us : List U} {vs : List V} {Q : VK} (h : VRes K fm S H (.lst us) Q) (so : StOk K fm S H) (r : Rps K fm S H us vs) : ∀ p, H p = none → Q (.ref p) (upd H p (.lst vs)) :=
  fun p hp => h fm _ _ (stp_new so hp) (ok_new so hp) (rp_newL so hp r)
end

section
variable {X : Cx}
/-! ### operators -/
def rBin (K : PySem.W.Frag) (o : Op) : R2 := fun x y H Q => ∃ fm S u v z, StOk K fm S H ∧ Rp K fm S H u x ∧ Rp K fm S H v y ∧ binU S o u v = some z ∧ VRes K fm S H z Q

theorem mulOk_of {i j : Int} (h : mulOk i j = true) : CMul i j := by
  unfold mulOk at h
  simp only [Bool.or_eq_true, Bool.and_eq_true, decide_eq_true_eq] at h
  exact h
theorem int2_some {f : Int → Int → Option U} {a b z : U} (h : int2 f a b = some z) : ∃ i j, a = .int i ∧ b = .int j ∧ f i j = some z := by
  unfold int2 at h
  split at h
  · exact ⟨_, _, rfl, rfl, h⟩
  · cases h
theorem op_subU : OpR X (binaryOp .Sub) (rBin X.K .sub) := by
  intro pins s σ H x y v u Q I r1 r2 ⟨fm, S, a, b, z, so, ra, rb, e, q⟩
  obtain ⟨i, j, h1, h2, e⟩ := int2_some e
  cases e
  rw [rp_int ra h1] at r1
  rw [rp_int rb h2] at r2
  exact op_sub pins s σ H _ _ v u Q I r1 r2 ⟨i, j, rfl, rfl, q.here so (.int _)⟩
theorem op_modU : OpR X (binaryOp .Mod) (rBin X.K .mod) := by
  intro pins s σ H x y v u Q I r1 r2 ⟨fm, S, a, b, z, so, ra, rb, e, q⟩
  obtain ⟨i, j, h1, h2, e⟩ := int2_some e
  rw [rp_int ra h1] at r1
  rw [rp_int rb h2] at r2
  split at e
  · rename_i hj; cases e
    exact op_mod pins s σ H _ _ v u Q I r1 r2 ⟨i, j, rfl, rfl, hj, q.here so (.int _)⟩
  · cases e
theorem op_fdivU : OpR X (binaryOp .FloorDiv) (rBin X.K .fdiv) := by
  intro pins s σ H x y v u Q I r1 r2 ⟨fm, S, a, b, z, so, ra, rb, e, q⟩
  obtain ⟨i, j, h1, h2, e⟩ := int2_some e
  rw [rp_int ra h1] at r1
  rw [rp_int rb h2] at r2
  split at e
  · rename_i hj; cases e
    exact op_fdivW pins s σ H _ _ v u Q I r1 r2 ⟨i, j, rfl, rfl, hj, q.here so (.int _)⟩
  · cases e
theorem op_powU : OpR X (binaryOp .Pow) (rBin X.K .pow) := by
  intro pins s σ H x y v u Q I r1 r2 ⟨fm, S, a, b, z, so, ra, rb, e, q⟩
  obtain ⟨i, j, h1, h2, e⟩ := int2_some e
  rw [rp_int ra h1] at r1
  rw [rp_int rb h2] at r2
  split at e
  · rename_i hj; cases e
    exact op_pow pins s σ H _ _ v u Q I r1 r2 ⟨i, j, rfl, rfl, hj, q.here so (.int _)⟩
  · cases e
theorem lim_eq : lim = sizeLine := by rw [sizeLine_eq]
theorem rp_tupU {K : PySem.W.Frag} {fm : List Addr} {S : Sto} {H : Hp} {u : U} {v : V} {us : List U} (r : Rp K fm S H u v) (e : rd S u = .tup us) : Rp K fm S H (.tup us) v := by
  rcases rd_cases S u with h | ⟨n, xs, rfl, h, h2⟩ | ⟨n, xs, rfl, h, h2⟩
  · rw [h] at e; subst e; exact r
  · rw [h2] at e; cases e
  · rw [h2] at e; cases e
theorem cat_tup0 {prog : Program} {w : World} {A : Around} {E : Value → Shared → Prop} {s : Shared} {t b : Addr} {ws : List Value} {Q : Value → Shared → Prop} (ht : IsTup s.heap t #[]) (hb : IsTup s.heap b ws.toArray)
    (h1 : Q (.ref b) s) : wpAny (model prog w) A (binaryOp .Add (.ref t) (.ref b)) Q E s := by
  obtain ⟨⟨cls, dd, data, sl⟩, ho, hc, n, hd⟩ := id ht
  obtain ⟨⟨cls2, dd2, data2, sl2⟩, ho2, hc2, n2, hd2⟩ := id hb
  simp only at hc hd hc2 hd2
  subst hc hd hc2 hd2
  exact concat_meets ⟨_, ho, rfl⟩ ⟨_, ho2, rfl⟩ noFill_tuple_add seq_tuple_add PySem.F.slot_tuple_add PySem.F.entry_tuple_add (PySem.F.args_tuple_add_2 _ _)
      (tuple_addW0 t b #[] ws.toArray n n2 dd dd2 sl sl2 rfl) ⟨ho, ho2, h1⟩
theorem op_addU : OpR X (binaryOp .Add) (rBin X.K .add) := by
  intro pins s σ H x y v u Q I r1 r2 ⟨fm, S, a, b, z, so, ra, rb, e, q⟩
  replace e : addU (rd S a) (rd S b) = some z := e
  unfold addU at e
  split at e
  · rename_i i j h1 h2; cases e
    rw [rp_int ra h1] at r1
    rw [rp_int rb h2] at r2
    exact op_add pins s σ H _ _ v u Q I r1 r2 ⟨i, j, rfl, rfl, q.here so (.int _)⟩
  · rename_i xs ys h1 h2
    split at e
    · rename_i hl; cases e
      obtain ⟨p, vs, rfl, t1, k1⟩ := rp_tup ra h1
      obtain ⟨p', vs', rfl, t2, k2⟩ := rp_tup rb h2
      have hz : vs.length + vs'.length ≤ sizeLine := by rw [← k1.length, ← k2.length, ← lim_eq]; exact hl
      cases vs with
      | nil =>
        cases k1
        cases r1
        cases r2
        obtain ⟨its, rv, p1, _⟩ := I.tuple t1
        cases rv
        obtain ⟨its2, rv2, p2, _⟩ := I.tuple t2
        exact cat_tup0 p1 p2 ⟨.ref p', H, I, rfl, q.here so (rp_tupU rb h2)⟩
      | cons v0 vr =>
        refine op_catT pins s σ H _ _ v u Q I r1 r2 ⟨p, p', v0 :: vr, vs', rfl, rfl, t1, t2, by simp, hz, fun e => ?_, fun _ => q.tup so (k1.append k2)⟩
        subst e
        cases k2
        rw [List.append_nil] at q
        exact q.here so (rp_tupU ra h1)
    · cases e
  · rename_i xs ys h1 h2
    split at e
    · rename_i hl; cases e
      obtain ⟨p, vs, rfl, t1, k1⟩ := rp_lst so ra h1
      obtain ⟨p', vs', rfl, t2, k2⟩ := rp_lst so rb h2
      have hz : vs.length + vs'.length ≤ sizeLine := by rw [← k1.length, ← k2.length, ← lim_eq]; exact hl
      exact op_cat pins s σ H _ _ v u Q I r1 r2 ⟨p, p', vs, vs', rfl, rfl, t1, t2, hz, q.lst so (k1.append k2)⟩
    · cases e
  · cases e

/-! ### t * k -/
theorem tuple_mulW0 (l : Addr) (items : Array Value) (n : Nat) (dd : Option Addr) (sl : Array (Option Value)) (x : Int) (u : Tok) (c0 : (decide (x < -(2 ^ 63)) || decide (x ≥ 2 ^ 63)) = false) (c1 : (items.isEmpty || x == 1) = true) :
    Meets (Builtin.«tuple.__mul__» ⟨[.ref l, .int x u], []⟩) (fun _ R s => s.heap.get? l = some { cls := .type "tuple", dict := dd, data := .seq items n, slots := sl } ∧ R (.ok (.ret (Value.ref l))) s) :=
  .of_wp fun prog w A R s h => by
    obtain ⟨hp, g, d, tk, os⟩ := s
    obtain ⟨hl, h⟩ := h
    have f1 := AutoSeq1.idx_int
    wp_walk using wpAny_loadPart' hl
    repeat (first
      | (refine wpAny_ite_false (decide_eq_false (by rw [c0]; exact Bool.false_ne_true)) ?_; wp_walk using wpAny_loadPart' hl)
      | (refine wpAny_ite_true (decide_eq_true (by rw [c1])) ?_; wp_walk using wpAny_loadPart' hl))
    exact ⟨_, rfl, h⟩
theorem tuple_mulW1 (l : Addr) (items : Array Value) (n : Nat) (dd : Option Addr) (sl : Array (Option Value)) (x : Int) (u : Tok) (c0 : (decide (x < -(2 ^ 63)) || decide (x ≥ 2 ^ 63)) = false) (c1 : (items.isEmpty || x == 1) = false) (c2 : (decide (x ≤ 0) || items.isEmpty) = true) :
    Meets (Builtin.«tuple.__mul__» ⟨[.ref l, .int x u], []⟩) (fun _ R s => s.heap.get? l = some { cls := .type "tuple", dict := dd, data := .seq items n, slots := sl } ∧
      R (.ok (.ret (Value.ref s.heap.objs.size))) { s with heap := s.heap.push { cls := Value.type "tuple", data := Data.seq #[] }, toks := s.toks }) :=
  .of_wp fun prog w A R s h => by
    obtain ⟨hp, g, d, tk, os⟩ := s
    obtain ⟨hl, h⟩ := h
    have f1 := AutoSeq1.idx_int
    wp_walk using wpAny_loadPart' hl
    repeat (first
      | (refine wpAny_ite_false (decide_eq_false (by rw [c0]; exact Bool.false_ne_true)) ?_; wp_walk using wpAny_loadPart' hl)
      | (refine wpAny_ite_false (decide_eq_false (by rw [c1]; exact Bool.false_ne_true)) ?_; wp_walk using wpAny_loadPart' hl)
      | (refine wpAny_ite_true (decide_eq_true (by rw [c2])) ?_; wp_walk using wpAny_loadPart' hl))
    exact ⟨_, rfl, h⟩
end
end Ev
set_option Elab.async false
set_option linter.all false
set_option maxRecDepth 100000
set_option maxHeartbeats 2000000
/-! Ev4: products, comparisons by values. -/
namespace Ev
open PySem PySem.Spec PyProof.Rows L2
section
variable {X : Cx}
theorem rep_le {α : Type} (xs : List α) (k : Nat) : (List.replicate k xs).flatten.length = k * xs.length := PyProof.Rows.lm_len_rep_flat ..
theorem op_mulU : OpR X (binaryOp .Mult) (rBin X.K .mul) := by
  intro pins s σ H x y v u Q I r1 r2 ⟨fm, S, a, b, z, so, ra, rb, e, q⟩
  replace e : mulU (rd S a) (rd S b) = some z := e
  unfold mulU at e
  split at e
  · rename_i i j h1 h2
    split at e
    · rename_i hm; cases e
      rw [rp_int ra h1] at r1
      rw [rp_int rb h2] at r2
      exact op_mul pins s σ H _ _ v u Q I r1 r2 ⟨i, j, rfl, rfl, mulOk_of hm, q.here so (.int _)⟩
    · cases e
  · rename_i us k h1 h2
    split at e
    · rename_i hl; cases e
      obtain ⟨l, xs, rfl, hT, k1⟩ := rp_tup ra h1
      rw [rp_int rb h2] at r2
      obtain ⟨hz, h2k, h1k⟩ := hl
      rw [k1.length] at hz
      by_cases hgood : xs ≠ [] ∧ 2 ≤ k
      · exact op_repT pins s σ H _ _ v u Q I r1 r2 ⟨l, k, xs, rfl, rfl, hT, hgood.1, hgood.2, h2k, hz, q.tup so (k1.rep _)⟩
      · cases r1
        obtain ⟨t, rfl⟩ := r2
        have hT' := hT
        obtain ⟨its, r, ⟨⟨cls, dd, data, sl⟩, ho, hc, n, hd⟩, hs⟩ := I.tuple hT
        simp only at hc hd
        subst hc hd
        have hle : its.length = xs.length := r.length.symm
        have c0 : (decide (k < -(2 ^ 63)) || decide (k ≥ 2 ^ 63)) = false := by
          rw [decide_eq_false (by omega), decide_eq_false (by omega)] <;> rfl
        by_cases c1 : (its.toArray.isEmpty || k == 1) = true
        · refine wpAny_binaryOp_repeat_ref (T := "tuple") (U := "int") (by decide) ⟨_, ho, rfl⟩ (fun s' => typeIs_int s' k t) noFill_tuple_mul F.fills_int_mul F.slot_int_rmul repeat_tuple F.slot_int_index.lookup
            (call_meets F.slot_int_rmul (typeIs_int s k t) F.entry_int_rmul (F.args_int_rmul_2 _ _) (int_rmul_tuple k t l its.toArray n dd sl)
              ⟨ho, rfl, ⟨_, ho, rfl⟩, call_meets F.slot_tuple_mul ⟨_, ho, rfl⟩ F.entry_tuple_mul (F.args_tuple_mul_2 _ _) (tuple_mulW0 l its.toArray n dd sl k t c0 c1) ⟨ho, ?_⟩⟩)
          refine ⟨.ref l, H, I, rfl, ?_⟩
          have e2 : (List.replicate k.toNat us).flatten = us := by
            rw [Bool.or_eq_true] at c1
            rcases c1 with c1 | c1
            · have : us = [] := by
                have z : its = [] := by simpa using c1
                rw [z] at hle
                exact List.eq_nil_of_length_eq_zero (by rw [k1.length, ← hle]; rfl)
              subst this
              simp
            · have : k = 1 := eq_of_beq c1
              subst this
              show (List.replicate 1 us).flatten = us
              simp
          rw [e2] at q
          exact q.here so (rp_tupU ra h1)
        · have c1 : (its.toArray.isEmpty || k == 1) = false := by simpa using c1
          have c1' := c1
          rw [Bool.or_eq_false_iff] at c1'
          have hne : xs ≠ [] := by
            rintro rfl
            have : its = [] := List.eq_nil_of_length_eq_zero hle
            rw [this] at c1'
            simp at c1'
          have hk1 : k ≠ 1 := by simpa using c1'.2
          have hk : k ≤ 0 := by
            have : ¬ 2 ≤ k := fun z => hgood ⟨hne, z⟩
            omega
          have c2 : (decide (k ≤ 0) || its.toArray.isEmpty) = true := by rw [decide_eq_true hk]; rfl
          refine wpAny_binaryOp_repeat_ref (T := "tuple") (U := "int") (by decide) ⟨_, ho, rfl⟩ (fun s' => typeIs_int s' k t) noFill_tuple_mul F.fills_int_mul F.slot_int_rmul repeat_tuple F.slot_int_index.lookup
            (call_meets F.slot_int_rmul (typeIs_int s k t) F.entry_int_rmul (F.args_int_rmul_2 _ _) (int_rmul_tuple k t l its.toArray n dd sl)
              ⟨ho, rfl, ⟨_, ho, rfl⟩, call_meets F.slot_tuple_mul ⟨_, ho, rfl⟩ F.entry_tuple_mul (F.args_tuple_mul_2 _ _) (tuple_mulW1 l its.toArray n dd sl k t c0 c1 c2) ⟨ho, ?_⟩⟩)
          have e2 : (List.replicate k.toNat us).flatten = [] := by
            have : k.toNat = 0 := by omega
            rw [this]; rfl
          rw [e2] at q
          refine ⟨.ref s.heap.objs.size, _, I.laid (t' := s.toks) (o := .tup []) (fun b ob q => Heap.get?_push_of_some _ q) (Nat.le_refl _) ?_, rfl, q.tup so .nil _ (I.hok.fresh (Nat.le_refl _))⟩
          exact ⟨Nat.zero_le _, [], .nil, IsTup.new _ _⟩
    · cases e
  · cases e

/-! ### comparisons -/
def rCmp (K : PySem.W.Frag) (o : Cp) : R2 := fun x y H Q => ∃ fm S u v b, StOk K fm S H ∧ Rp K fm S H u x ∧ Rp K fm S H v y ∧ cmpU S o u v = some b ∧ Q (.bl b) H

theorem op_ltU : OpR X (compareOp .Lt) (rCmp X.K .lt) := by
  intro pins s σ H x y v u Q I r1 r2 ⟨fm, S, a, b, k, so, ra, rb, e, q⟩
  simp only [cmpU] at e
  split at e
  · cases e; cases ra; cases rb
    exact op_lt pins s σ H _ _ v u Q I r1 r2 ⟨_, _, rfl, rfl, q⟩
  · cases e
theorem op_leU : OpR X (compareOp .LtE) (rCmp X.K .le) := by
  intro pins s σ H x y v u Q I r1 r2 ⟨fm, S, a, b, k, so, ra, rb, e, q⟩
  simp only [cmpU] at e
  split at e
  · cases e; cases ra; cases rb
    exact op_le pins s σ H _ _ v u Q I r1 r2 ⟨_, _, rfl, rfl, q⟩
  · cases e
theorem op_gtU : OpR X (compareOp .Gt) (rCmp X.K .gt) := by
  intro pins s σ H x y v u Q I r1 r2 ⟨fm, S, a, b, k, so, ra, rb, e, q⟩
  simp only [cmpU] at e
  split at e
  · cases e; cases ra; cases rb
    exact op_gt pins s σ H _ _ v u Q I r1 r2 ⟨_, _, rfl, rfl, q⟩
  · cases e
theorem op_geU : OpR X (compareOp .GtE) (rCmp X.K .ge) := by
  intro pins s σ H x y v u Q I r1 r2 ⟨fm, S, a, b, k, so, ra, rb, e, q⟩
  simp only [cmpU] at e
  split at e
  · cases e; cases ra; cases rb
    exact op_ge pins s σ H _ _ v u Q I r1 r2 ⟨_, _, rfl, rfl, q⟩
  · cases e

/-! ### == of anything -/
mutual
def toD : U → PyData
  | .bl b => .bool b
  | .int i => .int i
  | .str x => .str x
  | .tup xs => .tuple (toDs xs)
  | .lst xs => .list (toDs xs)
  | _ => .none
def toDs : List U → List PyData
  | [] => []
  | x :: xs => toD x :: toDs xs
end
variable {K : PySem.W.Frag} {fm : List Addr} {S : Sto} {H : Hp}
mutual
theorem toD_dp : ∀ (k : Nat) {u : U} {v : V}, okD k u = true → Rp K fm S H u v → Dp K H v (toD u)
  | k, .non, _, _, .non => by simp only [toD]; exact .non
  | k, .bl _, _, _, .bl b => by simp only [toD]; exact .bl b
  | k, .int _, _, _, .int b => by simp only [toD]; exact .int b
  | k, .str _, _, _, .str b => by simp only [toD]; exact .str b
  | k + 1, .tup us, _, h, .tup h1 _ h3 => by simp only [toD]; exact .tup (SqT.of h1) (toDs_dp k (by simpa [okD] using h) h3)
  | k + 1, .tup us, _, h, .tupK h1 h3 => by simp only [toD]; exact .tup (.inr h1) (toDs_dp k (by simpa [okD] using h) h3)
  | k + 1, .lst us, _, h, .lst h1 _ h3 => by simp only [toD]; exact .lst (SqL.of h1) (toDs_dp k (by simpa [okD] using h) h3)
  | 0, .tup us, _, h, _ => by simp [okD] at h
  | 0, .lst us, _, h, _ => by simp [okD] at h
  | k, .fz _, _, h, _ => by simp [okD] at h
  | k, .ref _, _, h, _ => by simp [okD] at h
  | k, .exc _, _, h, _ => by simp [okD] at h
theorem toDs_dp : ∀ (k : Nat) {us : List U} {vs : List V}, okDs k us = true → Rps K fm S H us vs → DpAll K H vs (toDs us)
  | k, [], _, _, .nil => by simp only [toDs]; exact .nil
  | k, u :: us, _, h, .cons h1 h2 => by
    simp only [okDs, Bool.and_eq_true] at h
    simp only [toDs]
    exact .cons (toD_dp k h.1 h1) (toDs_dp k h.2 h2)
end
mutual
theorem toD_lay : ∀ (k : Nat) {u : U}, okD k u = true → (toD u).canLay0 = true ∧ (toD u).depth ≤ k
  | k, .non, _ => by simp only [toD]; exact ⟨rfl, Nat.zero_le _⟩
  | k, .bl _, _ => by simp only [toD]; exact ⟨rfl, Nat.zero_le _⟩
  | k, .int _, _ => by simp only [toD]; exact ⟨rfl, Nat.zero_le _⟩
  | k, .str x, h => by simp only [toD]; exact ⟨by simpa [okD, PyData.canLay0] using h, Nat.zero_le _⟩
  | k + 1, .tup us, h => by
    have := toDs_lay k (us := us) (by simpa [okD] using h)
    simp only [toD]
    exact ⟨by simpa [PyData.canLay0] using this.1, by simp only [PyData.depth]; have := this.2; omega⟩
  | k + 1, .lst us, h => by
    have := toDs_lay k (us := us) (by simpa [okD] using h)
    simp only [toD]
    exact ⟨by simpa [PyData.canLay0] using this.1, by simp only [PyData.depth]; have := this.2; omega⟩
  | 0, .tup us, h => by simp [okD] at h
  | 0, .lst us, h => by simp [okD] at h
  | k, .fz _, h => by simp [okD] at h
  | k, .ref _, h => by simp [okD] at h
  | k, .exc _, h => by simp [okD] at h
theorem toDs_lay : ∀ (k : Nat) {us : List U}, okDs k us = true → PyData.canLayAll0 (toDs us) = true ∧ PyData.depthAll (toDs us) ≤ k
  | k, [], _ => by simp only [toDs]; exact ⟨rfl, Nat.zero_le _⟩
  | k, u :: us, h => by
    simp only [okDs, Bool.and_eq_true] at h
    have h1 := toD_lay k h.1
    have h2 := toDs_lay k h.2
    simp only [toDs]
    exact ⟨by simp [PyData.canLayAll0, h1.1, h2.1], by simp only [PyData.depthAll]; have := h1.2; have := h2.2; omega⟩
end
end
end Ev
set_option Elab.async false
set_option linter.all false
set_option maxRecDepth 100000
set_option maxHeartbeats 2000000
/-! Ev5: ==, is, built-ins by values. -/
namespace Ev
open PySem PySem.Spec PyProof.Rows L2
mutual
theorem eqv_toD : ∀ (k : Nat) (u v : U), okD k u = true → okD k v = true → PyData.eqv (toD u) (toD v) = eqU u v := by
  intro k u v h1 h2
  cases u <;> cases v <;> first
    | (simp [okD] at h1; done) | (simp [okD] at h2; done)
    | (simp [toD, PyData.eqv, eqU]; done)
    | skip
  · rename_i xs ys
    cases k with
    | zero => simp [okD] at h1
    | succ k =>
      simp only [toD, PyData.eqv, eqU]
      exact eqv_toDs k xs ys (by simpa [okD] using h1) (by simpa [okD] using h2)
  · rename_i xs ys
    cases k with
    | zero => simp [okD] at h1
    | succ k =>
      simp only [toD, PyData.eqv, eqU]
      exact eqv_toDs k xs ys (by simpa [okD] using h1) (by simpa [okD] using h2)
theorem eqv_toDs : ∀ (k : Nat) (us vs : List U), okDs k us = true → okDs k vs = true → PyData.eqvAll (toDs us) (toDs vs) = eqUs us vs := by
  intro k us vs h1 h2
  cases us with
  | nil => cases vs <;> simp [toDs, PyData.eqvAll, eqUs]
  | cons u us =>
    cases vs with
    | nil => simp [toDs, PyData.eqvAll, eqUs]
    | cons v vs =>
      simp only [okDs, Bool.and_eq_true] at h1 h2
      simp only [toDs, PyData.eqvAll, eqUs]
      rw [eqv_toD k u v h1.1 h2.1, eqv_toDs k us vs h1.2 h2.2]
end
section
variable {X : Cx}
theorem rp_rd {K : PySem.W.Frag} {fm : List Addr} {S : Sto} {H : Hp} {u : U} {v : V} (so : StOk K fm S H) (r : Rp K fm S H u v) : rd S u = u ∨ (∃ us vs a, rd S u = .lst us ∧ v = .ref a ∧ H a = some (.lst vs) ∧ Rps K fm S H us vs) ∨ ∃ us, rd S u = .fz us := by
  rcases rd_cases S u with h | ⟨n, xs, rfl, h, h2⟩ | ⟨n, xs, rfl, h, h2⟩
  · exact .inl h
  · obtain ⟨a, vs, e, h1, h3⟩ := rp_lst so r h2
    exact .inr (.inl ⟨xs, vs, a, h2, e, h1, h3⟩)
  · exact .inr (.inr ⟨xs, h2⟩)
theorem dp_rd {K : PySem.W.Frag} {fm : List Addr} {S : Sto} {H : Hp} {u : U} {v : V} (so : StOk K fm S H) (r : Rp K fm S H u v) (h : okD 20 (rd S u) = true) : Dp K H v (toD (rd S u)) := by
  rcases rp_rd so r with e | ⟨us, vs, a, e, rfl, h1, h3⟩ | ⟨us, e⟩
  · rw [e] at h ⊢; exact toD_dp 20 h r
  · rw [e] at h ⊢
    simp only [toD]
    exact .lst (SqL.of h1) (toDs_dp 19 (by simpa [okD] using h) h3)
  · rw [e] at h; simp [okD] at h
theorem eqV_some {u v : U} {b : Bool} (h : eqV? u v = some b) : okD 20 u = true ∧ okD 20 v = true ∧ eqU u v = b := by
  unfold eqV? at h
  split at h
  · rename_i c; cases h; exact ⟨c.1, c.2, rfl⟩
  · cases h
theorem shaped_of {u : U} (h : okD 20 u = true) : SeqAt.shaped (toD u) = true := by
  have := toD_lay 20 h
  unfold SeqAt.shaped
  rw [this.1, decide_eq_true (by have := this.2; omega)]; rfl
theorem op_eqU (hu : X.A.units + 72 < cLine) : OpR X (compareOp .Eq) (rCmp X.K .eq) := by
  intro pins s σ H x y v u Q I r1 r2 ⟨fm, S, a, b, k, so, ra, rb, e, q⟩
  obtain ⟨h1, h2, h3⟩ := eqV_some (show eqV? (rd S a) (rd S b) = some k from e)
  subst h3
  rw [← eqv_toD 20 _ _ h1 h2] at q
  exact op_eqD (by omega) pins s σ H _ _ v u Q I r1 r2 ⟨_, _, dp_rd so ra h1, dp_rd so rb h2, shaped_of h1, shaped_of h2, q⟩
theorem op_neU (hu : X.A.units + 72 < cLine) : OpR X (compareOp .NotEq) (rCmp X.K .ne) := by
  intro pins s σ H x y v u Q I r1 r2 ⟨fm, S, a, b, k, so, ra, rb, e, q⟩
  replace e : (eqV? (rd S a) (rd S b)).map (!·) = some k := e
  obtain ⟨k', e', rfl⟩ := Option.map_eq_some_iff.mp e
  obtain ⟨h1, h2, h3⟩ := eqV_some e'
  subst h3
  rw [← eqv_toD 20 _ _ h1 h2] at q
  exact op_neD (by omega) pins s σ H _ _ v u Q I r1 r2 ⟨_, _, dp_rd so ra h1, dp_rd so rb h2, shaped_of h1, shaped_of h2, q⟩

/-! ### in -/
mutual
theorem okD_up : ∀ (k : Nat) (u : U), okD k u = true → okD (k + 1) u = true
  | _, .non, _ => by simp [okD]
  | _, .bl _, _ => by simp [okD]
  | _, .int _, _ => by simp [okD]
  | 0, .str _, h => by simpa [okD] using h
  | k + 1, .str _, h => by simpa [okD] using h
  | 0, .tup _, h => by simp [okD] at h
  | 0, .lst _, h => by simp [okD] at h
  | k + 1, .tup xs, h => by rw [okD] at h ⊢; exact okDs_up k xs h
  | k + 1, .lst xs, h => by rw [okD] at h ⊢; exact okDs_up k xs h
  | 0, .fz _, h => by simp [okD] at h
  | k + 1, .fz _, h => by simp [okD] at h
  | 0, .ref _, h => by simp [okD] at h
  | k + 1, .ref _, h => by simp [okD] at h
  | 0, .exc _, h => by simp [okD] at h
  | k + 1, .exc _, h => by simp [okD] at h
theorem okDs_up : ∀ (k : Nat) (us : List U), okDs k us = true → okDs (k + 1) us = true
  | _, [], _ => by simp [okDs]
  | k, u :: us, h => by
    simp only [okDs, Bool.and_eq_true] at h ⊢
    exact ⟨okD_up k u h.1, okDs_up k us h.2⟩
end
theorem okDs_mem : ∀ {k : Nat} {us : List U}, okDs k us = true → ∀ u ∈ us, okD k u = true
  | _, [], _, _, hu => by cases hu
  | k, v :: us, h, u, hu => by
    simp only [okDs, Bool.and_eq_true] at h
    rcases List.mem_cons.mp hu with rfl | hu
    · exact h.1
    · exact okDs_mem h.2 u hu
theorem toDs_map : ∀ us : List U, toDs us = us.map toD
  | [] => by simp [toDs]
  | u :: us => by simp [toDs, toDs_map us]
theorem any_toD {us : List U} {w : U} (h : okDs 19 us = true) (hw : okD 20 w = true) : ((toDs us).any fun z => PyData.eqv z (toD w)) = us.any fun z => eqU z w := by
  rw [toDs_map, List.any_map]
  have h2 := okDs_mem h
  clear h
  induction us with
  | nil => rfl
  | cons u us ih =>
    rw [List.any_cons, List.any_cons, ih fun v hv => h2 v (List.mem_cons_of_mem _ hv)]
    congr 1
    exact eqv_toD 20 u w (okD_up 19 u (h2 u List.mem_cons_self)) hw
theorem in_dp {K : PySem.W.Frag} {fm : List Addr} {S : Sto} {H : Hp} {u : U} {v : V} {xs : List U} (so : StOk K fm S H) (r : Rp K fm S H u v) (e : rd S u = .lst xs) (h : okD 20 (.lst xs) = true) : Dp K H v (.list (toDs xs)) ∧ SeqAt.shaped (.list (toDs xs)) = true := by
  have d := dp_rd so r (by rw [e]; exact h)
  have s := shaped_of h
  rw [e] at d
  exact ⟨by simpa only [toD] using d, by simpa only [toD] using s⟩
theorem op_inU (hu : X.A.units + 72 < cLine) : OpR X (compareOp .In) (rCmp X.K .isin) := by
  intro pins s σ H x y v u Q I r1 r2 ⟨fm, S, a, b, k, so, ra, rb, e, q⟩
  simp only [cmpU] at e
  split at e <;> first | contradiction | skip
  rename_i xs hx
  split at e <;> first | contradiction | skip
  rename_i hk
  cases e
  obtain ⟨d1, d2⟩ := in_dp so rb hx hk.1
  rw [← any_toD (by simpa [okD] using hk.1) hk.2] at q
  exact op_inD (by omega) pins s σ H _ _ v u Q I r1 r2 ⟨_, _, dp_rd so ra hk.2, d1, shaped_of hk.2, d2, q⟩
theorem op_notinU (hu : X.A.units + 72 < cLine) : OpR X (compareOp .NotIn) (rCmp X.K .notin) := by
  intro pins s σ H x y v u Q I r1 r2 ⟨fm, S, a, b, k, so, ra, rb, e, q⟩
  simp only [cmpU] at e
  split at e <;> first | contradiction | skip
  rename_i xs hx
  split at e <;> first | contradiction | skip
  rename_i hk
  cases e
  obtain ⟨d1, d2⟩ := in_dp so rb hx hk.1
  rw [← any_toD (by simpa [okD] using hk.1) hk.2] at q
  exact op_notInD (by omega) pins s σ H _ _ v u Q I r1 r2 ⟨_, _, dp_rd so ra hk.2, d1, shaped_of hk.2, d2, q⟩
/-! ### is -/
theorem V.ref_ne_bl {a : Addr} {b : Bool} {w : Value} (h : RelV (.ref a) w) : w ≠ .bool b := by cases h; exact fun z => nomatch z
theorem relV_bool {x : V} {w : Value} {b : Bool} (h : RelV x w) : w = .bool b ↔ x = .bl b := by
  cases x with
  | non => cases h; exact ⟨(fun z => nomatch z), (fun z => nomatch z)⟩
  | bl c => cases (show w = Value.bool c from h); exact ⟨fun z => by cases z; rfl, fun z => by cases z; rfl⟩
  | int i => obtain ⟨t, rfl⟩ := h; exact ⟨(fun z => nomatch z), (fun z => nomatch z)⟩
  | str i => obtain ⟨t, rfl⟩ := h; exact ⟨(fun z => nomatch z), (fun z => nomatch z)⟩
  | byt i => obtain ⟨t, rfl⟩ := h; exact ⟨(fun z => nomatch z), (fun z => nomatch z)⟩
  | flt i => obtain ⟨t, rfl⟩ := h; exact ⟨(fun z => nomatch z), (fun z => nomatch z)⟩
  | ref i => cases h; exact ⟨(fun z => nomatch z), (fun z => nomatch z)⟩
  | ty i => cases h; exact ⟨(fun z => nomatch z), (fun z => nomatch z)⟩
theorem rCmpIs {K : PySem.W.Frag} {fm : List Addr} {S : Sto} {H : Hp} {a b : U} {x y : V} {k : Bool} (ra : Rp K fm S H a x) (rb : Rp K fm S H b y) (e : cmpU S .is a b = some k) :
    (y = .non ∧ k = decide (x = .non)) ∨ ∃ c, y = .bl c ∧ k = decide (x = .bl c) := by
  simp only [cmpU] at e
  cases b <;> simp only [reduceCtorEq] at e
  · cases rb
    left
    cases ra <;> simp_all
  · rename_i c
    cases rb
    right
    refine ⟨c, rfl, ?_⟩
    cases ra <;> simp_all
    cases k <;> simp_all
    all_goals (first | (cases c <;> simp_all) | skip)
theorem op_isU : OpR X (compareOp .Is) (rCmp X.K .is) := by
  intro pins s σ H x y v u Q I r1 r2 ⟨fm, S, a, b, k, so, ra, rb, e, q⟩
  rcases rCmpIs ra rb e with ⟨rfl, rfl⟩ | ⟨c, rfl, rfl⟩
  · exact op_isN pins s σ H _ _ v u Q I r1 r2 ⟨rfl, q⟩
  · cases (show u = Value.bool c from r2)
    by_cases h : x = .bl c
    · subst h
      cases (show v = Value.bool c from r1)
      exact wpAny_is_self rfl ⟨.bl true, H, I, rfl, by simpa using q⟩
    · have hv : v ≠ .bool c := fun z => h ((relV_bool r1).mp z)
      refine wpAny_is_other ?_ hv ⟨.bl false, H, I, rfl, by simpa [h] using q⟩
      cases x <;> first | (cases r1; rfl) | (obtain ⟨t, rfl⟩ := r1; rfl) | (cases (show v = Value.bool _ from r1); rfl)
theorem op_isnotU : OpR X (compareOp .IsNot) (rCmp X.K .isnot) := by
  intro pins s σ H x y v u Q I r1 r2 ⟨fm, S, a, b, k, so, ra, rb, e, q⟩
  have e' : cmpU S .is a b = some (!k) := by
    simp only [cmpU] at e ⊢
    cases b <;> simp only [reduceCtorEq] at e ⊢
    · cases a <;> simp_all
    · cases a <;> simp_all <;> (cases k <;> simp_all)
  rcases rCmpIs ra rb e' with ⟨rfl, h0⟩ | ⟨c, rfl, h0⟩
  · have : k = !decide (x = .non) := by rw [← h0]; simp
    subst this
    exact op_notN pins s σ H _ _ v u Q I r1 r2 ⟨rfl, q⟩
  · have : k = !decide (x = .bl c) := by rw [← h0]; simp
    subst this
    cases (show u = Value.bool c from r2)
    by_cases h : x = .bl c
    · subst h
      cases (show v = Value.bool c from r1)
      exact wpAny_isNot_self rfl ⟨.bl false, H, I, rfl, by simpa using q⟩
    · have hv : v ≠ .bool c := fun z => h ((relV_bool r1).mp z)
      refine wpAny_isNot_other ?_ hv ⟨.bl true, H, I, rfl, by simpa [h] using q⟩
      cases x <;> first | (cases r1; rfl) | (obtain ⟨t, rfl⟩ := r1; rfl) | (cases (show v = Value.bool _ from r1); rfl)
end
end Ev
set_option Elab.async false
set_option linter.all false
set_option maxRecDepth 100000
set_option maxHeartbeats 2000000
/-! Ev6: built-ins by values. -/
namespace Ev
open PySem PySem.Spec PyProof.Rows L2
section
variable {X : Cx}
def rBi (K : PySem.W.Frag) (b : Bi) : List V → Hp → VK → Prop := fun xs H Q => ∃ fm S us z, StOk K fm S H ∧ Rps K fm S H us xs ∧ biU S b us = some z ∧ VRes K fm S H z Q
theorem rps1 {K : PySem.W.Frag} {fm : List Addr} {S : Sto} {H : Hp} {u : U} {xs : List V} (h : Rps K fm S H [u] xs) : ∃ x, xs = [x] ∧ Rp K fm S H u x := by
  cases h with
  | cons a b => cases b; exact ⟨_, rfl, a⟩
theorem rps2 {K : PySem.W.Frag} {fm : List Addr} {S : Sto} {H : Hp} {u v : U} {xs : List V} (h : Rps K fm S H [u, v] xs) : ∃ x y, xs = [x, y] ∧ Rp K fm S H u x ∧ Rp K fm S H v y := by
  cases h with
  | cons a b => obtain ⟨y, rfl, r⟩ := rps1 b; exact ⟨_, _, rfl, a, r⟩

theorem cr_absU : CallR X (.builtin "abs") (rBi X.K .abs) := by
  intro pins s σ H xs us Q I r ⟨fm, S, ws, z, so, rr, e, q⟩
  unfold biU at e
  split at e <;> first | contradiction | skip
  rename_i i h
  cases e
  obtain ⟨x, rfl, rx⟩ := rps1 rr
  cases rx
  exact call_abs pins s σ H _ us Q I r ⟨i, rfl, q.here so (.int _)⟩
theorem cr_intU : CallR X (.type "int") (rBi X.K .int) := by
  intro pins s σ H xs us Q I r ⟨fm, S, ws, z, so, rr, e, q⟩
  unfold biU at e
  split at e <;> first | contradiction | skip
  · rename_i i h; cases e
    obtain ⟨x, rfl, rx⟩ := rps1 rr
    cases rx
    exact call_int1 pins s σ H _ us Q I r (.inl ⟨i, rfl, q.here so (.int _)⟩)
  · rename_i i h; cases e
    obtain ⟨x, rfl, rx⟩ := rps1 rr
    cases rx
    exact call_int1 pins s σ H _ us Q I r (.inr ⟨i, rfl, q.here so (.int _)⟩)
theorem cr_lenU : CallR X (.builtin "len") (rBi X.K .len) := by
  intro pins s σ H xs us Q I r ⟨fm, S, ws, z, so, rr, e, q⟩
  unfold biU at e
  split at e <;> first | contradiction | skip
  rename_i u h
  obtain ⟨x, rfl, rx⟩ := rps1 rr
  obtain ⟨ys, e', rfl⟩ := Option.map_eq_some_iff.mp e
  obtain ⟨a, vs, rfl, hs, rv⟩ := rp_seq so rx e'
  rw [rv.length] at q
  exact call_len_seq pins s σ H _ us Q I r ⟨a, vs, rfl, hs, q.here so (.int _)⟩
theorem cr_min2U (hc : X.calm = true) : CallR X (.builtin "min") (rBi X.K .min2) := by
  intro pins s σ H xs us Q I r ⟨fm, S, ws, z, so, rr, e, q⟩
  unfold biU at e
  split at e <;> first | contradiction | skip
  rename_i i j h
  cases e
  obtain ⟨x, y, rfl, rx, ry⟩ := rps2 rr
  cases rx; cases ry
  exact call_min2 hc pins s σ H _ us Q I r ⟨i, j, rfl, q.here so (.int _)⟩
theorem cr_max2U (hc : X.calm = true) : CallR X (.builtin "max") (rBi X.K .max2) := by
  intro pins s σ H xs us Q I r ⟨fm, S, ws, z, so, rr, e, q⟩
  unfold biU at e
  split at e <;> first | contradiction | skip
  rename_i i j h
  cases e
  obtain ⟨x, y, rfl, rx, ry⟩ := rps2 rr
  cases rx; cases ry
  exact call_max2 hc pins s σ H _ us Q I r ⟨i, j, rfl, q.here so (.int _)⟩
theorem rp_seqT {K : PySem.W.Frag} {fm : List Addr} {S : Sto} {H : Hp} {u : U} {v : V} (so : StOk K fm S H) (r : Rp K fm S H u v) {us : List U} (e : seqOf S u = some us) :
    ∃ a vs, v = .ref a ∧ Rps K fm S H us vs ∧ (SqL K H a vs ∨ (SqT K H a vs ∧ Rp K fm S H (.tup us) (.ref a))) := by
  unfold seqOf at e
  split at e
  · rename_i xs h; cases e
    obtain ⟨a, vs, h1, h2, h3⟩ := rp_tup r h
    subst h1
    exact ⟨a, vs, rfl, h3, .inr ⟨h2, rp_tupU r h⟩⟩
  · rename_i xs h; cases e
    obtain ⟨a, vs, h1, h2, h3⟩ := rp_lst so r h; exact ⟨a, vs, h1, h3, .inl (SqL.of h2)⟩
  · rename_i xs h; cases e
    obtain ⟨a, vs, h1, h2, h3⟩ := rp_fz so r h; exact ⟨a, vs, h1, h3, .inl h2⟩
  · cases e
theorem cr_tupleU : CallR X (.type "tuple") (rBi X.K .tuple) := by
  intro pins s σ H xs us Q I r ⟨fm, S, ws, z, so, rr, e, q⟩
  unfold biU at e
  split at e <;> first | contradiction | skip
  rename_i u h
  obtain ⟨x, rfl, rx⟩ := rps1 rr
  obtain ⟨ys, e', rfl⟩ := Option.map_eq_some_iff.mp e
  obtain ⟨a, vs, rfl, rv, hs⟩ := rp_seqT so rx e'
  refine call_tuple_of pins s σ H _ us Q I r ⟨a, vs, rfl, ?_⟩
  rcases hs with hs | ⟨hs, ht⟩
  · exact .inl ⟨hs, q.tup so rv⟩
  · exact .inr ⟨hs, q.here so ht⟩
theorem cr_allU (hc : X.calm = true) : CallR X (.builtin "all") (rBi X.K .all) := by
  intro pins s σ H xs us Q I r ⟨fm, S, ws, z, so, rr, e, q⟩
  unfold biU at e
  split at e <;> first | contradiction | skip
  rename_i u h
  split at e <;> first | contradiction | skip
  rename_i ys h2
  obtain ⟨x, rfl, rx⟩ := rps1 rr
  obtain ⟨bs, e', rfl⟩ := Option.map_eq_some_iff.mp e
  obtain ⟨a, vs, rfl, hs, rv⟩ := rp_lst so rx h2
  rw [rv.bls e'] at hs
  exact cr_all hc pins s σ H _ us Q I r ⟨a, bs, rfl, SqL.of hs, q.here so (.bl _)⟩
theorem cr_anyU (hc : X.calm = true) : CallR X (.builtin "any") (rBi X.K .any) := by
  intro pins s σ H xs us Q I r ⟨fm, S, ws, z, so, rr, e, q⟩
  unfold biU at e
  split at e <;> first | contradiction | skip
  rename_i u h
  split at e <;> first | contradiction | skip
  rename_i ys h2
  obtain ⟨x, rfl, rx⟩ := rps1 rr
  obtain ⟨bs, e', rfl⟩ := Option.map_eq_some_iff.mp e
  obtain ⟨a, vs, rfl, hs, rv⟩ := rp_lst so rx h2
  rw [rv.bls e'] at hs
  exact cr_any hc pins s σ H _ us Q I r ⟨a, bs, rfl, SqL.of hs, q.here so (.bl _)⟩

/-! ### sum of a tuple -/
theorem sum_tupT {pins : List (Addr × Obj)} {σ : L2.St} {H : Hp} {s : Shared} {a : Addr} {ns : List Int} {Q : VK} (hc : X.calm = true) (I : Inv X pins σ H s) (h : SqT X.K H a (ns.map V.int)) (q : Q (.int ns.sum) H) :
    wpAny (model X.prog X.w) X.A (call (.builtin "sum") [.ref a]) (EP X pins σ Q) X.xe s := by
  obtain ⟨its, rv, ht, hz⟩ := I.tuple h
  have hi : IntsAre its ns := rv.ints
  have hl : s.heap.IsTuple a its.toArray := ht
  obtain ⟨xs, hx⟩ := hi.allInts.items
  have hn : numsOf its.toArray.toList = ns := by rw [show its.toArray.toList = its from rfl, hi.numsOf]
  rw [hx] at hl hn
  rw [nums_intItems] at hn
  refine PySem.W.ktm_sumG (I.ok.hd hc) hl fun h' tk t' hk => ?_
  refine ⟨.int ns.sum, H, I.kept (t' := tk) hk, ⟨t', ?_⟩, q⟩
  rw [preSum_eq, List.take_of_length_le (by simp), hn]
theorem cr_sumU (hc : X.calm = true) : CallR X (.builtin "sum") (rBi X.K .sum) := by
  intro pins s σ H xs us Q I r ⟨fm, S, ws, z, so, rr, e, q⟩
  unfold biU at e
  split at e <;> first | contradiction | skip
  rename_i u h
  split at e <;> first | contradiction | skip
  rename_i ys h2
  obtain ⟨x, rfl, rx⟩ := rps1 rr
  obtain ⟨ns, e', rfl⟩ := Option.map_eq_some_iff.mp e
  obtain ⟨a, vs, rfl, hs, rv⟩ := rp_seq so rx h2
  rw [rv.ints e'] at hs
  rcases hs with hs | hs
  · exact cr_sum hc pins s σ H _ us Q I r ⟨a, ns, rfl, hs, q.here so (.int _)⟩
  · rw [Vals.ref1 r]
    exact sum_tupT hc I hs (q.here so (.int _))
end
end Ev
set_option Elab.async false
set_option linter.all false
set_option maxRecDepth 100000
set_option maxHeartbeats 2000000
/-! Ev7: places, slices, methods by values. -/
namespace Ev
open PySem PySem.Spec PyProof.Rows L2
theorem sIx_eq (n d : Nat) (o : Option Int) : Ev.sIx n d o = HT.sIx n d o := by cases o <;> rfl
theorem ixN_eq (n : Nat) (i : Int) : Ev.ixN n i = L2.ixN n i := rfl
section
variable {X : Cx} {K : PySem.W.Frag} {fm : List Addr} {S : Sto} {H : Hp}
theorem Rps.cut {us : List U} {vs : List V} (r : Rps K fm S H us vs) (lo hi : Option Int) : Rps K fm S H (cutU us lo hi) (cutV vs lo hi) := by
  unfold cutU cutV
  rw [sIx_eq, sIx_eq, r.length]
  exact (r.drop _).take _
theorem Rps.at {us : List U} {vs : List V} {i : Int} {u : U} (r : Rps K fm S H us vs) (e : atU us i = some u) : ∃ v, atI vs i = some v ∧ Rp K fm S H u v := by
  unfold atU at e
  unfold atI
  rw [ixN_eq, r.length] at e
  cases q : L2.ixN vs.length i with
  | none => rw [q] at e; cases e
  | some j =>
    rw [q] at e
    exact r.get e

/-! ### a[b] -/
def rIxU (K : PySem.W.Frag) : R2 := fun x y H Q => ∃ fm S u us i z, StOk K fm S H ∧ Rp K fm S H u x ∧ y = .int i ∧ seqOf S u = some us ∧ atU us i = some z ∧ VRes K fm S H z Q
theorem ix_U : IxR X (rIxU X.K) := by
  intro value slice pins s σ H x y v u Q I r1 r2 h hs
  obtain ⟨fm, S, a, us, i, z, so, ra, ey, e, e2, q⟩ := h
  subst ey
  obtain ⟨p, vs, rfl, h, rv⟩ := rp_seq so ra e
  obtain ⟨w, hw, rw'⟩ := rv.at e2
  rcases h with h | h
  · exact ix_list value slice pins s σ H _ _ v u Q I r1 r2 ⟨p, vs, i, w, rfl, rfl, h, hw, q.here so rw'⟩ hs
  · exact ix_tup value slice pins s σ H _ _ v u Q I r1 r2 ⟨p, vs, i, w, rfl, rfl, h, hw, q.here so rw'⟩ hs

/-! ### a[lo:hi] -/
def rSlU (K : PySem.W.Frag) : V → Option Int → Option Int → Hp → VK → Prop := fun x lo hi H Q => ∃ fm S u z, StOk K fm S H ∧ Rp K fm S H u x ∧ slU S u lo hi = some z ∧ VRes K fm S H z Q
theorem sl_U : SlR X (rSlU X.K) := by
  intro pins s σ H x v vl vu lo hi sl Q I rx hs pl pu ⟨fm, S, a, z, so, ra, e, q⟩
  unfold slU at e
  split at e
  · rename_i us h; cases e
    obtain ⟨p, vs, rfl, ht, rv⟩ := rp_tup ra h
    refine sl_tupA pins s σ H _ v vl vu lo hi sl Q I rx hs pl pu ⟨p, vs, rfl, ht, fun hw => ?_, fun _ => q.tup so (rv.cut lo hi)⟩
    have : cutU us lo hi = us := by
      unfold cutU
      rw [sIx_eq, sIx_eq, rv.length, hw.1, hw.2, List.drop_zero, Nat.sub_zero, ← rv.length, List.take_length]
    rw [this] at q
    exact q.here so (rp_tupU ra h)
  · rename_i us h; cases e
    obtain ⟨p, vs, rfl, ht, rv⟩ := rp_lst so ra h
    exact sl_list pins s σ H _ v vl vu lo hi sl Q I rx hs pl pu ⟨p, vs, rfl, SqL.of ht, q.lst so (rv.cut lo hi)⟩
  · rename_i us h; cases e
    obtain ⟨p, vs, rfl, ht, rv⟩ := rp_fz so ra h
    exact sl_list pins s σ H _ v vl vu lo hi sl Q I rx hs pl pu ⟨p, vs, rfl, ht, q.lst so (rv.cut lo hi)⟩
  · cases e

/-! ### a[::-1] -/
def tRevU (K : PySem.W.Frag) (te : TE) : TE := fun σ H Q => te σ H fun x H1 => ∃ fm S u z, StOk K fm S H1 ∧ Rp K fm S H1 u x ∧ revU S u = some z ∧ VRes K fm S H1 z Q
theorem adjust_rev (n : Nat) : Builtin.Slice.sliceAdjust none none (-1) (n : Int) = ((n : Int) - 1, -1) := by
  unfold Builtin.Slice.sliceAdjust
  simp
theorem places_rev (n : Nat) : Builtin.Slice.slicePlaces ((n : Int) - 1) (-1) (-1) = n := by
  unfold Builtin.Slice.slicePlaces
  simp
  omega
theorem pick_rev (xs : Array Value) : ((List.range xs.size).filterMap fun (m : Nat) => xs[(((xs.size : Int) - 1) + (m : Int) * (-1)).toNat]?).toArray = xs.toList.reverse.toArray := by
  have key : ∀ (l : List Value) (k : Nat), k ≤ l.length → ((List.range k).filterMap fun (m : Nat) => l[l.length - 1 - m]?) = (l.drop (l.length - k)).reverse := by
    intro l k
    induction k with
    | zero => intro _; simp
    | succ k ih =>
      intro hk
      rw [List.range_succ, List.filterMap_append, ih (by omega)]
      have e1 : l[l.length - 1 - k]? = some (l[l.length - (k + 1)]'(by omega)) := by
        rw [List.getElem?_eq_getElem (by omega)]
        congr 1
        congr 1
        omega
      have e2 : l.drop (l.length - (k + 1)) = (l[l.length - (k + 1)]'(by omega)) :: l.drop (l.length - k) := by
        rw [List.drop_eq_getElem_cons (by omega)]
        congr 2
        omega
      rw [e2, List.reverse_cons, List.filterMap_cons, List.filterMap_nil, e1]
  have := key xs.toList xs.size (by simp)
  rw [show xs.toList.length = xs.size by simp, Nat.sub_self, List.drop_zero] at this
  rw [← this]
  congr 1
  congr 1
  funext m
  have e : (((xs.size : Int) - 1) + (m : Int) * (-1)).toNat = xs.size - 1 - m := by omega
  rw [e]
  simp
theorem getItem_tuple_rev {prog : Program} {w : World} {A : Around} {E : Value → Shared → Prop} {s : Shared} {t sl : Addr} {items : Array Value} {vl vu vs : Value} {Q : Value → Shared → Prop} (ht : IsTup s.heap t items) (hs : s.heap.IsSliceOf sl vl vu vs) (pl : IsPart vl none) (pu : IsPart vu none) (ps : IsPart vs (some (-1)))
    (h : Q (.ref s.heap.objs.size) { s with heap := s.heap.push { cls := .type "tuple", data := .seq items.toList.reverse.toArray } })
    (hsz : items.size ≤ sizeLine) : wpAny (model prog w) A (getItem (.ref t) (.ref sl)) Q E s := by
  have htake : sizeOk (.seq items.toList.reverse.toArray) := by
    show (items.toList.reverse.toArray).size ≤ sizeLine
    rw [List.size_toArray, List.length_reverse, Array.length_toList]
    exact hsz
  obtain ⟨os, hos, hcs, hds⟩ := id hs
  have hTs : s.TypeIs (.ref sl) "slice" := ⟨os, hos, hcs⟩
  unfold getItem
  try with_reducible refine wpAny_holding ?_
  first | refine wpAny_bind (wpAny_pure ?_) | skip
  refine wpAny_bind (wpAny_sequenceKey ht.typeIs (by decide) ?_)
  refine wpAny_bind (wpAny_callSpecial?_slot (name := Str.ofString "__getitem__") ht.typeIs PyProof.Rows.slot_tuple_getitem
    (wpAny_call_entry PyProof.Rows.slot_tuple_getitem ht.typeIs entry_tuple_getitem ?_ (args_tuple_getitem _ _)))
  show wpAny _ _ (Builtin.Tuple.tupleItemsOf (.ref t) >>= _) _ _ s
  refine wpAny_bind (tupleItemsOf_ ht ?_)
  refine wpAny_bind (wpAny_typeOf hTs ?_)
  rw [if_pos (by decide)]
  unfold Builtin.Slice.sliceApplied Builtin.Slice.sliceFields
  refine wpAny_bind (wpAny_bind (wpAny_bind (wpAny_field hos hds (x := vl) rfl (wpAny_bind (wpAny_field hos hds (x := vu) rfl (wpAny_bind (wpAny_field hos hds (x := vs) rfl (wpAny_pure ?_))))))))
  refine wpAny_bind (HT.slicePart_ ps ?_)
  show wpAny _ _ (if ((-1 : Int) == 0) = true then _ else _) _ _ s
  rw [if_neg (by decide)]
  refine wpAny_bind (HT.slicePart_ pl (wpAny_bind (HT.slicePart_ pu (wpAny_bind (wpAny_pure ?_)))))
  show wpAny _ _ (match Builtin.Slice.sliceAdjust none none (-1) (items.size : Int) with | (lo, hi) => pure (lo, (-1 : Int), Builtin.Slice.slicePlaces lo hi (-1))) _ _ s
  rw [adjust_rev]
  show wpAny _ _ (pure ((items.size : Int) - 1, (-1 : Int), Builtin.Slice.slicePlaces ((items.size : Int) - 1) (-1) (-1))) _ _ s
  rw [places_rev]
  refine wpAny_pure ?_
  have hno : ¬ ((((items.size : Int) - 1 : Int) == 0 && (-1 : Int) == 1 && items.size == items.size) = true) := by
    simp
  show wpAny _ _ (if (((items.size : Int) - 1 : Int) == 0 && (-1 : Int) == 1 && items.size == items.size) = true then _ else _) _ _ s
  rw [if_neg hno, pick_rev]
  first
    | exact wpAny_bind (m := Builtin.Tuple.tupleExact _) (wpAny_newObj_type (wpAny_pure ⟨_, rfl, wpAny_pure h⟩) htake)
    | exact wpAny_bind (m := Builtin.Tuple.tupleExact _) (wpAny_newObj_type (wpAny_bind (wpAny_pure (wpAny_pure ⟨_, rfl, wpAny_pure h⟩))) htake)
    | exact wpAny_bind (wpAny_bind (m := Builtin.Tuple.tupleExact _) (wpAny_newObj_type (wpAny_pure (wpAny_pure ⟨_, rfl, wpAny_pure h⟩)) htake))
    | exact wpAny_bind (wpAny_bind (m := Builtin.Tuple.tupleExact _) (wpAny_newObj_type (wpAny_pure ⟨_, rfl, wpAny_pure h⟩) htake))
theorem pe_revU {e : Expr} {te : TE} {k : Nat} {p1 p2 p3 pos : Pos} (he : PE X e te) : PE X (.Subscript e (.Slice none none (some (.UnaryOp .USub (.Constant (.int 1) k p1) p2)) p3) pos) (tRevU X.K te) := by
  refine ⟨fun pins s σ H Q I h => ?_⟩
  refine Subscript_ (thn (he.run pins s σ H _ I h) fun v s1 ⟨x, H1, I1, r1, q1⟩ => ?_)
  obtain ⟨fm, S, u, z, so, ru, e, q⟩ := q1
  have hst : PO X (some (.UnaryOp .USub (.Constant (.int 1) k p1) p2)) (tPart (tUn (rU fun i => .int (-i)) (tC (.int 1)))) := po_some (pe_un un_neg pe_int)
  refine wpAny_Slice (thn (po_none.run pins s1 σ H1 (fun o H2 => o = none ∧ H2 = H1) I1 ⟨rfl, rfl⟩) fun vl s2 ⟨l, H2, I2, pl, el, e2⟩ => ?_)
  subst el e2
  refine thn (po_none.run pins s2 σ H2 (fun o H3 => o = none ∧ H3 = H2) I2 ⟨rfl, rfl⟩) fun vu s3 ⟨u', H3, I3, pu, eu, e3⟩ => ?_
  subst eu e3
  refine thn (hst.run pins s3 σ H3 (fun o H4 => o = some (-1) ∧ H4 = H3) I3 ⟨1, rfl, -1, rfl, rfl, rfl⟩) fun vs s4 ⟨o, H4, I4, ps, eo, e4⟩ => ?_
  subst eo e4
  have I5 : Inv X pins σ H4 { s4 with heap := s4.heap.push { cls := .type "slice", data := .fields #[vl, vu, vs] } } := I4.kept (t' := s4.toks) fun b ob q => Heap.get?_push_of_some _ q
  show wpAny (model X.prog X.w) X.A (subscriptTail _ (.Slice none none (some (.UnaryOp .USub (.Constant (.int 1) k p1) p2)) p3) v (.ref s4.heap.objs.size)) (EP X pins σ Q) X.xe { s4 with heap := s4.heap.push { cls := .type "slice", data := .fields #[vl, vu, vs] } }
  unfold revU at e
  split at e
  · rename_i us h; cases e
    obtain ⟨a, xs, rfl, hx, rv⟩ := rp_tup ru h
    cases r1
    obtain ⟨its, r, ht, hz⟩ := I5.tuple hx
    have hlen := r.length
    refine tail_any (ops := [.ref a, .ref s4.heap.objs.size]) ht.typeIs (PyProof.Rows.slot_tuple_getitem.lookup) ?_ (by with_unfolding_all rfl)
    refine getItem_tuple_rev ht (Heap.IsSliceOf.new _ vl vu vs) pl pu ps ?_ (by rw [List.size_toArray]; omega)
    refine ⟨.ref _, _, I5.laid (t' := s4.toks) (o := .tup xs.reverse) (fun b ob q => Heap.get?_push_of_some _ q) (Nat.le_refl _) ?_, rfl, q.tup so rv.reverse _ (I5.hok.fresh (Nat.le_refl _))⟩
    exact ⟨by rw [List.length_reverse]; exact hz, _, r.reverse, IsTup.new _ _⟩
  · rename_i us h; cases e
    obtain ⟨a, xs, rfl, hx, rv⟩ := rp_lst so ru h
    cases r1
    obtain ⟨its, r, ht, hz⟩ := I5.list (SqL.of hx)
    have hlen := r.length
    refine tail_any (ops := [.ref a, .ref s4.heap.objs.size]) ht.isList.typeIs (PySem.slot_list_getitem.lookup) ?_ (by with_unfolding_all rfl)
    refine wpAny_getItem_list_slice ht.isList (Heap.IsSliceOf.new _ vl vu vs) pl pu ps (by decide) ?_ (by rw [List.size_toArray]; omega)
    rw [PySem.W.krv_pick]
    refine ⟨.ref _, _, I5.laid (t' := s4.toks) (o := .lst xs.reverse) (fun b ob q => Heap.get?_push_of_some _ q) (Nat.le_refl _) ?_, rfl, q.lst so rv.reverse _ (I5.hok.fresh (Nat.le_refl _))⟩
    exact ⟨by rw [List.length_reverse]; exact hz, _, 0, r.reverse, Heap.get?_push_size _ rfl⟩
  · cases e

/-! ### methods of lists -/
def rMt (K : PySem.W.Frag) (m : Mt) : V → List V → Hp → VK → Prop := fun x xs H Q => ∃ fm S u us z S', StOk K fm S H ∧ Rp K fm S H u x ∧ Rps K fm S H us xs ∧ mthU S m u us = some (z, S') ∧
  ∀ fm' H' v, Stp fm S H fm' S' H' → StOk K fm' S' H' → Rp K fm' S' H' z v → Q v H'
theorem mthU_lst {S : Sto} {m : Mt} {u : U} {us : List U} {r : U × Sto} (e : mthU S m u us = some r) : ∃ n xs, u = .ref n ∧ S[n]? = some (.liv (.lst xs)) := by
  unfold mthU at e
  split at e
  · split at e
    · rename_i n _ xs h; exact ⟨n, xs, rfl, h⟩
    · cases e
  · cases e
/-- the list at n behind a method -/
theorem mt_wr {fm : List Addr} {S : Sto} {H : Hp} {n : Nat} {a : Addr} {us us' : List U} {vs' : List V} {z : U} {w : V} {Q : VK} (so : StOk K fm S H) (hf : fm[n]? = some a) (hs : S[n]? = some (.liv (.lst us)))
    (q : ∀ fm' H' v, Stp fm S H fm' (S.set n (.liv (.lst us'))) H' → StOk K fm' (S.set n (.liv (.lst us'))) H' → Rp K fm' (S.set n (.liv (.lst us'))) H' z v → Q v H') (r : Rps K fm S H us' vs') (rz : Rp K fm S H z w) :
    Q w (upd H a (.lst vs')) := by
  have st := stp_set (o' := .lst us') (ho := .lst vs') so hf hs
  exact q fm _ w st (ok_set so hf hs r) (rz.mono st.toGr)
theorem mt_appU : MtM X "list.append" (rMt X.K .append) := by
  intro pins s σ H x xs v us Q I rx rxs ⟨fm, S, a, ws, z, S', so, ra, rr, e, q⟩
  obtain ⟨n, ls, rfl, hs⟩ := mthU_lst e
  simp only [mthU, hs] at e
  split at e <;> first | contradiction | skip
  rename_i u _
  split at e
  · rename_i hl; cases e
    obtain ⟨y, rfl, ry⟩ := rps1 rr
    cases ra with
    | ref hf =>
      obtain ⟨vs, h1, rv⟩ := so.obj _ _ _ hf hs
      exact mt_append pins s σ H _ _ v us Q I rx rxs ⟨_, vs, y, rfl, rfl, h1, by rw [← rv.length, ← lim_eq]; exact hl, mt_wr so hf hs q (rv.append (.cons ry .nil)) .non⟩
  · cases e
theorem mt_extU : MtM X "list.extend" (rMt X.K .extend) := by
  intro pins s σ H x xs v us Q I rx rxs ⟨fm, S, a, ws, z, S', so, ra, rr, e, q⟩
  obtain ⟨n, ls, rfl, hs⟩ := mthU_lst e
  simp only [mthU, hs] at e
  split at e <;> first | contradiction | skip
  rename_i u _
  split at e <;> first | contradiction | skip
  rename_i ys h2
  split at e
  · rename_i hl; cases e
    obtain ⟨y, rfl, ry⟩ := rps1 rr
    obtain ⟨b, vs2, rfl, h3, rv2⟩ := rp_lst so ry h2
    cases ra with
    | ref hf =>
      obtain ⟨vs, h1, rv⟩ := so.obj _ _ _ hf hs
      exact mt_extend pins s σ H _ _ v us Q I rx rxs ⟨_, b, vs, vs2, rfl, rfl, h1, h3, by rw [← rv.length, ← rv2.length, ← lim_eq]; exact hl, mt_wr so hf hs q (rv.append rv2) .non⟩
  · cases e
theorem getLast_get {α : Type} {l : List α} {y : α} (h : l.getLast? = some y) : l[l.length - 1]? = some y := by rw [← h, List.getLast?_eq_getElem?]
theorem mt_pop0U : MtM X "list.pop" (rMt X.K .pop0) := by
  intro pins s σ H x xs v us Q I rx rxs ⟨fm, S, a, ws, z, S', so, ra, rr, e, q⟩
  obtain ⟨n, ls, rfl, hs⟩ := mthU_lst e
  simp only [mthU, hs] at e
  split at e <;> first | contradiction | skip
  split at e <;> first | contradiction | skip
  rename_i y hy
  cases e
  cases rr
  cases ra with
  | ref hf =>
    obtain ⟨vs, h1, rv⟩ := so.obj _ _ _ hf hs
    obtain ⟨w, hw, rw'⟩ := rv.get (getLast_get hy)
    rw [rv.length] at hw
    exact mt_pop pins s σ H _ _ v us Q I rx rxs ⟨_, vs, w, rfl, rfl, h1, hw, mt_wr so hf hs q rv.dropLast rw'⟩
theorem mt_pop1U : MtM X "list.pop" (rMt X.K .pop1) := by
  intro pins s σ H x xs v us Q I rx rxs ⟨fm, S, a, ws, z, S', so, ra, rr, e, q⟩
  obtain ⟨n, ls, rfl, hs⟩ := mthU_lst e
  simp only [mthU, hs] at e
  split at e <;> first | contradiction | skip
  rename_i i _
  split at e <;> first | contradiction | skip
  rename_i hsm
  split at e <;> first | contradiction | skip
  rename_i k hk
  split at e <;> first | contradiction | skip
  rename_i y hy
  cases e
  obtain ⟨w, rfl, ry⟩ := rps1 rr
  cases ry
  cases ra with
  | ref hf =>
    obtain ⟨vs, h1, rv⟩ := so.obj _ _ _ hf hs
    obtain ⟨w, hw, rw'⟩ := rv.get hy
    rw [ixN_eq, rv.length] at hk
    have hsm' : -(2 ^ 62) ≤ i ∧ i < 2 ^ 62 := by
      unfold small at hsm
      simpa only [Bool.and_eq_true, decide_eq_true_eq] using hsm
    exact mt_popAt pins s σ H _ _ v us Q I rx rxs ⟨_, vs, i, k, w, rfl, rfl, h1, by omega, by omega, (ixN_seq hk).1, hw, mt_wr so hf hs q (rv.eraseIdx k) rw'⟩
theorem mt_indexU (hu : X.A.units + 72 < cLine) : MtM X "list.index" (rMt X.K .index) := by
  intro pins s σ H x xs v us Q I rx rxs ⟨fm, S, a, ws, z, S', so, ra, rr, e, q⟩
  obtain ⟨n, ls, rfl, hs⟩ := mthU_lst e
  simp only [mthU, hs] at e
  split at e <;> first | contradiction | skip
  rename_i u _
  split at e <;> first | contradiction | skip
  rename_i hk
  split at e <;> first | contradiction | skip
  rename_i j hj
  cases e
  obtain ⟨y, rfl, ry⟩ := rps1 rr
  have hrd : rd S (.ref n) = .lst ls := by simp [rd, hs]
  obtain ⟨d1, d2⟩ := in_dp so ra hrd hk.1
  have hls := okDs_mem (k := 19) (by simpa [okD] using hk.1)
  rw [List.findIdx?_eq_some_iff_getElem] at hj
  obtain ⟨hlt, hp, hn⟩ := hj
  have dq := eqv_toD 20 _ _ (okD_up 19 _ (hls _ (List.getElem_mem hlt))) hk.2
  cases ra with
  | ref hf =>
    exact mt_indexD (by omega) pins s σ H _ _ v us Q I rx rxs ⟨_, y, toD (rd S u), toDs ls, j, toD ls[j], rfl, rfl, d1, dp_rd so ry hk.2, d2, shaped_of hk.2, by rw [toDs_map, List.getElem?_map, List.getElem?_eq_getElem hlt]; rfl, by rw [dq]; exact hp, fun m z' hm hz => by
      rw [toDs_map, List.getElem?_map, List.getElem?_eq_getElem (by omega)] at hz
      cases hz
      rw [eqv_toD 20 _ _ (okD_up 19 _ (hls _ (List.getElem_mem (by omega)))) hk.2]
      simpa using hn m hm, q fm H (.int j) Stp.refl so (.int _)⟩
/-! ### list(..), sorted(..): new lists -/
/-- a new list has come -/
def QRes (K : PySem.W.Frag) (fm : List Addr) (S : Sto) (H : Hp) (us : List U) (Q : VK) : Prop :=
  ∀ (fm' : List Addr) (H' : Hp) (vs : List V) (p : Addr), Stp fm S H fm' S H' → StOk K fm' S H' → Rps K fm' S H' us vs → H' p = none → Q (.ref p) (upd H' p (.lst vs))
def rLof (K : PySem.W.Frag) : List V → Hp → VK → Prop := fun xs H Q => ∃ fm S u us, StOk K fm S H ∧ Rps K fm S H [u] xs ∧ seqOf S u = some us ∧ QRes K fm S H us Q
theorem cr_lofU : CallR X (.type "list") (rLof X.K) := by
  intro pins s σ H xs us Q I r ⟨fm, S, u, ws, so, rr, e, q⟩
  obtain ⟨x, rfl, rx⟩ := rps1 rr
  obtain ⟨a, vs, rfl, hs, rv⟩ := rp_seq so rx e
  exact call_list_of pins s σ H _ us Q I r ⟨a, vs, rfl, hs, fun l hl => q fm H vs l .refl so rv hl⟩
end

/-! ### dicts -/
section
variable {X : Cx} {K : PySem.W.Frag} {fm : List Addr} {S : Sto} {H : Hp}
theorem RK.length : ∀ {us : List (Int × U)} {vs : List (Key × V)}, RK K fm S H us vs → us.length = vs.length
  | _, _, .nil => rfl
  | _, _, .cons _ t => congrArg (· + 1) t.length
theorem RK.keys : ∀ {us : List (Int × U)} {vs : List (Key × V)} {i : Nat} {k : Key} {v : V}, RK K fm S H us vs → vs[i]? = some (k, v) → ∃ j u, us[i]? = some (j, u) ∧ k = .inl j
  | _, _, _, _, _, .nil, e => by simp at e
  | _, _, 0, _, _, .cons _ _, e => by simp at e; obtain ⟨rfl, rfl⟩ := e; exact ⟨_, _, rfl, rfl⟩
  | _, _, i + 1, _, _, .cons _ t, e => by
    obtain ⟨j, u, e1, e2⟩ := RK.keys (i := i) t (by simpa using e)
    exact ⟨j, u, by simpa using e1, e2⟩
theorem inl_dec (a b : Int) : decide ((Sum.inl a : Key) = .inl b) = decide (a = b) := by
  by_cases h : a = b
  · subst h; simp
  · rw [decide_eq_false h, decide_eq_false (fun z => h (Sum.inl.inj z))]
theorem RK.val {k : Int} : ∀ {us : List (Int × U)} {vs : List (Key × V)}, RK K fm S H us vs → (∃ u v, dvalU us k = some u ∧ valV vs (.inl k) = some v ∧ Rp K fm S H u v) ∨ (dvalU us k = none ∧ valV vs (.inl k) = none)
  | _, _, .nil => .inr ⟨rfl, rfl⟩
  | _, _, .cons (k := j) (u := u) (v := v) h t => by
    by_cases e : j = k
    · exact .inl ⟨u, v, by simp [dvalU, e], valV_pos (by rw [e]), h⟩
    · have ne : ¬ (Sum.inl j : Key) = .inl k := fun z => e (Sum.inl.inj z)
      have e1 : ∀ r : List (Int × U), dvalU ((j, u) :: r) k = dvalU r k := fun r => by simp [dvalU, List.find?_cons, e]
      rcases RK.val (k := k) t with ⟨u', v', h1, h2, h3⟩ | ⟨h1, h2⟩
      · exact .inl ⟨u', v', by rw [e1]; exact h1, by rw [valV_neg ne]; exact h2, h3⟩
      · exact .inr ⟨by rw [e1]; exact h1, by rw [valV_neg ne]; exact h2⟩
theorem RK.any {k : Int} : ∀ {us : List (Int × U)} {vs : List (Key × V)}, RK K fm S H us vs → (us.any fun kv => decide (kv.1 = k)) = (vs.any fun kv => decide (kv.1 = .inl k))
  | _, _, .nil => rfl
  | _, _, .cons (k := j) _ t => by
    rw [List.any_cons, List.any_cons, t.any]
    show (decide (j = k) || _) = (decide ((Sum.inl j : Key) = .inl k) || _)
    rw [inl_dec]
theorem RK.repl {k : Int} {u : U} {v : V} (r : Rp K fm S H u v) : ∀ {us : List (Int × U)} {vs : List (Key × V)}, RK K fm S H us vs → RK K fm S H (us.map fun kv => if kv.1 = k then (kv.1, u) else kv) (vs.map fun kv => if kv.1 = .inl k then (kv.1, v) else kv)
  | _, _, .nil => .nil
  | _, _, .cons (k := j) (u := u') (v := v') h t => by
    rw [List.map_cons, List.map_cons]
    by_cases e : j = k
    · have e2 : (Sum.inl j : Key) = .inl k := by rw [e]
      simp only [e, if_true]
      exact .cons r (RK.repl r t)
    · have e2 : ¬ (Sum.inl j : Key) = .inl k := fun z => e (Sum.inl.inj z)
      simp only [e, e2, if_false]
      exact .cons h (RK.repl r t)
theorem RK.app {us us' : List (Int × U)} {vs vs' : List (Key × V)} (h : RK K fm S H us vs) (h' : RK K fm S H us' vs') : RK K fm S H (us ++ us') (vs ++ vs') := by
  induction h with
  | nil => exact h'
  | cons a _ ih => exact .cons a ih
theorem RK.put {k : Int} {u : U} {v : V} {us : List (Int × U)} {vs : List (Key × V)} (h : RK K fm S H us vs) (r : Rp K fm S H u v) : RK K fm S H (dputU us k u) (putK vs (.inl k) v) := by
  unfold dputU putK
  rw [h.any]
  split
  · exact h.repl r
  · exact h.app (.cons r .nil)
/-- the dict that a value is -/
theorem rp_dct (so : StOk K fm S H) {u : U} {v : V} (r : Rp K fm S H u v) {kvs : List (Int × U)} (e : dctOf S u = some kvs) : ∃ a vs, v = .ref a ∧ Rd H a (.dK vs) ∧ RK K fm S H kvs vs := by
  cases r with
  | ref hf =>
    rename_i a n
    dsimp only [dctOf] at e
    split at e
    · rename_i hs; cases e
      obtain ⟨vs, h1, h2⟩ := so.obj _ _ _ hf hs
      exact ⟨a, vs, rfl, .inl h1, h2⟩
    · rename_i hs; cases e
      obtain ⟨o, vs, h1, h2⟩ := so.obj _ _ _ hf hs
      exact ⟨a, vs, rfl, .inr ⟨o, h1⟩, h2⟩
    · cases e
  | _ => cases e
def rIxDU (K : PySem.W.Frag) : R2 := fun x y H Q => ∃ fm S u kvs i z, StOk K fm S H ∧ Rp K fm S H u x ∧ y = .int i ∧ dctOf S u = some kvs ∧ dvalU kvs i = some z ∧ VRes K fm S H z Q
theorem ix_DU (hu : X.A.units + 72 < cLine) : IxR X (rIxDU X.K) := by
  intro value slice pins s σ H x y v u Q I r1 r2 h hs
  obtain ⟨fm, S, a, kvs, i, z, so, ra, ey, e, e2, q⟩ := h
  subst ey
  obtain ⟨p, vs, rfl, hd, rk⟩ := rp_dct so ra e
  rcases rk.val (k := i) with ⟨u', v', h1, h2, h3⟩ | ⟨h1, _⟩
  · rw [e2] at h1; cases h1
    have g : DGet H p (.int i) (some v') := .inl ⟨vs, .inl i, hd, rfl, h2.symm⟩
    obtain rfl : v = Value.ref p := r1
    exact tail_any (dict_typeIs I g) PySem.F.slot_dict_getitem.lookup (d_getItem (Nat.lt_of_le_of_lt (Nat.add_le_add_left (by decide : 1 ≤ 72) _) hu) I g r2 fun w' s' I' rw' => ⟨v', H, I', rw', q.here so h3⟩) hs
  · rw [e2] at h1; cases h1
end
end Ev
set_option Elab.async false
set_option linter.all false
set_option maxRecDepth 100000
set_option maxHeartbeats 2000000
/-! Ev8: sorted. -/
namespace Ev
open PySem PySem.Spec PyProof.Rows L2
/-! ### srtI is the ascending arrangement -/
theorem insI_perm (x : Int) : ∀ l : List Int, (insI x l).Perm (x :: l)
  | [] => .refl _
  | y :: ys => by
    unfold insI
    split
    · exact .refl _
    · exact ((insI_perm x ys).cons y).trans (.swap x y ys)
theorem srtI_perm : ∀ l : List Int, (srtI l).Perm l
  | [] => .refl _
  | x :: xs => by
    show (insI x (srtI xs)).Perm (x :: xs)
    exact (insI_perm x _).trans ((srtI_perm xs).cons x)
theorem insI_mem {x z : Int} {l : List Int} (h : z ∈ insI x l) : z = x ∨ z ∈ l := by
  have := (insI_perm x l).mem_iff.mp h
  simpa using this
theorem insI_pw (x : Int) : ∀ l : List Int, l.Pairwise (· ≤ ·) → (insI x l).Pairwise (· ≤ ·)
  | [], _ => by simp [insI]
  | y :: ys, h => by
    unfold insI
    split
    · rename_i hxy
      refine List.Pairwise.cons (fun z hz => ?_) h
      rcases List.mem_cons.mp hz with rfl | hz
      · exact hxy
      · exact Int.le_trans hxy (List.rel_of_pairwise_cons h hz)
    · rename_i hxy
      refine List.Pairwise.cons (fun z hz => ?_) (insI_pw x ys (List.Pairwise.of_cons h))
      rcases insI_mem hz with rfl | hz
      · omega
      · exact List.rel_of_pairwise_cons h hz
theorem srtI_pw : ∀ l : List Int, (srtI l).Pairwise (· ≤ ·)
  | [] => .nil
  | x :: xs => insI_pw x _ (srtI_pw xs)
theorem pw_unique : ∀ (a b : List Int), a.Perm b → a.Pairwise (· ≤ ·) → b.Pairwise (· ≤ ·) → a = b
  | [], b, p, _, _ => (List.nil_perm.mp p).symm
  | x :: xs, [], p, _, _ => by simp at p
  | x :: xs, y :: ys, p, h1, h2 => by
    have hx : x ∈ y :: ys := p.mem_iff.mp List.mem_cons_self
    have hy : y ∈ x :: xs := p.mem_iff.mpr List.mem_cons_self
    have e : x = y := by
      have a1 : y ≤ x := by
        rcases List.mem_cons.mp hx with e | hx
        · omega
        · exact List.rel_of_pairwise_cons h2 hx
      have a2 : x ≤ y := by
        rcases List.mem_cons.mp hy with e | hy
        · omega
        · exact List.rel_of_pairwise_cons h1 hy
      omega
    subst e
    rw [pw_unique xs ys (List.Perm.cons_inv p) (List.Pairwise.of_cons h1) (List.Pairwise.of_cons h2)]
theorem srtI_of {a l : List Int} (p : a.Perm l) (h : a.Pairwise (· ≤ ·)) : a = srtI l := pw_unique _ _ (p.trans (srtI_perm l).symm) h (srtI_pw l)

section
variable {prog : Program} {w : World} {A : Around} {E : Value → Shared → Prop} {s : Shared}
theorem collect_tupleE {l : Addr} {vs : List Value} {Q : List Value → Shared → Prop} (hl : IsTup s.heap l vs.toArray)
    (h : Q vs { s with heap := (s.heap.push (seqObj "list" #[] 0)).update s.heap.objs.size (Obj.mapSeq (· ++ vs.toArray)) }) (hsz : vs.length ≤ sizeLine) :
    wpAny (model prog w) A (collect (.ref l)) Q E s := by
  obtain ⟨o, ho, hc, n, hd⟩ := id hl
  unfold collect
  refine wpAny_bind (wpAny_runValue (codeAny_builtin entry_proto_collect' ?_))
  show wpAny _ _ (do again (.builtin "list.__iadd__" ⟨[← newList [], .ref l], []⟩)) _ _ s
  refine wpAny_bind (wpAny_newList (wpAny_pure ⟨Code.quiet_builtin _ (by decide +kernel), codeAny_builtin entry_list_iadd' ?_⟩))
  show wpAny _ _ (Builtin.List.listExtendWith (.ref s.heap.objs.size) (.ref l) (.ref s.heap.objs.size)) _ _ { s with heap := s.heap.push (seqObj "list" #[] 0) }
  unfold Builtin.List.listExtendWith
  have ho' : (s.heap.push (seqObj "list" #[] 0)).get? l = some o := Heap.get?_push_of_some _ ho
  refine wpAny_bind (wpAny_typeOf (T := "tuple") ⟨o, ho', hc⟩ ?_)
  have htt : (Value.type "tuple" == Value.type "tuple") = true := by rfl
  rw [if_pos (by rw [htt]; simp)]
  refine wpAny_bind (listItems_at ho' hd ?_)
  refine wpAny_bind (listItems_at (xs := #[]) (n := 0) (Heap.get?_push_size _ rfl) rfl ?_)
  rw [if_neg (by simp)]
  refine wpAny_bind (listUpdate_at (xs := #[]) (n := 0) (Heap.get?_push_size _ rfl) rfl ?_ (Nat.zero_le _) (by show (#[] ++ vs.toArray).size ≤ sizeLine + 1; simp only [Array.size_append, List.size_toArray, List.length_nil]; omega))
  refine wpAny_pure ?_
  show wpAny (model prog w) A (do
      let o ← load s.heap.objs.size
      match o.data with
      | .seq xs _ => pure xs.toList
      | _ => unsupported "internal:collect") Q E { s with heap := (s.heap.push (seqObj "list" #[] 0)).update s.heap.objs.size (Obj.mapSeq (· ++ vs.toArray)) }
  refine wpAny_bind (wpAny_load (get?_update_seq (Heap.get?_push_size _ rfl) _) ?_)
  show wpAny _ _ (pure ((#[] : Array Value) ++ vs.toArray).toList) Q E _
  rw [show ((#[] : Array Value) ++ vs.toArray).toList = vs by simp]
  exact wpAny_pure h
theorem sorted_ordT {l : Addr} {vs : List Value} {ltv : Value → Value → Bool} {Q : Value → Shared → Prop} (O : SrtO.Swo ltv) (hl : IsTup s.heap l vs.toArray) (hz : vs.length ≤ sizeLine)
    (hS : 2 ≤ vs.length → ∀ (h₁ : Heap) (a : Addr), h₁.get? a = some (seqObj "list" vs.toArray 0) → (∀ b o, s.heap.get? b = some o → b ≠ a ∧ h₁.get? b = some o) → SrtO.SortableO prog w A.in1.in1 { s with heap := h₁ } a vs ltv)
    (h : ∀ out : List Value, SrtO.Srtd ltv out → SrtO.Stb ltv out vs → Q (.ref (s.heap.objs.size + 1)) { s with heap := sortedAll s.heap vs out.toArray }) :
    wpAny (model prog w) A (call (.builtin "sorted") [.ref l]) Q E s := by
  refine Calls.call_function_entry kind_sorted plain_sorted entry_sorted (args_sorted1 _) ?_
  unfold Builtin.«sorted»
  refine wpAny_bind (m := checkCount "sorted" 1 1 _) (wpAny_pure ?_)
  refine wpAny_bind (collect_tupleE hl ?_ hz)
  refine wpAny_bind (wpAny_newList ?_ hz)
  have hsz : ((s.heap.push (seqObj "list" #[] 0)).update s.heap.objs.size (Obj.mapSeq (· ++ vs.toArray))).objs.size = s.heap.objs.size + 1 := by
    rw [Heap.size_update, size_push']
  have hoL : (((s.heap.push (seqObj "list" #[] 0)).update s.heap.objs.size (Obj.mapSeq (· ++ vs.toArray))).push (seqObj "list" vs.toArray 0)).get? (s.heap.objs.size + 1) = some (seqObj "list" vs.toArray 0) := by
    rw [← hsz]; exact Heap.get?_push_size _ rfl
  have keep : ∀ b o, s.heap.get? b = some o → b ≠ s.heap.objs.size + 1 ∧ (((s.heap.push (seqObj "list" #[] 0)).update s.heap.objs.size (Obj.mapSeq (· ++ vs.toArray))).push (seqObj "list" vs.toArray 0)).get? b = some o := fun b o q => by
    have hlt : b < s.heap.objs.size := Heap.lt_size q
    refine ⟨Nat.ne_of_lt (Nat.lt_succ_of_lt hlt), Heap.get?_push_of_some _ ?_⟩
    rw [Heap.get?_update_ne _ _ _ _ (Nat.ne_of_lt hlt)]
    exact Heap.get?_push_of_some _ q
  show wpAny _ _ _ _ _ { s with heap := ((s.heap.push (seqObj "list" #[] 0)).update s.heap.objs.size (Obj.mapSeq (· ++ vs.toArray))).push (seqObj "list" vs.toArray 0) }
  rw [hsz]
  refine wpAny_bind (wpAny_holding (wpAny_call_entry slot_list_sort ⟨_, hoL, rfl⟩ entry_list_sort (SrtO.list_sort_ord O hoL hz (fun h2 => hS h2 _ _ hoL keep) fun out hs hb => ⟨_, rfl, ?_⟩) (args_list_sort _)))
  exact wpAny_pure ⟨_, rfl, h out hs hb⟩
end
/-! ### tuples of ints -/
theorem insT_perm (x : List Int) : ∀ l : List (List Int), (insT x l).Perm (x :: l)
  | [] => .refl _
  | y :: ys => by
    unfold insT
    split
    · exact ((insT_perm x ys).cons y).trans (.swap x y ys)
    · exact .refl _
theorem srtT_perm : ∀ l : List (List Int), (srtT l).Perm l
  | [] => .refl _
  | x :: xs => by
    show (insT x (srtT xs)).Perm (x :: xs)
    exact (insT_perm x _).trans ((srtT_perm xs).cons x)
abbrev PwT (l : List (List Int)) : Prop := l.Pairwise fun x y => HT.lexLt y x = false
theorem insT_pw (x : List Int) : ∀ l : List (List Int), PwT l → PwT (insT x l)
  | [], _ => by simp [insT]
  | y :: ys, h => by
    unfold insT
    split
    · rename_i hxy
      refine List.Pairwise.cons (fun z hz => ?_) (insT_pw x ys (List.Pairwise.of_cons h))
      have hz := (insT_perm x ys).mem_iff.mp hz
      rcases List.mem_cons.mp hz with rfl | hz
      · exact NtL.lex_asym _ _ hxy
      · exact List.rel_of_pairwise_cons h hz
    · rename_i hxy
      have hxy : HT.lexLt y x = false := by simpa using hxy
      refine List.Pairwise.cons (fun z hz => ?_) h
      rcases List.mem_cons.mp hz with rfl | hz
      · exact hxy
      · exact NtL.lex_tr _ _ _ hxy (List.rel_of_pairwise_cons h hz)
theorem srtT_pw : ∀ l : List (List Int), PwT (srtT l)
  | [] => .nil
  | x :: xs => insT_pw x _ (srtT_pw xs)
theorem lex_eq : ∀ x y : List Int, HT.lexLt x y = false → HT.lexLt y x = false → x = y
  | [], [], _, _ => rfl
  | [], y :: ys, h, _ => by rw [HT.lexLt_nil_cons] at h; cases h
  | x :: xs, [], _, h => by rw [HT.lexLt_nil_cons] at h; cases h
  | x :: xs, y :: ys, h1, h2 => by
    rw [HT.lexLt_cons] at h1 h2
    by_cases e : x = y
    · subst e
      rw [if_pos rfl] at h1 h2
      rw [lex_eq xs ys h1 h2]
    · rw [if_neg e] at h1
      rw [if_neg (Ne.symm e)] at h2
      have a := of_decide_eq_false h1
      have b := of_decide_eq_false h2
      omega
theorem lex_refl : ∀ x : List Int, HT.lexLt x x = false
  | [] => HT.lexLt_nil_nil
  | x :: xs => by rw [HT.lexLt_cons, if_pos rfl]; exact lex_refl xs
theorem pwT_unique : ∀ (a b : List (List Int)), a.Perm b → PwT a → PwT b → a = b
  | [], b, p, _, _ => (List.nil_perm.mp p).symm
  | x :: xs, [], p, _, _ => by simp at p
  | x :: xs, y :: ys, p, h1, h2 => by
    have hx : x ∈ y :: ys := p.mem_iff.mp List.mem_cons_self
    have hy : y ∈ x :: xs := p.mem_iff.mpr List.mem_cons_self
    have e : x = y := by
      rcases List.mem_cons.mp hx with e | hx
      · exact e
      · rcases List.mem_cons.mp hy with e | hy
        · exact e.symm
        · exact lex_eq _ _ (List.rel_of_pairwise_cons h2 hx) (List.rel_of_pairwise_cons h1 hy)
    subst e
    rw [pwT_unique xs ys (List.Perm.cons_inv p) (List.Pairwise.of_cons h1) (List.Pairwise.of_cons h2)]

section
open PySem.W
variable {prog : Program} {w : World} {A : Around} {E : Value → Shared → Prop} {s : Shared}
theorem lex_ints {b fin : Bool} {Q : Bool → Shared → Prop} : ∀ (ps qs : List Value) (i : Nat) (ns ms : List Int),
    IntsAre ps ns → IntsAre qs ms → fin = decide (ps.length < qs.length) → Q (HT.lexLt ns ms) s → KatLex prog w A b fin Q (ps.zip qs) i s
  | [], [], i, _, _, .nil, .nil, hf, h => by
    have e : fin = false := by rw [hf]; rfl
    subst e
    rw [HT.lexLt_nil_nil] at h
    exact kat_nil h
  | [], _ :: qs, i, _, _, .nil, .cons _ _ _, hf, h => by
    have e : fin = true := by rw [hf]; exact decide_eq_true (Nat.succ_pos _)
    subst e
    rw [HT.lexLt_nil_cons] at h
    exact kat_nil h
  | _ :: ps, [], i, _, _, .cons _ _ _, .nil, hf, h => by
    have e : fin = false := by rw [hf]; exact decide_eq_false (Nat.not_lt_zero _)
    subst e
    rw [HT.lexLt_cons_nil] at h
    exact kat_nil h
  | _ :: ps, _ :: qs, i, _, _, .cons n t hp, .cons m u hq, hf, h => by
    have hf' : fin = decide (ps.length < qs.length) := by
      rw [hf]; simp only [List.length_cons, Nat.add_lt_add_iff_right]
    refine kat_cons (SeqAt.EqAt.int_int n t m u prog w _ _ ?_)
    refine kat_go (fun e => kat_yes ?_) (fun e => kat_no ?_)
    · have hnm : n = m := by simpa using e
      subst hnm
      rw [HT.lexLt_cons, if_pos rfl] at h
      exact lex_ints ps qs (i + 1) _ _ hp hq hf' h
    · have hnm : ¬ n = m := by simpa using e
      rw [HT.lexLt_cons, if_neg hnm] at h
      exact oneLt_any_int h
/-- a value that is a tuple of the ints ns -/
def IsTI (h : Heap) (v : Value) (ns : List Int) : Prop := ∃ a its, v = .ref a ∧ IsTup h a its ∧ IntsAre its.toList ns
theorem IsTI.keeps {h h' : Heap} {v : Value} {ns : List Int} (x : IsTI h v ns) (k : ∀ b o, h.get? b = some o → o.cls = .type "tuple" → h'.get? b = some o) : IsTI h' v ns := by
  obtain ⟨a, its, e, ⟨o, ho, hc, n, hd⟩, hi⟩ := x
  exact ⟨a, its, e, ⟨o, k a o ho hc, hc, n, hd⟩, hi⟩
theorem ti_cmp {vs : List Value} {k : Value → List Int} (hv : ∀ v ∈ vs, IsTI s.heap v (k v)) : SrtO.Cmp prog w A s (tuples' true) (fun p => p.1 ∈ vs) (SrtO.lt2 fun v u => HT.lexLt (k v) (k u)) := by
  intro p q hm hm'
  obtain ⟨a, its, e, ⟨o, ho, hc, n, hd⟩, hi⟩ := hv _ hm
  obtain ⟨a', its', e', ⟨o', ho', hc', n', hd'⟩, hi'⟩ := hv _ hm'
  show wpAny (model prog w) A (keyLt' (tuples' true) p.1 q.1) (fun r s' => s' = s ∧ r = HT.lexLt (k p.1) (k q.1)) (fun _ _ => False) s
  rw [e, e'] at *
  exact kat_lt ho hd ho' hd' (lex_ints _ _ 0 _ _ hi hi' (by simp) ⟨rfl, rfl⟩)
theorem ti_firsts {h : Heap} {k : Value → List Int} : ∀ {vs : List Value}, (∀ v ∈ vs, IsTI h v (k v)) → (∀ v ∈ vs, k v ≠ []) → ∃ fs, KatTups h vs fs ∧ fs.length = vs.length ∧ ∀ f ∈ fs, ∃ i t, f = .int i t
  | [], _, _ => ⟨[], trivial, rfl, fun _ h => nomatch h⟩
  | v :: vs, h1, h2 => by
    obtain ⟨fs, g1, g2, g3⟩ := ti_firsts (vs := vs) (fun u m => h1 u (List.mem_cons_of_mem _ m)) (fun u m => h2 u (List.mem_cons_of_mem _ m))
    obtain ⟨a, its, e, ⟨o, ho, hc, n, hd⟩, hi⟩ := h1 v List.mem_cons_self
    have hne := h2 v List.mem_cons_self
    cases hx : its.toList with
    | nil =>
      rw [hx] at hi
      cases hk : k v with
      | nil => exact absurd hk hne
      | cons _ _ => rw [hk] at hi; cases hi
    | cons f rest =>
      rw [hx] at hi
      cases hk : k v with
      | nil => exact absurd hk hne
      | cons i is =>
        rw [hk] at hi
        cases hi with
        | cons i t hi =>
          refine ⟨.int i t :: fs, ⟨⟨a, o, its, n, e, ho, hc, hd, ?_⟩, g1⟩, by simp [g2], fun f hf => ?_⟩
          · rw [← Array.getElem?_toList, hx]; rfl
          · rcases List.mem_cons.mp hf with rfl | hf
            · exact ⟨_, _, rfl⟩
            · exact g3 f hf
theorem ti_sortable {a : Addr} {vs : List Value} {k : Value → List Int} (h2 : 2 ≤ vs.length) (hv : ∀ v ∈ vs, IsTI s.heap v (k v)) (hne : ∀ v ∈ vs, k v ≠ []) (ha : ∀ o, s.heap.get? a = some o → o.cls ≠ .type "tuple") :
    SrtO.SortableO prog w A s a vs fun v u => HT.lexLt (k v) (k u) := by
  intro h' keep
  have hp' : ∀ v ∈ vs, IsTI h' v (k v) := fun v hm => (hv v hm).keeps fun b o e c => keep b o (fun z => by subst z; exact ha o e c) e
  obtain ⟨fs, h1, h2, h3⟩ := ti_firsts hp' hne
  refine ⟨tuples' true, fun Q E hq => ?_, ti_cmp hp'⟩
  refine kat_kind (T := .type "int") h1 (by omega) (fun f hm => ?_) (by rfl) ?_
  · obtain ⟨x, t, rfl⟩ := h3 f hm
    exact Looks.now
  · have e : (Value.type "int" != Value.type "tuple") = true := by first | decide +kernel | rfl | decide
    rw [e]
    exact hq
end
section
variable {X : Cx}
def rSrt (K : PySem.W.Frag) : List V → Hp → VK → Prop := fun xs H Q => ∃ fm S u us ws, StOk K fm S H ∧ Rps K fm S H [u] xs ∧ seqOf S u = some us ∧ srtU us = some ws ∧ QRes K fm S H ws Q
/-- what a place says of a value, back -/
def vOf : Value → V
  | .ref a => .ref a
  | _ => .non
theorem tups_refs {K : PySem.W.Frag} {fm : List Addr} {S : Sto} {H : Hp} : ∀ {us : List U} {ts : List (List Int)} {vs : List V}, tupsI us = some ts → Rps K fm S H us vs →
    us = (ts.map fun t => .tup (t.map U.int)) ∧ ∃ as : List Addr, vs = as.map V.ref ∧ as.length = ts.length ∧ ∀ (i : Nat) a t, as[i]? = some a → ts[i]? = some t → SqT K H a (t.map V.int) ∧ Rp K fm S H (.tup (t.map U.int)) (.ref a)
  | [], ts, _, e, .nil => by cases e; exact ⟨rfl, [], rfl, rfl, fun i a t h _ => by simp at h⟩
  | u :: us, ts, _, e, .cons h r => by
    cases u with
    | tup xs =>
      simp only [tupsI] at e
      split at e
      · rename_i ns ts' e1 e2
        cases e
        have ex : xs = ns.map U.int := by
          clear h r e2
          induction xs generalizing ns with
          | nil => cases e1; rfl
          | cons x xs ih =>
            cases x <;> simp [intsOf] at e1
            obtain ⟨ms, e3, rfl⟩ := e1
            rw [ih ms e3]; rfl
        subst ex
        obtain ⟨h1, as, h2, h3, h4⟩ := tups_refs e2 r
        obtain ⟨a, ws, rfl, hs, rw'⟩ := rp_tup h (S := S) rfl
        have ew := rw'.ints e1
        subst ew
        refine ⟨by rw [h1]; simp, a :: as, by rw [h2]; rfl, by simp [h3], fun i b t hb ht => ?_⟩
        cases i with
        | zero => simp at hb ht; subst hb ht; exact ⟨hs, h⟩
        | succ i => exact h4 i b t (by simpa using hb) (by simpa using ht)
      · cases e
    | _ => simp [tupsI] at e
theorem vals_refs : ∀ {as : List Addr} {us : List Value}, Vals (as.map V.ref) us → us = as.map Value.ref
  | [], _, .nil => rfl
  | a :: as, _, .cons h r => by
    rw [vals_refs r]
    cases h
    rfl
theorem mapint_inj : ∀ {a b : List Int}, a.map V.int = b.map V.int → a = b
  | [], [], _ => rfl
  | [], _ :: _, h => by simp at h
  | _ :: _, [], h => by simp at h
  | x :: a, y :: b, h => by
    rw [List.map_cons, List.map_cons] at h
    obtain ⟨h1, h2⟩ := List.cons.inj h
    cases h1
    rw [mapint_inj h2]
theorem srt_short {α : Type} {x : α} {l : List α} (p : l.Perm [x]) : l = [x] := List.perm_singleton.mp p
theorem cr_srtU : CallR X (.builtin "sorted") (rSrt X.K) := by
  intro pins s σ H xs us Q I r ⟨fm, S, u, as, ws, so, rr, e, e2, q⟩
  obtain ⟨x, rfl, rx⟩ := rps1 rr
  obtain ⟨a, vs, rfl, hs, rv⟩ := rp_seq so rx e
  rw [Vals.ref1 r]
  -- by an order and what it asks
  have go : ∀ (ltv : Value → Value → Bool), SrtO.Swo ltv →
      (∀ its : List Value, Vals vs its → 2 ≤ its.length → ∀ (h₁ : Heap) (a : Addr), h₁.get? a = some (seqObj "list" its.toArray 0) → (∀ b o, s.heap.get? b = some o → b ≠ a ∧ h₁.get? b = some o) → SrtO.SortableO X.prog X.w X.A.in1.in1 { s with heap := h₁ } a its ltv) →
      (∀ its out : List Value, Vals vs its → SrtO.Srtd ltv out → SrtO.Stb ltv out its → ∃ zs, Vals zs out ∧ Rps X.K fm S H ws zs) →
      wpAny (model X.prog X.w) X.A (call (.builtin "sorted") [.ref a]) (EP X pins σ Q) X.xe s := by
    intro ltv O hS hO
    have fin : ∀ (its out : List Value), Vals vs its → vs.length ≤ sizeLine → SrtO.Srtd ltv out → SrtO.Stb ltv out its →
        EP X pins σ Q (.ref (s.heap.objs.size + 1)) { s with heap := sortedAll s.heap its out.toArray } := by
      intro its out rv hz h1 h2
      obtain ⟨zs, k1, k2⟩ := hO its out rv h1 h2
      obtain ⟨ep, he'⟩ := PyProof.Rows.sortedAll_at s.heap its out.toArray
      have hlen : zs.length ≤ sizeLine := by rw [k1.length, h2.len, ← rv.length]; exact hz
      exact ⟨.ref _, upd H (s.heap.objs.size + 1) (.lst zs), I.laid (t' := s.toks) (fun _ _ => PyProof.Rows.sortedAll_old) (Nat.le_succ _) ⟨hlen, out, ep, k1, he'⟩, rfl, q fm H _ _ .refl so k2 (I.hok.fresh (Nat.le_succ _))⟩
    rcases hs with hs | hs
    · obtain ⟨its, rv, hl, hz⟩ := I.list hs
      exact SrtO.sorted_ord O hl.isList (by rw [← rv.length]; exact hz) (fun h2 => hS its rv h2) fun out h1 h2 => fin its out rv hz h1 h2
    · obtain ⟨its, rv, hl, hz⟩ := I.tuple hs
      exact sorted_ordT O hl (by rw [← rv.length]; exact hz) (fun h2 => hS its rv h2) fun out h1 h2 => fin its out rv hz h1 h2
  unfold srtU at e2
  split at e2
  · rename_i hsh
    cases e2
    refine go SrtO.ltIv SrtO.swo_int (fun its rv' h2 => ?_) fun its out rv' h1 h2 => ?_
    · have := rv'.length; have := rv.length; omega
    · have hl := rv'.length
      have hl2 := rv.length
      cases its with
      | nil =>
        have : out = [] := List.perm_nil.mp h2.perm
        subst this
        exact ⟨vs, rv', rv⟩
      | cons i its =>
        cases its with
        | nil =>
          have := srt_short h2.perm
          subst this
          exact ⟨vs, rv', rv⟩
        | cons j its => simp at hl; omega
  · split at e2
    · rename_i ns e3
      cases e2
      have ev := rv.ints e3
      subst ev
      refine go SrtO.ltIv SrtO.swo_int (fun its rv' h2 h₁ a' _ _ => SrtO.ints_sortable rv'.ints h2) fun its out rv' h1 h2 => ?_
      obtain ⟨k1, k2, k3⟩ := SrtO.ints_out rv'.ints h1 h2
      refine ⟨(out.map SrtO.iv).map V.int, vals_of_ints k1, ?_⟩
      rw [srtI_of k2 k3]
      exact Rps.of_ints _
    · split at e2
      · rename_i ts e3
        split at e2
        · rename_i hall
          cases e2
          obtain ⟨_, bs, rfl, hbl, hb⟩ := tups_refs e3 rv
          -- the ints at a place
          obtain ⟨k, hk⟩ : ∃ k : Value → List Int, ∀ (a : Addr) (t : List Int), SqT X.K H a (t.map V.int) → k (.ref a) = t := by
            refine ⟨fun v => match v with
              | .ref a => open Classical in if h : ∃ t : List Int, SqT X.K H a (t.map V.int) then h.choose else []
              | _ => [], fun a t h => ?_⟩
            have hx : ∃ t : List Int, SqT X.K H a (t.map V.int) := ⟨t, h⟩
            simp only [dif_pos hx]
            have := I.tuple_inj hx.choose_spec h
            exact mapint_inj this
          have hat : ∀ v ∈ bs.map Value.ref, ∃ b t, v = .ref b ∧ k v = t ∧ t ∈ ts ∧ SqT X.K H b (t.map V.int) ∧ Rp X.K fm S H (.tup (t.map U.int)) (.ref b) := by
            intro v hv
            obtain ⟨b, hb1, rfl⟩ := List.mem_map.mp hv
            obtain ⟨i, hi⟩ := List.mem_iff_getElem?.mp hb1
            have hlt : i < ts.length := by rw [← hbl]; exact (List.getElem?_eq_some_iff.mp hi).1
            obtain ⟨h1, h2⟩ := hb i b ts[i] hi (List.getElem?_eq_getElem hlt)
            exact ⟨b, ts[i], rfl, hk b _ h1, List.getElem_mem hlt, h1, h2⟩
          have hti : ∀ v ∈ bs.map Value.ref, IsTI s.heap v (k v) ∧ k v ≠ [] := by
            intro v hv
            obtain ⟨b, t, rfl, h1, h2, h3, _⟩ := hat v hv
            obtain ⟨its, rvt, hl, hz⟩ := I.tuple h3
            rw [h1]
            refine ⟨⟨b, its.toArray, rfl, hl, by simpa using rvt.ints⟩, ?_⟩
            have := List.all_eq_true.mp hall t h2
            intro z; subst z; simp at this
          refine go (fun v u => HT.lexLt (k v) (k u)) (NtL.swo_lexL k) (fun its rv' h2 h₁ a' ha' keep => ?_) fun its out rv' h1 h2 => ?_
          · have ei := vals_refs rv'
            subst ei
            refine ti_sortable h2 (fun v hv => ((hti v hv).1).keeps fun b o e _ => (keep b o e).2) (fun v hv => (hti v hv).2) fun o ho hc => ?_
            rw [ha'] at ho
            cases ho
            have hc' : (Value.type "list") = Value.type "tuple" := hc
            exact absurd hc' (by decide)
          · have ei := vals_refs rv'
            subst ei
            have hout : ∀ v ∈ out, ∃ b t, v = .ref b ∧ k v = t ∧ t ∈ ts ∧ SqT X.K H b (t.map V.int) ∧ Rp X.K fm S H (.tup (t.map U.int)) (.ref b) := fun v hv => hat v (h2.perm.mem_iff.mp hv)
            have hkts : (bs.map Value.ref).map k = ts := by
              apply List.ext_getElem?
              intro i
              rw [List.getElem?_map, List.getElem?_map]
              by_cases hi : i < bs.length
              · have hi2 : i < ts.length := by rw [← hbl]; exact hi
                rw [List.getElem?_eq_getElem hi, List.getElem?_eq_getElem hi2]
                simp only [Option.map_some]
                rw [hk _ _ (hb i _ _ (List.getElem?_eq_getElem hi) (List.getElem?_eq_getElem hi2)).1]
              · rw [List.getElem?_eq_none (by omega), List.getElem?_eq_none (by omega)]; rfl
            have es : out.map k = srtT ts := by
              refine pwT_unique _ _ (((h2.perm.map k).trans (by rw [hkts])).trans (srtT_perm ts).symm) ?_ (srtT_pw ts)
              exact List.Pairwise.map k (fun _ _ h => h) h1
            rw [← es, List.map_map]
            clear es hkts h1 h2 hti hat
            induction out with
            | nil => exact ⟨[], .nil, .nil⟩
            | cons v out ih =>
              obtain ⟨zs, g1, g2⟩ := ih fun u hu => hout u (List.mem_cons_of_mem _ hu)
              obtain ⟨b, t, rfl, h3, _, _, h5⟩ := hout v List.mem_cons_self
              refine ⟨.ref b :: zs, .cons rfl g1, ?_⟩
              rw [List.map_cons]
              refine .cons ?_ g2
              show Rp X.K fm S H (.tup ((k (.ref b)).map U.int)) (.ref b)
              rw [h3]; exact h5
        · cases e2
      · cases e2
end
end Ev
set_option Elab.async false
set_option linter.all false
set_option maxRecDepth 100000
set_option maxHeartbeats 2000000
/-! Ev9: what a tree yields, as a reading. -/
namespace Ev
open PySem PySem.Spec PyProof.Rows L2

def EnvOk (K : PySem.W.Frag) (fm : List Addr) (S : Sto) (H : Hp) (ρ : Rho) (σ : L2.St) : Prop :=
  ρ.length = σ.length ∧ ∀ (i : Nat) (u : U), ρ[i]? = some (some u) → ∃ v, σ[i]? = some (some v) ∧ Rp K fm S H u v

/-- behind a result -/
def Aft {α : Type} (K : PySem.W.Frag) (cls : Nat → Value) (W : WX) (σ : L2.St) (fm : List Addr) (S : Sto) (H : Hp) (r : R α) (P : α → List Addr → Sto → Hp → Prop) : Prop :=
  match r with
  | .ok a S' => ∀ fm' H', Stp fm S H fm' S' H' → StOk K fm' S' H' → P a fm' S' H'
  | .ex c S' => ∀ fm' H', Stp fm S H fm' S' H' → StOk K fm' S' H' → W (cls c) none σ H'
  | .stuck => False

section
variable {K : PySem.W.Frag} {cls : Nat → Value} {W : WX} {σ : L2.St} {fm fm' : List Addr} {S S' : Sto} {H H' : Hp} {α β : Type}
theorem EnvOk.mono {ρ : Rho} (h : EnvOk K fm S H ρ σ) (x : Gr fm S H fm' S' H') : EnvOk K fm' S' H' ρ σ :=
  ⟨h.1, fun i u e => let ⟨v, e1, r⟩ := h.2 i u e; ⟨v, e1, r.mono x⟩⟩
theorem Aft.imp {r : R α} {P P' : α → List Addr → Sto → Hp → Prop} (h : Aft K cls W σ fm S H r P) (i : ∀ a fm' S' H', Stp fm S H fm' S' H' → StOk K fm' S' H' → P a fm' S' H' → P' a fm' S' H') : Aft K cls W σ fm S H r P' := by
  cases r with
  | ok a S' => exact fun fm' H' st so => i a fm' S' H' st so (h fm' H' st so)
  | ex c S' => exact h
  | stuck => exact h
theorem Aft.bind {r : R α} {f : α → Sto → R β} {P : β → List Addr → Sto → Hp → Prop} (h : Aft K cls W σ fm S H (r.bind f) P) : Aft K cls W σ fm S H r fun a fm1 S1 H1 => Aft K cls W σ fm1 S1 H1 (f a S1) P := by
  cases r with
  | ok a S1 =>
    intro fm1 H1 st so
    replace h : Aft K cls W σ fm S H (f a S1) P := h
    revert h
    cases f a S1 with
    | ok b S2 => exact fun h fm2 H2 st2 so2 => h fm2 H2 (st.trans st2) so2
    | ex c S2 => exact fun h fm2 H2 st2 so2 => h fm2 H2 (st.trans st2) so2
    | stuck => exact fun h => h
  | ex c S1 => exact h
  | stuck => exact h
theorem Aft.opt {o : Option α} {P : α → List Addr → Sto → Hp → Prop} (h : Aft K cls W σ fm S H (optR S o) P) : ∃ a, o = some a ∧ ∀ fm' H', Stp fm S H fm' S H' → StOk K fm' S H' → P a fm' S H' := by
  cases o with
  | none => exact h.elim
  | some a => exact ⟨a, rfl, h⟩
theorem Aft.ok {a : α} {P : α → List Addr → Sto → Hp → Prop} (h : Aft K cls W σ fm S H (.ok a S') P) : ∀ fm' H', Stp fm S H fm' S' H' → StOk K fm' S' H' → P a fm' S' H' := h
/-- from a later world -/
theorem Aft.later {fm1 : List Addr} {S1 : Sto} {H1 : Hp} {r : R α} {P : α → List Addr → Sto → Hp → Prop} (h : Aft K cls W σ fm S H r P) (st : Stp fm S H fm1 S1 H1) : Aft K cls W σ fm1 S1 H1 r P := by
  cases r with
  | ok b S2 => exact fun fm2 H2 st2 so2 => h fm2 H2 (st.trans st2) so2
  | ex c S2 => exact fun fm2 H2 st2 so2 => h fm2 H2 (st.trans st2) so2
  | stuck => exact h
end

def tE (K : PySem.W.Frag) (cls : Nat → Value) (W : WX) (r : Rho → Sto → R U) : TE := fun σ H Q =>
  ∃ fm S ρ, StOk K fm S H ∧ EnvOk K fm S H ρ σ ∧ Aft K cls W σ fm S H (r ρ S) fun u fm' S' H' => ∀ v, Rp K fm' S' H' u v → Q v H'
def tEs (K : PySem.W.Frag) (cls : Nat → Value) (W : WX) (r : Rho → Sto → R (List U)) : TA := fun σ H Q =>
  ∃ fm S ρ, StOk K fm S H ∧ EnvOk K fm S H ρ σ ∧ Aft K cls W σ fm S H (r ρ S) fun us fm' S' H' => ∀ vs, Rps K fm' S' H' us vs → Q vs H'
def tT (K : PySem.W.Frag) (cls : Nat → Value) (W : WX) (r : Rho → Sto → R U) : TT := fun σ H Q =>
  ∃ fm S ρ, StOk K fm S H ∧ EnvOk K fm S H ρ σ ∧ Aft K cls W σ fm S H (r ρ S) fun u fm' S' H' => ∃ b, truU S' u = some b ∧ Q b H'
def tO (K : PySem.W.Frag) (cls : Nat → Value) (W : WX) (r : Rho → Sto → R (Option Int)) : TO := fun σ H Q =>
  ∃ fm S ρ, StOk K fm S H ∧ EnvOk K fm S H ρ σ ∧ Aft K cls W σ fm S H (r ρ S) fun o fm' S' H' => Q o H'
/-- a new list -/
def tQ (K : PySem.W.Frag) (cls : Nat → Value) (W : WX) (r : Rho → Sto → R (List U)) : TE := fun σ H Q =>
  ∃ fm S ρ, StOk K fm S H ∧ EnvOk K fm S H ρ σ ∧ Aft K cls W σ fm S H (r ρ S) fun us fm' S' H' => ∀ vs p, Rps K fm' S' H' us vs → H' p = none → Q (.ref p) (upd H' p (.lst vs))

theorem _root_.L2.PE.imp {X : Cx} {e : Expr} {t t' : TE} (h : PE X e t) (i : ∀ σ H Q, t' σ H Q → t σ H Q) : PE X e t' := ⟨fun pins s σ H Q I q => h.run pins s σ H Q I (i σ H Q q)⟩
theorem _root_.L2.PT.imp {X : Cx} {e : Expr} {t t' : TT} (h : PT X e t) (i : ∀ σ H Q, t' σ H Q → t σ H Q) : PT X e t' := ⟨fun pins s σ H Q I q => h.run pins s σ H Q I (i σ H Q q)⟩
theorem _root_.L2.PW.imp {X : Cx} {e : Expr} {t t' : TT} (h : PW X e t) (i : ∀ σ H Q, t' σ H Q → t σ H Q) : PW X e t' := ⟨fun wh pins s σ H Q I q => h.run wh pins s σ H Q I (i σ H Q q)⟩
theorem _root_.L2.PA.imp {X : Cx} {e : List Expr} {t t' : TA} (h : PA X e t) (i : ∀ σ H Q, t' σ H Q → t σ H Q) : PA X e t' := ⟨fun pos pins s σ H Q I q => h.run pos pins s σ H Q I (i σ H Q q)⟩
theorem _root_.L2.PK.imp {X : Cx} {e : List Keyword} {t t' : TA} (h : PK X e t) (i : ∀ σ H Q, t' σ H Q → t σ H Q) : PK X e t' := ⟨fun pos pins s σ H Q I q => h.run pos pins s σ H Q I (i σ H Q q)⟩
theorem _root_.L2.PO.imp {X : Cx} {e : Option Expr} {t t' : TO} (h : PO X e t) (i : ∀ σ H Q, t' σ H Q → t σ H Q) : PO X e t' := ⟨fun pins s σ H Q I q => h.run pins s σ H Q I (i σ H Q q)⟩

section
variable {X : Cx} {cls : Nat → Value} {W : WX} {pos : Pos} {a b c : Expr} {ra rb rc : Rho → Sto → R U}
theorem te_var {i : Nat} {x : Str} (hN : X.N[i]? = some x) (hv : Vis X.env.scope x) (hd : (x == ("__debug__" : Str)) = false) (hcd : (x == ("__classdict__" : Str)) = false) : PE X (.Name x pos) (tE X.K cls W fun ρ S => optR S (getR ρ i)) :=
  (pe_var hN hv hd hcd).imp fun σ H Q ⟨fm, S, ρ, so, eo, h⟩ => by
    obtain ⟨u, e, h⟩ := h.opt
    have e' : ρ[i]? = some (some u) := by
      unfold getR at e
      cases q : ρ[i]? with
      | none => rw [q] at e; cases e
      | some o => rw [q] at e; cases o with
        | none => cases e
        | some w => cases e; rfl
    obtain ⟨v, e1, r⟩ := eo.2 i u e'
    exact ⟨v, e1, h fm H .refl so v r⟩
theorem te_cst {u : U} {v : V} {e : Expr} (he : PE X e (tC v)) (h : ∀ fm S H, Rp X.K fm S H u v) : PE X e (tE X.K cls W fun _ S => .ok u S) :=
  he.imp fun σ H Q ⟨fm, S, ρ, so, eo, q⟩ => q fm H .refl so v (h fm S H)
theorem tes_nil : PA X [] (tEs X.K cls W fun _ S => .ok [] S) := pa_nil.imp fun σ H Q ⟨fm, S, ρ, so, eo, q⟩ => q fm H .refl so [] .nil
theorem tes_cons {es : List Expr} {rs : Rho → Sto → R (List U)} (ha : PE X a (tE X.K cls W ra)) (hs : PA X es (tEs X.K cls W rs)) (h : starEach (a :: es) X.env = (false, eval a X.env) :: starEach es X.env) :
    PA X (a :: es) (tEs X.K cls W fun ρ S => (ra ρ S).bind fun u S1 => (rs ρ S1).bind fun us S2 => .ok (u :: us) S2) :=
  (pa_cons ha hs h).imp fun σ H Q ⟨fm, S, ρ, so, eo, q⟩ => ⟨fm, S, ρ, so, eo, q.bind.imp fun u fm1 S1 H1 st1 so1 h1 v1 r1 => ⟨fm1, S1, ρ, so1, eo.mono st1.toGr, h1.bind.imp fun us fm2 S2 H2 st2 so2 h2 vs rs =>
    h2.ok fm2 H2 .refl so2 (v1 :: vs) (.cons (r1.mono st2.toGr) rs)⟩⟩
theorem te_tup {es : List Expr} {k : Nat} {rs : Rho → Sto → R (List U)} (hs : PA X es (tEs X.K cls W rs)) (hl : es.length ≤ 1000) (hr : ∀ ρ S us S', rs ρ S = .ok us S' → us.length ≤ 1000) :
    PE X (.Tuple es k pos) (tE X.K cls W fun ρ S => (rs ρ S).bind fun us S1 => .ok (.tup us) S1) :=
  (pe_tup hs).imp fun σ H Q ⟨fm, S, ρ, so, eo, q⟩ => by
    refine ⟨fm, S, ρ, so, eo, ?_⟩
    have hl := hr ρ S
    revert hl
    have := q.bind
    revert this
    cases rs ρ S with
    | ok us S1 =>
      intro q hl fm1 H1 st1 so1 vs rv
      have h2 := q fm1 H1 st1 so1
      refine ⟨by rw [← rv.length, ← lim_eq]; exact Nat.le_trans (hl us S1 rfl) (by decide), fun p hp => ?_⟩
      exact h2 fm1 _ (stp_new so1 hp) (ok_new so1 hp) _ (rp_newT so1 hp rv)
    | ex c S1 => exact fun q _ => q
    | stuck => exact fun q _ => q
theorem te_bin {o : Op} {op : Operator} (ho : OpR X (binaryOp op) (rBin X.K o)) (ha : PE X a (tE X.K cls W ra)) (hb : PE X b (tE X.K cls W rb)) :
    PE X (.BinOp a op b pos) (tE X.K cls W fun ρ S => (ra ρ S).bind fun u S1 => (rb ρ S1).bind fun v S2 => optR S2 (binU S2 o u v)) :=
  (pe_op ho ha hb).imp fun σ H Q ⟨fm, S, ρ, so, eo, q⟩ => ⟨fm, S, ρ, so, eo, q.bind.imp fun u fm1 S1 H1 st1 so1 h1 v1 r1 => ⟨fm1, S1, ρ, so1, eo.mono st1.toGr, h1.bind.imp fun w fm2 S2 H2 st2 so2 h2 v2 r2 => by
    obtain ⟨z, e, h⟩ := h2.opt
    exact ⟨fm2, S2, u, w, z, so2, r1.mono st2.toGr, r2, e, fun fm' H' v st so' r => h fm' H' st so' v r⟩⟩⟩
theorem te_cmp {o : Cp} {op : CmpOp} (ho : OpR X (compareOp op) (rCmp X.K o)) (ha : PE X a (tE X.K cls W ra)) (hb : PE X b (tE X.K cls W rb)) (hm : behindInMarks op b = false) :
    PE X (.Compare a [op] [b] pos) (tE X.K cls W fun ρ S => (ra ρ S).bind fun u S1 => (rb ρ S1).bind fun v S2 => optR S2 ((cmpU S2 o u v).map U.bl)) :=
  (pe_cmpR ho ha hb hm).imp fun σ H Q ⟨fm, S, ρ, so, eo, q⟩ => ⟨fm, S, ρ, so, eo, q.bind.imp fun u fm1 S1 H1 st1 so1 h1 v1 r1 => ⟨fm1, S1, ρ, so1, eo.mono st1.toGr, h1.bind.imp fun w fm2 S2 H2 st2 so2 h2 v2 r2 => by
    obtain ⟨z, e, h⟩ := h2.opt
    obtain ⟨k, e', rfl⟩ := Option.map_eq_some_iff.mp e
    exact ⟨fm2, S2, u, w, k, so2, r1.mono st2.toGr, r2, e', h fm2 H2 .refl so2 _ (.bl k)⟩⟩⟩
theorem tt_cmp {o : Cp} {op : CmpOp} (ho : OpR X (compareOp op) (rCmp X.K o)) (ha : PE X a (tE X.K cls W ra)) (hb : PE X b (tE X.K cls W rb)) (hm : behindInMarks op b = false) :
    PT X (.Compare a [op] [b] pos) (tT X.K cls W fun ρ S => (ra ρ S).bind fun u S1 => (rb ρ S1).bind fun v S2 => optR S2 ((cmpU S2 o u v).map U.bl)) :=
  (pt_cmpR ho ha hb hm).imp fun σ H Q ⟨fm, S, ρ, so, eo, q⟩ => ⟨fm, S, ρ, so, eo, q.bind.imp fun u fm1 S1 H1 st1 so1 h1 v1 r1 => ⟨fm1, S1, ρ, so1, eo.mono st1.toGr, h1.bind.imp fun w fm2 S2 H2 st2 so2 h2 v2 r2 => by
    obtain ⟨z, e, h⟩ := h2.opt
    obtain ⟨k, e', rfl⟩ := Option.map_eq_some_iff.mp e
    obtain ⟨b', eb, hq⟩ := h fm2 H2 .refl so2
    cases eb
    exact ⟨fm2, S2, u, w, k, so2, r1.mono st2.toGr, r2, e', k, rfl, hq⟩⟩⟩
theorem truV_of {fm : List Addr} {S : Sto} {H : Hp} {u : U} {v : V} {k : Bool} (so : StOk X.K fm S H) (r : Rp X.K fm S H u v) (e : truU S u = some k) : TruV X.K v H k := by
  unfold truU at e
  split at e
  · rename_i b h; cases e; rw [rp_bl r h]; rfl
  · rename_i b h; cases e; rw [rp_int r h]
    show decide (b ≠ 0) = (b != 0)
    by_cases z : b = 0 <;> simp [z]
  · rename_i xs h; cases e
    obtain ⟨a, vs, rfl, hT, rv⟩ := rp_tup r h
    have : xs.isEmpty = vs.isEmpty := by cases rv <;> rfl
    rw [this]
    exact .inr (.inl ⟨vs, hT, rfl⟩)
  · rename_i xs h; cases e
    obtain ⟨a, vs, rfl, hT, rv⟩ := rp_lst so r h
    have : xs.isEmpty = vs.isEmpty := by cases rv <;> rfl
    rw [this]
    exact .inl ⟨vs, SqL.of hT, rfl⟩
  · rename_i h; cases e; rw [rp_non r h]; rfl
  · cases e
/-- any expression as a test, by its truth -/
theorem tt_any (ha : PE X a (tE X.K cls W ra)) (he : ∀ whole, isTrue a X.env whole = (do let v ← whole; standAt a.pos; holding [v] (truthy v))) : PT X a (tT X.K cls W ra) :=
  (pt_truth ha he).imp fun σ H Q ⟨fm, S, ρ, so, eo, q⟩ => ⟨fm, S, ρ, so, eo, q.imp fun u fm1 S1 H1 st1 so1 ⟨b, e, h⟩ v1 r1 => ⟨b, truV_of so1 r1 e, h⟩⟩

/-! ### and, or, not -/
theorem te_one {op : BoolOp} (ha : PE X a (tE X.K cls W ra)) : PE X (.BoolOp op [a] pos) (tE X.K cls W ra) := pe_one ha
theorem te_and {rest : List Expr} (ha : PE X a (tE X.K cls W ra)) (hb : PE X (.BoolOp .And (b :: rest) pos) (tE X.K cls W rb)) :
    PE X (.BoolOp .And (a :: b :: rest) pos) (tE X.K cls W fun ρ S => (ra ρ S).bind fun u S1 => match truU S1 u with | some true => rb ρ S1 | some false => .ok u S1 | none => .stuck) :=
  (pe_andT ha hb).imp fun σ H Q ⟨fm, S, ρ, so, eo, q⟩ => ⟨fm, S, ρ, so, eo, q.bind.imp fun u fm1 S1 H1 st1 so1 h1 v1 r1 => by
    cases e : truU S1 u with
    | none => rw [e] at h1; exact h1.elim
    | some k =>
      rw [e] at h1
      refine ⟨k, truV_of so1 r1 e, ?_⟩
      cases k with
      | true => rw [if_pos rfl]; exact ⟨fm1, S1, ρ, so1, eo.mono st1.toGr, h1⟩
      | false => rw [if_neg Bool.false_ne_true]; exact h1.ok fm1 H1 .refl so1 v1 r1⟩
theorem te_or {rest : List Expr} (ha : PE X a (tE X.K cls W ra)) (hb : PE X (.BoolOp .Or (b :: rest) pos) (tE X.K cls W rb)) :
    PE X (.BoolOp .Or (a :: b :: rest) pos) (tE X.K cls W fun ρ S => (ra ρ S).bind fun u S1 => match truU S1 u with | some true => .ok u S1 | some false => rb ρ S1 | none => .stuck) :=
  (pe_orT ha hb).imp fun σ H Q ⟨fm, S, ρ, so, eo, q⟩ => ⟨fm, S, ρ, so, eo, q.bind.imp fun u fm1 S1 H1 st1 so1 h1 v1 r1 => by
    cases e : truU S1 u with
    | none => rw [e] at h1; exact h1.elim
    | some k =>
      rw [e] at h1
      refine ⟨k, truV_of so1 r1 e, ?_⟩
      cases k with
      | true => rw [if_pos rfl]; exact h1.ok fm1 H1 .refl so1 v1 r1
      | false => rw [if_neg Bool.false_ne_true]; exact ⟨fm1, S1, ρ, so1, eo.mono st1.toGr, h1⟩⟩
theorem te_not (ha : PE X a (tE X.K cls W ra)) : PE X (.UnaryOp .Not a pos) (tE X.K cls W fun ρ S => (ra ρ S).bind fun u S1 => optR S1 ((truU S1 u).map fun k => .bl (!k))) :=
  (pe_notT ha).imp fun σ H Q ⟨fm, S, ρ, so, eo, q⟩ => ⟨fm, S, ρ, so, eo, q.bind.imp fun u fm1 S1 H1 st1 so1 h1 v1 r1 => by
    obtain ⟨z, e, h⟩ := h1.opt
    obtain ⟨k, e', rfl⟩ := Option.map_eq_some_iff.mp e
    exact ⟨k, truV_of so1 r1 e', h fm1 H1 .refl so1 _ (.bl _)⟩⟩
theorem tw_and1 (ha : PT X a (tT X.K cls W ra)) : PW X (.BoolOp .And [a] pos) (tT X.K cls W ra) := pw_and1 ha
theorem tw_or1 (ha : PT X a (tT X.K cls W ra)) : PW X (.BoolOp .Or [a] pos) (tT X.K cls W ra) := pw_or1 ha
theorem tw_and {rest : List Expr} (ha : PT X a (tT X.K cls W ra)) (hb : PW X (.BoolOp .And (b :: rest) pos) (tT X.K cls W rb)) :
    PW X (.BoolOp .And (a :: b :: rest) pos) (tT X.K cls W fun ρ S => (ra ρ S).bind fun u S1 => match truU S1 u with | some true => rb ρ S1 | some false => .ok u S1 | none => .stuck) :=
  (pw_and ha hb).imp fun σ H Q ⟨fm, S, ρ, so, eo, q⟩ => ⟨fm, S, ρ, so, eo, q.bind.imp fun u fm1 S1 H1 st1 so1 h1 => by
    cases e : truU S1 u with
    | none => rw [e] at h1; exact h1.elim
    | some k =>
      rw [e] at h1
      refine ⟨k, rfl, ?_⟩
      cases k with
      | true => rw [if_pos rfl]; exact ⟨fm1, S1, ρ, so1, eo.mono st1.toGr, h1⟩
      | false =>
        rw [if_neg Bool.false_ne_true]
        obtain ⟨b, e2, hq⟩ := h1.ok fm1 H1 .refl so1
        rw [e] at e2; cases e2
        exact hq⟩
theorem tw_or {rest : List Expr} (ha : PT X a (tT X.K cls W ra)) (hb : PW X (.BoolOp .Or (b :: rest) pos) (tT X.K cls W rb)) :
    PW X (.BoolOp .Or (a :: b :: rest) pos) (tT X.K cls W fun ρ S => (ra ρ S).bind fun u S1 => match truU S1 u with | some true => .ok u S1 | some false => rb ρ S1 | none => .stuck) :=
  (pw_or ha hb).imp fun σ H Q ⟨fm, S, ρ, so, eo, q⟩ => ⟨fm, S, ρ, so, eo, q.bind.imp fun u fm1 S1 H1 st1 so1 h1 => by
    cases e : truU S1 u with
    | none => rw [e] at h1; exact h1.elim
    | some k =>
      rw [e] at h1
      refine ⟨k, rfl, ?_⟩
      cases k with
      | true =>
        rw [if_pos rfl]
        obtain ⟨b, e2, hq⟩ := h1.ok fm1 H1 .refl so1
        rw [e] at e2; cases e2
        exact hq
      | false => rw [if_neg Bool.false_ne_true]; exact ⟨fm1, S1, ρ, so1, eo.mono st1.toGr, h1⟩⟩
theorem tt_not (ha : PT X a (tT X.K cls W ra)) : PT X (.UnaryOp .Not a pos) (tT X.K cls W fun ρ S => (ra ρ S).bind fun u S1 => optR S1 ((truU S1 u).map fun k => .bl (!k))) :=
  (pt_not ha).imp fun σ H Q ⟨fm, S, ρ, so, eo, q⟩ => ⟨fm, S, ρ, so, eo, q.bind.imp fun u fm1 S1 H1 st1 so1 h1 => by
    obtain ⟨z, e, h⟩ := h1.opt
    obtain ⟨k, e', rfl⟩ := Option.map_eq_some_iff.mp e
    obtain ⟨b, e2, hq⟩ := h fm1 H1 .refl so1
    cases e2
    exact ⟨k, e', hq⟩⟩
/-- x if c else y -/
theorem te_ite (hc : PT X c (tT X.K cls W rc)) (ha : PE X a (tE X.K cls W ra)) (hb : PE X b (tE X.K cls W rb)) :
    PE X (.IfExp c a b pos) (tE X.K cls W fun ρ S => (rc ρ S).bind fun u S1 => match truU S1 u with | some true => ra ρ S1 | some false => rb ρ S1 | none => .stuck) :=
  (pe_ifExp hc ha hb).imp fun σ H Q ⟨fm, S, ρ, so, eo, q⟩ => ⟨fm, S, ρ, so, eo, q.bind.imp fun u fm1 S1 H1 st1 so1 h1 => by
    cases e : truU S1 u with
    | none => rw [e] at h1; exact h1.elim
    | some k =>
      rw [e] at h1
      refine ⟨k, rfl, ?_⟩
      cases k with
      | true => rw [if_pos rfl]; exact ⟨fm1, S1, ρ, so1, eo.mono st1.toGr, h1⟩
      | false => rw [if_neg Bool.false_ne_true]; exact ⟨fm1, S1, ρ, so1, eo.mono st1.toGr, h1⟩⟩
/-- x op y op z -/
theorem te_ch2 {o p : Cp} {op op' : CmpOp} (ho : OpR X (compareOp op) (rCmp X.K o)) (hp : OpR X (compareOp op') (rCmp X.K p)) (ha : PE X a (tE X.K cls W ra)) (hb : PE X b (tE X.K cls W rb)) (hc : PE X c (tE X.K cls W rc))
    (h2 : behindInMarks op' c = false) : PE X (.Compare a [op, op'] [b, c] pos) (tE X.K cls W fun ρ S => (ra ρ S).bind fun u S1 => (rb ρ S1).bind fun v S2 => match cmpU S2 o u v with
      | some true => (rc ρ S2).bind fun w S3 => optR S3 ((cmpU S3 p v w).map U.bl)
      | some false => .ok (.bl false) S2
      | none => .stuck) := by
  refine (pe_chain ho hp ha hb hc (by simpa [lastMarks] using h2)).imp fun σ H Q ⟨fm, S, ρ, so, eo, q⟩ => ⟨fm, S, ρ, so, eo, q.bind.imp fun u fm1 S1 H1 st1 so1 h1 v1 r1 => ⟨fm1, S1, ρ, so1, eo.mono st1.toGr, h1.bind.imp fun w fm2 S2 H2 st2 so2 h2 v2 r2 => ?_⟩⟩
  cases e : cmpU S2 o u w with
  | none => rw [e] at h2; exact h2.elim
  | some k =>
    rw [e] at h2
    refine ⟨fm2, S2, u, w, k, so2, r1.mono st2.toGr, r2, e, k, rfl, ?_⟩
    cases k with
    | true =>
      rw [if_pos rfl]
      refine ⟨fm2, S2, ρ, so2, (eo.mono st1.toGr).mono st2.toGr, h2.bind.imp fun x fm3 S3 H3 st3 so3 h3 v3 r3 => ?_⟩
      obtain ⟨z, e, h⟩ := h3.opt
      obtain ⟨k, e', rfl⟩ := Option.map_eq_some_iff.mp e
      exact ⟨fm3, S3, w, x, k, so3, r2.mono st3.toGr, r3, e', h fm3 H3 .refl so3 _ (.bl k)⟩
    | false => rw [if_neg Bool.false_ne_true]; exact h2.ok fm2 H2 .refl so2 _ (.bl false)
theorem tt_ch2 {o p : Cp} {op op' : CmpOp} (ho : OpR X (compareOp op) (rCmp X.K o)) (hp : OpR X (compareOp op') (rCmp X.K p)) (ha : PE X a (tE X.K cls W ra)) (hb : PE X b (tE X.K cls W rb)) (hc : PE X c (tE X.K cls W rc))
    (h2 : behindInMarks op' c = false) : PT X (.Compare a [op, op'] [b, c] pos) (tT X.K cls W fun ρ S => (ra ρ S).bind fun u S1 => (rb ρ S1).bind fun v S2 => match cmpU S2 o u v with
      | some true => (rc ρ S2).bind fun w S3 => optR S3 ((cmpU S3 p v w).map U.bl)
      | some false => .ok (.bl false) S2
      | none => .stuck) := by
  refine (pt_chain ho hp ha hb hc (by simpa [lastMarks] using h2)).imp fun σ H Q ⟨fm, S, ρ, so, eo, q⟩ => ⟨fm, S, ρ, so, eo, q.bind.imp fun u fm1 S1 H1 st1 so1 h1 v1 r1 => ⟨fm1, S1, ρ, so1, eo.mono st1.toGr, h1.bind.imp fun w fm2 S2 H2 st2 so2 h2 v2 r2 => ?_⟩⟩
  cases e : cmpU S2 o u w with
  | none => rw [e] at h2; exact h2.elim
  | some k =>
    rw [e] at h2
    refine ⟨fm2, S2, u, w, k, so2, r1.mono st2.toGr, r2, e, k, rfl, ?_⟩
    cases k with
    | true =>
      rw [if_pos rfl]
      refine ⟨fm2, S2, ρ, so2, (eo.mono st1.toGr).mono st2.toGr, h2.bind.imp fun x fm3 S3 H3 st3 so3 h3 v3 r3 => ?_⟩
      obtain ⟨z, e, h⟩ := h3.opt
      obtain ⟨k, e', rfl⟩ := Option.map_eq_some_iff.mp e
      obtain ⟨b', eb, hq⟩ := h fm3 H3 .refl so3
      cases eb
      exact ⟨fm3, S3, w, x, k, so3, r2.mono st3.toGr, r3, e', k, rfl, hq⟩
    | false =>
      rw [if_neg Bool.false_ne_true]
      obtain ⟨b', eb, hq⟩ := h2.ok fm2 H2 .refl so2
      cases eb
      exact ⟨false, rfl, hq⟩
/-! ### a[b], a[lo:hi], a[::-1] -/
theorem te_ix (hu : X.A.units + 72 < cLine) (ha : PE X a (tE X.K cls W ra)) (hb : PE X b (tE X.K cls W rb)) (hs : PlainIx b) : PE X (.Subscript a b pos) (tE X.K cls W fun ρ S => (ra ρ S).bind fun u S1 => (rb ρ S1).bind fun v S2 => optR S2 (ixU S2 u v)) :=
  (pe_ix (IxR.or ix_U (ix_DU hu)) ha hb hs).imp fun σ H Q ⟨fm, S, ρ, so, eo, q⟩ => ⟨fm, S, ρ, so, eo, q.bind.imp fun u fm1 S1 H1 st1 so1 h1 v1 r1 => ⟨fm1, S1, ρ, so1, eo.mono st1.toGr, h1.bind.imp fun w fm2 S2 H2 st2 so2 h2 v2 r2 => by
    obtain ⟨z, e, h⟩ := h2.opt
    unfold ixU at e
    split at e
    · rename_i i
      cases r2
      split at e
      · rename_i kvs g
        exact .inr ⟨fm2, S2, u, kvs, i, z, so2, r1.mono st2.toGr, rfl, g, e, fun fm' H' v st so' r => h fm' H' st so' v r⟩
      · split at e
        · rename_i us g1
          exact .inl ⟨fm2, S2, u, us, i, z, so2, r1.mono st2.toGr, rfl, g1, e, fun fm' H' v st so' r => h fm' H' st so' v r⟩
        · cases e
    · cases e⟩⟩
theorem to_none : PO X none (tO X.K cls W fun _ S => .ok none S) := po_none.imp fun σ H Q ⟨fm, S, ρ, so, eo, q⟩ => q fm H .refl so
theorem to_some (ha : PE X a (tE X.K cls W ra)) : PO X (some a) (tO X.K cls W fun ρ S => (ra ρ S).bind fun u S1 => match u with | .int i => .ok (some i) S1 | _ => .stuck) :=
  (po_some ha).imp fun σ H Q ⟨fm, S, ρ, so, eo, q⟩ => ⟨fm, S, ρ, so, eo, q.bind.imp fun u fm1 S1 H1 st1 so1 h1 v1 r1 => by
    cases u <;> first | exact h1.elim | skip
    cases r1
    exact ⟨_, rfl, h1.ok fm1 H1 .refl so1⟩⟩
theorem te_sl {lo hi : Option Expr} {p2 : Pos} {rl rh : Rho → Sto → R (Option Int)} (ha : PE X a (tE X.K cls W ra)) (hl : PO X lo (tO X.K cls W rl)) (hh : PO X hi (tO X.K cls W rh)) :
    PE X (.Subscript a (.Slice lo hi none p2) pos) (tE X.K cls W fun ρ S => (ra ρ S).bind fun u S1 => (rl ρ S1).bind fun l S2 => (rh ρ S2).bind fun h S3 => optR S3 (slU S3 u l h)) :=
  (pe_slice sl_U ha hl hh).imp fun σ H Q ⟨fm, S, ρ, so, eo, q⟩ => ⟨fm, S, ρ, so, eo, q.bind.imp fun u fm1 S1 H1 st1 so1 h1 v1 r1 => ⟨fm1, S1, ρ, so1, eo.mono st1.toGr, h1.bind.imp fun l fm2 S2 H2 st2 so2 h2 =>
    ⟨fm2, S2, ρ, so2, (eo.mono st1.toGr).mono st2.toGr, h2.bind.imp fun h fm3 S3 H3 st3 so3 h3 => by
      obtain ⟨z, e, hq⟩ := h3.opt
      exact ⟨fm3, S3, u, z, so3, (r1.mono st2.toGr).mono st3.toGr, e, fun fm' H' v st so' r => hq fm' H' st so' v r⟩⟩⟩⟩
theorem te_rev {k : Nat} {p1 p2 p3 : Pos} (ha : PE X a (tE X.K cls W ra)) : PE X (.Subscript a (.Slice none none (some (.UnaryOp .USub (.Constant (.int 1) k p1) p2)) p3) pos) (tE X.K cls W fun ρ S => (ra ρ S).bind fun u S1 => optR S1 (revU S1 u)) :=
  (pe_revU ha).imp fun σ H Q ⟨fm, S, ρ, so, eo, q⟩ => ⟨fm, S, ρ, so, eo, q.bind.imp fun u fm1 S1 H1 st1 so1 h1 v1 r1 => by
    obtain ⟨z, e, hq⟩ := h1.opt
    exact ⟨fm1, S1, u, z, so1, r1, e, fun fm' H' v st so' r => hq fm' H' st so' v r⟩⟩
end
end Ev
set_option Elab.async false
set_option linter.all false
set_option maxRecDepth 100000
set_option maxHeartbeats 2000000
/-! Ev10: built-ins called, methods, new lists, as readings. -/
namespace Ev
open PySem PySem.Spec PyProof.Rows L2
section
variable {X : Cx} {cls : Nat → Value} {W : WX} {pos p : Pos} {a b c e : Expr} {es : List Expr} {ra rb rc : Rho → Sto → R U} {rs : Rho → Sto → R (List U)} {x : Str}

theorem te_biB {bi : Bi} {id : String} (hc : CallR X (.builtin id) (rBi X.K bi)) (hg : Gl X x) (hm : X.mg x = none) (hv : bootBuiltins x = some (.builtin id)) (ha : PA X (e :: es) (tEs X.K cls W rs)) (hn : x ≠ "__name__") (hdb : (x == ("__debug__" : Str)) = false)
    (he : starEach (e :: es) X.env = (false, eval e X.env) :: starEach es X.env) (hpl : (backTo pos (starEach es X.env)).any (·.1) = false) :
    PE X (.Call (.Name x p) (e :: es) [] pos) (tE X.K cls W fun ρ S => (rs ρ S).bind fun us S1 => optR S1 (biU S1 bi us)) :=
  (pe_callB hc hg hm hv ha hn hdb he hpl).imp fun σ H Q ⟨fm, S, ρ, so, eo, q⟩ => ⟨fm, S, ρ, so, eo, q.bind.imp fun us fm1 S1 H1 st1 so1 h1 vs rv => by
    obtain ⟨z, e, hq⟩ := h1.opt
    exact ⟨fm1, S1, us, z, so1, rv, e, fun fm' H' v st so' r => hq fm' H' st so' v r⟩⟩
theorem te_biT {bi : Bi} {T : String} (hc : CallR X (.type T) (rBi X.K bi)) (hg : Gl X x) (hm : X.mg x = none) (hv : bootBuiltins x = some (.type T)) (ha : PA X (e :: es) (tEs X.K cls W rs)) (hn : x ≠ "__name__") (hdb : (x == ("__debug__" : Str)) = false)
    (he : starEach (e :: es) X.env = (false, eval e X.env) :: starEach es X.env) (hpl : (backTo pos (starEach es X.env)).any (·.1) = false) :
    PE X (.Call (.Name x p) (e :: es) [] pos) (tE X.K cls W fun ρ S => (rs ρ S).bind fun us S1 => optR S1 (biU S1 bi us)) :=
  (pe_callTy hc hg hm hv ha hn hdb he hpl).imp fun σ H Q ⟨fm, S, ρ, so, eo, q⟩ => ⟨fm, S, ρ, so, eo, q.bind.imp fun us fm1 S1 H1 st1 so1 h1 vs rv => by
    obtain ⟨z, e, hq⟩ := h1.opt
    exact ⟨fm1, S1, us, z, so1, rv, e, fun fm' H' v st so' r => hq fm' H' st so' v r⟩⟩

/-! ### isinstance -/
def Vt.nm : Vt → String
  | .non => "NoneType" | .bl => "bool" | .int => "int" | .str => "str" | .tup => "tuple" | .lst => "list"
def Ty.nm : Ty → String
  | .int => "int" | .bool => "bool" | .str => "str" | .list => "list" | .tuple => "tuple"
theorem kit_vt (k : Vt) (t : Ty) : kitB k.nm t.nm = some (k.is t) := by cases k <;> cases t <;> decide +kernel
theorem vt_ty {K : PySem.W.Frag} {fm : List Addr} {S : Sto} {H : Hp} {u : U} {v : V} {k : Vt} (so : StOk K fm S H) (r : Rp K fm S H u v) (e : vtU S u = some k) : TyX K H v (.type k.nm) := by
  unfold vtU at e
  split at e
  · rename_i h; cases e; rw [rp_non r h]; exact .base .non
  · rename_i h; cases e; rw [rp_bl r h]; exact .base (.bl _)
  · rename_i h; cases e; rw [rp_int r h]; exact .base (.int _)
  · rename_i h; cases e; rw [rp_str r h]; exact .base (.str _)
  · rename_i h; cases e
    have r' := rp_tupU r h
    cases r' with
    | tup h1 _ _ => exact .base (.tup h1)
    | tupK h1 _ =>
      obtain ⟨o, its, n, hk, hc, _⟩ := h1
      exact .kTuple hk hc
  · rename_i h; cases e
    obtain ⟨a, vs, rfl, h1, _⟩ := rp_lst so r h
    exact .base (.lst h1)
  · cases e
theorem te_ist1 {t : Ty} {p2 : Pos} {y : Str} (hg : Gl X x) (hm : X.mg x = none) (hv : bootBuiltins x = some (.builtin "isinstance")) (hgy : Gl X y) (hmy : X.mg y = none) (hvy : bootBuiltins y = some (.type t.nm)) (hny : y ≠ "__name__") (hdy : (y == ("__debug__" : Str)) = false)
    (ha : PE X a (tE X.K cls W ra)) (hn : x ≠ "__name__") (hdb : (x == ("__debug__" : Str)) = false)
    (he : starEach (a :: [.Name y p2]) X.env = (false, eval a X.env) :: starEach [.Name y p2] X.env) :
    PE X (.Call (.Name x p) [a, .Name y p2] [] pos) (tE X.K cls W fun ρ S => (ra ρ S).bind fun u S1 => optR S1 ((vtU S1 u).map fun k => .bl ([t].any k.is))) :=
  (pe_callB call_isi hg hm hv (pa_cons ha (pa_cons (pe_bltn (v := .ty t.nm) hgy hmy hvy rfl hny hdy) pa_nil) he) hn hdb he).imp fun σ H Q ⟨fm, S, ρ, so, eo, q⟩ => ⟨fm, S, ρ, so, eo, q.bind.imp fun u fm1 S1 H1 st1 so1 h1 v1 r1 => by
    obtain ⟨z, e, hq⟩ := h1.opt
    obtain ⟨k, e', rfl⟩ := Option.map_eq_some_iff.mp e
    refine ⟨v1, .ty t.nm, .type k.nm, .type t.nm, k.is t, rfl, .ty _, vt_ty so1 r1 e', kit_ty (kit_vt k t), ?_⟩
    have := hq fm1 H1 .refl so1 _ (.bl _)
    simpa using this⟩
theorem te_ist2 {t1 t2 : Ty} {p2 p3 p4 : Pos} {k0 : Nat} {y z : Str} (hg : Gl X x) (hm : X.mg x = none) (hv : bootBuiltins x = some (.builtin "isinstance"))
    (hgy : Gl X y) (hmy : X.mg y = none) (hvy : bootBuiltins y = some (.type t1.nm)) (hny : y ≠ "__name__") (hdy : (y == ("__debug__" : Str)) = false)
    (hgz : Gl X z) (hmz : X.mg z = none) (hvz : bootBuiltins z = some (.type t2.nm)) (hnz : z ≠ "__name__") (hdz : (z == ("__debug__" : Str)) = false)
    (ha : PE X a (tE X.K cls W ra)) (hn : x ≠ "__name__") (hdb : (x == ("__debug__" : Str)) = false)
    (he : starEach (a :: [.Tuple [.Name y p2, .Name z p3] k0 p4]) X.env = (false, eval a X.env) :: starEach [.Tuple [.Name y p2, .Name z p3] k0 p4] X.env) :
    PE X (.Call (.Name x p) [a, .Tuple [.Name y p2, .Name z p3] k0 p4] [] pos) (tE X.K cls W fun ρ S => (ra ρ S).bind fun u S1 => optR S1 ((vtU S1 u).map fun k => .bl ([t1, t2].any k.is))) :=
  (pe_callB call_isiT hg hm hv (pa_cons ha (pa_cons (pe_tup (pa_cons (pe_bltn (v := .ty t1.nm) hgy hmy hvy rfl hny hdy) (pa_cons (pe_bltn (v := .ty t2.nm) hgz hmz hvz rfl hnz hdz) pa_nil))) pa_nil) he) hn hdb he).imp fun σ H Q ⟨fm, S, ρ, so, eo, q⟩ => ⟨fm, S, ρ, so, eo, q.bind.imp fun u fm1 S1 H1 st1 so1 h1 v1 r1 => by
    obtain ⟨z, e, hq⟩ := h1.opt
    obtain ⟨k, e', rfl⟩ := Option.map_eq_some_iff.mp e
    refine ⟨by show 2 ≤ sizeLine; decide, fun tp htp => ?_⟩
    have st := stp_new (o := .tup [.ty t1.nm, .ty t2.nm]) so1 htp
    have so2 := ok_new (o := .tup [.ty t1.nm, .ty t2.nm]) so1 htp
    have r2 := r1.mono st.toGr
    refine ⟨v1, tp, [.ty t1.nm, .ty t2.nm], .type k.nm, [.type t1.nm, .type t2.nm], k.is t1 || k.is t2, rfl, upd_same, .cons (.ty _) (.cons (.ty _) .nil), vt_ty so2 r2 e', ?_, ?_⟩
    · cases e1 : k.is t1 with
      | true => exact kitAny_cons (b := true) (kit_ty (by rw [kit_vt, e1])) (fun z => nomatch z) (fun _ => rfl)
      | false =>
        refine kitAny_cons (b := false) (kit_ty (by rw [kit_vt, e1])) (fun _ => ?_) (fun z => nomatch z)
        cases e2 : k.is t2 with
        | true => exact kitAny_cons (b := true) (kit_ty (by rw [kit_vt, e2])) (fun z => nomatch z) (fun _ => rfl)
        | false => exact kitAny_cons (b := false) (kit_ty (by rw [kit_vt, e2])) (fun _ => kitAny_nil) (fun z => nomatch z)
    · have := hq fm1 _ st so2 _ (.bl _)
      simpa using this⟩

/-! ### methods of lists -/
theorem ty_lst {K : PySem.W.Frag} {fm : List Addr} {S : Sto} {H : Hp} {u : U} {v : V} {m : Mt} (so : StOk K fm S H) (r : Rp K fm S H u v) (e : mtOk S m u = true) : tyV K "list" v H := by
  unfold mtOk at e
  split at e
  · rename_i h
    obtain ⟨a, vs, rfl, h1, _⟩ := rp_lst so r h
    exact .inl ⟨rfl, vs, SqL.of h1⟩
  · cases e
theorem te_mt0 {m : Mt} {name : Str} {id : String} {apos cpos : Pos} (pa : PlainAttrs "list") (slot : Slot "list" name id) (hty : typeOf (.builtin id) = pure (.type "method_descriptor")) (hm : MtM X id (rMt X.K m)) (ho : PE X a (tE X.K cls W ra))
    (hbase : attributeBase a name X.env (eval a X.env) = eval a X.env) (hline : (apos.endLine == cpos.line) = true) :
    PE X (.Call (.Attribute a name apos) [] [] cpos) (tE X.K cls W fun ρ S => (ra ρ S).bind fun u S1 => if mtOk S1 m u = true then (R.ok [] S1).bind fun us S2 => mthR (mthU S2 m u us) else .stuck) :=
  (pe_bm0 pa slot hty hm ho hbase hline).imp fun σ H Q ⟨fm, S, ρ, so, eo, q⟩ => ⟨fm, S, ρ, so, eo, q.bind.imp fun u fm1 S1 H1 st1 so1 h1 v1 r1 => by
    split at h1
    · rename_i hk
      refine ⟨ty_lst so1 r1 hk, ?_⟩
      replace h1 : Aft X.K cls W σ fm1 S1 H1 (mthR (mthU S1 m u [])) _ := h1
      cases e : mthU S1 m u [] with
      | none => rw [e] at h1; exact h1.elim
      | some zs =>
        obtain ⟨z, S2⟩ := zs
        rw [e] at h1
        exact ⟨fm1, S1, u, [], z, S2, so1, r1, .nil, e, fun fm' H' v st so' r => h1.ok fm' H' st so' v r⟩
    · exact h1.elim⟩
theorem te_mt {m : Mt} {name : Str} {id : String} {apos cpos : Pos} (pa : PlainAttrs "list") (slot : Slot "list" name id) (hty : typeOf (.builtin id) = pure (.type "method_descriptor")) (hm : MtM X id (rMt X.K m)) (ho : PE X a (tE X.K cls W ra)) (ha : PA X (e :: es) (tEs X.K cls W rs))
    (hbase : attributeBase a name X.env (eval a X.env) = eval a X.env)
    (hfew : ((backTo cpos (starEach (e :: es) X.env)).all (fun x => !x.1) && (backToKw cpos (keywordEach [] X.env)).all (fun x => x.1.isSome)
      && decide ((e :: es).length + ([] : List Keyword).length + (if ([] : List Keyword).isEmpty then 0 else 1) < 30)) = true)
    (hline : (apos.endLine == cpos.line) = true) (hs : starEach (e :: es) X.env = (false, eval e X.env) :: starEach es X.env) (hplain : (backTo cpos (starEach es X.env)).any (·.1) = false) :
    PE X (.Call (.Attribute a name apos) (e :: es) [] cpos) (tE X.K cls W fun ρ S => (ra ρ S).bind fun u S1 => if mtOk S1 m u = true then (rs ρ S1).bind fun us S2 => mthR (mthU S2 m u us) else .stuck) :=
  (pe_bm pa slot hty hm ho ha hbase hfew hline hs hplain).imp fun σ H Q ⟨fm, S, ρ, so, eo, q⟩ => ⟨fm, S, ρ, so, eo, q.bind.imp fun u fm1 S1 H1 st1 so1 h1 v1 r1 => by
    split at h1
    · rename_i hk
      refine ⟨ty_lst so1 r1 hk, fm1, S1, ρ, so1, eo.mono st1.toGr, h1.bind.imp fun us fm2 S2 H2 st2 so2 h2 vs rv => ?_⟩
      cases e : mthU S2 m u us with
      | none => rw [e] at h2; exact h2.elim
      | some zs =>
        obtain ⟨z, S3⟩ := zs
        rw [e] at h2
        exact ⟨fm2, S2, u, us, z, S3, so2, r1.mono st2.toGr, rv, e, fun fm' H' v st so' r => h2.ok fm' H' st so' v r⟩
    · exact h1.elim⟩

/-! ### new lists -/
theorem te_qv {rq : Rho → Sto → R (List U)} (h : PE X a (tQ X.K cls W rq)) : PE X a (tE X.K cls W fun ρ S => (rq ρ S).bind fun us S1 => .ok (.lst us) S1) :=
  h.imp fun σ H Q ⟨fm, S, ρ, so, eo, q⟩ => ⟨fm, S, ρ, so, eo, q.bind.imp fun us fm1 S1 H1 st1 so1 h1 vs p rv hp => h1.ok fm1 _ (stp_new so1 hp) (ok_new so1 hp) _ (rp_newL so1 hp rv)⟩
theorem te_qn {rq : Rho → Sto → R (List U)} (h : PE X a (tQ X.K cls W rq)) : PE X a (tE X.K cls W fun ρ S => (rq ρ S).bind fun us S1 => .ok (.ref S1.length) (S1 ++ [.liv (.lst us)])) :=
  h.imp fun σ H Q ⟨fm, S, ρ, so, eo, q⟩ => ⟨fm, S, ρ, so, eo, q.bind.imp fun us fm1 S1 H1 st1 so1 h1 vs p rv hp => by
    refine h1.ok (fm1 ++ [p]) _ (stp_put so1 hp) (ok_put so1 hp rv) _ (.ref ?_)
    rw [← so1.len, List.getElem?_append_right (Nat.le_refl _)]
    simp⟩
theorem te_frz (h : PE X a (tE X.K cls W ra)) : PE X a (tE X.K cls W fun ρ S => (ra ρ S).bind fun u S1 => match u with
    | .ref n => match S1[n]? with
      | some (.liv (.lst xs)) => .ok (.lst xs) (S1.set n .ded)
      | _ => .stuck
    | _ => .ok u S1) :=
  h.imp fun σ H Q ⟨fm, S, ρ, so, eo, q⟩ => ⟨fm, S, ρ, so, eo, q.bind.imp fun u fm1 S1 H1 st1 so1 h1 v1 r1 => by
    split at h1
    · rename_i n
      split at h1
      · rename_i xs hs
        cases r1 with
        | ref hf =>
          rename_i a'
          obtain ⟨vs, e1, rv⟩ := so1.obj _ _ _ hf hs
          have st := stp_cell (c' := .ded) so1 hs
          refine h1.ok fm1 H1 st (ok_cell so1 hs (.inr rfl)) _ (.lst e1 ?_ (rv.mono st.toGr))
          rintro ⟨m, c, f1, f2, f3⟩
          have : m = n := so1.inj _ _ _ f1 hf
          subst this
          rw [List.getElem?_set_self (List.getElem?_eq_some_iff.mp hs).1] at f2
          cases f2
          exact f3 rfl
      · exact h1.elim
    · exact h1.ok fm1 H1 .refl so1 v1 r1⟩
theorem tq_disp (hs : PA X es (tEs X.K cls W rs)) (hr : ∀ ρ S us S', rs ρ S = .ok us S' → us.length ≤ 1000) : PE X (.List es pos) (tQ X.K cls W rs) :=
  (pe_lst hs).imp fun σ H Q ⟨fm, S, ρ, so, eo, q⟩ => by
    refine ⟨fm, S, ρ, so, eo, ?_⟩
    have hl := hr ρ S
    revert hl
    revert q
    cases rs ρ S with
    | ok us S1 =>
      intro q hl fm1 H1 st1 so1 vs rv
      refine ⟨by rw [← rv.length, ← lim_eq]; exact Nat.le_trans (hl us S1 rfl) (by decide), fun p hp => q fm1 H1 st1 so1 vs p rv hp⟩
    | ex c S1 => exact fun q _ => q
    | stuck => exact fun q _ => q
theorem tq_lof (hg : Gl X x) (hm : X.mg x = none) (hv : bootBuiltins x = some (.type "list")) (ha : PE X a (tE X.K cls W ra)) (hn : x ≠ "__name__") (hdb : (x == ("__debug__" : Str)) = false) (he : starEach [a] X.env = (false, eval a X.env) :: starEach [] X.env) :
    PE X (.Call (.Name x p) [a] [] pos) (tQ X.K cls W fun ρ S => (ra ρ S).bind fun u S1 => optR S1 (seqOf S1 u)) :=
  (pe_callTy cr_lofU hg hm hv (pa_cons ha pa_nil he) hn hdb he).imp fun σ H Q ⟨fm, S, ρ, so, eo, q⟩ => ⟨fm, S, ρ, so, eo, q.bind.imp fun u fm1 S1 H1 st1 so1 h1 v1 r1 => by
    obtain ⟨z, e, hq⟩ := h1.opt
    exact ⟨fm1, S1, u, z, so1, .cons r1 .nil, e, fun fm' H' vs p st so' r hp => hq fm' H' st so' vs p r hp⟩⟩
theorem tq_srt (hg : Gl X x) (hm : X.mg x = none) (hv : bootBuiltins x = some (.builtin "sorted")) (ha : PE X a (tE X.K cls W ra)) (hn : x ≠ "__name__") (hdb : (x == ("__debug__" : Str)) = false) (he : starEach [a] X.env = (false, eval a X.env) :: starEach [] X.env) :
    PE X (.Call (.Name x p) [a] [] pos) (tQ X.K cls W fun ρ S => (ra ρ S).bind fun u S1 => match seqOf S1 u with | some xs => optR S1 (srtU xs) | none => .stuck) :=
  (pe_callB cr_srtU hg hm hv (pa_cons ha pa_nil he) hn hdb he).imp fun σ H Q ⟨fm, S, ρ, so, eo, q⟩ => ⟨fm, S, ρ, so, eo, q.bind.imp fun u fm1 S1 H1 st1 so1 h1 v1 r1 => by
    split at h1
    · rename_i xs h2
      obtain ⟨z, e, hq⟩ := h1.opt
      exact ⟨fm1, S1, u, xs, z, so1, .cons r1 .nil, h2, e, fun fm' H' vs p st so' r hp => hq fm' H' st so' vs p r hp⟩
    · exact h1.elim⟩
end
end Ev
set_option Elab.async false
set_option linter.all false
set_option maxRecDepth 100000
set_option maxHeartbeats 2000000
/-! Ev11: targets; what is walked. -/
namespace Ev
open PySem PySem.Spec PyProof.Rows L2
section
variable {K : PySem.W.Frag} {cls : Nat → Value} {W : WX} {fm fm' : List Addr} {S S' : Sto} {H H' : Hp}
theorem EnvOk.set {ρ : Rho} {σ : L2.St} {i : Nat} {u : U} {v : V} (h : EnvOk K fm S H ρ σ) (r : Rp K fm S H u v) : EnvOk K fm S H (ρ.set i (some u)) (σ.set i (some v)) := by
  refine ⟨by simp [h.1], fun j w e => ?_⟩
  by_cases hj : i = j
  · subst hj
    rw [List.getElem?_set] at e ⊢
    simp only [if_true] at e ⊢
    split at e
    · rename_i hl
      cases e
      exact ⟨v, by rw [if_pos (by rw [← h.1]; exact hl)], r⟩
    · cases e
  · rw [List.getElem?_set_ne hj] at e
    obtain ⟨v', e1, r'⟩ := h.2 j w e
    exact ⟨v', by rw [List.getElem?_set_ne hj]; exact e1, r'⟩
theorem EnvOk.unset {ρ : Rho} {σ : L2.St} {i : Nat} (h : EnvOk K fm S H ρ σ) : EnvOk K fm S H (ρ.set i none) (σ.set i none) := by
  refine ⟨by simp [h.1], fun j w e => ?_⟩
  by_cases hj : i = j
  · subst hj
    rw [List.getElem?_set] at e
    simp only [if_true] at e
    split at e <;> cases e
  · rw [List.getElem?_set_ne hj] at e
    obtain ⟨v', e1, r'⟩ := h.2 j w e
    exact ⟨v', by rw [List.getElem?_set_ne hj]; exact e1, r'⟩

/-- the names apart from wr stand as they stood -/
def Same (wr : Nat → Prop) (σ σ' : L2.St) : Prop := σ'.length = σ.length ∧ ∀ i, ¬ wr i → σ'[i]? = σ[i]?
theorem Same.refl {wr : Nat → Prop} {σ : L2.St} : Same wr σ σ := ⟨rfl, fun _ _ => rfl⟩
theorem Same.trans {wr : Nat → Prop} {σ σ' σ'' : L2.St} (h : Same wr σ σ') (h' : Same wr σ' σ'') : Same wr σ σ'' := ⟨h'.1.trans h.1, fun i n => (h'.2 i n).trans (h.2 i n)⟩
def tG (K : PySem.W.Frag) (wr : Nat → Prop) (g : U → Rho → Sto → Option (Rho × Sto)) : TG := fun v σ H Q =>
  ∃ fm S ρ u, StOk K fm S H ∧ EnvOk K fm S H ρ σ ∧ Rp K fm S H u v ∧ ∃ ρ' S', g u ρ S = some (ρ', S') ∧ ∀ fm' σ' H', Stp fm S H fm' S' H' → StOk K fm' S' H' → EnvOk K fm' S' H' ρ' σ' → Same wr σ σ' → Q σ' H'
def tGs (K : PySem.W.Frag) (wr : Nat → Prop) (g : List U → Rho → Sto → Option (Rho × Sto)) : TGs := fun vs σ H Q =>
  ∃ fm S ρ us, StOk K fm S H ∧ EnvOk K fm S H ρ σ ∧ Rps K fm S H us vs ∧ ∃ ρ' S', g us ρ S = some (ρ', S') ∧ ∀ fm' σ' H', Stp fm S H fm' S' H' → StOk K fm' S' H' → EnvOk K fm' S' H' ρ' σ' → Same wr σ σ' → Q σ' H'
theorem _root_.L2.PG.imp {X : Cx} {e : Expr} {t t' : TG} (h : PG X e t) (i : ∀ v σ H Q, t' v σ H Q → t v σ H Q) : PG X e t' := ⟨fun pins s σ H v u Q I r q => h.run pins s σ H v u Q I r (i v σ H Q q)⟩
theorem _root_.L2.PGs.imp {X : Cx} {e : List Expr} {t t' : TGs} (h : PGs X e t) (i : ∀ v σ H Q, t' v σ H Q → t v σ H Q) : PGs X e t' := ⟨fun pins s σ H v u Q I r q => h.run pins s σ H v u Q I r (i v σ H Q q)⟩
theorem _root_.L2.PI.imp {X : Cx} {tg e : Expr} {t t' : TI} (h : PI X tg e t) (i : ∀ σ H Q, t' σ H Q → t σ H Q) : PI X tg e t' := ⟨fun pins s σ H Q I q => h.run pins s σ H Q I (i σ H Q q)⟩
theorem _root_.L2.PS.imp {X : Cx} {e : Stmt} {t t' : TS} (h : PS X e t) (i : ∀ D σ H, t' D σ H → t D σ H) : PS X e t' := ⟨fun pins s σ H D I q => h.run pins s σ H D I (i D σ H q)⟩
theorem _root_.L2.PSs.imp {X : Cx} {e : List Stmt} {t t' : TS} (h : PSs X e t) (i : ∀ D σ H, t' D σ H → t D σ H) : PSs X e t' := ⟨fun pins s σ H D I q => h.run pins s σ H D I (i D σ H q)⟩
end
section
variable {X : Cx} {cls : Nat → Value} {W : WX} {pos p : Pos} {a b c e : Expr} {es : List Expr} {ra rb rc : Rho → Sto → R U} {x : Str} {wr : Nat → Prop}
theorem tg_name {i : Nat} (hN : X.N.Nodup) (hi : X.N[i]? = some x) (hx : Loc X.env.scope x) (hf : X.fn x = true ∨ X.env.scope.names.lookup x = some .local) (hw : wr i) :
    PG X (.Name x pos) (tG X.K wr fun u ρ S => if i < ρ.length then some (ρ.set i (some u), S) else none) :=
  (pg_name hN hi hx hf).imp fun v σ H Q ⟨fm, S, ρ, u, so, eo, ru, ρ', S', e, q⟩ => by
    dsimp only at e
    split at e
    · cases e
      exact q fm _ H .refl so (eo.set ru) ⟨List.length_set, fun j hj => List.getElem?_set_ne (fun z => hj (by rw [← z]; exact hw))⟩
    · cases e
theorem tgs_nil : PGs X [] (tGs X.K wr fun us ρ S => match us with | [] => some (ρ, S) | _ => none) :=
  pgs_nil.imp fun v σ H Q ⟨fm, S, ρ, us, so, eo, ru, ρ', S', e, q⟩ => by
    cases us with
    | nil => cases ru; cases e; exact ⟨rfl, q fm σ H .refl so eo .refl⟩
    | cons _ _ => cases e
theorem tgs_cons {g : U → Rho → Sto → Option (Rho × Sto)} {gs : List U → Rho → Sto → Option (Rho × Sto)} (h1 : PG X e (tG X.K wr g)) (h2 : PGs X es (tGs X.K wr gs))
    (hs : (assignEach (e :: es) X.env).map (·.2) = assign e X.env :: (assignEach es X.env).map (·.2)) :
    PGs X (e :: es) (tGs X.K wr fun us ρ S => match us with | u :: us => (match g u ρ S with | some (ρ1, S1) => gs us ρ1 S1 | none => none) | [] => none) :=
  (pgs_cons h1 h2 hs).imp fun v σ H Q ⟨fm, S, ρ, us, so, eo, ru, ρ', S', e, q⟩ => by
    cases ru with
    | nil => cases e
    | @cons u v1 us vs r1 r2 =>
      simp only at e
      cases e1 : g u ρ S with
      | none => rw [e1] at e; cases e
      | some rs =>
        obtain ⟨ρ1, S1⟩ := rs
        rw [e1] at e
        exact ⟨v1, vs, rfl, fm, S, ρ, u, so, eo, r1, ρ1, S1, e1, fun fm1 σ1 H1 st1 so1 eo1 sm1 => ⟨fm1, S1, ρ1, us, so1, eo1, r2.mono st1.toGr, ρ', S', e, fun fm2 σ2 H2 st2 so2 eo2 sm2 => q fm2 σ2 H2 (st1.trans st2) so2 eo2 (sm1.trans sm2)⟩⟩
theorem tg_tup {k n : Nat} {gs : List U → Rho → Sto → Option (Rho × Sto)} (hc : X.calm = true) (h : PGs X es (tGs X.K wr gs)) (hn : (assignEach es X.env).length = n) (hst : (assignEach es X.env).findIdx? (·.1) = none) :
    PG X (.Tuple es k pos) (tG X.K wr fun u ρ S => match unpack n u S with | some us => gs us ρ S | none => none) :=
  have both : PG X (.Tuple es k pos) (fun v σ H Q => gTup X.K n (tGs X.K wr gs) v σ H Q ∨ gUnl X.K n (tGs X.K wr gs) v σ H Q) :=
    ⟨fun pins s σ H v u Q I r q => q.elim (fun q => (pg_tup hc h hn hst).run pins s σ H v u Q I r q) (fun q => (pg_unl hc h hn hst).run pins s σ H v u Q I r q)⟩
  both.imp fun v σ H Q ⟨fm, S, ρ, u, so, eo, ru, ρ', S', e, q⟩ => by
    dsimp only at e
    cases e1 : unpack n u S with
    | none => rw [e1] at e; cases e
    | some us =>
      rw [e1] at e
      unfold unpack at e1
      split at e1
      · rename_i xs hx
        split at e1
        · rename_i hl
          cases e1
          obtain ⟨a, vs, rfl, hs, rv⟩ := rp_seq so ru hx
          have fin : tGs X.K wr gs vs σ H Q := ⟨fm, S, ρ, us, so, eo, rv, ρ', S', e, q⟩
          rcases hs with hs | hs
          · exact .inr ⟨a, vs, rfl, hs, by rw [← rv.length]; exact hl, fin⟩
          · exact .inl ⟨a, vs, rfl, hs, by rw [← rv.length]; exact hl, fin⟩
        · cases e1
      · cases e1
theorem _root_.L2.PSet.or {t t' : TSet} (h : PSet X t) (h' : PSet X t') : PSet X (fun o i v H Q => t o i v H Q ∨ t' o i v H Q) := fun pins s σ H o i v ov iv u Q I ro ri rv q => q.elim (fun q => h pins s σ H o i v ov iv u Q I ro ri rv q) fun q => h' pins s σ H o i v ov iv u Q I ro ri rv q
theorem tg_ix (hu : X.A.units + 72 < cLine) (ha : PE X a (tE X.K cls (fun _ _ _ _ => False) ra)) (hb : PE X b (tE X.K cls (fun _ _ _ _ => False) rb)) (hs : ∀ v, assign (.Subscript a b pos) X.env v = (do
      let ov ← holding [v] (eval a X.env)
      let iv ← holding [v, ov] (eval b X.env)
      standAt pos
      holding [v, ov, iv] (setItem ov iv v)
      release [v, ov, iv] [])) :
    PG X (.Subscript a b pos) (tG X.K wr fun v ρ S => match ra ρ S with
      | .ok (.ref n) S1 => match rb ρ S1 with
        | .ok (.int i) S2 => match S2[n]? with
          | some (.liv (.lst xs)) => match ixN xs.length i with
            | some k => some (ρ, S2.set n (.liv (.lst (xs.set k v))))
            | none => none
          | some (.liv (.dct kvs)) => if kvs.length < lim then some (ρ, S2.set n (.liv (.dct (dputU kvs i v)))) else none
          | _ => none
        | _ => none
      | _ => none) :=
  (pg_sub ha hb (PSet.or set_list (set_dict (Nat.lt_of_le_of_lt (Nat.add_le_add_left (by decide : 1 ≤ 72) _) hu))) hs).imp fun v σ H Q ⟨fm, S, ρ, u, so, eo, ru, ρ', S', e, q⟩ => by
    refine ⟨fm, S, ρ, so, eo, ?_⟩
    dsimp only at e
    split at e <;> first | contradiction | skip
    rename_i n S1 e1
    split at e <;> first | contradiction | skip
    rename_i i S2 e2
    rw [e1]
    intro fm1 H1 st1 so1 o ro
    refine ⟨fm1, S1, ρ, so1, eo.mono st1.toGr, ?_⟩
    rw [e2]
    intro fm2 H2 st2 so2 iv ri
    have ro2 := ro.mono st2.toGr
    have ru2 := (ru.mono st1.toGr).mono st2.toGr
    cases ro2 with
    | ref hf =>
      cases ri
      split at e <;> first | contradiction | skip
      · rename_i xs hs
        split at e <;> first | contradiction | skip
        rename_i k hk
        cases e
        obtain ⟨vs, h1, rv⟩ := so2.obj _ _ _ hf hs
        have hk' := hk
        rw [ixN_eq, rv.length] at hk'
        refine .inl ⟨_, vs, i, k, rfl, rfl, h1, hk', ?_⟩
        have st := stp_set (o' := .lst (xs.set k u)) (ho := .lst (vs.set k v)) so2 hf hs
        exact q fm2 σ _ (st1.trans (st2.trans st)) (ok_set so2 hf hs (rv.set ru2 k)) (((eo.mono st1.toGr).mono st2.toGr).mono st.toGr) .refl
      · rename_i kvs hs
        split at e <;> first | contradiction | skip
        rename_i hl
        cases e
        obtain ⟨vs, h1, rk⟩ := so2.obj _ _ _ hf hs
        refine .inr ⟨_, _, rfl, DPut.k (k := .inl i) (v := v) h1 (by rw [← rk.length, ← lim_eq]; exact hl), ?_⟩
        have st := stp_set (o' := .dct (dputU kvs i u)) (ho := .dK (putK vs (.inl i) v)) so2 hf hs
        exact q fm2 σ _ (st1.trans (st2.trans st)) (ok_setO so2 hf hs ⟨_, upd_same, (rk.put ru2).mono st.toGr⟩) (((eo.mono st1.toGr).mono st2.toGr).mono st.toGr) .refl
end

/-! ### what is walked -/
/-- at turn i it yields item i of us, while Pf holds -/
structure WU (K : PySem.W.Frag) (J : It) (us : List U) (Pf : List Addr → Sto → Hp → Prop) : Prop where
  goes : ∀ (i : Nat) fm S H, i < us.length → StOk K fm S H → Pf fm S H → J.go i H
  stops : ∀ fm S H, StOk K fm S H → Pf fm S H → J.stop us.length H
  yields : ∀ (i : Nat) fm S H x H', i < us.length → StOk K fm S H → Pf fm S H → J.yld i H x H' → ∃ u, us[i]? = some u ∧ Stp fm S H fm S H' ∧ StOk K fm S H' ∧ Rp K fm S H' u x
  keep : ∀ fm S H fm' S' H', Pf fm S H → Stp fm S H fm' S' H' → Pf fm' S' H'
  lockY : ∀ (i : Nat) H x H' D vs od, J.yld i H x H' → H D = some (.lst vs) → H' D = some (.lst vs) ∧ J.yld i (upd H D (.frz od (.lst vs))) x (upd H' D (.frz od (.lst vs)))
def lockO (S : Sto) : Option Nat → Sto
  | none => S
  | some n => lockS S n
def tI (K : PySem.W.Frag) (cls : Nat → Value) (W : WX) (r : Rho → Sto → R (List U × Option Nat)) : TI := fun σ H R =>
  ∃ fm S ρ, StOk K fm S H ∧ EnvOk K fm S H ρ σ ∧ Aft K cls W σ fm S H (r ρ S) fun p fm' S' H' => ∀ J Pf, WU K J p.1 Pf → Pf fm' (lockO S' p.2) H' → R J H'

theorem upd_upd {H : Hp} {a : Addr} {o o' : HO} : upd (upd H a o) a o' = upd H a o' := by
  funext b
  by_cases h : b = a
  · subst h; rw [upd_same, upd_same]
  · rw [upd_ne h, upd_ne h, upd_ne h]
theorem upd_comm {H : Hp} {a b : Addr} {o o' : HO} (h : a ≠ b) : upd (upd H a o) b o' = upd (upd H b o') a o := by
  funext c
  by_cases h1 : c = a
  · subst h1; rw [upd_ne h, upd_same, upd_same]
  · by_cases h2 : c = b
    · subst h2; rw [upd_same, upd_ne h1, upd_same]
    · rw [upd_ne h2, upd_ne h1, upd_ne h1, upd_ne h2]
theorem sqL_lock {K : PySem.W.Frag} {H : Hp} {D a : Addr} {vs xs : List V} {od : Obj} (hD : H D = some (.lst vs)) (h : SqL K (upd H D (.frz od (.lst vs))) a xs) : SqL K H a xs := by
  rcases h with (h | ⟨o, h⟩) | h
  · by_cases z : a = D
    · subst z; rw [upd_same] at h; cases h
    · rw [upd_ne z] at h; exact .inl (.inl h)
  · by_cases z : a = D
    · subst z; rw [upd_same] at h; cases h; exact .inl (.inl hD)
    · rw [upd_ne z] at h; exact .inl (.inr ⟨o, h⟩)
  · exact .inr h
theorem sqT_lock {K : PySem.W.Frag} {H : Hp} {D a : Addr} {vs xs : List V} {od : Obj} (hD : H D = some (.lst vs)) (h : SqT K (upd H D (.frz od (.lst vs))) a xs) : SqT K H a xs := by
  rcases h with (h | ⟨o, h⟩) | h
  · by_cases z : a = D
    · subst z; rw [upd_same] at h; cases h
    · rw [upd_ne z] at h; exact .inl (.inl h)
  · by_cases z : a = D
    · subst z; rw [upd_same] at h; cases h
    · rw [upd_ne z] at h; exact .inl (.inr ⟨o, h⟩)
  · exact .inr h
/-- what a pair's yield says of a lock -/
theorem lock_pair {H H' : Hp} {D T : Addr} {vs : List V} {od : Obj} {u : HO} (hD : H D = some (.lst vs)) (hT : H T = none) (e : H' = upd H T u) :
    H' D = some (.lst vs) ∧ (upd H D (.frz od (.lst vs))) T = none ∧ upd H' D (.frz od (.lst vs)) = upd (upd H D (.frz od (.lst vs))) T u := by
  have hne : D ≠ T := fun z => by subst z; rw [hD] at hT; cases hT
  subst e
  exact ⟨by rw [upd_ne hne]; exact hD, by rw [upd_ne hne.symm]; exact hT, upd_comm hne.symm⟩

section
variable {K : PySem.W.Frag}
theorem rp_tupA {fm : List Addr} {S : Sto} {H : Hp} {us : List U} {a : Addr} (r : Rp K fm S H (.tup us) (.ref a)) : ∃ vs, SqT K H a vs ∧ Rps K fm S H us vs := by
  obtain ⟨b, vs, e, h, rv⟩ := rp_tup (us := us) r rfl
  cases e
  exact ⟨vs, h, rv⟩
theorem rp_lstA {fm : List Addr} {S : Sto} {H : Hp} {us : List U} {a : Addr} (r : Rp K fm S H (.lst us) (.ref a)) : ∃ vs, SqL K H a vs ∧ Rps K fm S H us vs := by
  cases r with
  | lst h1 _ h3 => exact ⟨_, SqL.of h1, h3⟩
/-- the list of the store at n, locked -/
def Lkd (n : Nat) (a : Addr) (us : List U) : List Addr → Sto → Hp → Prop := fun fm S _ => fm[n]? = some a ∧ S[n]? = some (.lck (.lst us))
theorem Lkd.keep {n : Nat} {a : Addr} {us : List U} (fm S H fm' S' H') (h : Lkd n a us fm S H) (st : Stp fm S H fm' S' H') : Lkd n a us fm' S' H' := ⟨st.ext _ _ h.1, (st.lk _ _ _ h.1 h.2).1⟩
theorem Lkd.lst {n : Nat} {a : Addr} {us : List U} {fm : List Addr} {S : Sto} {H : Hp} (so : StOk K fm S H) (h : Lkd n a us fm S H) : ∃ vs, SqL K H a vs ∧ Rps K fm S H us vs := by
  obtain ⟨vs, h1, rv⟩ := so.obj _ _ _ h.1 h.2
  exact ⟨vs, SqL.of h1, rv⟩
theorem wu_tup {us : List U} {a : Addr} : WU K (Itt K a) us (fun fm S H => Rp K fm S H (.tup us) (.ref a)) where
  goes := fun i fm S H hi so h => by
    obtain ⟨vs, h1, rv⟩ := rp_tupA h
    exact ⟨vs, vs[i]'(by rw [← rv.length]; exact hi), h1, by simp⟩
  stops := fun fm S H so h => by
    obtain ⟨vs, h1, rv⟩ := rp_tupA h
    exact ⟨vs, h1, by rw [rv.length]; exact Nat.le_refl _⟩
  yields := fun i fm S H x H' hi so h y => by
    obtain ⟨vs, h1, rv⟩ := rp_tupA h
    obtain ⟨rfl, y⟩ := y
    obtain ⟨u, e, r⟩ := rv.getV (y vs h1)
    exact ⟨u, e, .refl, so, r⟩
  keep := fun fm S H fm' S' H' h st => h.mono st.toGr
  lockY := fun i H x H' D vs od ⟨e, y⟩ hD => by subst e; exact ⟨hD, rfl, fun xs h => y xs (sqT_lock hD h)⟩
theorem wu_lstG {us : List U} {a : Addr} {Pf : List Addr → Sto → Hp → Prop} (hp : ∀ fm S H, StOk K fm S H → Pf fm S H → ∃ vs, SqL K H a vs ∧ Rps K fm S H us vs) (hk : ∀ fm S H fm' S' H', Pf fm S H → Stp fm S H fm' S' H' → Pf fm' S' H') : WU K (Itl K a) us Pf where
  goes := fun i fm S H hi so h => by
    obtain ⟨vs, h1, rv⟩ := hp fm S H so h
    exact ⟨vs, vs[i]'(by rw [← rv.length]; exact hi), h1, by simp⟩
  stops := fun fm S H so h => by
    obtain ⟨vs, h1, rv⟩ := hp fm S H so h
    exact ⟨vs, h1, by rw [rv.length]; exact Nat.le_refl _⟩
  yields := fun i fm S H x H' hi so h y => by
    obtain ⟨vs, h1, rv⟩ := hp fm S H so h
    obtain ⟨rfl, y⟩ := y
    obtain ⟨u, e, r⟩ := rv.getV (y vs h1)
    exact ⟨u, e, .refl, so, r⟩
  keep := hk
  lockY := fun i H x H' D vs od ⟨e, y⟩ hD => by subst e; exact ⟨hD, rfl, fun xs h => y xs (sqL_lock hD h)⟩
theorem wu_lst {us : List U} {a : Addr} : WU K (Itl K a) us (fun fm S H => Rp K fm S H (.lst us) (.ref a)) :=
  wu_lstG (fun fm S H so h => rp_lstA h) fun fm S H fm' S' H' h st => h.mono st.toGr
theorem wu_lkd {us : List U} {a : Addr} {n : Nat} : WU K (Itl K a) us (Lkd n a us) :=
  wu_lstG (fun fm S H so h => h.lst so) Lkd.keep
theorem iotaU_length : ∀ (n : Nat) (lo : Int), (iotaU lo n).length = n
  | 0, _ => rfl
  | n + 1, lo => congrArg (· + 1) (iotaU_length n (lo + 1))
theorem iotaU_get : ∀ (n : Nat) (lo : Int) (i : Nat), i < n → (iotaU lo n)[i]? = some (.int (lo + i))
  | 0, _, _, h => by omega
  | n + 1, lo, 0, _ => by simp [iotaU]
  | n + 1, lo, i + 1, h => by
    show (iotaU (lo + 1) n)[i]? = _
    rw [iotaU_get n (lo + 1) i (by omega)]
    congr 2
    omega
theorem iotaC_length (c : Int) : ∀ (n : Nat) (lo : Int), (iotaC lo c n).length = n
  | 0, _ => rfl
  | n + 1, lo => congrArg (· + 1) (iotaC_length c n (lo + c))
theorem iotaC_get (c : Int) : ∀ (n : Nat) (lo : Int) (i : Nat), i < n → (iotaC lo c n)[i]? = some (.int (lo + (i : Nat) * c))
  | 0, _, _, h => by omega
  | n + 1, lo, 0, _ => by simp [iotaC]
  | n + 1, lo, i + 1, h => by
    show (iotaC (lo + c) c n)[i]? = _
    rw [iotaC_get c n (lo + c) i (by omega)]
    congr 2
    have : ((i + 1 : Nat) : Int) * c = (i : Int) * c + c := by rw [Int.natCast_add, Int.add_mul]; simp
    omega
theorem wu_rng {lo : Int} {n : Nat} : WU K (Itr lo n) (iotaU lo n) (fun _ _ _ => True) where
  goes := fun i fm S H hi _ _ => by rw [iotaU_length] at hi; exact hi
  stops := fun fm S H _ _ => by rw [iotaU_length]; exact Nat.le_refl _
  yields := fun i fm S H x H' hi so _ y => by
    rw [iotaU_length] at hi
    obtain ⟨rfl, rfl⟩ := y
    exact ⟨_, iotaU_get n lo i hi, .refl, so, .int _⟩
  keep := fun _ _ _ _ _ _ _ _ => trivial
  lockY := fun i H x H' D vs od ⟨e, y⟩ hD => by subst e; exact ⟨hD, rfl, y⟩
theorem wu_rngC {lo c : Int} {n : Nat} : WU K (Itc lo c n) (iotaC lo c n) (fun _ _ _ => True) where
  goes := fun i fm S H hi _ _ => by rw [iotaC_length] at hi; exact hi
  stops := fun fm S H _ _ => by rw [iotaC_length]; exact Nat.le_refl _
  yields := fun i fm S H x H' hi so _ y => by
    rw [iotaC_length] at hi
    obtain ⟨rfl, rfl⟩ := y
    exact ⟨_, iotaC_get c n lo i hi, .refl, so, .int _⟩
  keep := fun _ _ _ _ _ _ _ _ => trivial
  lockY := fun i H x H' D vs od ⟨e, y⟩ hD => by subst e; exact ⟨hD, rfl, y⟩
theorem zipU_length : ∀ (xs ys : List U), (zipU xs ys).length = min xs.length ys.length
  | [], _ => by simp [zipU]
  | _ :: _, [] => by simp [zipU]
  | x :: xs, y :: ys => by
    show (zipU xs ys).length + 1 = _
    rw [zipU_length xs ys, List.length_cons, List.length_cons]
    omega
theorem zipU_get : ∀ (xs ys : List U) (i : Nat) (x y : U), xs[i]? = some x → ys[i]? = some y → (zipU xs ys)[i]? = some (.tup [x, y])
  | [], _, _, _, _, h, _ => by simp at h
  | _ :: _, [], _, _, _, _, h => by simp at h
  | x :: xs, y :: ys, 0, _, _, h1, h2 => by simp at h1 h2; subst h1 h2; rfl
  | x :: xs, y :: ys, i + 1, a, b, h1, h2 => by
    show (zipU xs ys)[i]? = _
    exact zipU_get xs ys i a b (by simpa using h1) (by simpa using h2)
theorem enumU_length : ∀ (xs : List U) (k : Nat), (enumU k xs).length = xs.length
  | [], _ => rfl
  | x :: xs, k => congrArg (· + 1) (enumU_length xs (k + 1))
theorem enumU_get : ∀ (xs : List U) (k i : Nat) (x : U), xs[i]? = some x → (enumU k xs)[i]? = some (.tup [.int ((k + i : Nat) : Int), x])
  | [], _, _, _, h => by simp at h
  | x :: xs, k, 0, _, h => by simp at h; subst h; rfl
  | x :: xs, k, i + 1, y, h => by
    show (enumU (k + 1) xs)[i]? = _
    rw [enumU_get xs (k + 1) i y (by simpa using h)]
    congr 4
    omega
theorem wu_zipG {SA SB : Hp → List V → Prop} {us ws : List U} {J : It} {Pf : List Addr → Sto → Hp → Prop}
    (hp : ∀ fm S H, StOk K fm S H → Pf fm S H → ∃ vs zs, SA H vs ∧ SB H zs ∧ Rps K fm S H us vs ∧ Rps K fm S H ws zs) (hk : ∀ fm S H fm' S' H', Pf fm S H → Stp fm S H fm' S' H' → Pf fm' S' H')
    (go : ∀ i H, (∃ (xs ys : List V) (x y : V), SA H xs ∧ SB H ys ∧ xs[i]? = some x ∧ ys[i]? = some y) → J.go i H)
    (yld : ∀ i H v H', J.yld i H v H' → ∃ T x y, v = .ref T ∧ H T = none ∧ H' = upd H T (.tup [x, y]) ∧ (∀ xs, SA H xs → xs[i]? = some x) ∧ ∀ ys, SB H ys → ys[i]? = some y)
    (stop : ∀ i H, (∃ xs ys : List V, SA H xs ∧ SB H ys ∧ (xs.length ≤ i ∨ ys.length ≤ i)) → J.stop i H)
    (yld2 : ∀ i H v H', (∃ T x y, v = .ref T ∧ H T = none ∧ H' = upd H T (.tup [x, y]) ∧ (∀ xs, SA H xs → xs[i]? = some x) ∧ ∀ ys, SB H ys → ys[i]? = some y) → J.yld i H v H')
    (lkA : ∀ H D vs od xs, H D = some (.lst vs) → SA (upd H D (.frz od (.lst vs))) xs → SA H xs) (lkB : ∀ H D vs od xs, H D = some (.lst vs) → SB (upd H D (.frz od (.lst vs))) xs → SB H xs) : WU K J (zipU us ws) Pf where
  goes := fun i fm S H hi so h => by
    obtain ⟨vs, zs, h1, h2, r1, r2⟩ := hp fm S H so h
    rw [zipU_length] at hi
    exact go i H ⟨vs, zs, vs[i]'(by rw [← r1.length]; omega), zs[i]'(by rw [← r2.length]; omega), h1, h2, by simp, by simp⟩
  stops := fun fm S H so h => by
    obtain ⟨vs, zs, h1, h2, r1, r2⟩ := hp fm S H so h
    refine stop _ H ⟨vs, zs, h1, h2, ?_⟩
    rw [zipU_length, r1.length, r2.length]
    omega
  yields := fun i fm S H x H' hi so h y => by
    obtain ⟨vs, zs, h1, h2, r1, r2⟩ := hp fm S H so h
    obtain ⟨T, v1, v2, rfl, hT, rfl, y1, y2⟩ := yld i H x H' y
    obtain ⟨u1, e1, q1⟩ := r1.getV (y1 vs h1)
    obtain ⟨u2, e2, q2⟩ := r2.getV (y2 zs h2)
    exact ⟨_, zipU_get us ws i u1 u2 e1 e2, stp_new so hT, ok_new so hT, rp_newT so hT (.cons q1 (.cons q2 .nil))⟩
  keep := hk
  lockY := fun i H v H' D vs od y hD => by
    obtain ⟨T, x, z, e, hT, e2, y1, y2⟩ := yld i H v H' y
    obtain ⟨g1, g2, g3⟩ := lock_pair (od := od) hD hT e2
    exact ⟨g1, yld2 _ _ _ _ ⟨T, x, z, e, g2, g3, fun xs h => y1 xs (lkA _ _ _ _ _ hD h), fun xs h => y2 xs (lkB _ _ _ _ _ hD h)⟩⟩
theorem wu_enumG {SA : Hp → List V → Prop} {us : List U} {J : It} {Pf : List Addr → Sto → Hp → Prop}
    (hp : ∀ fm S H, StOk K fm S H → Pf fm S H → ∃ vs, SA H vs ∧ Rps K fm S H us vs) (hk : ∀ fm S H fm' S' H', Pf fm S H → Stp fm S H fm' S' H' → Pf fm' S' H')
    (go : ∀ i H, (∃ (xs : List V) (x : V), SA H xs ∧ xs[i]? = some x) → J.go i H)
    (yld : ∀ (i : Nat) H v H', J.yld i H v H' → ∃ T x, v = .ref T ∧ H T = none ∧ H' = upd H T (.tup [.int (i : Nat), x]) ∧ (∀ xs, SA H xs → xs[i]? = some x))
    (stop : ∀ i H, (∃ xs : List V, SA H xs ∧ xs.length ≤ i) → J.stop i H)
    (yld2 : ∀ (i : Nat) H v H', (∃ T x, v = .ref T ∧ H T = none ∧ H' = upd H T (.tup [.int (i : Nat), x]) ∧ (∀ xs, SA H xs → xs[i]? = some x)) → J.yld i H v H')
    (lkA : ∀ H D vs od xs, H D = some (.lst vs) → SA (upd H D (.frz od (.lst vs))) xs → SA H xs) : WU K J (enumU 0 us) Pf where
  goes := fun i fm S H hi so h => by
    obtain ⟨vs, h1, r1⟩ := hp fm S H so h
    rw [enumU_length] at hi
    exact go i H ⟨vs, vs[i]'(by rw [← r1.length]; omega), h1, by simp⟩
  stops := fun fm S H so h => by
    obtain ⟨vs, h1, r1⟩ := hp fm S H so h
    exact stop _ H ⟨vs, h1, by rw [enumU_length, r1.length]; exact Nat.le_refl _⟩
  yields := fun i fm S H x H' hi so h y => by
    obtain ⟨vs, h1, r1⟩ := hp fm S H so h
    obtain ⟨T, v1, rfl, hT, rfl, y1⟩ := yld i H x H' y
    obtain ⟨u1, e1, q1⟩ := r1.getV (y1 vs h1)
    refine ⟨_, enumU_get us 0 i u1 e1, stp_new so hT, ok_new so hT, ?_⟩
    rw [Nat.zero_add]
    exact rp_newT so hT (.cons (.int _) (.cons q1 .nil))
  keep := hk
  lockY := fun i H v H' D vs od y hD => by
    obtain ⟨T, x, e, hT, e2, y1⟩ := yld i H v H' y
    obtain ⟨g1, g2, g3⟩ := lock_pair (od := od) hD hT e2
    exact ⟨g1, yld2 _ _ _ _ ⟨T, x, e, g2, g3, fun xs h => y1 xs (lkA _ _ _ _ _ hD h)⟩⟩
end
end Ev
set_option Elab.async false
set_option linter.all false
set_option maxRecDepth 100000
set_option maxHeartbeats 2000000
/-! Ev12: what a for or a comprehension walks. -/
namespace Ev
open PySem PySem.Spec PyProof.Rows L2
/-- a list or a tuple, walked -/
def iSeq (K : PySem.W.Frag) (tl : TE) : TI := fun σ H R => tl σ H fun x H1 => ∃ a, x = .ref a ∧ ((∃ xs, SqL K H1 a xs ∧ R (Itl K a) H1) ∨ (∃ xs, SqT K H1 a xs ∧ R (Itt K a) H1))
theorem pi_seq {X : Cx} {tg l : Expr} {tl : TE} (hl : PE X l tl) : PI X tg l (iSeq X.K tl) := by
  refine ⟨fun pins s σ H R I h => ?_⟩
  refine thn (hl.run pins s σ H _ I h) fun v s1 ⟨x, H1, I1, r1, q1⟩ => ?_
  obtain ⟨a, e, q⟩ := q1
  subst e
  cases r1
  rcases q with ⟨xs, hq, q⟩ | ⟨xs, hq, q⟩
  · obtain ⟨its, rv, p, hz⟩ := I1.list hq
    refine wpAny_pyIter_list p.isList ?_
    exact pi_one (tk := s1.toks) I1 _ (turn_list a _) ⟨_, Heap.get?_push_size _ rfl, rfl, rfl⟩ q
  · obtain ⟨its, rv, p, hz⟩ := I1.tuple hq
    refine wpAny_pyIter_tuple (show s1.heap.IsTuple a its.toArray from p) ?_
    exact pi_one (tk := s1.toks) I1 _ (turn_tuple a _) ⟨_, Heap.get?_push_size _ rfl, rfl, rfl⟩ q

section
variable {K : PySem.W.Frag} {fm : List Addr} {S : Sto} {H : Hp}
abbrev PfT := List Addr → Sto → Hp → Prop
/-- what a lock says: the walk over the thing itself -/
theorem lock_walk (so : StOk K fm S H) {u : U} {v : V} {us : List U} {l : Option Nat} (r : Rp K fm S H u v) (e : lockOf S u = some (us, l)) :
    ∃ a, v = .ref a ∧ ((∃ (vs : List V) (Pf : PfT), SqL K H a vs ∧ (∀ fm S H, StOk K fm S H → Pf fm S H → ∃ vs, SqL K H a vs ∧ Rps K fm S H us vs) ∧ (∀ fm S H fm' S' H', Pf fm S H → Stp fm S H fm' S' H' → Pf fm' S' H') ∧ Pf fm (lockO S l) H) ∨
      (∃ (vs : List V) (Pf : PfT), SqT K H a vs ∧ (∀ fm S H, StOk K fm S H → Pf fm S H → ∃ vs, SqT K H a vs ∧ Rps K fm S H us vs) ∧ (∀ fm S H fm' S' H', Pf fm S H → Stp fm S H fm' S' H' → Pf fm' S' H') ∧ Pf fm (lockO S l) H)) := by
  cases r with
  | non => cases e
  | bl => cases e
  | int => cases e
  | str => cases e
  | exc => cases e
  | fzK => cases e
  | ref hf =>
    rename_i a n
    dsimp only [lockOf] at e
    split at e
    · rename_i xs hs
      cases e
      obtain ⟨vs, h1, rv⟩ := so.obj _ _ _ hf hs
      refine ⟨a, rfl, .inl ⟨vs, Lkd n a us, SqL.of h1, fun fm S H so h => h.lst so, Lkd.keep, hf, ?_⟩⟩
      show (lockS S n)[n]? = _
      unfold lockS
      rw [hs]
      exact List.getElem?_set_self (List.getElem?_eq_some_iff.mp hs).1
    · rename_i xs hs
      cases e
      obtain ⟨vs, h1, rv⟩ := so.obj _ _ _ hf hs
      exact ⟨a, rfl, .inl ⟨vs, Lkd n a us, SqL.of h1, fun fm S H so h => h.lst so, Lkd.keep, hf, hs⟩⟩
    · cases e
  | tup h1 h2 h3 =>
    rename_i a us vs
    cases e
    have r : Rp K fm S H (.tup us) (.ref a) := .tup h1 h2 h3
    obtain ⟨vs, h4, _⟩ := rp_tupA r
    exact ⟨_, rfl, .inr ⟨vs, fun fm S H => Rp K fm S H (.tup us) (.ref a), h4, fun fm S H so h => rp_tupA h, fun fm S H fm' S' H' h st => h.mono st.toGr, r⟩⟩
  | tupK h1 h2 =>
    rename_i a us vs
    cases e
    have r : Rp K fm S H (.tup us) (.ref a) := .tupK h1 h2
    obtain ⟨vs, h4, _⟩ := rp_tupA r
    exact ⟨_, rfl, .inr ⟨vs, fun fm S H => Rp K fm S H (.tup us) (.ref a), h4, fun fm S H so h => rp_tupA h, fun fm S H fm' S' H' h st => h.mono st.toGr, r⟩⟩
  | lst h1 h2 h3 =>
    rename_i a us vs
    cases e
    exact ⟨_, rfl, .inl ⟨_, fun fm S H => Rp K fm S H (.lst us) (.ref a), SqL.of h1, fun fm S H so h => rp_lstA h, fun fm S H fm' S' H' h st => h.mono st.toGr, .lst h1 h2 h3⟩⟩
theorem wu_tupG {us : List U} {a : Addr} {Pf : List Addr → Sto → Hp → Prop} (hp : ∀ fm S H, StOk K fm S H → Pf fm S H → ∃ vs, SqT K H a vs ∧ Rps K fm S H us vs) (hk : ∀ fm S H fm' S' H', Pf fm S H → Stp fm S H fm' S' H' → Pf fm' S' H') : WU K (Itt K a) us Pf where
  goes := fun i fm S H hi so h => by
    obtain ⟨vs, h1, rv⟩ := hp fm S H so h
    exact ⟨vs, vs[i]'(by rw [← rv.length]; exact hi), h1, by simp⟩
  stops := fun fm S H so h => by
    obtain ⟨vs, h1, rv⟩ := hp fm S H so h
    exact ⟨vs, h1, by rw [rv.length]; exact Nat.le_refl _⟩
  yields := fun i fm S H x H' hi so h y => by
    obtain ⟨vs, h1, rv⟩ := hp fm S H so h
    obtain ⟨rfl, y⟩ := y
    obtain ⟨u, e, r⟩ := rv.getV (y vs h1)
    exact ⟨u, e, .refl, so, r⟩
  keep := hk
  lockY := fun i H x H' D vs od ⟨e, y⟩ hD => by subst e; exact ⟨hD, rfl, fun xs h => y xs (sqT_lock hD h)⟩
end

section
variable {X : Cx} {cls : Nat → Value} {W : WX} {pos p tpos : Pos} {a b c tg : Expr} {ra rb rc : Rho → Sto → R U} {x : Str}
theorem ti_val (ha : PE X a (tE X.K cls W ra)) : PI X tg a (tI X.K cls W fun ρ S => (ra ρ S).bind fun u S1 => optR S1 (lockOf S1 u)) :=
  (pi_seq ha).imp fun σ H R ⟨fm, S, ρ, so, eo, q⟩ => ⟨fm, S, ρ, so, eo, q.bind.imp fun u fm1 S1 H1 st1 so1 h1 v1 r1 => by
    obtain ⟨⟨us, l⟩, e, h⟩ := h1.opt
    have h := h fm1 H1 .refl so1
    obtain ⟨a, rfl, hw⟩ := lock_walk so1 r1 e
    refine ⟨a, rfl, ?_⟩
    rcases hw with ⟨vs, Pf, hs, h2, h3, h4⟩ | ⟨vs, Pf, hs, h2, h3, h4⟩
    · exact .inl ⟨vs, hs, h _ Pf (wu_lstG h2 h3) h4⟩
    · exact .inr ⟨vs, hs, h _ Pf (wu_tupG h2 h3) h4⟩⟩
theorem small_of {i : Int} (h : small i = true) : -(2 ^ 62) ≤ i ∧ i < 2 ^ 62 := by
  unfold small at h
  simpa using h
theorem ti_rng1 (hg : Gl X "range") (hm : X.mg "range" = none) (ha : PE X a (tE X.K cls W ra)) (hs : starEach [a] X.env = [(false, eval a X.env)]) :
    PI X tg (.Call (.Name "range" p) [a] [] pos) (tI X.K cls W fun ρ S => (ra ρ S).bind fun u S1 => match u with
      | .int j => if small j = true then .ok (iotaU 0 j.toNat, none) S1 else .stuck
      | _ => .stuck) :=
  (pi_range1 hg hm (pa_cons ha pa_nil hs) hs).imp fun σ H R ⟨fm, S, ρ, so, eo, q⟩ => ⟨fm, S, ρ, so, eo, q.bind.imp fun u fm1 S1 H1 st1 so1 h1 v1 r1 => by
    split at h1
    · rename_i j
      cases r1
      split at h1
      · rename_i hj
        obtain ⟨h2, h3⟩ := small_of hj
        exact ⟨j, rfl, h2, h3, h1.ok fm1 H1 .refl so1 _ _ wu_rng trivial⟩
      · exact h1.elim
    · exact h1.elim⟩
theorem ti_rng2 (hg : Gl X "range") (hm : X.mg "range" = none) (ha : PE X a (tE X.K cls W ra)) (hb : PE X b (tE X.K cls W rb)) (hs : starEach [a, b] X.env = [(false, eval a X.env), (false, eval b X.env)]) (hs2 : starEach [b] X.env = [(false, eval b X.env)]) :
    PI X tg (.Call (.Name "range" p) [a, b] [] pos) (tI X.K cls W fun ρ S => (ra ρ S).bind fun u S1 => (rb ρ S1).bind fun v S2 => match u, v with
      | .int i, .int j => if small i = true ∧ small j = true then .ok (iotaU i (j - i).toNat, none) S2 else .stuck
      | _, _ => .stuck) :=
  (pi_range2 hg hm (pa_cons ha (pa_cons hb pa_nil hs2) (by rw [hs, hs2])) hs hs2).imp fun σ H R ⟨fm, S, ρ, so, eo, q⟩ => ⟨fm, S, ρ, so, eo, q.bind.imp fun u fm1 S1 H1 st1 so1 h1 v1 r1 => ⟨fm1, S1, ρ, so1, eo.mono st1.toGr, h1.bind.imp fun w fm2 S2 H2 st2 so2 h2 v2 r2 => by
    split at h2
    · rename_i i j
      cases r1
      cases r2
      split at h2
      · rename_i hj
        obtain ⟨h4, h5⟩ := small_of hj.1
        obtain ⟨h6, h7⟩ := small_of hj.2
        exact ⟨i, j, rfl, ⟨h4, h5, h6, h7⟩, h2.ok fm2 H2 .refl so2 _ _ wu_rng trivial⟩
      · exact h2.elim
    · exact h2.elim⟩⟩
theorem ti_rng3 (hg : Gl X "range") (hm : X.mg "range" = none) (ha : PE X a (tE X.K cls W ra)) (hb : PE X b (tE X.K cls W rb)) (hc : PE X c (tE X.K cls W rc)) (hs : starEach [a, b, c] X.env = (false, eval a X.env) :: starEach [b, c] X.env)
    (hs2 : starEach [b, c] X.env = (false, eval b X.env) :: starEach [c] X.env) (hs3 : starEach [c] X.env = (false, eval c X.env) :: starEach [] X.env) (hpl : (backTo pos (starEach [b, c] X.env)).any (·.1) = false) :
    PI X tg (.Call (.Name "range" p) [a, b, c] [] pos) (tI X.K cls W fun ρ S => (ra ρ S).bind fun u S1 => (rb ρ S1).bind fun v S2 => (rc ρ S2).bind fun w S3 => match u, v, w with
      | .int i, .int j, .int (-1) => if small i = true ∧ small j = true then .ok (iotaC i (-1) (i - j).toNat, none) S3 else .stuck
      | _, _, _ => .stuck) :=
  (pi_range3 hg hm (pa_cons ha (pa_cons hb (pa_cons hc pa_nil hs3) hs2) hs) hs hpl).imp fun σ H R ⟨fm, S, ρ, so, eo, q⟩ => ⟨fm, S, ρ, so, eo, q.bind.imp fun u fm1 S1 H1 st1 so1 h1 v1 r1 => ⟨fm1, S1, ρ, so1, eo.mono st1.toGr, h1.bind.imp fun w fm2 S2 H2 st2 so2 h2 v2 r2 =>
    ⟨fm2, S2, ρ, so2, (eo.mono st1.toGr).mono st2.toGr, h2.bind.imp fun z fm3 S3 H3 st3 so3 h3 v3 r3 => by
    split at h3
    · rename_i i j
      cases r1
      cases r2
      cases r3
      split at h3
      · rename_i hj
        obtain ⟨h4, h5⟩ := small_of hj.1
        obtain ⟨h6, h7⟩ := small_of hj.2
        exact ⟨i, j, -1, (i - j).toNat, rfl, RgC.neg h4 h5 h6 h7, h3.ok fm3 H3 .refl so3 _ _ wu_rngC trivial⟩
      · exact h3.elim
    · exact h3.elim⟩⟩⟩
end
end Ev
set_option Elab.async false
set_option linter.all false
set_option maxRecDepth 100000
set_option maxHeartbeats 2000000
/-! Ev13: enumerate of lists and tuples; zip; [..] * n. -/
namespace Ev
open PySem PySem.Spec PyProof.Rows L2

theorem meets_enum1 {v : Value} {o : Obj} {G : Heap → Prop} (B : Begins v o G) :
    Meets (Builtin.«enumerate.__new__» ⟨[.type "enumerate", v], []⟩) (fun _ R s => G s.heap ∧
      R (.ok (.ret (.ref (s.heap.push o).objs.size))) { s with heap := (s.heap.push o).push { cls := .type "enumerate", data := .fields #[.none, .bool false, .ref s.heap.objs.size, rawInt 0, .none, .none] } }) :=
  .of_wp fun prog w A R s h => by
    obtain ⟨hp, g, d, tk, os⟩ := s; obtain ⟨h1, h⟩ := h
    have hsub := sub_enumerate
    have q1 : ∀ {A' : Around} {E : Value → Shared → Prop} {Q : Value → Shared → Prop}, Q (.ref hp.objs.size) ⟨hp.push o, g, d, tk, os⟩ → wpAny (model prog w) A' (pyIter v) Q E ⟨hp, g, d, tk, os⟩ :=
      fun q => B.iter prog w _ _ ⟨hp, g, d, tk, os⟩ _ h1 q
    wp_walk using q1
    refine wpAny_stack_any fun st => wpAny_pure ?_
    split
    · rename_i c _ _ _ _ _
      cases (c == Value.type "enumerate")
      · wp_walk using q1
        exact ⟨_, rfl, h⟩
      · wp_walk using q1
        exact ⟨_, rfl, h⟩
    · wp_walk using q1
      exact ⟨_, rfl, h⟩
theorem enum1_begins {prog : Program} {w : World} {A : Around} {E : Value → Shared → Prop} {s : Shared} {v : Value} {o : Obj} {G : Heap → Prop} {Q : Value → Shared → Prop} (B : Begins v o G) (h1 : G s.heap)
    (h : ∀ h', IsEnum h' (s.heap.objs.size + 1) s.heap.objs.size 0 .none → h'.get? s.heap.objs.size = some o → h'.objs.size = s.heap.objs.size + 2 →
      (∀ b o, s.heap.get? b = some o → h'.get? b = some o) → Q (.ref (s.heap.objs.size + 1)) { s with heap := h' }) :
    wpAny (model prog w) A (call (.type "enumerate") [v]) Q E s := by
  refine callType_new F.called_enumerate (by decide) (F.typeCall_enumerate_1 _) (F.newCall_enumerate_1 _) (fun obj => F.args_object_init_2 obj _) F.entry_enumerate_new
    (meets_enum1 B) ⟨h1, ?_⟩
  have hz : (s.heap.push o).objs.size = s.heap.objs.size + 1 := Heap.size_push ..
  show _ ∧ _
  rw [hz]
  have he : IsEnum ((s.heap.push o).push { cls := .type "enumerate", data := .fields #[.none, .bool false, .ref s.heap.objs.size, rawInt 0, .none, .none] }) (s.heap.objs.size + 1) s.heap.objs.size 0 .none := by
    have := Heap.get?_push_size (s.heap.push o) (o := { cls := .type "enumerate", data := .fields #[.none, .bool false, .ref s.heap.objs.size, rawInt 0, .none, .none] }) rfl
    rw [hz] at this; exact this
  refine ⟨⟨_, he, rfl⟩, h _ he (Heap.get?_push_of_some _ (Heap.get?_push_size _ B.free)) (by rw [Heap.size_push, hz]) fun b o x => Heap.get?_push_of_some _ (Heap.get?_push_of_some _ x)⟩

theorem enumT_end {prog : Program} {w : World} {A : Around} {E : Value → Shared → Prop} {s : Shared} {e it t : Addr} {i : Nat} {items : Array Value} {j : Int} {old : Value} {Q : Option Value → Shared → Prop} (hh : A.handled = none)
    (he : IsEnum s.heap e it j old) (hit : s.heap.IsTupleIter it t i) (ht : s.heap.IsTuple t items) (hx : items[i]? = none)
    (hQ : ∀ h', Heap.ExtBut it s.heap h' → Q none { s with heap := h' }) : wpAny (model prog w) A (pyNext (.ref e)) Q E s := by
  have hT : s.TypeIs (.ref e) "enumerate" := ⟨_, he, rfl⟩
  unfold pyNext
  refine wpAny_bind (wpAny_attempt (wpAny_callSpecial?_slot (name := Str.ofString "__next__") hT F.slot_enumerate_next
    (wpAny_call_entry F.slot_enumerate_next hT F.entry_enumerate_next ?_ (F.args_enumerate_next_1 _))))
  show wpAny _ _ (field (.ref e) 2 >>= _) _ _ _
  refine wpAny_bind (wpAny_field he rfl (x := .ref it) rfl ?_)
  refine wpAny_bind (wpAny_nextOf_tuple_end hh hit ht hx fun h' x he' hx' => ?_)
  obtain ⟨o, ho, hc⟩ := hx'
  refine wpAny_bind (wpAny_isInstance (T := "StopIteration") (b := true) ⟨o, ho, hc⟩ isSubtype_stop ?_)
  exact wpAny_pure (hQ _ he')

/-- the tuple at a, each item in a new pair -/
def IteT (K : PySem.W.Frag) (a : Addr) : It :=
  ⟨fun i H => ∃ (xs : List V) (x : V), SqT K H a xs ∧ xs[i]? = some x, fun i H v H' => ∃ T x, v = .ref T ∧ H T = none ∧ H' = upd H T (.tup [.int (i : Nat), x]) ∧ ∀ xs, SqT K H a xs → xs[i]? = some x, fun i H => ∃ xs : List V, SqT K H a xs ∧ xs.length ≤ i⟩
theorem turn_enumT {P : Program} {w : World} {K : PySem.W.Frag} {elts : List Expr} {kk : Nat} {tpos : Pos} (a e it : Addr) (hai : a ≠ it) (hae : e ≠ a) :
    Turn P w K (.Tuple elts kk tpos) (IteT K a) [e, it] e (fun i h => (∃ old, IsEnum h e it ((i : Nat) : Int) old) ∧ h.IsTupleIter it a i ∧ e ≠ it) where
  mem := by simp
  obj := fun i h st b hb => by
    obtain ⟨⟨old, he⟩, ⟨o, ho, hc, hd⟩, _⟩ := st
    have e' : b = e ∨ b = it := by simpa using hb
    rcases e' with z | z
    · rw [z]; exact ⟨_, he, fun v q => nomatch q⟩
    · rw [z]; exact ⟨o, ho, fun v q => by rw [hd] at q; cases q⟩
  keep := fun i h h' st k => let ⟨⟨old, he⟩, hi, hne⟩ := st; ⟨⟨old, k e (by simp) _ he⟩, hi.at fun o q => k it (by simp) o q, hne⟩
  item := by
    intro X hP hw hK hc i pins s σ H E I hf st hg
    subst hP hw hK
    obtain ⟨⟨old, he⟩, hit, hne⟩ := st
    obtain ⟨xs, x, hq, hx⟩ := hg
    obtain ⟨its, rv, p, hz⟩ := I.tuple hq
    obtain ⟨u, hu, ru⟩ := rv.get hx
    have hel : e < s.heap.objs.size := Heap.lt_size he
    have hil : it < s.heap.objs.size := by obtain ⟨_, q, _⟩ := hit; exact Heap.lt_size q
    have ps : s.heap.IsTuple a its.toArray := p
    have hlt : i < its.toArray.size := by
      have := (List.getElem?_eq_some_iff.mp hu).1
      simpa using this
    refine wpAny_pyNext_enum_itemD (Draws.tuple (prog := X.prog) (w := X.w) (A := X.A.in1) (I.ok.hd hc) it a hai its.toArray) he ⟨hit, ps⟩ hlt hne (by simp [hne, hae]) fun x' h' tk hP ho hit' hT hsz hk => ?_
    have ex : x' = u := by
      have : its.toArray[i]? = some x' := hP
      have h2 : its.toArray[i]? = some u := by simpa using hu
      rw [h2] at this
      exact (Option.some.inj this).symm
    subst ex
    refine ⟨_, rfl, wpAny_letOwnedTupleGo_enum (s := { s with heap := h', toks := tk + 1 }) ho fun h'' he' sb => ?_⟩
    have hT2 : h''.get? s.heap.objs.size = some { cls := .type "tuple", data := .seq #[.int i tk, x'] } := (sb.2 _ (Nat.ne_of_gt hel)).trans hT
    have new : ObjOk X.prog X.w (upd H s.heap.objs.size (.tup [.int (i : Nat), x])) h'' s.heap.objs.size (.tup [.int (i : Nat), x]) :=
      ⟨by show 2 ≤ sizeLine; decide, [.int i tk, x'], .cons ⟨_, rfl⟩ (.cons ru .nil), ⟨_, hT2, rfl, _, rfl⟩⟩
    have I1 : Inv X pins σ (upd H s.heap.objs.size (.tup [.int (i : Nat), x])) { s with heap := h'', toks := tk + 1 } :=
      I.turnedNew (ch := [e, it]) (fun b ob hb q => (sb.2 b (fun z => hb (by simp [z]))).trans (hk b ob (fun z => hb (by simp [z])) (fun z => hb (by simp [z])) q)) hf (Nat.le_refl _) new
    refine ⟨.ref s.heap.objs.size, _, I1, rfl, ⟨_, x, rfl, I.hok.fresh (Nat.le_refl _), rfl, fun ys hy => by rw [I.tuple_inj hy hq]; exact hx⟩, ⟨⟨x', ?_⟩, hit'.1.at fun o q => (sb.2 it (Ne.symm hne)).trans q, hne⟩, fun b hb => ?_⟩
    · have e1 : ((i + 1 : Nat) : Int) = (i : Int) + 1 := by omega
      rw [e1]; exact he'
    · have hb' : b < s.heap.objs.size := by
        have e' : b = e ∨ b = it := by simpa using hb
        rcases e' with z | z
        · rw [z]; exact hel
        · rw [z]; exact hil
      rw [upd_ne (Nat.ne_of_lt hb')]
      exact (hf b hb).1
  done := by
    intro X hP hw hK hc i pins s σ H E I hf st hg
    subst hP hw hK
    obtain ⟨⟨old, he⟩, hit, hne⟩ := st
    obtain ⟨xs, hq, hx⟩ := hg
    obtain ⟨its, rv, p, hz⟩ := I.tuple hq
    obtain ⟨f0, f1, f2, f3, f4, f5⟩ := hf it (by simp)
    have hl := rv.length
    have ps : s.heap.IsTuple a its.toArray := p
    -- the walk is over: of no turn more than the items
    exact enumT_end (I.ok.hd hc) he hit ps (by simp; omega) fun h' eb => ⟨rfl, I.turned (t' := s.toks) (fun b o hb q => eb b o hb q) f0 f1 f3 f4 f5⟩
  self := fun A i s Q E st h => let ⟨⟨_, he⟩, _⟩ := st; wpAny_pyIter_enum he h
def iEnumA (K : PySem.W.Frag) (ta : TA) : TI := fun σ H R => ta σ H fun vs H1 => ∃ a, vs = [.ref a] ∧ ((∃ xs, SqL K H1 a xs ∧ R (Ite K a) H1) ∨ (∃ xs, SqT K H1 a xs ∧ R (IteT K a) H1))
theorem pi_enumA {X : Cx} {e : Expr} {ta : TA} {p pos tpos : Pos} {elts : List Expr} {kk : Nat} (hg : Gl X "enumerate") (hm : X.mg "enumerate" = none) (ha : PA X [e] ta) (hs : starEach [e] X.env = [(false, eval e X.env)]) :
    PI X (.Tuple elts kk tpos) (.Call (.Name "enumerate" p) [e] [] pos) (iEnumA X.K ta) := by
  refine ⟨fun pins s σ H R I h => ?_⟩
  refine Call_ (ld_blt I hg hm boot_enumerate (PyProof.Rows.callWith_type1 (thn (ha.run pos pins s σ H _ I h) fun us s1 ⟨vs, H1, I1, r1, q1⟩ => ?_) hs rfl))
  obtain ⟨a, ex, q1⟩ := q1
  subst ex
  cases r1 with
  | cons r rr =>
    cases rr
    cases r
    have fresh : ∀ b, b ∈ [s1.heap.objs.size + 1, s1.heap.objs.size] → FpOk X pins H1 b := fun b hb => by
      have e' : b = s1.heap.objs.size + 1 ∨ b = s1.heap.objs.size := by simpa using hb
      have hle : s1.heap.objs.size ≤ b := by
        rcases e' with z | z
        · rw [z]; exact Nat.le_add_right _ _
        · rw [z]; exact Nat.le_refl _
      exact I1.fpOk hle (I1.hok.fresh hle)
    rcases q1 with ⟨xs, hq, q⟩ | ⟨xs, hq, q⟩
    · obtain ⟨its, rv, p', hz⟩ := I1.list hq
      refine call_enumerate_list p'.isList fun h' he hit hsz hk => wpAny_pyIter_enum he ?_
      have I2 : Inv X pins σ H1 { s1 with heap := h' } := I1.kept (t' := s1.toks) hk
      exact ⟨s1.heap.objs.size + 1, [s1.heap.objs.size + 1, s1.heap.objs.size], _, _, H1, rfl, I2, turn_enum a (s1.heap.objs.size + 1) s1.heap.objs.size, ⟨⟨.none, he⟩, hit, Nat.succ_ne_self _⟩, fresh, q⟩
    · obtain ⟨its, rv, p', hz⟩ := I1.tuple hq
      have ps : s1.heap.IsTuple a its.toArray := p'
      obtain ⟨o1, ho1, _⟩ := id ps
      have hlt := Heap.lt_size ho1
      refine enum1_begins (begins_tuple a its.toArray) ps fun h' he hit hsz hk => wpAny_pyIter_enum he ?_
      have I2 : Inv X pins σ H1 { s1 with heap := h' } := I1.kept (t' := s1.toks) hk
      exact ⟨s1.heap.objs.size + 1, [s1.heap.objs.size + 1, s1.heap.objs.size], _, _, H1, rfl, I2, turn_enumT a (s1.heap.objs.size + 1) s1.heap.objs.size (Nat.ne_of_lt hlt) (Nat.ne_of_gt (Nat.lt_succ_of_lt hlt)), ⟨⟨.none, he⟩, ⟨_, hit, rfl, rfl⟩, Nat.succ_ne_self _⟩, fresh, q⟩

section
variable {X : Cx} {cls : Nat → Value} {W : WX} {pos p tpos : Pos} {a b c tg : Expr} {ra rb rc : Rho → Sto → R U} {x : Str} {elts : List Expr} {kk : Nat}
theorem ti_enum (hg : Gl X "enumerate") (hm : X.mg "enumerate" = none) (ha : PE X a (tE X.K cls W ra)) (hs : starEach [a] X.env = [(false, eval a X.env)]) :
    PI X (.Tuple elts kk tpos) (.Call (.Name "enumerate" p) [a] [] pos) (tI X.K cls W fun ρ S => (ra ρ S).bind fun u S1 => match lockOf S1 u with
      | some (xs, l) => .ok (enumU 0 xs, l) S1
      | none => .stuck) :=
  (pi_enumA hg hm (pa_cons ha pa_nil hs) hs).imp fun σ H R ⟨fm, S, ρ, so, eo, q⟩ => ⟨fm, S, ρ, so, eo, q.bind.imp fun u fm1 S1 H1 st1 so1 h1 v1 r1 => by
    split at h1
    · rename_i us l e
      have h := h1.ok fm1 H1 .refl so1
      obtain ⟨a, rfl, hw⟩ := lock_walk so1 r1 e
      refine ⟨a, rfl, ?_⟩
      rcases hw with ⟨vs, Pf, hs, h2, h3, h4⟩ | ⟨vs, Pf, hs, h2, h3, h4⟩
      · exact .inl ⟨vs, hs, h _ Pf (wu_enumG (SA := fun H xs => SqL X.K H a xs) h2 h3 (fun i H h => h) (fun i H v H' h => h) (fun i H h => h) (fun i H v H' h => h) (fun H D vs od xs hD h => sqL_lock hD h)) h4⟩
      · exact .inr ⟨vs, hs, h _ Pf (wu_enumG (SA := fun H xs => SqT X.K H a xs) h2 h3 (fun i H h => h) (fun i H v H' h => h) (fun i H h => h) (fun i H v H' h => h) (fun H D vs od xs hD h => sqT_lock hD h)) h4⟩
    · exact h1.elim⟩
theorem ti_zip (hg : Gl X "zip") (hm : X.mg "zip" = none) (ha : PE X a (tE X.K cls W ra)) (hb : PE X b (tE X.K cls W rb)) (hs : starEach [a, b] X.env = (false, eval a X.env) :: starEach [b] X.env) (hs2 : starEach [b] X.env = (false, eval b X.env) :: starEach [] X.env)
    (hpl : (backTo pos (starEach [b] X.env)).any (·.1) = false) :
    PI X (.Tuple elts kk tpos) (.Call (.Name "zip" p) [a, b] [] pos) (tI X.K cls W fun ρ S => (ra ρ S).bind fun u S1 => (rb ρ S1).bind fun v S2 => match u, v with
      | .tup xs, .tup ys => .ok (zipU xs ys, none) S2
      | .lst xs, .lst ys => .ok (zipU xs ys, none) S2
      | _, _ => .stuck) :=
  (RZ.pi_zipA hg hm (pa_cons ha (pa_cons hb pa_nil hs2) hs) hs hpl).imp fun σ H R ⟨fm, S, ρ, so, eo, q⟩ => ⟨fm, S, ρ, so, eo, q.bind.imp fun u fm1 S1 H1 st1 so1 h1 v1 r1 => ⟨fm1, S1, ρ, so1, eo.mono st1.toGr, h1.bind.imp fun w fm2 S2 H2 st2 so2 h2 v2 r2 => by
    replace r1 := r1.mono st2.toGr
    split at h2
    · rename_i xs ys
      obtain ⟨a1, vs1, e1, hx1, rv1⟩ := rp_tup r1 (S := S2) rfl
      obtain ⟨a2, vs2, e2, hx2, rv2⟩ := rp_tup r2 (S := S2) rfl
      subst e1 e2
      refine ⟨a1, a2, vs1, vs2, rfl, .inr ⟨hx1, hx2, h2.ok fm2 H2 .refl so2 _ (fun fm S H => Rp X.K fm S H (.tup xs) (.ref a1) ∧ Rp X.K fm S H (.tup ys) (.ref a2)) (wu_zipG (SA := fun H xs => SqT X.K H a1 xs) (SB := fun H xs => SqT X.K H a2 xs) ?_ (fun fm S H fm' S' H' h st => ⟨h.1.mono st.toGr, h.2.mono st.toGr⟩) (fun i H h => h) (fun i H v H' h => h) (fun i H h => h) (fun i H v H' h => h) (fun H D vs od xs hD h => sqT_lock hD h) (fun H D vs od xs hD h => sqT_lock hD h)) ⟨r1, r2⟩⟩⟩
      rintro fm S H so ⟨h1, h2⟩
      obtain ⟨y1, k1, k2⟩ := rp_tupA h1
      obtain ⟨y2, k3, k4⟩ := rp_tupA h2
      exact ⟨y1, y2, k1, k3, k2, k4⟩
    · rename_i xs ys
      cases r1 with
      | @lst a1 _ vs1 hx1 nl1 rv1 =>
        cases r2 with
        | @lst a2 _ vs2 hx2 nl2 rv2 =>
          refine ⟨a1, a2, vs1, vs2, rfl, .inl ⟨SqL.of hx1, SqL.of hx2, h2.ok fm2 H2 .refl so2 _ (fun fm S H => Rp X.K fm S H (.lst xs) (.ref a1) ∧ Rp X.K fm S H (.lst ys) (.ref a2)) (wu_zipG (SA := fun H xs => SqL X.K H a1 xs) (SB := fun H xs => SqL X.K H a2 xs) ?_ (fun fm S H fm' S' H' h st => ⟨h.1.mono st.toGr, h.2.mono st.toGr⟩) (fun i H h => h) (fun i H v H' h => h) (fun i H h => h) (fun i H v H' h => h) (fun H D vs od xs hD h => sqL_lock hD h) (fun H D vs od xs hD h => sqL_lock hD h)) ⟨.lst hx1 nl1 rv1, .lst hx2 nl2 rv2⟩⟩⟩
          rintro fm S H so ⟨h1, h2⟩
          obtain ⟨y1, k1, k2⟩ := rp_lstA h1
          obtain ⟨y2, k3, k4⟩ := rp_lstA h2
          exact ⟨y1, y2, k1, k3, k2, k4⟩
    · exact h2.elim⟩⟩
/-- [..] * n -/
theorem tq_rep {es : List Expr} {rs : Rho → Sto → R (List U)} {p2 : Pos} (hs : PA X es (tEs X.K cls W rs)) (hr : ∀ ρ S us S', rs ρ S = .ok us S' → us.length ≤ 1000) (hb : PE X b (tE X.K cls W rb)) :
    PE X (.BinOp (.List es p2) .Mult b pos) (tQ X.K cls W fun ρ S => (rs ρ S).bind fun us S1 => (rb ρ S1).bind fun v S2 => match v with
      | .int k => if us.length * k.toNat ≤ lim ∧ -(2 ^ 63) ≤ k ∧ k < 2 ^ 63 then .ok (List.replicate k.toNat us).flatten S2 else .stuck
      | _ => .stuck) :=
  (pe_op op_rep (pe_lst hs) hb).imp fun σ H Q ⟨fm, S, ρ, so, eo, q⟩ => by
    refine ⟨fm, S, ρ, so, eo, ?_⟩
    have hl := hr ρ S
    revert hl
    have := q.bind
    revert this
    cases rs ρ S with
    | ok us S1 =>
      intro q hl fm1 H1 st1 so1 vs rv
      have h2 := q fm1 H1 st1 so1
      refine ⟨by rw [← rv.length, ← lim_eq]; exact Nat.le_trans (hl us S1 rfl) (by decide), fun p hp => ?_⟩
      have stp := stp_new (o := .lst vs) so1 hp
      have sop := ok_new (o := .lst vs) so1 hp
      have rl := rp_newL so1 hp rv
      refine ⟨fm1, S1, ρ, sop, (eo.mono st1.toGr).mono stp.toGr, (h2.later stp).bind.imp fun w fm2 S2 H2 st2 so2 h3 v2 r2 => ?_⟩
      split at h3
      · rename_i k
        split at h3
        · rename_i hk
          cases r2
          have rl2 := rl.mono st2.toGr
          cases rl2 with
          | lst hx nl rv2 =>
            refine ⟨p, k, _, rfl, rfl, hx, hk.2.1, hk.2.2, by rw [← rv2.length, ← lim_eq]; exact hk.1, fun p2 hp2 => ?_⟩
            exact h3.ok fm2 H2 .refl so2 _ p2 (rv2.rep _) hp2
        · exact h3.elim
      · exact h3.elim
    | ex c S1 => exact fun q _ => q
    | stuck => exact fun q _ => q
end
end Ev
set_option Elab.async false
set_option linter.all false
set_option maxRecDepth 100000
set_option maxHeartbeats 2000000
/-! Ev14: list comprehensions. -/
namespace Ev
open PySem PySem.Spec PyProof.Rows L2
section
variable {X : Cx}
def tLockG (g : TG) : TG := fun v σ H Q => ∃ d u, H d = some u ∧ Mut (some u) ∧ ∀ od, g v σ (upd H d (.frz od u)) fun σ' H' => H' d = some (.frz od u) ∧ Q σ' (upd H' d u)
def tLockT (t : TT) : TT := fun σ H Q => ∃ d u, H d = some u ∧ Mut (some u) ∧ ∀ od, t σ (upd H d (.frz od u)) fun b H' => H' d = some (.frz od u) ∧ Q b (upd H' d u)
theorem pg_lock {e : Expr} {g : TG} (h : PG X e g) : PG X e (tLockG g) := by
  refine ⟨fun pins s σ H v u Q I r hw => ?_⟩
  obtain ⟨d, o, hd, mu, hw⟩ := hw
  obtain ⟨od, I1⟩ := I.lock hd mu
  refine thn (h.run pins s σ _ v u _ I1 r (hw od)) fun _ s1 ⟨σ1, H1, I2, e2, q⟩ => ?_
  exact ⟨σ1, _, I2.unlock e2 (I.nofrz hd mu), q⟩
theorem pts_lock {ifs : List Expr} {t : TT} (h : PTs X ifs t) : PTs X ifs (tLockT t) := by
  refine ⟨fun pins s σ H Q I hw => ?_⟩
  obtain ⟨d, o, hd, mu, hw⟩ := hw
  obtain ⟨od, I1⟩ := I.lock hd mu
  refine thn (h.run pins s σ _ _ I1 (hw od)) fun b s1 ⟨H1, I2, e2, q⟩ => ?_
  exact ⟨_, I2.unlock e2 (I.nofrz hd mu), q⟩
end

def tB (K : PySem.W.Frag) (cls : Nat → Value) (W : WX) (r : Rho → Sto → R Bool) : TT := fun σ H Q =>
  ∃ fm S ρ, StOk K fm S H ∧ EnvOk K fm S H ρ σ ∧ Aft K cls W σ fm S H (r ρ S) fun b fm' S' H' => Q b H'
theorem _root_.L2.PTs.imp {X : Cx} {e : List Expr} {t t' : TT} (h : PTs X e t) (i : ∀ σ H Q, t' σ H Q → t σ H Q) : PTs X e t' := ⟨fun pins s σ H Q I q => h.run pins s σ H Q I (i σ H Q q)⟩
section
variable {X : Cx} {cls : Nat → Value} {W : WX} {c : Expr} {ra : Rho → Sto → R U}
theorem tb_nil : PTs X [] (tB X.K cls W fun _ S => .ok true S) := pts_nil.imp fun σ H Q ⟨fm, S, ρ, so, eo, q⟩ => q fm H .refl so
theorem tb_one (h : PT X c (tT X.K cls W ra)) : PTs X [c] (tB X.K cls W fun ρ S => (ra ρ S).bind fun u S1 => optR S1 (truU S1 u)) :=
  (pts_one h).imp fun σ H Q ⟨fm, S, ρ, so, eo, q⟩ => ⟨fm, S, ρ, so, eo, q.bind.imp fun u fm1 S1 H1 st1 so1 h1 => by
    obtain ⟨b, e, hq⟩ := h1.opt
    exact ⟨b, e, hq fm1 H1 .refl so1⟩⟩
end

theorem wipe_same : ∀ (vs : List Nat) {σ σ' : L2.St}, Same (· ∈ vs) σ σ' → wipe σ' vs = wipe σ vs := by
  intro vs σ σ' h
  apply List.ext_getElem?
  intro i
  have key : ∀ (vs : List Nat) (σ : L2.St), (i ∈ vs → (wipe σ vs)[i]? = if i < σ.length then some none else none) ∧ (i ∉ vs → (wipe σ vs)[i]? = σ[i]?) := by
    intro vs σ
    induction vs with
    | nil => exact ⟨fun h => by simp at h, fun _ => rfl⟩
    | cons v vs ih =>
      refine ⟨fun h => ?_, fun h => ?_⟩
      · unfold wipe
        by_cases z : v = i
        · subst z
          rw [List.getElem?_set]
          simp [wipe_length]
        · rw [List.getElem?_set_ne z]
          exact ih.1 (by rcases List.mem_cons.mp h with e | e; exact absurd e.symm z; exact e)
      · unfold wipe
        rw [List.getElem?_set_ne (fun z => h (by simp [z]))]
        exact ih.2 fun z => h (List.mem_cons_of_mem _ z)
  by_cases hi : i ∈ vs
  · rw [(key vs σ').1 hi, (key vs σ).1 hi, h.1]
  · rw [(key vs σ').2 hi, (key vs σ).2 hi, h.2 i hi]
theorem EnvOk.wipe {K : PySem.W.Frag} {fm : List Addr} {S : Sto} {H : Hp} {ρ : Rho} {σ : L2.St} (h : EnvOk K fm S H ρ σ) : ∀ vs : List Nat, EnvOk K fm S H (wipeR ρ vs) (L2.wipe σ vs)
  | [] => h
  | _ :: vs => (h.wipe vs).unset
theorem compL_ex (step : U → Sto → R (Option U)) : ∀ (us : List U) (S : Sto) (c : Nat) (S' : Sto), compL step us S ≠ .ex c S'
  | [], S, c, S', h => by cases h
  | x :: xs, S, c, S', h => by
    unfold compL at h
    cases e : noEx (step x S) with
    | ok o S1 =>
      rw [e] at h
      simp only [R.bind] at h
      cases e2 : compL step xs S1 with
      | ok ys S2 => rw [e2] at h; cases h
      | ex c2 S2 => exact compL_ex step xs S1 c2 S2 e2
      | stuck => rw [e2] at h; cases h
    | ex c2 S2 =>
      unfold noEx at e
      split at e <;> cases e
    | stuck => rw [e] at h; cases h
theorem upd_self {H : Hp} {a : Addr} {o : HO} (h : H a = some o) : upd H a o = H := by
  funext b
  by_cases z : b = a
  · subst z; rw [upd_same, h]
  · rw [upd_ne z]
def del (H : Hp) (D : Addr) : Hp := fun a => if a = D then none else H a
theorem del_same {H : Hp} {D : Addr} : del H D D = none := if_pos rfl
theorem del_ne {H : Hp} {D a : Addr} (h : a ≠ D) : del H D a = H a := if_neg h
theorem upd_del {H : Hp} {D : Addr} {o : HO} (h : H D = some o) : upd (del H D) D o = H := by
  funext b
  by_cases z : b = D
  · subst z; rw [upd_same, h]
  · rw [upd_ne z, del_ne z]
def ob0 : Obj := { cls := .none, data := .plain }

theorem same_wipe {vs : List Nat} {σ : L2.St} : Same (· ∈ vs) σ (wipe σ vs) := by
  refine ⟨wipe_length σ vs, fun i hi => ?_⟩
  induction vs with
  | nil => rfl
  | cons v vs ih =>
    show ((wipe σ vs).set v none)[i]? = _
    rw [List.getElem?_set_ne (fun z => hi (by simp [z]))]
    exact ih fun z => hi (List.mem_cons_of_mem _ z)
/-- while a list comprehension grows: D the new list, acc what stands in it; the world's things beside it -/
structure Grow (K : PySem.W.Frag) (fm1 : List Addr) (S1 : Sto) (H1 : Hp) (D : Addr) (fm : List Addr) (S : Sto) (H : Hp) (acc : List U) (vs : List V) : Prop where
  ok : ∀ od, StOk K fm S (upd H D (.frz od (.lst vs)))
  vals : ∀ od, Rps K fm S (upd H D (.frz od (.lst vs))) acc vs
  stp : ∀ od, Stp fm1 S1 H1 fm S (upd H D (.frz od (.lst vs)))
  nin : ∀ n : Nat, fm[n]? ≠ some D
section
variable {K : PySem.W.Frag} {fm1 : List Addr} {S1 : Sto} {H1 : Hp} {D : Addr} {fm : List Addr} {S : Sto} {H H' : Hp} {acc acc' : List U} {vs vs' : List V} {od : Obj} {u : HO}
theorem off_upd {o : HO} (e : Off D H H') : Off D H (upd H' D o) := ⟨fun a ha => by rw [upd_ne ha]; exact e.off a ha⟩
theorem off_upd' {o : HO} : Off D H (upd H D o) := ⟨fun a ha => upd_ne ha⟩
theorem Grow.ofLocked (so1 : StOk K fm1 S1 H1) (h1 : H1 D = none) (hD : H D = some (.frz od u)) (hn : ∀ n : Nat, fm[n]? ≠ some D)
    (ok : StOk K fm S H) (rv : Rps K fm S H acc' vs') (st : Stp fm1 S1 H1 fm S H) (e : Off D H H') : Grow K fm1 S1 H1 D fm S H' acc' vs' where
  ok := fun od' => ok_off ok hD hn (off_upd e)
  vals := fun od' => rv.mono (gr_off hD (off_upd e))
  stp := fun od' => stp_off so1 st h1 (off_upd e)
  nin := hn
theorem Grow.real (g : Grow K fm1 S1 H1 D fm S H acc vs) (so1 : StOk K fm1 S1 H1) (h1 : H1 D = none) : StOk K fm S H ∧ Stp fm1 S1 H1 fm S H :=
  ⟨ok_off (g.ok ob0) upd_same g.nin ⟨fun a ha => (upd_ne ha).symm⟩, stp_off so1 (g.stp ob0) h1 ⟨fun a ha => (upd_ne ha).symm⟩⟩
theorem nin_step {fm' : List Addr} {S' : Sto} (st : Stp fm S H fm' S' H') (hn : ∀ n : Nat, fm[n]? ≠ some D) (hD : H D ≠ none) : ∀ n : Nat, fm'[n]? ≠ some D := fun n e => (st.new n D e).elim (hn n) hD
end

def stepC (own : List Nat) (gt : U → Rho → Sto → Option (Rho × Sto)) (rc : Rho → Sto → R Bool) (re : Rho → Sto → R U) (ρ : Rho) : U → Sto → R (Option U) := fun x S =>
  match gt x (wipeR ρ own) S with
  | some (ρ1, S1) => (rc ρ1 S1).bind fun k S2 => if k = true then (re ρ1 S2).bind fun y S3 => .ok (some y) S3 else .ok none S2
  | none => .stuck

theorem compL_cons {step : U → Sto → R (Option U)} {x : U} {xs ys : List U} {S S2 : Sto} (h : compL step (x :: xs) S = .ok ys S2) :
    ∃ o S1 zs, step x S = .ok o S1 ∧ compL step xs S1 = .ok zs S2 ∧ ys = (match o with | some y => y :: zs | none => zs) := by
  unfold compL at h
  cases e : step x S with
  | stuck => rw [e] at h; cases h
  | ex c S3 => rw [e] at h; cases h
  | ok o S1 =>
    rw [e] at h
    simp only [noEx, R.bind] at h
    cases e2 : compL step xs S1 with
    | stuck => rw [e2] at h; cases h
    | ex c S3 => rw [e2] at h; cases h
    | ok zs S3 =>
      rw [e2] at h
      cases h
      exact ⟨o, S1, zs, rfl, e2, rfl⟩
theorem stepC_ok {own : List Nat} {gt : U → Rho → Sto → Option (Rho × Sto)} {rc : Rho → Sto → R Bool} {re : Rho → Sto → R U} {ρ : Rho} {x : U} {S S3 : Sto} {o : Option U} (h : stepC own gt rc re ρ x S = .ok o S3) :
    ∃ ρ' S' k S2, gt x (wipeR ρ own) S = some (ρ', S') ∧ rc ρ' S' = .ok k S2 ∧ ((k = false ∧ o = none ∧ S2 = S3) ∨ (k = true ∧ ∃ y, re ρ' S2 = .ok y S3 ∧ o = some y)) := by
  unfold stepC at h
  cases e1 : gt x (wipeR ρ own) S with
  | none => rw [e1] at h; cases h
  | some rs =>
    obtain ⟨ρ', S'⟩ := rs
    rw [e1] at h
    simp only at h
    cases e2 : rc ρ' S' with
    | stuck => rw [e2] at h; cases h
    | ex c S4 => rw [e2] at h; cases h
    | ok k S2 =>
      rw [e2] at h
      simp only [R.bind] at h
      cases k with
      | false => simp only [Bool.false_eq_true, if_false] at h; cases h; exact ⟨ρ', S', false, _, rfl, e2, .inl ⟨rfl, rfl, rfl⟩⟩
      | true =>
        simp only [if_true] at h
        cases e3 : re ρ' S2 with
        | stuck => rw [e3] at h; cases h
        | ex c S4 => rw [e3] at h; cases h
        | ok y S4 => rw [e3] at h; cases h; exact ⟨ρ', S', true, S2, rfl, e2, .inr ⟨rfl, y, e3, rfl⟩⟩
abbrev WF : WX := fun _ _ _ _ => False
theorem tlc_of {K : PySem.W.Frag} {cls : Nat → Value} {gt : U → Rho → Sto → Option (Rho × Sto)} {rc : Rho → Sto → R Bool} {re : Rho → Sto → R U} {own : List Nat} {ρ : Rho} {σ : L2.St} {fm1 : List Addr} {S1 S2 : Sto} {H1 : Hp} {us ys : List U} {J : It} {Pf : PfT} {Q : VK}
    (wu : WU K J us Pf) (pf : Pf fm1 S1 H1) (so1 : StOk K fm1 S1 H1) (eo : EnvOk K fm1 S1 H1 ρ σ) (hl : us.length ≤ lim) (ev : compL (stepC own gt rc re ρ) us S1 = .ok ys S2) {D : Addr} (h1 : H1 D = none)
    (hQ : ∀ fm H vs, Grow K fm1 S1 H1 D fm S2 H ys vs → H D = some (.lst vs) → Q (.ref D) H) :
    ∃ W : Nat → Nat → Hp → Prop, (∃ m, W 0 m (upd H1 D (.lst []))) ∧ ∀ i m H, W i m H →
      (J.stop i H ∧ Q (.ref D) H) ∨ (J.go i H ∧ ∃ Nx : Hp → Prop, (∀ H', Nx H' → ∃ m', m' < m ∧ W (i + 1) m' H') ∧ ∀ x H', J.yld i H x H' → tLockG (tG K (· ∈ own) gt) x (wipe σ own) H' fun σ2 H2 => wipe σ2 own = wipe σ own ∧ tLockT (tB K cls WF rc) σ2 H2 fun b H3 =>
        if b = true then tLockE (tE K cls WF re) σ2 H3 fun y H4 => ∃ acc, H4 D = some (.lst acc) ∧ acc.length < sizeLine ∧ Nx (upd H4 D (.lst (acc ++ [y]))) else Nx H3) := by
  refine ⟨fun i m H => i ≤ us.length ∧ m = us.length - i ∧ ∃ fm S acc vs ys', H D = some (.lst vs) ∧ Grow K fm1 S1 H1 D fm S H acc vs ∧ compL (stepC own gt rc re ρ) (us.drop i) S = .ok ys' S2 ∧ acc ++ ys' = ys ∧ acc.length ≤ i, ⟨us.length, Nat.zero_le _, rfl, fm1, S1, [], [], ys, upd_same, ?_, ev, rfl, Nat.le_refl _⟩, ?_⟩
  · refine ⟨fun od => ?_, fun od => .nil, fun od => ?_, so1.notin h1⟩
    · rw [upd_upd]; exact ok_new so1 h1
    · rw [upd_upd]; exact stp_new so1 h1
  rintro i m H ⟨hi, rfl, fm, S, acc, vs, ys', hD, G, ev, ea, hacc⟩
  obtain ⟨soR, stR⟩ := G.real so1 h1
  have pfR := wu.keep _ _ _ _ _ _ pf stR
  by_cases lt : i < us.length
  · refine .inr ⟨wu.goes i fm S H lt soR pfR, fun H' => _, fun H' h => ⟨us.length - (i + 1), by omega, h⟩, fun x H' y => ?_⟩
    rw [List.drop_eq_getElem_cons lt] at ev
    obtain ⟨o, S4, zs, ev1, ev2, rfl⟩ := compL_cons ev
    obtain ⟨ρ', S', b0, S3, e1, e2, e3⟩ := stepC_ok ev1
    obtain ⟨hD', _⟩ := wu.lockY i H x H' D vs ob0 y hD
    refine ⟨D, .lst vs, hD', trivial, fun od => ?_⟩
    obtain ⟨_, y'⟩ := wu.lockY i H x H' D vs od y hD
    obtain ⟨u, eu, st, so, r⟩ := wu.yields i fm S _ x _ lt (G.ok od) (wu.keep _ _ _ _ _ _ pf (G.stp od)) y'
    have eu' : us[i] = u := by rw [List.getElem?_eq_getElem lt] at eu; exact Option.some.inj eu
    rw [eu'] at e1
    refine ⟨fm, S, wipeR ρ own, u, so, (eo.mono ((G.stp od).trans st).toGr).wipe own, r, ρ', S', e1, fun fm' σ' H2 st2 so2 eo2 sm2 => ?_⟩
    have hD2 : H2 D = some (.frz od (.lst vs)) := st2.frz D od _ upd_same
    refine ⟨hD2, wipe_same own (same_wipe.trans sm2), D, .lst vs, upd_same, trivial, fun od2 => ?_⟩
    rw [upd_upd]
    have nin2 : ∀ n : Nat, fm'[n]? ≠ some D := nin_step st2 G.nin (by rw [upd_same]; simp)
    have stT := ((G.stp od).trans st).trans st2
    have g2 : Gr fm' S' H2 fm' S' (upd H2 D (.frz od2 (.lst vs))) := gr_off hD2 off_upd'
    have rvs2 := ((((G.vals od).mono st.toGr).mono st2.toGr).mono g2)
    refine ⟨fm', S', ρ', ok_off so2 hD2 nin2 off_upd', eo2.mono g2, ?_⟩
    rw [e2]
    intro fm3 H3 st3 so3
    have hD3 : H3 D = some (.frz od2 (.lst vs)) := st3.frz D od2 _ upd_same
    refine ⟨hD3, ?_⟩
    have nin3 : ∀ n : Nat, fm3[n]? ≠ some D := nin_step st3 nin2 (by rw [upd_same]; simp)
    have stT3 := (stp_off so1 stT h1 (H' := upd H2 D (.frz od2 (.lst vs))) off_upd').trans st3
    rcases e3 with ⟨rfl, rfl, rfl⟩ | ⟨rfl, yv, e4, rfl⟩
    · exact ⟨lt, rfl, fm3, _, acc, vs, zs, upd_same, Grow.ofLocked so1 h1 hD3 nin3 so3 (rvs2.mono st3.toGr) stT3 off_upd', ev2, ea, by omega⟩
    · refine ⟨D, .lst vs, upd_same, trivial, fun od3 => ?_⟩
      rw [upd_upd]
      have g3 : Gr fm3 S3 H3 fm3 S3 (upd H3 D (.frz od3 (.lst vs))) := gr_off hD3 off_upd'
      refine ⟨fm3, S3, ρ', ok_off so3 hD3 nin3 off_upd', ((eo2.mono g2).mono st3.toGr).mono g3, ?_⟩
      rw [e4]
      intro fm4 H4 st4 so4 v rv
      have hD4 : H4 D = some (.frz od3 (.lst vs)) := st4.frz D od3 _ upd_same
      have nin4 : ∀ n : Nat, fm4[n]? ≠ some D := nin_step st4 nin3 (by rw [upd_same]; simp)
      have stT4 := (stp_off so1 stT3 h1 (H' := upd H3 D (.frz od3 (.lst vs))) off_upd').trans st4
      have rvs4 := (((rvs2.mono st3.toGr).mono g3).mono st4.toGr)
      refine ⟨hD4, vs, upd_same, ?_, ?_⟩
      · have := rvs4.length
        rw [← this, ← lim_eq]
        omega
      · rw [upd_upd]
        exact ⟨lt, rfl, fm4, S4, acc ++ [yv], vs ++ [v], zs, upd_same, Grow.ofLocked so1 h1 hD4 nin4 so4 (rvs4.append (.cons rv .nil)) stT4 off_upd', ev2, by rw [List.append_assoc]; exact ea, by rw [List.length_append]; simp; omega⟩
  · have e : i = us.length := by omega
    subst e
    rw [List.drop_length] at ev
    cases ev
    refine .inl ⟨wu.stops _ _ H soR pfR, hQ fm H vs ?_ hD⟩
    rw [← ea, List.append_nil]
    exact G
end Ev
set_option Elab.async false
set_option linter.all false
set_option maxRecDepth 100000
set_option maxHeartbeats 2000000
/-! Ev15: statements. -/
namespace Ev
open PySem PySem.Spec PyProof.Rows L2

/-- where a statement ends -/
def Endd (K : PySem.W.Frag) (cls : Nat → Value) (W : WX) (fm : List Addr) (S : Sto) (H : Hp) : Out → Ends → Prop
  | .nx ρ, D => ∀ σ, EnvOk K fm S H ρ σ → D.nx σ H
  | .rt u, D => ∀ v, Rp K fm S H u v → D.rt v H
  | .bk ρ, D => ∀ σ, EnvOk K fm S H ρ σ → D.bk σ H
  | .ct ρ, D => ∀ σ, EnvOk K fm S H ρ σ → D.ct σ H
  | .ex c ρ, _ => ∀ σ, EnvOk K fm S H ρ σ → W (cls c) none σ H
def AftS (K : PySem.W.Frag) (cls : Nat → Value) (W : WX) (fm : List Addr) (S : Sto) (H : Hp) (r : SR) (D : Ends) : Prop :=
  match r with
  | .ok o S' => ∀ fm' H', Stp fm S H fm' S' H' → StOk K fm' S' H' → Endd K cls W fm' S' H' o D
  | .stuck => False
section
variable {K : PySem.W.Frag} {cls : Nat → Value} {W : WX} {fm fm' : List Addr} {S S' : Sto} {H H' : Hp} {D : Ends} {σ : L2.St} {ρ : Rho}
theorem Endd.from {o : Out} (h : Endd K cls W fm S' H o D) (g : Gr fm S H fm S' H) : Endd K cls W fm S H o D := by
  cases o with
  | nx ρ => exact fun σ e => h σ (e.mono g)
  | rt u => exact fun v r => h v (r.mono g)
  | bk ρ => exact fun σ e => h σ (e.mono g)
  | ct ρ => exact fun σ e => h σ (e.mono g)
  | ex c ρ => exact fun σ e => h σ (e.mono g)
theorem AftS.later {fm1 : List Addr} {S1 : Sto} {H1 : Hp} {r : SR} (h : AftS K cls W fm S H r D) (st : Stp fm S H fm1 S1 H1) : AftS K cls W fm1 S1 H1 r D := by
  cases r with
  | ok o S' => exact fun fm' H' st' so' => h fm' H' (st.trans st') so'
  | stuck => exact h
theorem AftS.toS {α : Type} {r : R α} {f : α → Sto → SR} (eo : EnvOk K fm S H ρ σ) (h : AftS K cls W fm S H (r.toS ρ f) D) : Aft K cls W σ fm S H r fun a fm1 S1 H1 => AftS K cls W fm1 S1 H1 (f a S1) D := by
  cases r with
  | ok a S1 => exact fun fm1 H1 st so => AftS.later h st
  | ex c S1 => exact fun fm1 H1 st so => h fm1 H1 st so σ (eo.mono st.toGr)
  | stuck => exact h
end

def tS (K : PySem.W.Frag) (cls : Nat → Value) (W : WX) (r : Rho → Sto → SR) : TS := fun D σ H =>
  ∃ fm S ρ, StOk K fm S H ∧ EnvOk K fm S H ρ σ ∧ AftS K cls W fm S H (r ρ S) D

section
variable {X : Cx} {cls : Nat → Value} {W : WX} {pos p : Pos} {e c tg iter : Expr} {a b body : List Stmt} {st : Stmt} {rest : List Stmt} {re rc : Rho → Sto → R U} {r1 r2 : Rho → Sto → SR}
theorem tss_nil : PSs X [] (tS X.K cls W fun ρ S => .ok (.nx ρ) S) := pss_nil.imp fun D σ H ⟨fm, S, ρ, so, eo, q⟩ => q fm H .refl so σ eo
theorem tss_cons (h1 : PS X st (tS X.K cls W r1)) (h2 : PSs X rest (tS X.K cls W r2)) : PSs X (st :: rest) (tS X.K cls W fun ρ S => match r1 ρ S with | .ok (.nx ρ1) S1 => r2 ρ1 S1 | r => r) :=
  (pss_cons h1 h2).imp fun D σ H ⟨fm, S, ρ, so, eo, q⟩ => by
    refine ⟨fm, S, ρ, so, eo, ?_⟩
    dsimp only at q
    revert q
    cases r1 ρ S with
    | stuck => exact fun q => q
    | ok o S1 =>
      intro q fm1 H1 st1 so1
      cases o with
      | nx ρ1 => exact fun σ1 eo1 => ⟨fm1, S1, ρ1, so1, eo1, AftS.later q st1⟩
      | rt u => exact q fm1 H1 st1 so1
      | bk ρ1 => exact q fm1 H1 st1 so1
      | ct ρ1 => exact q fm1 H1 st1 so1
      | ex c ρ1 => exact q fm1 H1 st1 so1
theorem ts_pass : PS X (.Pass pos) (tS X.K cls W fun ρ S => .ok (.nx ρ) S) := ps_pass.imp fun D σ H ⟨fm, S, ρ, so, eo, q⟩ => q fm H .refl so σ eo
theorem ts_doc {x j pos'} : PS X (.Expr (.Constant (.str x) j pos) pos') (tS X.K cls W fun ρ S => .ok (.nx ρ) S) := ps_doc.imp fun D σ H ⟨fm, S, ρ, so, eo, q⟩ => q fm H .refl so σ eo
theorem ts_brk : PS X (.Break pos) (tS X.K cls W fun ρ S => .ok (.bk ρ) S) := ps_break.imp fun D σ H ⟨fm, S, ρ, so, eo, q⟩ => q fm H .refl so σ eo
theorem ts_ct : PS X (.Continue pos) (tS X.K cls W fun ρ S => .ok (.ct ρ) S) := ps_continue.imp fun D σ H ⟨fm, S, ρ, so, eo, q⟩ => q fm H .refl so σ eo
theorem ts_retN : PS X (.Return none pos) (tS X.K cls W fun ρ S => .ok (.rt .non) S) := ps_retN.imp fun D σ H ⟨fm, S, ρ, so, eo, q⟩ => q fm H .refl so .non .non
theorem ts_never {r : Rho → Sto → SR} (h : ∀ ρ S, r ρ S = .stuck) : PS X st (tS X.K cls W r) := ps_never.imp fun D σ H ⟨fm, S, ρ, so, eo, q⟩ => by rw [h] at q; exact q
theorem ts_expr (he : PE X e (tE X.K cls W re)) (hs : swapsWith e none pos.line X.env = pure false) : PS X (.Expr e pos) (tS X.K cls W fun ρ S => (re ρ S).toS ρ fun _ S1 => .ok (.nx ρ) S1) :=
  (ps_expr he hs).imp fun D σ H ⟨fm, S, ρ, so, eo, q⟩ => ⟨fm, S, ρ, so, eo, (q.toS eo).imp fun u fm1 S1 H1 st1 so1 h1 v r => h1 fm1 H1 .refl so1 σ (eo.mono st1.toGr)⟩
theorem ts_ret (he : PE X e (tE X.K cls W re)) : PS X (.Return (some e) pos) (tS X.K cls W fun ρ S => (re ρ S).toS ρ fun u S1 => .ok (.rt u) S1) :=
  (ps_ret he).imp fun D σ H ⟨fm, S, ρ, so, eo, q⟩ => ⟨fm, S, ρ, so, eo, (q.toS eo).imp fun u fm1 S1 H1 st1 so1 h1 v r => h1 fm1 H1 .refl so1 v r⟩
theorem ts_if (hc : PT X c (tT X.K cls W rc)) (ha : PSs X a (tS X.K cls W r1)) (hb : PSs X b (tS X.K cls W r2)) :
    PS X (.If c a b pos) (tS X.K cls W fun ρ S => (rc ρ S).toS ρ fun u S1 => match truU S1 u with | some true => r1 ρ S1 | some false => r2 ρ S1 | none => .stuck) :=
  (ps_if hc ha hb).imp fun D σ H ⟨fm, S, ρ, so, eo, q⟩ => ⟨fm, S, ρ, so, eo, (q.toS eo).imp fun u fm1 S1 H1 st1 so1 h1 => by
    cases e : truU S1 u with
    | none => rw [e] at h1; exact h1.elim
    | some k =>
      rw [e] at h1
      refine ⟨k, rfl, ?_⟩
      cases k with
      | true => rw [if_pos rfl]; exact ⟨fm1, S1, ρ, so1, eo.mono st1.toGr, h1⟩
      | false => rw [if_neg Bool.false_ne_true]; exact ⟨fm1, S1, ρ, so1, eo.mono st1.toGr, h1⟩⟩
abbrev wAll : Nat → Prop := fun _ => True
theorem ts_asg {gt : U → Rho → Sto → Option (Rho × Sto)} (he : PE X e (tE X.K cls W re)) (hg : PG X tg (tG X.K wAll gt)) (hs : swapsWithSole [tg] e pos.line X.env = pure false) (hw : swappedStores [tg] e X.env = pure none)
    (h1 : (assignEach [tg] X.env).map (·.2) = [assign tg X.env]) : PS X (.Assign [tg] e pos) (tS X.K cls W fun ρ S => (re ρ S).toS ρ fun u S1 => match gt u ρ S1 with | some (ρ1, S2) => .ok (.nx ρ1) S2 | none => .stuck) :=
  (ps_asg he hg hs hw h1).imp fun D σ H ⟨fm, S, ρ, so, eo, q⟩ => ⟨fm, S, ρ, so, eo, (q.toS eo).imp fun u fm1 S1 H1 st1 so1 h1 v r => by
    cases e : gt u ρ S1 with
    | none => rw [e] at h1; exact h1.elim
    | some rs =>
      obtain ⟨ρ', S'⟩ := rs
      rw [e] at h1
      exact ⟨fm1, S1, ρ, u, so1, eo.mono st1.toGr, r, ρ', S', e, fun fm' σ' H' st so' eo' _ => h1 fm' H' st so' σ' eo'⟩⟩
theorem EnvOk.len {K : PySem.W.Frag} {fm : List Addr} {S : Sto} {H : Hp} {ρ : Rho} {σ : L2.St} (h : EnvOk K fm S H ρ σ) : ρ.length = σ.length := h.1
theorem ts_par {i j : Nat} {x y : Str} {ea eb : Expr} {rs : Rho → Sto → R (List U)} {px py pt : Pos} {kt k2 pt2} (hc : X.calm = true) (hN : X.N.Nodup) (hi : X.N[i]? = some x) (hj : X.N[j]? = some y) (hij : i ≠ j)
    (hx : X.env.scope.names.lookup x = some .local) (hy : X.env.scope.names.lookup y = some .local) (ha : PA X [ea, eb] (tEs X.K cls W rs))
    (hw : swappedStores [.Tuple [.Name x px, .Name y py] kt pt] (.Tuple [ea, eb] k2 pt2) X.env = pure (some [x, y])) :
    PS X (.Assign [.Tuple [.Name x px, .Name y py] kt pt] (.Tuple [ea, eb] k2 pt2) pos) (tS X.K cls W fun ρ S => (rs ρ S).toS ρ fun us S1 => if [i, j].length = us.length ∧ [i, j].all (· < ρ.length) = true then .ok (.nx (setAll [i, j] us ρ)) S1 else .stuck) :=
  (ps_par hc hN hi hj hij hx hy ha hw rfl).imp fun D σ H ⟨fm, S, ρ, so, eo, q⟩ => ⟨fm, S, ρ, so, eo, (q.toS eo).imp fun us fm1 S1 H1 st1 so1 h1 vs r => by
    split at h1
    · rename_i h2
      cases r with
      | nil => simp at h2
      | @cons u1 v1 us vs a1 r =>
        cases r with
        | nil => simp at h2
        | @cons u2 v2 us vs a2 r =>
          cases r with
          | nil => exact ⟨v1, v2, rfl, h1 fm1 H1 .refl so1 _ (((eo.mono st1.toGr).set a1).set a2)⟩
          | cons _ _ => simp at h2
    · exact h1.elim⟩
theorem ts_par3 {i j l : Nat} {x y z : Str} {ea eb ec : Expr} {rs : Rho → Sto → R (List U)} {px py pz pt : Pos} {kt k2 pt2} (hc : X.calm = true) (hN : X.N.Nodup) (hi : X.N[i]? = some x) (hj : X.N[j]? = some y) (hl : X.N[l]? = some z) (hij : i ≠ j) (hil : i ≠ l) (hjl : j ≠ l)
    (hx : X.env.scope.names.lookup x = some .local) (hy : X.env.scope.names.lookup y = some .local) (hz : X.env.scope.names.lookup z = some .local) (ha : PA X [ea, eb, ec] (tEs X.K cls W rs))
    (hw : swappedStores [.Tuple [.Name x px, .Name y py, .Name z pz] kt pt] (.Tuple [ea, eb, ec] k2 pt2) X.env = pure (some [x, y, z])) :
    PS X (.Assign [.Tuple [.Name x px, .Name y py, .Name z pz] kt pt] (.Tuple [ea, eb, ec] k2 pt2) pos) (tS X.K cls W fun ρ S => (rs ρ S).toS ρ fun us S1 => if [i, j, l].length = us.length ∧ [i, j, l].all (· < ρ.length) = true then .ok (.nx (setAll [i, j, l] us ρ)) S1 else .stuck) :=
  (ps_par3 hc hN hi hj hl hij hil hjl hx hy hz ha hw rfl).imp fun D σ H ⟨fm, S, ρ, so, eo, q⟩ => ⟨fm, S, ρ, so, eo, (q.toS eo).imp fun us fm1 S1 H1 st1 so1 h1 vs r => by
    split at h1
    · rename_i h2
      cases r with
      | nil => simp at h2
      | @cons u1 v1 us vs a1 r =>
        cases r with
        | nil => simp at h2
        | @cons u2 v2 us vs a2 r =>
          cases r with
          | nil => simp at h2
          | @cons u3 v3 us vs a3 r =>
            cases r with
            | nil => exact ⟨v1, v2, v3, rfl, h1 fm1 H1 .refl so1 _ ((((eo.mono st1.toGr).set a1).set a2).set a3)⟩
            | cons _ _ => simp at h2
    · exact h1.elim⟩

/-! ### while -/
theorem ts_while {w : Nat} (hp : PassesOwn (model X.prog X.w) X.A X.env X.xe) (hc : PT X c (tT X.K cls W rc)) (hb : PSs X body (tS X.K cls W r1)) : PS X (.While c body [] pos) (tS X.K cls W fun ρ S => whL rc r1 w ρ S) :=
  (ps_while hp hc hb).imp fun D σ H ⟨fm, S, ρ, so, eo, q⟩ => by
    refine ⟨fun m σ H => ∃ fm S ρ, StOk X.K fm S H ∧ EnvOk X.K fm S H ρ σ ∧ AftS X.K cls W fm S H (whL rc r1 m ρ S) D, ⟨w, fm, S, ρ, so, eo, q⟩, ?_⟩
    rintro m σ H ⟨fm, S, ρ, so, eo, q⟩
    cases m with
    | zero => exact q.elim
    | succ m =>
      refine ⟨fm, S, ρ, so, eo, ?_⟩
      unfold whL at q
      revert q
      cases rc ρ S with
      | stuck => exact fun q => q
      | ex k S0 => exact fun q fm1 H1 st so => q fm1 H1 st so σ (eo.mono st.toGr)
      | ok u S0 =>
        intro q fm1 H1 st1 so1
        dsimp only at q
        have q := AftS.later q st1
        cases e : truU S0 u with
        | none => rw [e] at q; exact q.elim
        | some k =>
          rw [e] at q
          refine ⟨k, rfl, ?_⟩
          cases k with
          | false => rw [if_neg Bool.false_ne_true]; exact q fm1 H1 .refl so1 σ (eo.mono st1.toGr)
          | true =>
            rw [if_pos rfl]
            refine ⟨fun σ' H' => ∃ fm S ρ, StOk X.K fm S H' ∧ EnvOk X.K fm S H' ρ σ' ∧ AftS X.K cls W fm S H' (whL rc r1 m ρ S) D, fun σ' H' h => ⟨m, Nat.lt_succ_self m, h⟩, fm1, S0, ρ, so1, eo.mono st1.toGr, ?_⟩
            revert q
            dsimp only
            cases r1 ρ S0 with
            | stuck => exact fun q => q
            | ok o S1 =>
              intro q fm2 H2 st2 so2
              cases o with
              | nx ρ1 => exact fun σ1 eo1 => ⟨fm2, S1, ρ1, so2, eo1, AftS.later q st2⟩
              | ct ρ1 => exact fun σ1 eo1 => ⟨fm2, S1, ρ1, so2, eo1, AftS.later q st2⟩
              | bk ρ1 => exact fun σ1 eo1 => q fm2 H2 st2 so2 σ1 eo1
              | rt u => exact q fm2 H2 st2 so2
              | ex c ρ1 => exact q fm2 H2 st2 so2
end
end Ev
set_option Elab.async false
set_option linter.all false
set_option maxRecDepth 100000
set_option maxHeartbeats 2000000
/-! Ev16: for; a name set to a comprehension. -/
namespace Ev
open PySem PySem.Spec PyProof.Rows L2

def stepF (gt : U → Rho → Sto → Option (Rho × Sto)) (rb : Rho → Sto → SR) : U → Rho → Sto → SR := fun x ρ S =>
  match gt x ρ S with
  | some (ρ1, S1) => rb ρ1 S1
  | none => .stuck
section
variable {K : PySem.W.Frag} {cls : Nat → Value} {W : WX}
theorem for_of {gt : U → Rho → Sto → Option (Rho × Sto)} {rb : Rho → Sto → SR} {ρ : Rho} {σ : L2.St} {fm1 : List Addr} {S1 S2 : Sto} {H1 : Hp} {us : List U} {J : It} {Pf : PfT} {D : Ends} {o : Out}
    (wu : WU K J us Pf) (pf : Pf fm1 S1 H1) (so1 : StOk K fm1 S1 H1) (eo : EnvOk K fm1 S1 H1 ρ σ) (ev : forL (stepF gt rb) us ρ S1 = .ok o S2)
    (fin : ∀ fm' H', Stp fm1 S1 H1 fm' S2 H' → StOk K fm' S2 H' → Endd K cls W fm' S2 H' o D) :
    ∃ W' : Nat → Nat → L2.St → Hp → Prop, (∃ m, W' 0 m σ H1) ∧ ∀ i m σ H, W' i m σ H →
      (J.stop i H ∧ D.nx σ H) ∨ (J.go i H ∧ ∃ N : L2.St → Hp → Prop, (∀ σ' H', N σ' H' → ∃ m', m' < m ∧ W' (i + 1) m' σ' H') ∧ ∀ x H', J.yld i H x H' → tG K wAll gt x σ H' fun σ2 H2 => tS K cls W rb { D with nx := N, ct := N, bk := D.nx } σ2 H2) := by
  refine ⟨fun i m σ H => i ≤ us.length ∧ m = us.length - i ∧ ∃ fm S ρ, StOk K fm S H ∧ EnvOk K fm S H ρ σ ∧ Stp fm1 S1 H1 fm S H ∧ forL (stepF gt rb) (us.drop i) ρ S = .ok o S2, ⟨us.length, Nat.zero_le _, rfl, fm1, S1, ρ, so1, eo, .refl, ev⟩, ?_⟩
  rintro i m σ H ⟨hi, rfl, fm, S, ρ, so, eo, st, ev⟩
  have pfR := wu.keep _ _ _ _ _ _ pf st
  by_cases lt : i < us.length
  · refine .inr ⟨wu.goes i fm S H lt so pfR, fun σ' H' => _, fun σ' H' h => ⟨us.length - (i + 1), by omega, h⟩, fun x H' y => ?_⟩
    rw [List.drop_eq_getElem_cons lt] at ev
    obtain ⟨u, eu, sty, soy, r⟩ := wu.yields i fm S H x H' lt so pfR y
    have eu' : us[i] = u := by rw [List.getElem?_eq_getElem lt] at eu; exact Option.some.inj eu
    rw [eu'] at ev
    unfold forL at ev
    cases e1 : gt u ρ S with
    | none =>
      have : stepF gt rb u ρ S = .stuck := by unfold stepF; rw [e1]
      rw [this] at ev; cases ev
    | some rs =>
    obtain ⟨ρ', S'⟩ := rs
    have es : stepF gt rb u ρ S = rb ρ' S' := by unfold stepF; rw [e1]
    rw [es] at ev
    refine ⟨fm, S, ρ, u, soy, eo.mono sty.toGr, r, ρ', S', e1, fun fm2 σ2 H2 st2 so2 eo2 _ => ⟨fm2, S', ρ', so2, eo2, ?_⟩⟩
    have stT := (st.trans sty).trans st2
    cases e2 : rb ρ' S' with
    | stuck => rw [e2] at ev; cases ev
    | ok o1 S3 =>
      rw [e2] at ev
      intro fm3 H3 st3 so3
      have stT3 := stT.trans st3
      cases o1 with
      | nx ρ3 => exact fun σ3 eo3 => ⟨lt, rfl, fm3, S3, ρ3, so3, eo3, stT3, ev⟩
      | ct ρ3 => exact fun σ3 eo3 => ⟨lt, rfl, fm3, S3, ρ3, so3, eo3, stT3, ev⟩
      | bk ρ3 => cases ev; exact fun σ3 eo3 => fin fm3 H3 stT3 so3 σ3 eo3
      | rt u => cases ev; exact fin fm3 H3 stT3 so3
      | ex c ρ3 => cases ev; exact fin fm3 H3 stT3 so3
  · have e : i = us.length := by omega
    subst e
    rw [List.drop_length] at ev
    cases ev
    exact .inl ⟨wu.stops _ _ H so pfR, fin fm H st so σ eo⟩
end
section
variable {X : Cx} {cls : Nat → Value} {W : WX} {pos : Pos} {tg iter : Expr} {body : List Stmt}
theorem ts_for {ri : Rho → Sto → R (List U × Option Nat)} {gt : U → Rho → Sto → Option (Rho × Sto)} {rb : Rho → Sto → SR} (hp : PassesOwn (model X.prog X.w) X.A X.env X.xe) (hc : X.calm = true) (hi : PI X tg iter (tI X.K cls W ri)) (hg : PG X tg (tG X.K wAll gt)) (hb : PSs X body (tS X.K cls W rb))
    (hs : ∀ x, foldedSetIterable iter X.env x = pure x) :
    PS X (.For tg iter body [] pos) (tS X.K cls W fun ρ S => (ri ρ S).toS ρ fun p S1 => lockdS S1 p.2 fun S2 => forL (stepF gt rb) p.1 ρ S2) :=
  (ps_for hp hc hi hg hb hs).imp fun D σ H ⟨fm, S, ρ, so, eo, q⟩ => ⟨fm, S, ρ, so, eo, (q.toS eo).imp fun p fm1 S1 H1 st1 so1 h1 J Pf wu pf => by
    obtain ⟨us, l⟩ := p
    have eo1 := eo.mono st1.toGr
    dsimp only at wu pf
    cases l with
    | none =>
      dsimp only [lockdS] at h1
      cases ev : forL (stepF gt rb) us ρ S1 with
      | stuck => rw [ev] at h1; exact h1.elim
      | ok o S2 => rw [ev] at h1; exact for_of wu pf so1 eo1 ev h1
    | some n =>
      dsimp only [lockdS] at h1
      cases e1 : S1[n]? with
      | none => rw [e1] at h1; exact h1.elim
      | some c =>
      rw [e1] at h1
      cases c with
      | lck _ => exact h1.elim
      | frz _ => exact h1.elim
      | ded => exact h1.elim
      | liv ob =>
        cases ob with
        | dct _ => exact h1.elim
        | lst ob =>
        dsimp only at h1
        have hS : lockO S1 (some n) = S1.set n (.lck (.lst ob)) := by show lockS S1 n = _; unfold lockS; rw [e1]
        rw [hS] at pf
        cases ev : forL (stepF gt rb) us ρ (S1.set n (.lck (.lst ob))) with
        | stuck => rw [ev] at h1; exact h1.elim
        | ok o S2 =>
          rw [ev] at h1
          have hf : ∃ a, fm1[n]? = some a := by
            have : n < fm1.length := by rw [so1.len]; exact (List.getElem?_eq_some_iff.mp e1).1
            exact ⟨fm1[n], by simp [this]⟩
          obtain ⟨a, hf⟩ := hf
          have soL := ok_cell (c' := .lck (.lst ob)) so1 e1 (.inl rfl)
          have stL := stp_cell (c' := .lck (.lst ob)) so1 e1
          refine for_of wu pf soL (eo1.mono stL.toGr) ev fun fm' H' st' so' => ?_
          obtain ⟨_, st3, g3, so3⟩ := stp_lock e1 hf st' so'
          exact (h1 fm' H' st3 so3).from g3⟩

/-! ### name = [.. for ..] -/
/-- the reading of a new list that grows, as HandS has it -/
theorem lc_of {scope : Scope} {own : List (Str × Nat)} {ri : Rho → Sto → R (List U × Option Nat)} {gt : U → Rho → Sto → Option (Rho × Sto)} {rc : Rho → Sto → R Bool} {re : Rho → Sto → R U} {σ : L2.St} {H : Hp} {Q : VK}
    (h : tQ X.K cls W (fun ρ S => (ri ρ S).bind fun p S1 => if p.1.length ≤ lim then lockd S1 p.2 fun S2 => compL (stepC (own.map (·.2)) gt rc re ρ) p.1 S2 else .stuck) σ H Q) :
    tLc (tI X.K cls W ri) (tLockG (tG X.K (· ∈ own.map (·.2)) gt)) (tLockT (tB X.K cls WF rc)) (tLockE (tE X.K cls WF re)) (own.map (·.2)) σ H Q := by
  obtain ⟨fm, S, ρ, so, eo, q⟩ := h
  refine ⟨fm, S, ρ, so, eo, q.bind.imp fun p fm1 S1 H1 st1 so1 h1 J Pf wu pf D hD => ?_⟩
  obtain ⟨us, l⟩ := p
  simp only at h1 wu pf
  split at h1
  case isFalse => exact h1.elim
  case isTrue hl =>
  have eo1 := eo.mono st1.toGr
  cases l with
  | none =>
    simp only [lockd] at h1
    cases ev : compL (stepC (own.map (·.2)) gt rc re ρ) us S1 with
    | stuck => rw [ev] at h1; exact h1.elim
    | ex c S2 => exact absurd ev (compL_ex _ _ _ _ _)
    | ok ys S2 =>
      rw [ev] at h1
      refine tlc_of wu pf so1 eo1 hl ev hD fun fm2 H2 vs G hG => ?_
      have nin := G.nin
      have e0 : Off D (upd H2 D (.frz ob0 (.lst vs))) (del H2 D) := ⟨fun a ha => by rw [upd_ne ha, del_ne ha]⟩
      have := h1.ok fm2 (del H2 D) (stp_off so1 (G.stp ob0) hD e0) (ok_off (G.ok ob0) upd_same nin e0) vs D ((G.vals ob0).mono (gr_off upd_same e0)) del_same
      rw [upd_del hG] at this
      exact this
  | some n =>
    simp only [lockd] at h1
    cases e1 : S1[n]? with
    | none => rw [e1] at h1; exact h1.elim
    | some c =>
    rw [e1] at h1
    cases c with
    | liv o =>
      cases o with
      | dct _ => exact h1.elim
      | lst o =>
      simp only at h1
      have hS : lockO S1 (some n) = S1.set n (.lck (.lst o)) := by show lockS S1 n = _; unfold lockS; rw [e1]
      rw [hS] at pf
      cases ev : compL (stepC (own.map (·.2)) gt rc re ρ) us (S1.set n (.lck (.lst o))) with
      | stuck => rw [ev] at h1; exact h1.elim
      | ex c S2 => exact absurd ev (compL_ex _ _ _ _ _)
      | ok ys S2 =>
        rw [ev] at h1
        simp only [R.bind] at h1
        have hf : ∃ a, fm1[n]? = some a := by
          have : n < fm1.length := by rw [so1.len]; exact (List.getElem?_eq_some_iff.mp e1).1
          exact ⟨fm1[n], by simp [this]⟩
        obtain ⟨a, hf⟩ := hf
        have soL := ok_cell (c' := .lck (.lst o)) so1 e1 (.inl rfl)
        have stL := stp_cell (c' := .lck (.lst o)) so1 e1
        refine tlc_of wu pf soL (eo1.mono stL.toGr) hl ev hD fun fm2 H2 vs G hG => ?_
        have nin := G.nin
        have e0 : Off D (upd H2 D (.frz ob0 (.lst vs))) (del H2 D) := ⟨fun a ha => by rw [upd_ne ha, del_ne ha]⟩
        have st2 := stp_off soL (G.stp ob0) hD e0
        have so2 := ok_off (G.ok ob0) upd_same nin e0
        obtain ⟨_, st3, g3, so3⟩ := stp_lock e1 hf st2 so2
        have := h1.ok fm2 (del H2 D) st3 so3 vs D (((G.vals ob0).mono (gr_off upd_same e0)).mono g3) del_same
        rw [upd_del hG] at this
        exact this
    | lck o => exact h1.elim
    | frz o => exact h1.elim
    | ded => exact h1.elim
end
section
variable {X : Cx} {cls : Nat → Value} {W : WX} {elt tg iter : Expr} {ifs : List Expr} {scope : Scope} {own : List (Str × Nat)} {pos : Pos} {ri : Rho → Sto → R (List U × Option Nat)} {gt : U → Rho → Sto → Option (Rho × Sto)} {rc : Rho → Sto → R Bool} {re : Rho → Sto → R U}
theorem tq_comp (hc : X.calm = true) (hN : X.N.Nodup) (hi : PI X tg iter (tI X.K cls W ri)) (ok : BlkOk X.N X.env.scope scope own)
    (hg : ∀ (s : Shared) (H : Hp) (C : Addr) (cl : List (Str × Addr)) (fp : List Addr), PG (X.blk s H scope (compEnvC scope cl C X.env) fp) tg (tG X.K (· ∈ own.map (·.2)) gt))
    (ht : ∀ (s : Shared) (H : Hp) (C : Addr) (cl : List (Str × Addr)) (fp : List Addr), PTs (X.blk s H scope (compEnvC scope cl C X.env) fp) ifs (tB X.K cls WF rc))
    (he : ∀ (s : Shared) (H : Hp) (C : Addr) (cl : List (Str × Addr)) (fp : List Addr), PE (X.blk s H scope (compEnvC scope cl C X.env) fp) elt (tE X.K cls WF re)) (hs : ∀ x, foldedSetIterable iter X.env x = pure x) :
    PE X (.ListComp elt [⟨tg, iter, ifs, 0⟩] scope pos) (tQ X.K cls W fun ρ S => (ri ρ S).bind fun p S1 => if p.1.length ≤ lim then lockd S1 p.2 fun S2 => compL (stepC (own.map (·.2)) gt rc re ρ) p.1 S2 else .stuck) :=
  (pe_lc hc hN hi ok (fun s H C cl fp => pg_lock (hg s H C cl fp)) (fun s H C cl fp => pts_lock (ht s H C cl fp)) (fun s H C cl fp => pe_lock (he s H C cl fp)) hs).imp fun σ H Q h => lc_of (scope := scope) h
/-- x = [..], the list a value or a place of the store, as mk says -/
theorem ts_setLc {i : Nat} {y : Str} {py spos : Pos} {mk : List U → Sto → R U} (hmk : ∀ {Q : VK} {rq : Rho → Sto → R (List U)} {σ : L2.St} {H : Hp}, tE X.K cls W (fun ρ S => (rq ρ S).bind mk) σ H Q → tQ X.K cls W rq σ H Q)
    (hc : X.calm = true) (hN : X.N.Nodup) (hy : X.N[i]? = some y) (hyl : X.env.scope.names.lookup y = some .local)
    (hsw : swapsWith (.ListComp elt [⟨tg, iter, ifs, 0⟩] scope pos) (some (.Name y py)) spos.line X.env = pure true) (hi : PI X tg iter (tI X.K cls W ri)) (ok : BlkOk X.N X.env.scope scope own)
    (hg : ∀ (s : Shared) (H : Hp) (C : Addr) (cl : List (Str × Addr)) (fp : List Addr), PG (X.blk s H scope (compEnvC scope cl C X.env) fp) tg (tG X.K (· ∈ own.map (·.2)) gt))
    (ht : ∀ (s : Shared) (H : Hp) (C : Addr) (cl : List (Str × Addr)) (fp : List Addr), PTs (X.blk s H scope (compEnvC scope cl C X.env) fp) ifs (tB X.K cls WF rc))
    (he : ∀ (s : Shared) (H : Hp) (C : Addr) (cl : List (Str × Addr)) (fp : List Addr), PE (X.blk s H scope (compEnvC scope cl C X.env) fp) elt (tE X.K cls WF re)) (hs : ∀ x, foldedSetIterable iter X.env x = pure x) :
    PS X (.Assign [.Name y py] (.ListComp elt [⟨tg, iter, ifs, 0⟩] scope pos) spos) (tS X.K cls W fun ρ S => (((ri ρ S).bind fun p S1 => if p.1.length ≤ lim then lockd S1 p.2 fun S2 => compL (stepC (own.map (·.2)) gt rc re ρ) p.1 S2 else .stuck).bind mk).toS ρ fun u S1 =>
      match (if i < ρ.length then some (ρ.set i (some u), S1) else none) with | some (ρ1, S2) => .ok (.nx ρ1) S2 | none => .stuck) :=
  (ps_setLc hc hN hy hyl hsw hi ok (fun s H C cl fp => pg_lock (hg s H C cl fp)) (fun s H C cl fp => pts_lock (ht s H C cl fp)) (fun s H C cl fp => pe_lock (he s H C cl fp)) hs).imp fun D σ H ⟨fm, S, ρ, so, eo, q⟩ => by
    refine lc_of (scope := scope) (hmk ⟨fm, S, ρ, so, eo, (q.toS eo).imp fun u fm1 S1 H1 st1 so1 h1 v r => ?_⟩)
    split at h1
    · rename_i e
      split at e
      · cases e
        exact h1 fm1 H1 .refl so1 _ ((eo.mono st1.toGr).set r)
      · cases e
    · exact h1.elim
theorem mk_qv {Q : VK} {rq : Rho → Sto → R (List U)} {σ : L2.St} {H : Hp} (h : tE X.K cls W (fun ρ S => (rq ρ S).bind fun us S1 => .ok (.lst us) S1) σ H Q) : tQ X.K cls W rq σ H Q := by
  obtain ⟨fm, S, ρ, so, eo, q⟩ := h
  exact ⟨fm, S, ρ, so, eo, q.bind.imp fun us fm1 S1 H1 st1 so1 h1 vs p rv hp => h1.ok fm1 _ (stp_new so1 hp) (ok_new so1 hp) _ (rp_newL so1 hp rv)⟩
theorem mk_qn {Q : VK} {rq : Rho → Sto → R (List U)} {σ : L2.St} {H : Hp} (h : tE X.K cls W (fun ρ S => (rq ρ S).bind fun us S1 => .ok (.ref S1.length) (S1 ++ [.liv (.lst us)])) σ H Q) : tQ X.K cls W rq σ H Q := by
  obtain ⟨fm, S, ρ, so, eo, q⟩ := h
  exact ⟨fm, S, ρ, so, eo, q.bind.imp fun us fm1 S1 H1 st1 so1 h1 vs p rv hp => by
    refine h1.ok (fm1 ++ [p]) _ (stp_put so1 hp) (ok_put so1 hp rv) _ (.ref ?_)
    rw [← so1.len, List.getElem?_append_right (Nat.le_refl _)]
    simp⟩
end
end Ev
set_option Elab.async false
set_option linter.all false
set_option maxRecDepth 100000
set_option maxHeartbeats 2000000
/-! Ev17: calls of the program's defs. -/
namespace Ev
open PySem PySem.Spec PyProof.Rows L2

/-- what a def promises: what G yields -/
def spF (K : PySem.W.Frag) (cls : Nat → Value) (np : Nat) (G : List U → Sto → R U) : Sp := fun vs H Q E =>
  vs.length = np ∧ ∃ fm S us, StOk K fm S H ∧ Rps K fm S H us vs ∧ Aft K cls (fun c d _ H => E c d H) [] fm S H (G us S) fun u fm' S' H' => ∀ v, Rp K fm' S' H' u v → Q v H'
/-- how it binds: the first ones by place, the others by name, in order -/
def BindK (fd : FuncData) (ps : List Str) : Prop := ∀ us ws : List Value, (us ++ ws).length = ps.length → bindArgs fd ⟨us, (ps.drop us.length).zip ws⟩ = pure (ps.zip (us ++ ws))

section
variable {X : Cx} {CX : CXT} {k : Nat} {f : Addr} {fd : FuncData} {ps ks : List Str} {sp : Sp} {E : L2.St → XK} {x : Str} {p pos kpos : Pos} {e : Expr} {es : List Expr} {kws : List Keyword} {t tk : TA} {cls : Nat → Value} {W : WX} {nm : Option Str}
theorem run_fnKS {pins : List (Addr × Obj)} {σ : L2.St} {H : Hp} {s : Shared} {Q : VK} {us ws : List Value} {vs zs : List V} (F : FnOk X.prog X.w X.K X.mg X.base CX k f fd ps sp) (hr : Room k X.A) (hb : BindK fd ps) (hx : PassesAt CX X σ (E σ))
    (I : Inv X pins σ H s) (r : Vals vs us) (rz : Vals zs ws) (h : sp (vs ++ zs) H Q (E σ)) : wpAny (model X.prog X.w) X.A (call (.ref f) us ((ps.drop us.length).zip ws)) (EP X pins σ Q) X.xe s := by
  have r2 := r.append rz
  have hl : (us ++ ws).length = ps.length := by rw [← r2.length]; exact F.len _ _ _ _ h
  refine wpAny_call (codeAny_mono (F.run X.A X.stack s H ⟨us, (ps.drop us.length).zip ws⟩ (us ++ ws) (vs ++ zs) Q (E σ) hr I.env0 (.of_eq (hb us ws hl)) r2 h) fun r s' hq => ?_)
  cases r with
  | error e => exact hx pins H s e s' I hq
  | ok fl =>
    cases fl with
    | ret u => exact I.after hq
    | next => exact False.elim hq
    | brk => exact False.elim hq
    | cont => exact False.elim hq
theorem run_fn0S {pins : List (Addr × Obj)} {σ : L2.St} {H : Hp} {s : Shared} {Q : VK} {us : List Value} {vs : List V} (F : FnOk X.prog X.w X.K X.mg X.base CX k f fd ps sp) (hr : Room k X.A) (hb : BindK fd ps) (hx : PassesAt CX X σ (E σ))
    (I : Inv X pins σ H s) (r : Vals vs us) (h : sp vs H Q (E σ)) : wpAny (model X.prog X.w) X.A (call (.ref f) us) (EP X pins σ Q) X.xe s := by
  have hl : us.length = ps.length := by rw [← r.length]; exact F.len _ _ _ _ h
  have b := run_fnKS F hr hb hx I r .nil (by rw [List.append_nil]; exact h)
  have e : (ps.drop us.length).zip ([] : List Value) = [] := by simp
  rw [e] at b
  exact b
def tCallZ (sp : Sp) (E : L2.St → XK) (t tk : TA) : TE := fun σ H Q => t σ H fun vs H1 => tk σ H1 fun zs H2 => sp (vs ++ zs) H2 Q (E σ)
theorem pe_callZ (F : FnOk X.prog X.w X.K X.mg X.base CX k f fd ps sp) (hr : Room k X.A) (hg : Gl X x) (hm : X.mg x = some (.ref f)) (hk : PySem.W.keepIn X.K (.ref f) = true) (hb : BindK fd ps) (hx : ∀ σ, PassesAt CX X σ (E σ))
    (ha : PA X (e :: es) t) (hln : ∀ σ H Q, t σ H Q → t σ H fun vs H' => vs.length = (e :: es).length ∧ Q vs H') (hkw : PK X kws tk) (hall : (backToKw pos (keywordEach kws X.env)).all (·.1.isSome) = true) (hks : (backToKw pos (keywordEach kws X.env)).filterMap (·.1) = ps.drop (e :: es).length)
    (hdb : (x == ("__debug__" : Str)) = false) (he : starEach (e :: es) X.env = (false, eval e X.env) :: starEach es X.env)
    (hpl : ((backTo pos (starEach (e :: es) X.env)).any (·.1) || (backToKw pos (keywordEach kws X.env)).any (·.1.isNone)) = false) :
    PE X (.Call (.Name x p) (e :: es) kws pos) (tCallZ sp E t tk) := by
  refine ⟨fun pins s σ H Q I h => ?_⟩
  refine wpAny_Call_Name_kw (ld_glob I hg hm ?_ hdb)
  refine PySem.W.callWith_KW (h₀ := X.base) I.ok.mod.kin hk hall (thn (ha.run pos pins s σ H _ I (hln _ _ _ h)) fun us s1 ⟨vs, H1, I1, r, hl, q⟩ => ?_) hpl he
  refine thn (hkw.run pos pins s1 σ H1 _ I1 q) fun ws s2 ⟨zs, H2, I2, rz, q2⟩ => ⟨I2.kIn, ?_⟩
  rw [hks, ← hl, r.length]
  exact run_fnKS F hr hb (hx σ) I2 r rz q2
theorem pe_callZ0 (F : FnOk X.prog X.w X.K X.mg X.base CX k f fd ps sp) (hr : Room k X.A) (hg : Gl X x) (hm : X.mg x = some (.ref f)) (hk : PySem.W.keepIn X.K (.ref f) = true) (hb : BindK fd ps) (hx : ∀ σ, PassesAt CX X σ (E σ))
    (hkw : PK X kws tk) (hall : (backToKw pos (keywordEach kws X.env)).all (·.1.isSome) = true) (hks : (backToKw pos (keywordEach kws X.env)).filterMap (·.1) = ps)
    (hdb : (x == ("__debug__" : Str)) = false) (hpl : ((backTo pos (starEach [] X.env)).any (·.1) || (backToKw pos (keywordEach kws X.env)).any (·.1.isNone)) = false) :
    PE X (.Call (.Name x p) [] kws pos) (fun σ H Q => tk σ H fun zs H2 => sp zs H2 Q (E σ)) := by
  refine ⟨fun pins s σ H Q I h => ?_⟩
  refine wpAny_Call_Name_kw (ld_glob I hg hm ?_ hdb)
  refine PySem.W.callWith_KW0 (h₀ := X.base) I.ok.mod.kin hk hall (thn (hkw.run pos pins s σ H _ I h) fun ws s2 ⟨zs, H2, I2, rz, q2⟩ => ⟨I2.kIn, ?_⟩) hpl
  rw [hks]
  exact run_fnKS (us := []) (vs := []) F hr hb (hx σ) I2 .nil rz q2
theorem pe_callP (F : FnOk X.prog X.w X.K X.mg X.base CX k f fd ps sp) (hr : Room k X.A) (hg : Gl X x) (hm : X.mg x = some (.ref f)) (hk : PySem.W.keepIn X.K (.ref f) = true) (hb : BindK fd ps) (hx : ∀ σ, PassesAt CX X σ (E σ))
    (ha : PA X (e :: es) t) (hdb : (x == ("__debug__" : Str)) = false) (he : starEach (e :: es) X.env = (false, eval e X.env) :: starEach es X.env) (hpl : (backTo pos (starEach es X.env)).any (·.1) = false) :
    PE X (.Call (.Name x p) (e :: es) [] pos) (tCallS sp E t) := by
  refine ⟨fun pins s σ H Q I h => ?_⟩
  refine wpAny_Call_Name_kw (ld_glob I hg hm ?_ hdb)
  refine PySem.W.callWith_K (h₀ := X.base) I.ok.mod.kin hk (thn (ha.run pos pins s σ H _ I h) fun us s1 ⟨vs, H1, I1, r, q⟩ => ⟨I1.kIn, ?_⟩) he hpl
  exact run_fn0S F hr hb (hx σ) I1 r q
theorem pe_callP0 (F : FnOk X.prog X.w X.K X.mg X.base CX k f fd ps sp) (hr : Room k X.A) (hg : Gl X x) (hm : X.mg x = some (.ref f)) (hk : PySem.W.keepIn X.K (.ref f) = true) (hb : BindK fd ps) (hx : ∀ σ, PassesAt CX X σ (E σ))
    (hdb : (x == ("__debug__" : Str)) = false) : PE X (.Call (.Name x p) [] [] pos) (fun σ H Q => sp [] H Q (E σ)) := by
  refine ⟨fun pins s σ H Q I h => ?_⟩
  refine wpAny_Call_Name_kw (ld_glob I hg hm ?_ hdb)
  exact PySem.W.callWith_K0 I.kIn hk (run_fn0S (us := []) (vs := []) F hr hb (hx σ) I .nil h)
end

/-- a def at hand in X: at f, promising what G yields -/
structure Def (X : Cx) (cls : Nat → Value) (x : Str) (ps : List Str) (G : List U → Sto → R U) : Prop where
  ex : ∃ (k : Nat) (f : Addr) (fd : FuncData), FnOk X.prog X.w X.K X.mg X.base (L2.CX X.prog X.w) k f fd ps (spF X.K cls ps.length G) ∧ Room k X.A ∧ X.mg x = some (.ref f) ∧ PySem.W.keepIn X.K (.ref f) = true ∧ BindK fd ps
  few : ∀ us S, us.length ≠ ps.length → G us S = .stuck
section
variable {X : Cx} {x : Str} {ps : List Str} {G : List U → Sto → R U} {p pos kpos : Pos} {e : Expr} {es : List Expr} {kws : List Keyword} {cls : Nat → Value} {W : WX} {nm : Option Str} {ra : Rho → Sto → R U} {rs rk : Rho → Sto → R (List U)}
theorem tks_nil : PK X [] (tEs X.K cls W fun _ S => .ok [] S) := by
  have h : PK X [] (fun σ H Q => Q [] H) := ⟨fun _ _ _ _ H Q I h => wpAny_evalAll_nil ⟨[], H, I, .nil, h⟩⟩
  exact h.imp fun σ H Q ⟨fm, S, ρ, so, eo, q⟩ => q fm H .refl so [] .nil
theorem tks_cons (ha : PE X e (tE X.K cls W ra)) (hs : PK X kws (tEs X.K cls W rs)) :
    PK X (⟨nm, e, kpos⟩ :: kws) (tEs X.K cls W fun ρ S => (ra ρ S).bind fun u S1 => (rs ρ S1).bind fun us S2 => .ok (u :: us) S2) :=
  (pk_cons ha hs).imp fun σ H Q ⟨fm, S, ρ, so, eo, q⟩ => ⟨fm, S, ρ, so, eo, q.bind.imp fun u fm1 S1 H1 st1 so1 h1 v1 r1 => ⟨fm1, S1, ρ, so1, eo.mono st1.toGr, h1.bind.imp fun us fm2 S2 H2 st2 so2 h2 vs rs =>
    h2.ok fm2 H2 .refl so2 (v1 :: vs) (.cons (r1.mono st2.toGr) rs)⟩⟩
theorem sp_of {σ : L2.St} {fm : List Addr} {S : Sto} {H : Hp} {us : List U} {vs : List V} {Q : VK} (few : ∀ us S, us.length ≠ ps.length → G us S = .stuck) (so : StOk X.K fm S H) (r : Rps X.K fm S H us vs)
    (h : Aft X.K cls W σ fm S H (G us S) fun u fm' S' H' => ∀ v, Rp X.K fm' S' H' u v → Q v H') : spF X.K cls ps.length G vs H Q (WE W σ) := by
  refine ⟨?_, fm, S, us, so, r, ?_⟩
  · rw [← r.length]
    apply Classical.byContradiction
    intro z
    rw [few us S z] at h
    exact h
  · revert h
    cases G us S with
    | ok a S1 => exact fun h => h
    | ex c S1 => exact fun h => h
    | stuck => exact fun h => h
theorem te_call (D : Def X cls x ps G) (tk : Takes X W) (hg : Gl X x) (ha : PA X (e :: es) (tEs X.K cls W rs)) (hdb : (x == ("__debug__" : Str)) = false) (he : starEach (e :: es) X.env = (false, eval e X.env) :: starEach es X.env) (hpl : (backTo pos (starEach es X.env)).any (·.1) = false) :
    PE X (.Call (.Name x p) (e :: es) [] pos) (tE X.K cls W fun ρ S => (rs ρ S).bind fun us S1 => G us S1) := by
  obtain ⟨k, f, fd, F, hr, hm, hk, hb⟩ := D.ex
  exact (pe_callP F hr hg hm hk hb (fun σ => passAt tk σ) ha hdb he hpl).imp fun σ H Q ⟨fm, S, ρ, so, eo, q⟩ => ⟨fm, S, ρ, so, eo, q.bind.imp fun us fm1 S1 H1 st1 so1 h1 vs rv => sp_of D.few so1 rv h1⟩
theorem te_call0 (D : Def X cls x ps G) (tk : Takes X W) (hg : Gl X x) (hdb : (x == ("__debug__" : Str)) = false) :
    PE X (.Call (.Name x p) [] [] pos) (tE X.K cls W fun ρ S => (R.ok [] S).bind fun us S1 => G us S1) := by
  obtain ⟨k, f, fd, F, hr, hm, hk, hb⟩ := D.ex
  exact (pe_callP0 F hr hg hm hk hb (fun σ => passAt tk σ) hdb).imp fun σ H Q ⟨fm, S, ρ, so, eo, q⟩ => sp_of D.few so .nil q
theorem te_callK0 (D : Def X cls x ps G) (tk : Takes X W) (hg : Gl X x) (hkw : PK X kws (tEs X.K cls W rk)) (hall : (backToKw pos (keywordEach kws X.env)).all (·.1.isSome) = true) (hks : (backToKw pos (keywordEach kws X.env)).filterMap (·.1) = ps) (hdb : (x == ("__debug__" : Str)) = false)
    (hpl : ((backTo pos (starEach [] X.env)).any (·.1) || (backToKw pos (keywordEach kws X.env)).any (·.1.isNone)) = false) :
    PE X (.Call (.Name x p) [] kws pos) (tE X.K cls W fun ρ S => (rk ρ S).bind fun us S1 => G us S1) := by
  obtain ⟨k, f, fd, F, hr, hm, hk, hb⟩ := D.ex
  exact (pe_callZ0 F hr hg hm hk hb (fun σ => passAt tk σ) hkw hall hks hdb hpl).imp fun σ H Q ⟨fm, S, ρ, so, eo, q⟩ => ⟨fm, S, ρ, so, eo, q.bind.imp fun us fm1 S1 H1 st1 so1 h1 vs rv => sp_of D.few so1 rv h1⟩
theorem te_callK (D : Def X cls x ps G) (tk : Takes X W) (hg : Gl X x) (ha : PA X (e :: es) (tEs X.K cls W rs)) (hlr : ∀ ρ S us S', rs ρ S = .ok us S' → us.length = (e :: es).length) (hkw : PK X kws (tEs X.K cls W rk)) (hall : (backToKw pos (keywordEach kws X.env)).all (·.1.isSome) = true)
    (hks : (backToKw pos (keywordEach kws X.env)).filterMap (·.1) = ps.drop (e :: es).length) (hdb : (x == ("__debug__" : Str)) = false) (he : starEach (e :: es) X.env = (false, eval e X.env) :: starEach es X.env)
    (hpl : ((backTo pos (starEach (e :: es) X.env)).any (·.1) || (backToKw pos (keywordEach kws X.env)).any (·.1.isNone)) = false) :
    PE X (.Call (.Name x p) (e :: es) kws pos) (tE X.K cls W fun ρ S => (rs ρ S).bind fun us S1 => (rk ρ S1).bind fun ws S2 => G (us ++ ws) S2) := by
  obtain ⟨k, f, fd, F, hr, hm, hk, hb⟩ := D.ex
  refine (pe_callZ F hr hg hm hk hb (fun σ => passAt tk σ) ha (fun σ H Q ⟨fm, S, ρ, so, eo, q⟩ => ⟨fm, S, ρ, so, eo, ?_⟩) hkw hall hks hdb he hpl).imp fun σ H Q ⟨fm, S, ρ, so, eo, q⟩ => ⟨fm, S, ρ, so, eo, q.bind.imp fun us fm1 S1 H1 st1 so1 h1 vs rv => ⟨fm1, S1, ρ, so1, eo.mono st1.toGr, h1.bind.imp fun ws fm2 S2 H2 st2 so2 h2 zs rz =>
    sp_of D.few so2 ((rv.mono st2.toGr).append rz) h2⟩⟩
  have hl := hlr ρ S
  revert q hl
  cases rs ρ S with
  | ok us S1 => exact fun q hl fm1 H1 st1 so1 vs rv => ⟨by rw [← rv.length]; exact hl us S1 rfl, q fm1 H1 st1 so1 vs rv⟩
  | ex c S1 => exact fun q _ => q
  | stuck => exact fun q _ => q
end
end Ev
set_option Elab.async false
set_option linter.all false
set_option maxRecDepth 100000
set_option maxHeartbeats 2000000
/-! Ev18: dicts made, asked, walked; signs; names of the module. -/
namespace Ev
open PySem PySem.Spec PyProof.Rows L2
section
variable {X : Cx} {cls : Nat → Value} {W : WX} {pos apos cpos : Pos} {a b c : Expr} {ra rb rc : Rho → Sto → R U} {x : Str}
theorem te_dnew : PE X (.Dict [] [] pos) (tE X.K cls W fun _ S => .ok (.ref S.length) (S ++ [.liv (.dct [])])) :=
  pe_dnewK.imp fun σ H Q ⟨fm, S, ρ, so, eo, q⟩ p hp => by
    refine q (fm ++ [p]) _ (stp_put so hp) (ok_putO so hp ⟨[], upd_same, .nil⟩) _ (.ref ?_)
    rw [← so.len, List.getElem?_append_right (Nat.le_refl _)]
    simp
theorem te_dget (hu : X.A.units + 72 < cLine) (ha : PE X a (tE X.K cls W ra)) (hb : PE X b (tE X.K cls W rb)) (hc : PE X c (tE X.K cls W rc)) (m : M2 X a "get" apos b c cpos) :
    PE X (.Call (.Attribute a "get" apos) [b, c] [] cpos) (tE X.K cls W fun ρ S => (ra ρ S).bind fun u S1 => if (dctOf S1 u).isSome = true then (rb ρ S1).bind fun v S2 => (rc ρ S2).bind fun w S3 => optR S3 (dgetU S3 u v w) else .stuck) :=
  (pe_dget2 (Nat.lt_of_le_of_lt (Nat.add_le_add_left (by decide : 1 ≤ 72) _) hu) ha hb hc m).imp fun σ H Q ⟨fm, S, ρ, so, eo, q⟩ => ⟨fm, S, ρ, so, eo, q.bind.imp fun u fm1 S1 H1 st1 so1 h1 v1 r1 => by
    split at h1
    · rename_i hd
      obtain ⟨kvs, hd⟩ := Option.isSome_iff_exists.mp hd
      obtain ⟨p, vs, rfl, h2, _⟩ := rp_dct so1 r1 hd
      refine ⟨p, rfl, .inl ⟨vs, h2⟩, fm1, S1, ρ, so1, eo.mono st1.toGr, h1.bind.imp fun w fm2 S2 H2 st2 so2 h3 v2 r2 => ⟨fm2, S2, ρ, so2, (eo.mono st1.toGr).mono st2.toGr, h3.bind.imp fun z fm3 S3 H3 st3 so3 h4 v3 r3 => ?_⟩⟩
      obtain ⟨y, e, hq⟩ := h4.opt
      unfold dgetU at e
      split at e
      · rename_i i kvs' e1
        cases e
        cases r2
        obtain ⟨p', vs', e2, h5, rk⟩ := rp_dct so3 ((r1.mono st2.toGr).mono st3.toGr) e1
        cases e2
        refine ⟨valV vs' (.inl i), .inl ⟨vs', .inl i, h5, rfl, rfl⟩, hq fm3 H3 .refl so3 _ ?_⟩
        rcases rk.val (k := i) with ⟨u', v', g1, g2, g3⟩ | ⟨g1, g2⟩
        · rw [g1, g2]; exact g3
        · rw [g1, g2]; exact r3
      · cases e
    · exact h1.elim⟩
theorem te_neg (ha : PE X a (tE X.K cls W ra)) : PE X (.UnaryOp .USub a pos) (tE X.K cls W fun ρ S => (R.ok (.int 0) S).bind fun u S1 => (ra ρ S1).bind fun v S2 => optR S2 (binU S2 .sub u v)) :=
  (pe_un un_neg ha).imp fun σ H Q ⟨fm, S, ρ, so, eo, q⟩ => ⟨fm, S, ρ, so, eo, by
    dsimp only [R.bind] at q
    exact q.bind.imp fun u fm1 S1 H1 st1 so1 h1 v1 r1 => by
      obtain ⟨z, e, hq⟩ := h1.opt
      obtain ⟨i, j, h2, h3, e⟩ := int2_some e
      cases h2
      cases e
      rw [rp_int r1 h3]
      refine ⟨j, rfl, ?_⟩
      have := hq fm1 H1 .refl so1 _ (.int (0 - j))
      rw [Int.zero_sub] at this
      exact this⟩
theorem te_glob {u : U} {v : V} {w : Value} (hg : Gl X x) (hm : X.mg x = some w) (r : RelV v w) (hd : (x == ("__debug__" : Str)) = false) (h : ∀ fm S H, Rp X.K fm S H u v) : PE X (.Name x pos) (tE X.K cls W fun _ S => .ok u S) :=
  te_cst (pe_glob hg hm r hd) h
end

theorem wu_keys {K : PySem.W.Frag} {a : Addr} {od : Obj} {kvs : List (Int × U)} {vs : List (Key × V)} (hl : kvs.length = vs.length) (hk : ∀ (i : Nat) k v, vs[i]? = some (k, v) → ∃ j u, kvs[i]? = some (j, u) ∧ k = Sum.inl j) :
    WU K (Itk a od vs) (kvs.map fun kv => .int kv.1) (fun _ _ H => H a = some (.frz od (.dK vs))) where
  goes := fun i fm S H hi so h => ⟨h, by rw [List.length_map] at hi; omega⟩
  stops := fun fm S H so h => ⟨h, by rw [List.length_map]; omega⟩
  yields := fun i fm S H x H' hi so h y => by
    obtain ⟨rfl, k, v, e, rfl⟩ := y
    obtain ⟨j, u, e1, rfl⟩ := hk i k v e
    exact ⟨.int j, by rw [List.getElem?_map, e1]; rfl, .refl, so, .int j⟩
  keep := fun fm S H fm' S' H' h st => st.frz _ _ _ h
  lockY := fun i H x H' D ws od ⟨e, y⟩ hD => by subst e; exact ⟨hD, rfl, y⟩
section
variable {X : Cx} {cls : Nat → Value} {W : WX} {elt tg : Expr} {ifs : List Expr} {scope : Scope} {own : List (Str × Nat)} {pos p : Pos} {gt : U → Rho → Sto → Option (Rho × Sto)} {rc : Rho → Sto → R Bool} {re : Rho → Sto → R U}
theorem tq_compK {i : Nat} {y : Str} (hy : X.N[i]? = some y) (hv : Vis X.env.scope y) (hd : (y == ("__debug__" : Str)) = false) (hcd : (y == ("__classdict__" : Str)) = false) (hc : X.calm = true) (hN : X.N.Nodup) (ok : BlkOk X.N X.env.scope scope own)
    (hg : ∀ (s : Shared) (H : Hp) (C : Addr) (cl : List (Str × Addr)) (fp : List Addr), PG (X.blk s H scope (compEnvC scope cl C X.env) fp) tg (tG X.K (· ∈ own.map (·.2)) gt))
    (ht : ∀ (s : Shared) (H : Hp) (C : Addr) (cl : List (Str × Addr)) (fp : List Addr), PTs (X.blk s H scope (compEnvC scope cl C X.env) fp) ifs (tB X.K cls WF rc))
    (he : ∀ (s : Shared) (H : Hp) (C : Addr) (cl : List (Str × Addr)) (fp : List Addr), PE (X.blk s H scope (compEnvC scope cl C X.env) fp) elt (tE X.K cls WF re)) :
    PE X (.ListComp elt [⟨tg, .Name y p, ifs, 0⟩] scope pos) (tQ X.K cls W fun ρ S => match getR ρ i with
      | some (.ref n) => match S[n]? with
        | some (.liv (.dct kvs)) => if kvs.length ≤ lim then (compL (stepC (own.map (·.2)) gt rc re ρ) (kvs.map fun kv => .int kv.1) (S.set n (.lck (.dct kvs)))).bind fun ys S2 => .ok ys (S2.set n (.liv (.dct kvs))) else .stuck
        | _ => .stuck
      | _ => .stuck) :=
  (pe_lock (pe_lc hc hN (pi_keys (pe_var hy hv hd hcd)) ok (fun s H C cl fp => pg_lock (hg s H C cl fp)) (fun s H C cl fp => pts_lock (ht s H C cl fp)) (fun s H C cl fp => pe_lock (he s H C cl fp)) (fun _ => rfl))).imp fun σ H Q ⟨fm, S, ρ, so, eo, q⟩ => by
    dsimp only at q
    split at q <;> first | exact q.elim | skip
    rename_i n hn
    split at q <;> first | exact q.elim | skip
    rename_i kvs hs
    split at q <;> first | exact q.elim | skip
    rename_i hlen
    have e' : ρ[i]? = some (some (.ref n)) := by
      unfold getR at hn
      cases q : ρ[i]? with
      | none => rw [q] at hn; cases hn
      | some o => rw [q] at hn; cases o with
        | none => cases hn
        | some w => cases hn; rfl
    obtain ⟨v, ev, rv⟩ := eo.2 i _ e'
    cases rv with
    | ref hf =>
    rename_i a
    obtain ⟨vs, hA, rk⟩ := so.obj _ _ _ hf hs
    refine ⟨a, .dK vs, hA, trivial, fun od => ?_⟩
    obtain ⟨soL, gL⟩ := stp_dlock (od := od) so hs hf hA rk
    refine ⟨.ref a, ev, a, od, rfl, .inl ⟨vs, upd_same, fun D hD => ?_⟩⟩
    have hDa : D ≠ a := fun z => by subst z; rw [upd_same] at hD; cases hD
    cases ec : compL (stepC (own.map (·.2)) gt rc re ρ) (kvs.map fun kv => .int kv.1) (S.set n (.lck (.dct kvs))) with
    | stuck => rw [ec] at q; exact q.elim
    | ex c S2 => exact absurd ec (compL_ex _ _ _ _ _)
    | ok ys S2 =>
    rw [ec] at q
    simp only [R.bind] at q
    refine tlc_of (cls := cls) (Q := fun v H' => H' a = some (.frz od (.dK vs)) ∧ Q v (upd H' a (.dK vs))) (wu_keys rk.length fun i k v e => rk.keys e) upd_same soL (eo.mono gL) (by rw [List.length_map]; exact hlen) ec hD fun fm2 H2 ws G hG => ?_
    have nin := G.nin
    have e0 : Off D (upd H2 D (.frz ob0 (.lst ws))) (del H2 D) := ⟨fun a ha => by rw [upd_ne ha, del_ne ha]⟩
    have st2 := stp_off soL (G.stp ob0) hD e0
    have so2 := ok_off (G.ok ob0) upd_same nin e0
    obtain ⟨h2, st3, g3, so3⟩ := stp_dopen so hs hf hA rk st2 so2
    refine ⟨by rw [del_ne hDa.symm] at h2; exact h2, ?_⟩
    have := q fm2 _ st3 so3 ws D (((G.vals ob0).mono (gr_off upd_same e0)).mono g3) (by rw [upd_ne hDa]; exact del_same)
    rw [upd_comm hDa.symm, upd_del hG] at this
    exact this
end
end Ev
set_option Elab.async false
set_option linter.all false
set_option maxRecDepth 100000
set_option maxHeartbeats 4000000
/-! Ev18e: an own error class over ValueError whose making says super().__init__() and no more: made. -/
namespace Ev
open PySem PySem.Spec PyProof.Rows L2
/-- the body that says super().__init__() -/
abbrev supBody (p0 p1 p2 p3 p4 : Pos) : List Stmt := [.Expr (.Call (.Attribute (.Call (.Name "super" p0) [] [] p1) "__init__" p2) [] [] p3) p4]
section
open PySem.W
variable {prog : Program} {w : World} {A : Around} {K : PySem.W.Frag} {hp : Heap} {g : Array GenState} {dr : Drawn} {tk : Nat} {os : OsState}
/-- super().__init__() of an object that was just made -/
theorem code_sup {C fI cc cda e : Addr} {p0 p1 p2 p3 p4 : Pos} {name qual : Str} {params : Arguments} {scope : Scope} {dV kV doc pm ct oc ccl cl : Value} {an od cdd cld : Option Addr} {osl ccs csl : Array (Option Value)} {vs : Array Value} {file : Str} {tf : Tok} {ar : Arg} {cdD : ClassData}
    {mg mb : Str → Option Value} {R : Result → Shared → Prop} {t : Addr}
    (X : K.In hp) (hlim : hp.NoLimit) (hns : hp.Ns mainGlobals mg) (hb : hp.Ns builtinsNs mb) (hbb : mb "super" = some (.type "super")) (hmg : mg "super" = none)
    (hroom : A.depth < recursionLimit)
    (hf : K.lookup fI = some ⟨oc, od, .func (ksFn name qual params (supBody p0 p1 p2 p3 p4) scope dV kV doc pm an (.ref cda) ct cc), osl⟩)
    (hcd : codeIn K (.ref cda) qual = true) (q : excInitIn K C PySem.HandSPX.veTail "ValueError.__new__" = true)
    (hp1 : (params.posonlyargs ++ params.args).head? = some ar)
    (hcode : K.lookup cda = some ⟨ccl, cdd, .fields vs, ccs⟩) (hvs : vs[2]? = some (.str file tf)) (hfile : ((prog.main.file : Str) == file) = true)
    (hcell : K.lookup cc = some ⟨cl, cld, .cell (some (.ref C)), csl⟩) (hD : clsIn K C = some cdD) (hsub : mroIn K C (.ref C) = some true)
    (hks : scope.names.lookup ("super" : Str) = some .globalImplicit) (hkc : scope.names.lookup ("__class__" : Str) = some .free) (hka : scope.names.lookup ar.arg = some .local) (hk : scope.kind = .function)
    (htop : (prog.main.scope.names.lookup ("super" : Str)).isSome = false) (hthird : nsIn K cStatics "thirdparty.any" = some none)
    (hsup : ks_superIn K C C "__init__" = some (some (.builtin "ValueError.__init__"))) (hB : subIn K (.ref C) (.type "ValueError") = some true)
    (hbind : ∀ s u, BindsTo s (ksFn name qual params (supBody p0 p1 p2 p3 p4) scope dV kV doc pm an (.ref cda) ct cc) ⟨[u], []⟩ [(ar.arg, u)])
    (hnc : ∀ x ∈ scope.names, x.2 ≠ .cell) (hco : scope.isCoroutine = false) (hgen : scope.isGenerator = false)
    (hE : ∀ env : Env, ∃ pl : Sem Bool, eval (.Call (.Attribute (.Call (.Name "super" p0) [] [] p1) "__init__" p2) [] [] p3) env = (do
      let ov ← attributeBase (.Call (.Name "super" p0) [] [] p1) "__init__" env (eval (.Call (.Name "super" p0) [] [] p1) env)
      standAt p2.atName
      let (f, first) ← holding [ov] (getMethod ov "__init__" pl)
      callWith p3 f first (backTo p3 (starEach [] env)) []))
    (he : hp.get? e = some (PySem.HandSPX.excO C t))
    (hq : ∀ t' h' tk', (∀ b o, b ≠ e → hp.get? b = some o → h'.get? b = some o) → h'.get? e = some (PySem.HandSPX.excO C t') → R (.ok (.ret .none)) ⟨h', g, dr, tk', os⟩) :
    codeAny (model prog w) A (.call (.ref fI) ⟨[.ref e], []⟩) R ⟨hp, g, dr, tk, os⟩ := by
  have hxC : e ≠ C := fun z => by
    subst z
    unfold clsIn at hD
    split at hD
    · rename_i c d cd' sl ho
      have e1 := X _ _ ho
      rw [he] at e1; cases e1
    · cases hD
  obtain ⟨nm, N', qn, bs, bm, hdct, sn, sub, ab, col, dd, k0, k1, k2, k3, k5, hC0, hT⟩ := excInit_of X q
  refine ks_codeAny_call_defAt (fd := ksFn name qual params (supBody p0 p1 p2 p3 p4) scope dV kV doc pm an (.ref cda) ct cc) (body := supBody p0 p1 p2 p3 p4) (binds := [(ar.arg, .ref e)]) hroom (X _ _ hf) rfl hlim (codeRec_of X hcd) rfl (hbind _ _) hnc (fun x hx => by
    rcases List.mem_cons.mp hx with rfl | hx
    · exact hka
    · cases hx) (fun h0 hns0 k0' => ?_) hco hgen hk
  show _root_.PySem.wpAt (model prog w) (A.deeper (ksEnv qual scope hp.objs.size fI (.ref cda) cc)) (.func (supBody p0 p1 p2 p3 p4) (ksEnv qual scope hp.objs.size fI (.ref cda) cc)) (execs (supBody p0 p1 p2 p3 p4) (ksEnv qual scope hp.objs.size fI (.ref cda) cc)) _ _ _
  have X1 : K.In h0 := X.keeps k0'
  have he1 := k0' _ _ he
  obtain ⟨oD, hD1, hD2⟩ : ∃ oD, h0.get? C = some oD ∧ oD.data = .cls cdD := by
    unfold clsIn at hD
    split at hD
    · rename_i c d cd' sl ho
      cases hD
      exact ⟨_, X1 _ _ ho, rfl⟩
    · cases hD
  refine ks_wpAt_execs_cons ?_
  refine ks_wpAt_Expr_any ?_ (by unfold interactive; simp [Env.blockKind, hk]) rfl
  obtain ⟨pl, hE⟩ := hE (ksEnv qual scope hp.objs.size fI (.ref cda) cc)
  refine ks_wpAt_MethodCall (pl := pl) ?_ hE
  refine ks_wpAt_super_base (env := ksEnv qual scope hp.objs.size fI (.ref cda) cc) hks hkc rfl rfl (X1 _ _ hf) rfl hp1 rfl (X1 _ _ hcode) rfl hvs hfile htop ?_
  refine ks_loadName_global hk hks (Calls.loadGlobal_builtin (env := ksEnv qual scope hp.objs.size fI (.ref cda) cc) (hns.keeps k0') hmg (hb.keeps k0') hbb ⟨rfl, ?_⟩)
  refine wpAny_loadName_free hk hkc rfl ⟨_, X1 _ _ hcell, rfl⟩ ?_
  refine wpAny_loadName_local hk hka hns0 (v := .ref e) (by simp [List.lookup]) ?_
  refine ks_wpAny_isType_cls hD1 hD2 ⟨rfl, ?_⟩
  refine ks_wpAny_call_super hD1 hD2 he1 rfl (fun c e => by cases e) (looks_mroIn X1 hsub) (fun h1 hso k1' => ?_)
  have X2 : K.In h1 := X1.keeps k1'
  have he2 := k1' _ _ he1
  have LT : Looks (model prog w) h1 (typeOf (.ref e)) (.ref C) := fun A Q E s k q => wpAny_typeOf_ref (k _ _ he2) q
  unfold ks_superIn at hsup
  rw [hD, Option.bind_some] at hsup
  refine kxs_getMethod kxs_ValueError hso (looks_opaque X2 hthird) (l₀ := cdD.mro) (fun A Q E s k q => wpAny_bind ((looks_clsIn X2 hD) A _ E s k (wpAny_pure q))) rfl X2 hsup (LT.andThen (looks_subIn X2 hB)) hxC rfl ?_
  have hC2 := Heap.get?_push_of_some (kxs_mw "ValueError.__init__" e) (k1' _ _ (k0' _ _ hC0))
  have he3 := Heap.get?_push_of_some (kxs_mw "ValueError.__init__" e) he2
  have hu : (h1.push (kxs_mw "ValueError.__init__" e)).get? h1.objs.size = some (kxs_mw "ValueError.__init__" e) := Heap.get?_push_at rfl rfl
  refine kxs_callWith (i := "ValueError.__init__") (x := e) rfl (evalArgs_empty ⟨hu, ?_⟩)
  refine wpAny_call (codeAny_of_tree ?_)
  show wpAny _ (Around.in1 _) (callAny (.ref _) ⟨[], []⟩) _ _ _
  simp only [callAny]
  refine wpAny_bind (wpAny_load hu ?_)
  simp only [kxs_mw, show (Value.type "method-wrapper" == Value.type "method" || Value.type "method-wrapper" == Value.type "builtin_function_or_method" || Value.type "method-wrapper" == Value.type "method-wrapper") = true by decide, if_true]
  refine KFB.if_so (by decide) ?_
  refine wpAny_bind (check_bound_init F.excBase_ValueError.toExcCallFacts hC2 he3 rfl ?_)
  refine wpAny_bind (wpAny_pure (wpAny_pure ?_))
  refine ⟨plainId_quiet F.excBase_ValueError.init.plain _, codeAny_builtin F.excBase_ValueError.initEntry ?_⟩
  refine exc_init_tree (cls := .ref C) (t0 := t) (dv := none) (c2 := .none) (c3 := .none) (b4 := .bool false) he3 (by simp) fun h' kk e' t' => ?_
  refine wpAt_of_wpAny (wpAny_execs_nil ?_)
  exact hq _ h' _ (fun b o hb ho => kk b o hb (Heap.get?_push_of_some _ (k1' _ _ (k0' _ _ ho)))) e'
end
/-- what the written part says of such a class C, its __init__ at fI -/
structure SupC (prog : Program) (K : PySem.W.Frag) (C : Addr) : Prop where
  kC : PySem.W.keepIn K (.ref C) = true
  exC : PySem.W.subIn K (.ref C) (.type "BaseException") = some true
  tyC : PySem.W.typeIn K (.ref C) = some (.type "type")
  fn : ∃ (fI cc cda : Addr) (p0 p1 p2 p3 p4 : Pos) (name qual : Str) (params : Arguments) (scope : Scope) (dV kV doc pm ct oc ccl cl : Value) (an od cdd cld : Option Addr) (osl ccs csl : Array (Option Value)) (vs : Array Value) (file : Str) (tf : Tok) (ar : Arg) (cdD : ClassData),
    K.lookup fI = some ⟨oc, od, .func (PySem.W.ksFn name qual params (supBody p0 p1 p2 p3 p4) scope dV kV doc pm an (.ref cda) ct cc), osl⟩ ∧ PySem.W.codeIn K (.ref cda) qual = true ∧ PySem.W.typeIn K (.ref fI) = some (.type "function") ∧
    PySem.W.findIn K (.ref C) "__init__" = some (some (.ref fI)) ∧ PySem.W.excInitIn K C PySem.HandSPX.veTail "ValueError.__new__" = true ∧ (params.posonlyargs ++ params.args).head? = some ar ∧
    K.lookup cda = some ⟨ccl, cdd, .fields vs, ccs⟩ ∧ vs[2]? = some (.str file tf) ∧ ((prog.main.file : Str) == file) = true ∧ K.lookup cc = some ⟨cl, cld, .cell (some (.ref C)), csl⟩ ∧ PySem.W.clsIn K C = some cdD ∧ PySem.W.mroIn K C (.ref C) = some true ∧
    scope.names.lookup ("super" : Str) = some .globalImplicit ∧ scope.names.lookup ("__class__" : Str) = some .free ∧ scope.names.lookup ar.arg = some .local ∧ scope.kind = .function ∧ (prog.main.scope.names.lookup ("super" : Str)).isSome = false ∧
    PySem.W.nsIn K cStatics "thirdparty.any" = some none ∧ PySem.W.ks_superIn K C C "__init__" = some (some (.builtin "ValueError.__init__")) ∧ PySem.W.subIn K (.ref C) (.type "ValueError") = some true ∧
    (∀ s u, BindsTo s (PySem.W.ksFn name qual params (supBody p0 p1 p2 p3 p4) scope dV kV doc pm an (.ref cda) ct cc) ⟨[u], []⟩ [(ar.arg, u)]) ∧ (∀ x ∈ scope.names, x.2 ≠ .cell) ∧ scope.isCoroutine = false ∧ scope.isGenerator = false ∧
    (∀ env : Env, ∃ pl : Sem Bool, eval (.Call (.Attribute (.Call (.Name "super" p0) [] [] p1) "__init__" p2) [] [] p3) env = (do
      let ov ← attributeBase (.Call (.Name "super" p0) [] [] p1) "__init__" env (eval (.Call (.Name "super" p0) [] [] p1) env)
      standAt p2.atName
      let (f, first) ← holding [ov] (getMethod ov "__init__" pl)
      callWith p3 f first (backTo p3 (starEach [] env)) []))
/-- C() -/
theorem pmk_sup {X : Cx} {C : Addr} {x : Str} {p pos : Pos} (T : SupC X.prog X.K C) (hg : Gl X x) (hm : X.mg x = some (.ref C)) (hms : X.mg "super" = none) (hr : X.A.depth + 1 < recursionLimit) (hdb : (x == ("__debug__" : Str)) = false) :
    PMk X (.Call (.Name x p) [] [] pos) (fun _ H Q => Q (.ref C) none H) := by
  intro pins s σ H Q I h
  obtain ⟨fI, cc, cda, p0, p1, p2, p3, p4, name, qual, params, scope, dV, kV, doc, pm, ct, oc, ccl, cl, an, od, cdd, cld, osl, ccs, csl, vs, file, tf, ar, cdD, hf, hcd, tI, iC, q, hp1, hcode, hvs, hfile, hcell, hD, hsub, hks, hkc, hka, hk, htop, hthird, hsup, hB, hbind, hnc, hco, hgen, hE⟩ := T.fn
  have rz := raises_own (X := X) T.exC T.tyC
  refine wpAny_Call_Name_kw (ld_glob I hg hm ?_ hdb)
  refine PySem.W.callWith_K0 (first := []) I.kIn T.kC ?_
  show wpAny _ _ (call (.ref C) []) _ _ _
  obtain ⟨mb, hb1, hb2⟩ := I.mod.blt
  have hglob := I.mod.glob.keeps I.bk
  have hblt := hb1.keeps I.bk
  have hlim := I.mod.nolimit.keeps I.bk
  have hKin := I.kIn
  obtain ⟨hp, g, dr, tk, os⟩ := s
  obtain ⟨nm, N', qn, bs, bm, hdct, sn, sub, ab, col, dd, k0, k1, k2, k3, k5, hC, hT⟩ := PySem.W.excInit_of hKin q
  refine wpAny_call (PySem.HandSPX.call_own PySem.F.excBase_ValueError hT hC (PySem.W.looks_findIn hKin iC) (fun self => PySem.W.bind_fn hKin self tI) (Nat.zero_le _) ?_)
  have kk : ∀ b o, hp.get? b = some o → ((hp.push (PySem.W.kdv_tup [])).push (PySem.HandSPX.excO C hp.objs.size)).get? b = some o := fun b o e => Heap.get?_push_of_some _ (Heap.get?_push_of_some _ e)
  have hget : ((hp.push (PySem.W.kdv_tup [])).push (PySem.HandSPX.excO C hp.objs.size)).get? (hp.objs.size + 1) = some (PySem.HandSPX.excO C hp.objs.size) := by heap_get
  refine code_sup (hKin.keeps kk) (hlim.keeps kk) (hglob.keeps kk) (hblt.keeps kk) ((hb2 "super" (by decide)).trans (by decide +kernel)) hms ?_ hf hcd q hp1 hcode hvs hfile hcell hD hsub hks hkc hka hk htop hthird hsup hB hbind hnc hco hgen hE hget fun t' h' tk' k' he' => ?_
  · rw [make_depth]; exact hr
  · refine ⟨rfl, hp.objs.size + 1, _, _, ⟨hp, g, dr, tk, os⟩, H, .ref C, none, rfl, I, fun b o e => k' b o (Nat.ne_of_lt (Nat.lt_succ_of_lt (Heap.lt_size e))) (kk b o e), ?_, he', ⟨rfl, rfl⟩, rfl, rfl, ?_, rfl, I.bare, rz, h⟩
    · cases z : hp.get? (hp.objs.size + 1) with
      | none => rfl
      | some o => exact absurd (Heap.lt_size z) (Nat.not_lt.mpr (Nat.le_succ _))
    · exact I.hok.fresh (Nat.le_succ _)
/-- raise C() -/
theorem ps_sup {X : Cx} {W : WX} {C : Addr} {x : Str} {p pos rp : Pos} (T : SupC X.prog X.K C) (hc : X.calm = true) (tk : Takes X W) (hg : Gl X x) (hm : X.mg x = some (.ref C)) (hms : X.mg "super" = none) (hr : X.A.depth + 1 < recursionLimit) (hdb : (x == ("__debug__" : Str)) = false) :
    PS X (.Raise (some (.Call (.Name x p) [] [] pos)) none rp) (fun _ σ H => W (.ref C) none σ H) :=
  ps_raise hc tk (pmk_sup T hg hm hms hr hdb)
end Ev
set_option Elab.async false
set_option linter.all false
set_option maxRecDepth 100000
set_option maxHeartbeats 4000000
/-! Ev18f: except suites of one statement; try. -/
namespace Ev
open PySem PySem.Spec PyProof.Rows L2

/-- beside what a reading asks: the name at i holds the caught exception -/
def tPe (a : Addr) (i : Nat) (t : TE) : TE := fun σ H Q => σ[i]? = some (some (.ref a)) ∧ t σ H Q
def tPs (a : Addr) (i : Nat) (t : TS) : TS := fun D σ H => σ[i]? = some (some (.ref a)) ∧ t D σ H

section
variable {X : Cx} {a D : Addr} {oe : Obj} {pn : List (Addr × Obj)} {i : Nat} {n T : Str} {Tid : String} {p p1 p2 pos : Pos}
/-- isinstance(e, T), e the exception that the suite holds, T a built-in class over it -/
theorem pe_isi (C : ExcC X.K D) (hz : Zc (.ref D) none oe) (hf : ∃ vs, oe.data = .fields vs) (hi : X.N[i]? = some n) (hv : Vis X.env.scope n) (hd : (n == ("__debug__" : Str)) = false) (hcd : (n == ("__classdict__" : Str)) = false)
    (hg : Gl X "isinstance") (hm : X.mg "isinstance" = none) (hgT : Gl X T) (hmT : X.mg T = none) (hbT : bootBuiltins T = some (.type Tid)) (hnT : T ≠ "__name__") (hdT : (T == ("__debug__" : Str)) = false) (hk : PySem.W.kitOne X.K (.ref D) (.type Tid) = some true) :
    PE (X.suite a ((a, oe) :: pn)) (.Call (.Name "isinstance" p) [.Name n p1, .Name T p2] [] pos) (fun σ H Q => σ[i]? = some (some (.ref a)) ∧ Q (.bl true) H) :=
  (pe_callB (X := X.suite a ((a, oe) :: pn)) (call_isE (X := X) C hz hf) hg hm PyProof.Rows.boot_isinstance
    (pa_cons (pe_var (X := X.suite a ((a, oe) :: pn)) hi hv hd hcd) (pa_cons (pe_bltn (X := X.suite a ((a, oe) :: pn)) (v := .ty Tid) hgT hmT hbT rfl hnT hdT) pa_nil))).imp fun σ H Q ⟨e, q⟩ =>
      ⟨_, e, .ty Tid, .type Tid, true, rfl, fun u r => r, hk, q⟩
end
section
variable {X : Cx} {a : Addr} {i j : Nat} {K : PySem.W.Frag} {cls : Nat → Value} {c e b : Expr} {x : Str} {pos px ap cp : Pos} {F : Nat → List U → Sto → R U} {w : Nat}
/-- any expression that is never come to -/
theorem pe_never : PE X e (fun _ _ _ => False) := ⟨fun pins s σ H Q I h => h.elim⟩
/-- x = isinstance(..) -/
theorem ps_h1 (hc : PE X c (fun σ H Q => σ[i]? = some (some (.ref a)) ∧ Q (.bl true) H)) (hN : X.N.Nodup) (hj : X.N[j]? = some x) (hx : Loc X.env.scope x) (hf : X.fn x = true ∨ X.env.scope.names.lookup x = some .local)
    (hs : swapsWithSole [.Name x px] c pos.line X.env = pure false) (hw : swappedStores [.Name x px] c X.env = pure none) :
    PS X (.Assign [.Name x px] c pos) (tPs a i (tS X.K cls WF (evS F w (.set (.nm j) (.cst (.bl true)))))) :=
  (ps_asg hc (pg_name hN hj hx hf) hs hw rfl).imp fun D σ H ⟨e, fm, S, ρ, so, eo, q⟩ => by
    refine ⟨e, ?_⟩
    rw [evS, evE] at q
    simp only [R.toS] at q
    rw [evT] at q
    by_cases hl : j < ρ.length
    · rw [if_pos hl] at q
      exact q fm H .refl so _ (eo.set (.bl true))
    · rw [if_neg hl] at q; exact q.elim
/-- None if isinstance(..) else .. -/
theorem pe_h2 (hc : PE X c (fun σ H Q => σ[i]? = some (some (.ref a)) ∧ Q (.bl true) H)) (hp : ∀ whole, isTrue c X.env whole = (do let v ← whole; standAt c.pos; holding [v] (truthy v))) {k : Nat} {p3 : Pos} :
    PE X (.IfExp c (.Constant .none k p3) b pos) (fun σ H Q => σ[i]? = some (some (.ref a)) ∧ Q .non H) :=
  (pe_ifExp (pt_truth hc hp) pe_non pe_never).imp fun σ H Q ⟨e, q⟩ => ⟨e, true, rfl, by
    show if true = true then _ else _
    rw [if_pos rfl]; exact q⟩
theorem ps_h2 (hc : PE X c (fun σ H Q => σ[i]? = some (some (.ref a)) ∧ Q .non H)) (hN : X.N.Nodup) (hj : X.N[j]? = some x) (hx : Loc X.env.scope x) (hf : X.fn x = true ∨ X.env.scope.names.lookup x = some .local)
    (hs : swapsWithSole [.Name x px] c pos.line X.env = pure false) (hw : swappedStores [.Name x px] c X.env = pure none) :
    PS X (.Assign [.Name x px] c pos) (tPs a i (tS X.K cls WF (evS F w (.set (.nm j) (.cst .non))))) :=
  (ps_asg hc (pg_name hN hj hx hf) hs hw rfl).imp fun D σ H ⟨e, fm, S, ρ, so, eo, q⟩ => by
    refine ⟨e, ?_⟩
    rw [evS, evE] at q
    simp only [R.toS] at q
    rw [evT] at q
    by_cases hl : j < ρ.length
    · rw [if_pos hl] at q
      exact q fm H .refl so _ (eo.set .non)
    · rw [if_neg hl] at q; exact q.elim
/-- return None if isinstance(..) else .. -/
theorem ps_h3 (hc : PE X c (fun σ H Q => σ[i]? = some (some (.ref a)) ∧ Q .non H)) : PS X (.Return (some c) pos) (tPs a i (tS X.K cls WF (evS F w (.ret (.cst .non))))) :=
  (ps_ret hc).imp fun D σ H ⟨e, fm, S, ρ, so, eo, q⟩ => by
    refine ⟨e, ?_⟩
    rw [evS, evE] at q
    simp only [R.toS] at q
    exact q fm H .refl so _ .non
/-- x.append(isinstance(..)) -/
theorem ps_h4 (hc : PE X c (fun σ H Q => σ[i]? = some (some (.ref a)) ∧ Q (.bl true) H)) (hj : X.N[j]? = some x) (hv : Vis X.env.scope x) (hd : (x == ("__debug__" : Str)) = false) (hcd : (x == ("__classdict__" : Str)) = false)
    (hs0 : starEach [c] X.env = (false, eval c X.env) :: starEach [] X.env) (hline : (ap.endLine == cp.line) = true) (hs : swapsWith (.Call (.Attribute (.Name x px) "append" ap) [c] [] cp) none pos.line X.env = pure false) :
    PS X (.Expr (.Call (.Attribute (.Name x px) "append" ap) [c] [] cp) pos) (tPs a i (tS X.K cls WF (evS F w (.ex (.mth .append (.var j) [.cst (.bl true)]))))) := by
  have ho := te_var (X := X) (cls := cls) (W := WF) (pos := px) hj hv hd hcd
  have hfew : ((backTo cp (starEach [c] X.env)).all (fun x => !x.1) && (backToKw cp (keywordEach [] X.env)).all (fun x => x.1.isSome) && decide ([c].length + ([] : List Keyword).length + (if ([] : List Keyword).isEmpty then 0 else 1) < 30)) = true := by
    rw [hs0]; rfl
  refine (ps_expr (pe_bm PySem.F.plainAttrs_list PySem.F.slot_list_append PySem.F.type_list_append mt_appU ho (pa_cons hc pa_nil hs0) rfl hfew hline hs0 rfl) hs).imp fun D σ H ⟨e, fm, S, ρ, so, eo, q⟩ => ?_
  rw [evS, evE, evE] at q
  refine ⟨fm, S, ρ, so, eo, ?_⟩
  revert q
  cases hg : getR ρ j with
  | none => intro q; exact q.elim
  | some u =>
    simp only [optR, R.bind]
    rw [hg]
    intro q fm1 H1 st1 so1 v1 r1
    by_cases hk : mtOk S .append u = true
    · rw [if_pos hk] at q
      refine ⟨ty_lst so1 r1 hk, e, ?_⟩
      have ea : evEs F [.cst (.bl true)] ρ S = .ok [.bl true] S := by simp [evEs, evE, R.bind]
      rw [ea] at q
      dsimp only at q
      cases e2 : mthU S .append u [.bl true] with
      | none => rw [e2] at q; exact q.elim
      | some zs =>
        obtain ⟨z, S3⟩ := zs
        rw [e2] at q
        simp only [mthR, R.toS] at q
        exact ⟨fm1, S, u, [.bl true], z, S3, so1, r1, .cons (.bl true) .nil, e2, fun fm' H' v st so' r => q fm' H' (st1.trans st) so' σ (eo.mono (st1.trans st).toGr)⟩
    · rw [if_neg hk] at q; exact q.elim
/-- one statement is a suite -/
theorem pss_h {st : Stmt} {sx : SX} (h : PS X st (tPs a i (tS X.K cls WF (evS F w sx)))) : PSs X [st] (tPs a i (tS X.K cls WF (evSs F w [sx]))) :=
  (pss_cons h pss_nil).imp fun D σ H ⟨e, fm, S, ρ, so, eo, q⟩ => by
    refine ⟨e, fm, S, ρ, so, eo, ?_⟩
    have ec : evSs F w [sx] ρ S = (match evS F w sx ρ S with | .ok (.nx ρ1) S1 => evSs F w [] ρ1 S1 | r => r) := by rw [evSs] <;> rfl
    rw [ec] at q
    revert q
    cases evS F w sx ρ S with
    | stuck => exact fun q => q
    | ok o S1 =>
      cases o with
      | nx ρ1 =>
        intro q fm1 H1 st1 so1 σ1 eo1
        have en : evSs F w [] ρ1 S1 = .ok (.nx ρ1) S1 := by simp [evSs]
        dsimp only at q
        rw [en] at q
        exact q fm1 H1 st1 so1 σ1 eo1
      | rt u => exact fun q => q
      | bk ρ1 => exact fun q => q
      | ct ρ1 => exact fun q => q
      | ex c ρ1 => exact fun q => q
end
section
variable {X : Cx} {cls : Nat → Value} {W : WX} {m c i : Nat} {x n : Str} {Dc : Addr} {np pos pos' : Pos} {body suite : List Stmt} {b₀ : Stmt} {rb rh : Rho → Sto → SR}
def tryR (m c i : Nat) (rb rh : Rho → Sto → SR) (ρ : Rho) (S : Sto) : SR :=
  match rb ρ S with
  | .ok (.ex c' ρ1) S1 => if c' = c then (if i < ρ1.length then (match rh (ρ1.set i (some (.exc c'))) S1 with
      | .ok (.nx ρ2) S2 => .ok (.nx (ρ2.set i none)) S2
      | .ok (.ct ρ2) S2 => .ok (.ct (ρ2.set i none)) S2
      | .ok (.bk ρ2) S2 => .ok (.bk (ρ2.set i none)) S2
      | .ok (.rt u) S2 => .ok (.rt u) S2
      | _ => .stuck) else .stuck)
    else if c' < m then .ok (.ex c' ρ1) S1 else .stuck
  | r => r
theorem ts_try (hs : X.stack = X.env :: X.outer) (hf : X.env.frame = some X.env.locals) (hN : X.N.Nodup) (hi : X.N[i]? = some n) (hln : X.env.kindOf n = some .local) (hc : Names X x (.ref Dc)) (tk : Takes X W)
    (hb : ∀ (W' : WX) (pn : List (Addr × Obj)) (xe : Value → Shared → Prop), Takes (X.tr pn xe) W' → PassesOwn (model X.prog X.w) X.A X.env xe → PSs (X.tr pn xe) body (tS X.K cls W' rb))
    (hD : cls c = .ref Dc) (hcm : c < m) (hex : ∀ c', c' < m → PySem.W.exmOne X.K (cls c') (.ref Dc) = some (decide (c' = c)))
    (hsu : ∀ (a : Addr) (oe : Obj) (pn : List (Addr × Obj)), Zc (.ref Dc) none oe → (∃ vs, oe.data = .fields vs) → PSs (X.suite a ((a, oe) :: pn)) (b₀ :: suite) (tPs a i (tS X.K cls WF rh))) :
    PS X (.Try body [.ExceptHandler (some (.Name x np)) (some n) (b₀ :: suite) pos'] [] [] pos) (tS X.K cls W (tryR m c i rb rh)) := by
  refine (ps_try_as (c := .ref Dc) (tb := fun W' => tS X.K cls W' rb) (ts := fun a cls' d D σ H => cls' = .ref Dc ∧ d = none ∧ tPs a i (tS X.K cls WF rh) D σ H) (Wout := W) hs hf hN hi hln hc tk hb (fun a oe cls' d pn hz hv => ⟨fun pins s σ H D I h => ?_⟩)).imp fun D σ H ⟨fm, S, ρ, so, eo, q⟩ => ?_
  · obtain ⟨rfl, rfl, h⟩ := h
    exact (hsu a oe pn hz hv).run pins s σ H D I h
  · refine ⟨fm, S, ρ, so, eo, ?_⟩
    unfold tryR at q
    revert q
    cases hr : rb ρ S with
    | stuck => exact fun q => q
    | ok o S1 =>
      cases o with
      | nx ρ1 => exact fun q => q
      | rt u => exact fun q => q
      | bk ρ1 => exact fun q => q
      | ct ρ1 => exact fun q => q
      | ex c' ρ1 =>
        intro q fm' H' st so' σ1 eo1
        dsimp only at q
        by_cases hcc : c' = c
        · subst hcc
          rw [if_pos rfl] at q
          by_cases hl : i < ρ1.length
          case neg => rw [if_neg hl] at q; exact q.elim
          rw [if_pos hl] at q
          refine ⟨true, by rw [hex c' hcm]; simp, fun _ a ha => ⟨hD, rfl, ?_, fm', S1, ρ1.set i (some (.exc c')), so', eo1.set .exc, ?_⟩, fun z => by cases z⟩
          · rw [List.getElem?_set_self (by rw [← eo1.1]; exact hl)]
          · revert q
            cases hh : rh (ρ1.set i (some (.exc c'))) S1 with
            | stuck => exact fun q => q
            | ok o2 S2 =>
              cases o2 with
              | nx ρ2 => exact fun q fm2 H2 st2 so2 σ2 eo2 => q fm2 H2 (st.trans st2) so2 _ (eo2.unset)
              | ct ρ2 => exact fun q fm2 H2 st2 so2 σ2 eo2 => q fm2 H2 (st.trans st2) so2 _ (eo2.unset)
              | bk ρ2 => exact fun q fm2 H2 st2 so2 σ2 eo2 => q fm2 H2 (st.trans st2) so2 _ (eo2.unset)
              | rt u => exact fun q fm2 H2 st2 so2 => q fm2 H2 (st.trans st2) so2
              | ex c ρ => exact fun q => q.elim
        · rw [if_neg hcc] at q
          by_cases hm : c' < m
          · rw [if_pos hm] at q
            refine ⟨false, by rw [hex c' hm]; simp [hcc], fun z => by (cases z), fun _ => q fm' H' st so' σ1 eo1⟩
          · rw [if_neg hm] at q; exact q.elim
end
end Ev
set_option Elab.async false
set_option linter.all false
set_option maxRecDepth 100000
set_option maxHeartbeats 4000000
/-! Ev18g: list(range(..)), read as a comprehension over the range. -/
namespace Ev
open PySem PySem.Spec PyProof.Rows L2
theorem lrg_go {F : Nat → List U → Sto → R U} {ρ : Rho} {S : Sto} : ∀ us : List U, compL (stepC [] (evT F (.nm 0)) (evC F none) (evE F (.var 0)) ρ) us S = if 0 < ρ.length ∨ us = [] then .ok us S else .stuck
  | [] => by rw [compL, if_pos (.inr rfl)]
  | x :: us => by
    rw [compL]
    by_cases h : 0 < ρ.length
    · have e : stepC [] (evT F (.nm 0)) (evC F none) (evE F (.var 0)) ρ x S = .ok (some x) S := by
        have hw : wipeR ρ [] = ρ := rfl
        unfold stepC
        rw [hw, evT, if_pos h]
        dsimp only
        have h2 : evC F none (ρ.set 0 (some x)) S = .ok true S := by rw [evC]
        rw [h2]
        dsimp only [R.bind]
        rw [if_pos rfl]
        have h3 : evE F (.var 0) (ρ.set 0 (some x)) S = .ok x S := by
          rw [evE]
          have : getR (ρ.set 0 (some x)) 0 = some x := by unfold getR; rw [List.getElem?_set_self h]; rfl
          rw [this]; rfl
        rw [h3]
      rw [e]
      dsimp only [noEx, R.bind]
      rw [lrg_go us, if_pos (.inl h), if_pos (.inl h)]
    · have e : stepC [] (evT F (.nm 0)) (evC F none) (evE F (.var 0)) ρ x S = .stuck := by
        have hw : wipeR ρ [] = ρ := rfl
        unfold stepC
        rw [hw, evT, if_neg h]
      rw [e, if_neg (by simp [h])]
      rfl
theorem rps_rg {K : PySem.W.Frag} {fm : List Addr} {S : Sto} {H : Hp} : ∀ (n : Nat) (lo : Int), Rps K fm S H (iotaU lo n) ((List.range n).map fun (i : Nat) => V.int (lo + (i : Nat)))
  | 0, lo => .nil
  | n + 1, lo => by
    rw [List.range_succ_eq_map, List.map_cons, List.map_map, iotaU]
    refine .cons (by rw [show lo + ((0 : Nat) : Int) = lo by simp]; exact .int _) ?_
    have := rps_rg (K := K) (fm := fm) (S := S) (H := H) n (lo + 1)
    have e : (List.range n).map ((fun (i : Nat) => V.int (lo + (i : Nat))) ∘ Nat.succ) = (List.range n).map fun (i : Nat) => V.int (lo + 1 + (i : Nat)) := by
      apply List.map_congr_left
      intro i _
      simp only [Function.comp_def]
      congr 1
      omega
    rw [e]
    exact this
theorem iotaU_len : ∀ (n : Nat) (lo : Int), (iotaU lo n).length = n
  | 0, _ => rfl
  | n + 1, lo => by rw [iotaU, List.length_cons, iotaU_len n]
section
variable {X : Cx} {cls : Nat → Value} {W : WX} {a b : Expr} {ra rb : Rho → Sto → R U} {p0 p pos pos' : Pos} {F : Nat → List U → Sto → R U}
theorem tq_lrg1 (hc : X.calm = true) (hl : Gl X "list") (hml : X.mg "list" = none) (hg : Gl X "range") (hm : X.mg "range" = none) (ha : PE X a (tE X.K cls W ra)) (hs : starEach [a] X.env = (false, eval a X.env) :: starEach [] X.env) :
    PE X (.Call (.Name "list" p0) [.Call (.Name "range" p) [a] [] pos'] [] pos) (tQ X.K cls W fun ρ S => (ra ρ S).bind fun u S1 => match u with
      | .int j => if small j = true then (if (iotaU 0 j.toNat).length ≤ lim then compL (stepC [] (evT F (.nm 0)) (evC F none) (evE F (.var 0)) ρ) (iotaU 0 j.toNat) S1 else .stuck) else .stuck
      | _ => .stuck) :=
  (pe_listRg hc hl hml (prg_1 hg hm ha hs)).imp fun σ H Q ⟨fm, S, ρ, so, eo, q⟩ => ⟨fm, S, ρ, so, eo, q.bind.imp fun u fm1 S1 H1 st1 so1 h1 v1 r1 => by
    split at h1
    · rename_i j
      cases r1
      split at h1
      · rename_i hj
        split at h1
        · rename_i hlen
          rw [lrg_go] at h1
          split at h1
          · rw [iotaU_len] at hlen
            obtain ⟨h2, h3⟩ := small_of hj
            refine ⟨j, rfl, ⟨by decide, by decide, h2, h3, by rw [Int.sub_zero]; exact Nat.le_trans hlen (by decide)⟩, fun q hq => ?_⟩
            refine h1.ok fm1 H1 .refl so1 (rgV 0 j) q ?_ hq
            unfold rgV
            rw [Int.sub_zero]
            exact rps_rg _ _
          · exact h1.elim
        · exact h1.elim
      · exact h1.elim
    · exact h1.elim⟩
theorem tq_lrg2 (hc : X.calm = true) (hl : Gl X "list") (hml : X.mg "list" = none) (hg : Gl X "range") (hm : X.mg "range" = none) (ha : PE X a (tE X.K cls W ra)) (hb : PE X b (tE X.K cls W rb)) (hs : starEach [a, b] X.env = (false, eval a X.env) :: starEach [b] X.env) (hs2 : starEach [b] X.env = (false, eval b X.env) :: starEach [] X.env)
    (hp : (backTo pos' (starEach [b] X.env)).any (·.1) = false) :
    PE X (.Call (.Name "list" p0) [.Call (.Name "range" p) [a, b] [] pos'] [] pos) (tQ X.K cls W fun ρ S => (ra ρ S).bind fun u S1 => (rb ρ S1).bind fun v S2 => match u, v with
      | .int i, .int j => if small i = true ∧ small j = true then (if (iotaU i (j - i).toNat).length ≤ lim then compL (stepC [] (evT F (.nm 0)) (evC F none) (evE F (.var 0)) ρ) (iotaU i (j - i).toNat) S2 else .stuck) else .stuck
      | _, _ => .stuck) :=
  (pe_listRg hc hl hml (prg_2 hg hm ha hb hs hs2 hp)).imp fun σ H Q ⟨fm, S, ρ, so, eo, q⟩ => ⟨fm, S, ρ, so, eo, q.bind.imp fun u fm1 S1 H1 st1 so1 h1 v1 r1 => ⟨fm1, S1, ρ, so1, eo.mono st1.toGr, h1.bind.imp fun w fm2 S2 H2 st2 so2 h2 v2 r2 => by
    split at h2
    · rename_i i j
      cases r1
      cases r2
      split at h2
      · rename_i hj
        split at h2
        · rename_i hlen
          rw [lrg_go] at h2
          split at h2
          · rw [iotaU_len] at hlen
            obtain ⟨a1, a2⟩ := small_of hj.1
            obtain ⟨b1, b2⟩ := small_of hj.2
            refine ⟨i, j, rfl, rfl, ⟨a1, a2, b1, b2, Nat.le_trans hlen (by decide)⟩, fun q hq => ?_⟩
            refine h2.ok fm2 H2 .refl so2 (rgV i j) q ?_ hq
            unfold rgV
            exact rps_rg _ _
          · exact h2.elim
        · exact h2.elim
      · exact h2.elim
    · exact h2.elim⟩⟩
end
end Ev
set_option Elab.async false
set_option linter.all false
set_option maxRecDepth 100000
set_option maxHeartbeats 2000000
/-! Ev19: from the text to trees. -/
namespace Ev
open PySem PySem.Spec PyProof.Rows L2

/-- what is known of a def: its names, its scope, the defs and the constants of the module, where lists are kept in the store, where a list changes no more -/
structure CC where
  N : List Str
  sc : Scope
  fnb : Str → Bool
  G : List (Str × Nat × List Str)
  gv : List (Str × U)
  nw : List (Nat × Nat)
  fz : List (Nat × Nat)
  dk : List (Nat × Nat)
  xs : List (Str × Nat)

def glB (C : CC) (x : Str) : Bool := decide (C.sc.names.lookup x = some .globalImplicit) && !(x == ("__debug__" : Str)) && !(x == ("__name__" : Str))
def visB (C : CC) (x : Str) : Bool := decide (C.sc.names.lookup x = some .local) || decide (C.sc.names.lookup x = some .cell) || decide (C.sc.names.lookup x = some .free)
def locB (C : CC) (x : Str) : Bool := decide (C.sc.names.lookup x = some .local) || (decide (C.sc.names.lookup x = some .cell) && C.fnb x)
/-- the place of a name -/
def posN (C : CC) (x : Str) : Option Nat :=
  let i := C.N.findIdx (· == x)
  if decide (C.N[i]? = some x) && !(x == ("__debug__" : Str)) && !(x == ("__classdict__" : Str)) then some i else none

def opOf : Operator → Option Op
  | .Add => some .add | .Sub => some .sub | .Mult => some .mul | .FloorDiv => some .fdiv | .Mod => some .mod | .Pow => some .pow
  | _ => none
def cpOf : CmpOp → Option Cp
  | .Lt => some .lt | .LtE => some .le | .Gt => some .gt | .GtE => some .ge | .Eq => some .eq | .NotEq => some .ne | .Is => some .is | .IsNot => some .isnot | .In => some .isin | .NotIn => some .notin
/-- no star, no display of a set, no slice -/
def plainX : Expr → Bool
  | .Starred .. => false
  | .Set .. => false
  | .Slice .. => false
  | _ => true
def notCall : Expr → Bool
  | .Call .. => false
  | _ => true
def notComp : Expr → Bool
  | .ListComp .. => false
  | .SetComp .. => false
  | .DictComp .. => false
  | _ => true
/-- as a test: by its value -/
def plainT : Expr → Bool
  | .UnaryOp .Not _ _ => false
  | .BoolOp .. => false
  | .IfExp .. => false
  | .Compare .. => false
  | _ => true

def at2 (p : Pos) : Nat × Nat := (p.line, p.col)
def cConst : Const → Option EX
  | .none => some (.cst .non)
  | .bool b => some (.cst (.bl b))
  | .int i => some (.cst (.int i))
  | .str x => some (.cst (.str x))
  | _ => none
def cName (C : CC) (x : Str) (p : Pos) : Option EX :=
  if visB C x = true then match posN C x with
    | some i => some (if C.fz.contains (at2 p) = true then .frz (.var i) else .var i)
    | none => none
  else if glB C x = true then match C.gv.lookup x with
    | some u => some (.cst u)
    | none => none
  else none
/-- a list of them -/
def cL (f : Expr → Option EX) : List Expr → Option (List EX)
  | [] => some []
  | e :: es => match plainX e, f e, cL f es with
    | true, some x, some xs => some (x :: xs)
    | _, _, _ => none
def cKw (f : Expr → Option EX) : List Keyword → Option (List EX × List Str)
  | [] => some ([], [])
  | ⟨some n, e, _⟩ :: ks => match f e, cKw f ks with
    | some x, some (xs, ns) => some (x :: xs, n :: ns)
    | _, _ => none
  | _ => none
def cBool (f : Expr → Option EX) (op : BoolOp) : List Expr → Option EX
  | [] => none
  | [a] => f a
  | a :: b :: r => match f a, cBool f op (b :: r) with
    | some x, some y => some (match op with | .And => .and x y | .Or => .or x y)
    | _, _ => none
def mkL (C : CC) (p : Pos) (q : QX) : EX := if C.nw.contains (at2 p) = true then .qn q else .qv q
def cOp (f : Expr → Option EX) : Option Expr → Option (Option EX)
  | none => some none
  | some e => (f e).map some

inductive BK where | b (id : String) | t (id : String)
def biOf (x : Str) (n : Nat) : Option (Bi × BK) :=
  if x == ("abs" : Str) && n == 1 then some (.abs, .b "abs")
  else if x == ("int" : Str) && n == 1 then some (.int, .t "int")
  else if x == ("len" : Str) && n == 1 then some (.len, .b "len")
  else if x == ("min" : Str) && n == 2 then some (.min2, .b "min")
  else if x == ("max" : Str) && n == 2 then some (.max2, .b "max")
  else if x == ("tuple" : Str) && n == 1 then some (.tuple, .t "tuple")
  else if x == ("all" : Str) && n == 1 then some (.all, .b "all")
  else if x == ("any" : Str) && n == 1 then some (.any, .b "any")
  else if x == ("sum" : Str) && n == 1 then some (.sum, .b "sum")
  else none
def tyOf (x : Str) : Option Ty :=
  if x == ("int" : Str) then some .int else if x == ("bool" : Str) then some .bool else if x == ("str" : Str) then some .str else if x == ("list" : Str) then some .list else if x == ("tuple" : Str) then some .tuple else none
def blts : List Str := ["abs", "int", "len", "min", "max", "tuple", "all", "any", "sum", "bool", "str", "list", "sorted", "isinstance", "range", "enumerate", "zip", "super", "ValueError"]

def cIsi (C : CC) (f : Expr → Option EX) (a t : Expr) : Option EX :=
  match t with
  | .Name y _ => if glB C y = true then match f a, tyOf y with
    | some x, some k => some (.ist x [k])
    | _, _ => none
    else none
  | .Tuple [.Name y _, .Name z _] _ _ => if glB C y = true ∧ glB C z = true then match f a, tyOf y, tyOf z with
    | some x, some k, some l => some (.ist x [k, l])
    | _, _, _ => none
    else none
  | _ => none
/-- range(..), to be listed -/
def cRg (C : CC) (f : Expr → Option EX) : Expr → Option IX
  | .Call (.Name x _) args [] _ => if glB C x = true ∧ (x == ("range" : Str)) = true then match args with
      | [a] => if plainX a = true then (f a).map .rng1 else none
      | [a, b] => if plainX a = true ∧ plainX b = true then match f a, f b with
        | some x, some y => some (.rng2 x y)
        | _, _ => none
        else none
      | _ => none
    else none
  | _ => none
/-- f(e, ..), f a name of the module or built in -/
def cCall (C : CC) (f : Expr → Option EX) (x : Str) (args : List Expr) (kws : List Keyword) (pos : Pos) : Option EX :=
  if glB C x = true then
    match C.G.lookup x with
    | some (i, ps) => match cL f args, cKw f kws with
      | some xs, some (ys, ns) => if ns = ps.drop args.length ∧ xs.length ≤ 1000 then some (.call i (xs ++ ys)) else if ns = [] then some (.call i xs) else none
      | _, _ => none
    | none => match kws with
      | [] => if x == ("isinstance" : Str) then match args with
          | [a, t] => if plainX a = true then cIsi C f a t else none
          | _ => none
        else if x == ("list" : Str) then match args with
          | [a] => if plainX a = true then match cRg C f a with
              | some it => some (mkL C pos (.comp (.nm 0) it none (.var 0) []))
              | none => (f a).map fun y => mkL C pos (.lof y)
            else none
          | _ => none
        else if x == ("sorted" : Str) then match args with
          | [a] => if plainX a = true then (f a).map fun y => mkL C pos (.srt y) else none
          | _ => none
        else match biOf x args.length, cL f args with
          | some (b, _), some xs => some (.bi b xs)
          | _, _ => none
      | _ => none
  else none
def mtOf (m : Str) (n : Nat) : Option Mt :=
  if m == ("append" : Str) && n == 1 then some .append else if m == ("extend" : Str) && n == 1 then some .extend else if m == ("pop" : Str) && n == 0 then some .pop0 else if m == ("pop" : Str) && n == 1 then some .pop1 else if m == ("index" : Str) && n == 1 then some .index else none
def cMeth (f : Expr → Option EX) (o : Expr) (m : Str) (apos : Pos) (args : List Expr) (cpos : Pos) : Option EX :=
  if notCall o = true ∧ (apos.endLine == cpos.line) = true then
    if m == ("get" : Str) then match args with
      | [k, d] => match f o, f k, f d with
        | some x, some y, some z => if plainX k = true ∧ plainX d = true then some (.dget x y z) else none
        | _, _, _ => none
      | _ => none
    else match mtOf m args.length, f o, cL f args with
      | some k, some x, some xs => some (.mth k x xs)
      | _, _, _ => none
  else none
/-- a target; wr: which names may be written -/
def cT (C : CC) (f : Expr → Option EX) (wr : Nat → Bool) : Nat → Expr → Option TX
  | _, .Name x _ => if locB C x = true then match posN C x with
    | some i => if wr i = true then some (.nm i) else none
    | none => none
    else none
  | n + 1, .Tuple es _ _ => if es.all plainX = true then (es.mapM (cT C f wr n)).map .tp else none
  | _, .Subscript a b _ => if plainX b = true then match f a, f b with
    | some x, some y => some (.ix x y)
    | _, _ => none
    else none
  | _, _ => none
def isTup : Expr → Bool
  | .Tuple .. => true
  | _ => false
/-- what is walked -/
def cI (C : CC) (f : Expr → Option EX) (tg : Expr) (e : Expr) : Option IX :=
  match e with
  | .Call (.Name x _) args [] _ => if glB C x = true ∧ (x == ("range" : Str)) = true then match args with
      | [a] => if plainX a = true then (f a).map .rng1 else none
      | [a, b] => if plainX a = true ∧ plainX b = true then match f a, f b with
        | some x, some y => some (.rng2 x y)
        | _, _ => none
        else none
      | [a, b, c] => if plainX a = true ∧ plainX b = true ∧ plainX c = true then match f a, f b, f c with
        | some x, some y, some z => some (.rng3 x y z)
        | _, _, _ => none
        else none
      | _ => none
    else if glB C x = true ∧ (x == ("enumerate" : Str)) = true ∧ isTup tg = true then match args with
      | [a] => if plainX a = true then (f a).map .enum else none
      | _ => none
    else if glB C x = true ∧ (x == ("zip" : Str)) = true ∧ isTup tg = true then match args with
      | [a, b] => if plainX a = true ∧ plainX b = true then match f a, f b with
        | some x, some y => some (.zip2 x y)
        | _, _ => none
        else none
      | _ => none
    else (f e).map .val
  | .Set .. => none
  | _ => (f e).map .val
/-- the names of a comprehension's own, with their places -/
def ownOf (C : CC) (scope : Scope) : List (Str × Nat) := scope.names.filterMap fun (n, k) => if k = .local ∨ k = .cell then (posN C n).map fun i => (n, i) else none
/-- the block of a comprehension -/
def CC.blk (C : CC) (scope : Scope) : CC := { C with sc := relS scope C.sc, fnb := fun x => scope.names.lookup x == some .cell }
def cIf (f : Expr → Option EX) : List Expr → Option (Option EX)
  | [] => some none
  | [c] => (f c).map some
  | _ => none
def cComp (C : CC) (f : CC → Expr → Option EX) (elt tg iter : Expr) (ifs : List Expr) (scope : Scope) : Option QX :=
  let own := ownOf C scope
  if blkC C.N C.sc scope own = true then
    match cT (C.blk scope) (f (C.blk scope)) (fun i => own.any fun p => p.2 == i) 20 tg, cIf (f (C.blk scope)) ifs, f (C.blk scope) elt with
    | some t, some cd, some el => match iter with
      | .Name y p => if C.dk.contains (at2 p) = true then (if visB C y = true then (posN C y).map fun i => .compK i t cd el (own.map (·.2)) else none) else (f C iter).map fun x => .comp t (.val x) cd el (own.map (·.2))
      | _ => (cI C (f C) tg iter).map fun it => .comp t it cd el (own.map (·.2))
    | _, _, _ => none
  else none
def cSub (f : Expr → Option EX) (a s : Expr) : Option EX :=
  match s with
  | .Slice none none (some (.UnaryOp .USub (.Constant (.int 1) _ _) _)) _ => (f a).map .rev
  | .Slice lo hi none _ => match f a, cOp f lo, cOp f hi with
    | some x, some l, some h => some (.sl x l h)
    | _, _, _ => none
  | .Slice .. => none
  | b => match f a, f b with
    | some x, some y => some (.ix x y)
    | _, _ => none
def cCmp (f : Expr → Option EX) (a : Expr) (ops : List CmpOp) (bs : List Expr) : Option EX :=
  match ops, bs with
  | [op], [b] => match cpOf op, plainX b, f a, f b with
    | some o, true, some x, some y => some (.cmp o x y)
    | _, _, _, _ => none
  | [op, op'], [b, c] => match cpOf op, cpOf op', plainX c, f a, f b, f c with
    | some o, some o', true, some x, some y, some z => some (.ch2 o o' x y z)
    | _, _, _, _, _, _ => none
  | _, _ => none
def cBin (C : CC) (f : Expr → Option EX) (a : Expr) (op : Operator) (b : Expr) (pos : Pos) : Option EX :=
  match a, op with
  | .List es _, .Mult => if es.length ≤ 1000 then match cL f es, f b with
    | some xs, some y => some (mkL C pos (.rep xs y))
    | _, _ => none
    else none
  | _, _ => match opOf op, f a, f b with
    | some o, some x, some y => some (.bin o x y)
    | _, _, _ => none

def cE : Nat → CC → Expr → Option EX
  | 0, _, _ => none
  | n + 1, C, e => match e with
    | .Constant c _ _ => cConst c
    | .Name x p => cName C x p
    | .Tuple es _ _ => if es.length ≤ 1000 then (cL (cE n C) es).map .tup else none
    | .List es p => if es.length ≤ 1000 then (cL (cE n C) es).map fun xs => mkL C p (.disp xs) else none
    | .Dict [] [] _ => some .dnew
    | .BinOp a op b p => cBin C (cE n C) a op b p
    | .UnaryOp .Not a _ => (cE n C a).map .not
    | .UnaryOp .USub a _ => (cE n C a).map fun x => .bin .sub (.cst (.int 0)) x
    | .BoolOp op vs _ => cBool (cE n C) op vs
    | .IfExp c a b _ => match cE n C c, cE n C a, cE n C b with
      | some x, some y, some z => some (.ite x y z)
      | _, _, _ => none
    | .Compare a ops bs _ => cCmp (cE n C) a ops bs
    | .Subscript a s _ => cSub (cE n C) a s
    | .Call (.Name x _) args kws p => cCall C (cE n C) x args kws p
    | .Call (.Attribute o m ap) args [] p => cMeth (cE n C) o m ap args p
    | .ListComp elt [⟨tg, iter, ifs, 0⟩] scope p => (cComp C (cE n) elt tg iter ifs scope).map (mkL C p)
    | _ => none
end Ev
set_option Elab.async false
set_option linter.all false
set_option maxRecDepth 100000
set_option maxHeartbeats 4000000
/-! Ev20: the trees say what the text does: expressions. -/
namespace Ev
open PySem PySem.Spec PyProof.Rows L2

structure Sit (C : CC) (X : Cx) (cls : Nat → Value) (W : WX) (F : Nat → List U → Sto → R U) : Prop where
  hN : X.N = C.N
  nd : C.N.Nodup
  sc : X.env.scope = C.sc
  calm : X.calm = true
  fn : ∀ x, C.fnb x = true → X.fn x = true
  tk : Takes X W
  hu : X.A.units + 72 < cLine
  blt : ∀ x ∈ blts, X.mg x = none
  defs : ∀ x i ps, C.G.lookup x = some (i, ps) → Def X cls x ps (F i)
  gvs : ∀ x u, C.gv.lookup x = some u → ∃ w v, X.mg x = some w ∧ RelV v w ∧ ∀ fm S H, Rp X.K fm S H u v

section
variable {C : CC} {X : Cx} {cls : Nat → Value} {W : WX} {F : Nat → List U → Sto → R U}
theorem takesF {X : Cx} : Takes X WF := fun _ _ x => by
  obtain ⟨_, _, _, _, _, _, _, _, _, _, _, _, _, _, _, _, z⟩ := x
  exact z.elim
theorem Sit.toF (s : Sit C X cls W F) : Sit C X cls WF F := { s with tk := takesF }
theorem Sit.blk (t : Sit C X cls W F) {scope : Scope} (s : Shared) (H : Hp) (c : Addr) (cl : List (Str × Addr)) (fp : List Addr) : Sit (C.blk scope) (X.blk s H scope (compEnvC scope cl c X.env) fp) cls WF F where
  hN := t.hN
  nd := t.nd
  sc := by
    show relabel scope X.env = relS scope C.sc
    rw [← t.sc]
    rfl
  calm := t.calm
  fn := fun x h => h
  tk := takesF
  hu := t.hu
  blt := t.blt
  defs := fun x i ps h => by
    obtain ⟨⟨k, f, fd, h1⟩, h2⟩ := t.defs x i ps h
    exact ⟨⟨k, f, fd, h1⟩, h2⟩
  gvs := t.gvs
theorem Sit.gl (t : Sit C X cls W F) {x : Str} (h : glB C x = true) : Gl X x ∧ (x == ("__debug__" : Str)) = false ∧ x ≠ "__name__" := by
  unfold glB at h
  simp only [Bool.and_eq_true, decide_eq_true_eq, Bool.not_eq_true'] at h
  refine ⟨?_, h.1.2, fun z => by subst z; simp at h⟩
  show X.env.scope.names.lookup x = _
  rw [t.sc]; exact h.1.1
theorem Sit.vis (t : Sit C X cls W F) {x : Str} (h : visB C x = true) : Vis X.env.scope x := by
  unfold visB at h
  simp only [Bool.or_eq_true, decide_eq_true_eq] at h
  unfold Vis
  rw [t.sc]
  rcases h with (h | h) | h
  · exact .inl h
  · exact .inr (.inl h)
  · exact .inr (.inr h)
theorem Sit.loc (t : Sit C X cls W F) {x : Str} (h : locB C x = true) : L2.Loc X.env.scope x ∧ (X.fn x = true ∨ X.env.scope.names.lookup x = some .local) := by
  unfold locB at h
  simp only [Bool.or_eq_true, decide_eq_true_eq, Bool.and_eq_true] at h
  unfold L2.Loc
  rw [t.sc]
  rcases h with h | h
  · exact ⟨.inl h, .inr h⟩
  · exact ⟨.inr h.1, .inl (t.fn x h.2)⟩
theorem posN_of {x : Str} {i : Nat} (h : posN C x = some i) : C.N[i]? = some x ∧ (x == ("__debug__" : Str)) = false ∧ (x == ("__classdict__" : Str)) = false := by
  unfold posN at h
  dsimp only at h
  split at h
  · rename_i h1
    cases h
    simp only [Bool.and_eq_true, decide_eq_true_eq, Bool.not_eq_true'] at h1
    exact ⟨h1.1.1, h1.1.2, h1.2⟩
  · cases h
theorem Sit.pos (t : Sit C X cls W F) {x : Str} {i : Nat} (h : posN C x = some i) : X.N[i]? = some x := by rw [t.hN]; exact (posN_of h).1
end

/-! ### the text's forms -/
theorem star_of {e : Expr} (h : plainX e = true) (es : List Expr) (env : Env) : starEach (e :: es) env = (false, eval e env) :: starEach es env := by
  cases e <;> first | rfl | cases h
theorem star_plain {es : List Expr} (h : es.all plainX = true) (env : Env) : starEach es env = es.map fun e => (false, eval e env) := by
  induction es with
  | nil => rfl
  | cons e es ih =>
    simp only [List.all_cons, Bool.and_eq_true] at h
    rw [star_of h.1, ih h.2]; rfl
theorem back_any {es : List Expr} (h : es.all plainX = true) (pos : Pos) (env : Env) : (backTo pos (starEach es env)).any (·.1) = false := by
  rw [star_plain h]
  unfold backTo
  rw [List.map_map, List.any_map]
  exact List.any_eq_false.mpr fun x _ => by simp
theorem back_all {es : List Expr} (h : es.all plainX = true) (pos : Pos) (env : Env) : (backTo pos (starEach es env)).all (fun x => !x.1) = true := by
  rw [star_plain h]
  unfold backTo
  rw [List.map_map, List.all_map]
  exact List.all_eq_true.mpr fun x _ => by simp
theorem plain_ix {b : Expr} (h : plainX b = true) : PlainIx b := by
  intro o i
  cases b <;> first | rfl | cases h
theorem plain_mark {b : Expr} (h : plainX b = true) (op : CmpOp) : behindInMarks op b = false := by
  cases b <;> first | rfl | cases h
theorem plain_test {e : Expr} (h : plainT e = true) (env : Env) (whole : Sem Value) : isTrue e env whole = (do let v ← whole; standAt e.pos; holding [v] (truthy v)) := by
  cases e <;> first | rfl | cases h | skip
  rename_i op a p
  cases op <;> first | rfl | cases h
theorem base_of {o : Expr} (h : notCall o = true) (m : Str) (env : Env) (w : Sem Value) : attributeBase o m env w = w := by
  cases o <;> first | rfl | cases h
theorem fold_of {e : Expr} (h : ∀ es k p, e ≠ .Set es k p) (env : Env) (x : Value) : foldedSetIterable e env x = pure x := by
  cases e <;> first | rfl | exact absurd rfl (h _ _ _)

def SndE (C : CC) (e : Expr) (x : EX) : Prop := ∀ X cls W F, Sit C X cls W F → PE X e (tE X.K cls W (evE F x))
def SndT (C : CC) (e : Expr) (x : EX) : Prop := ∀ X cls W F, Sit C X cls W F → PT X e (tT X.K cls W (evE F x))
def Snd (C : CC) (f : Expr → Option EX) : Prop := ∀ e x, f e = some x → SndE C e x ∧ SndT C e x
theorem snd_plain {C : CC} {e : Expr} {x : EX} (hp : plainT e = true) (h : SndE C e x) : SndE C e x ∧ SndT C e x :=
  ⟨h, fun X cls W F t => tt_any (h X cls W F t) fun whole => plain_test hp X.env whole⟩

section
variable {C : CC} {f : Expr → Option EX} (hf : Snd C f)
include hf
theorem snd_L : ∀ {es : List Expr} {xs : List EX}, cL f es = some xs → es.all plainX = true ∧ xs.length = es.length ∧ ∀ X cls W F, Sit C X cls W F → PA X es (tEs X.K cls W (evEs F xs))
  | [], _, h => by
    cases h
    refine ⟨rfl, rfl, fun X cls W F t => ?_⟩
    have : evEs F [] = fun _ S => .ok [] S := by funext ρ S; rw [evEs]
    rw [this]; exact tes_nil
  | e :: es, _, h => by
    unfold cL at h
    split at h
    · rename_i x xs h1 h2 h3
      cases h
      obtain ⟨g1, g2, g3⟩ := snd_L h3
      refine ⟨by simp [h1, g1], by simp [g2], fun X cls W F t => ?_⟩
      have : evEs F (x :: xs) = fun ρ S => (evE F x ρ S).bind fun u S1 => (evEs F xs ρ S1).bind fun us S2 => .ok (u :: us) S2 := by funext ρ S; rw [evEs]
      rw [this]
      exact tes_cons ((hf e x h2).1 X cls W F t) (g3 X cls W F t) (star_of h1 es X.env)
    · cases h
theorem snd_Kw : ∀ {ks : List Keyword} {xs : List EX} {ns : List Str}, cKw f ks = some (xs, ns) → ∀ X cls W F, Sit C X cls W F → PK X ks (tEs X.K cls W (evEs F xs)) ∧
    (∀ pos, (backToKw pos (keywordEach ks X.env)).all (·.1.isSome) = true ∧ (backToKw pos (keywordEach ks X.env)).filterMap (·.1) = ns ∧ (backToKw pos (keywordEach ks X.env)).any (·.1.isNone) = false)
  | [], _, _, h, X, cls, W, F, t => by
    cases h
    refine ⟨?_, fun pos => ⟨rfl, rfl, rfl⟩⟩
    have : evEs F [] = fun _ S => .ok [] S := by funext ρ S; rw [evEs]
    rw [this]; exact tks_nil
  | k :: ks, _, _, h, X, cls, W, F, t => by
    obtain ⟨nm, e, kp⟩ := k
    cases nm with
    | none => simp [cKw] at h
    | some n =>
      simp only [cKw] at h
      split at h
      · rename_i x xs ns h1 h2
        cases h
        obtain ⟨g1, g2⟩ := snd_Kw h2 X cls W F t
        refine ⟨?_, fun pos => ?_⟩
        · have : evEs F (x :: xs) = fun ρ S => (evE F x ρ S).bind fun u S1 => (evEs F xs ρ S1).bind fun us S2 => .ok (u :: us) S2 := by funext ρ S; rw [evEs]
          rw [this]
          exact tks_cons ((hf e x h1).1 X cls W F t) g1
        · obtain ⟨a1, a2, a3⟩ := g2 pos
          have e1 : backToKw pos (keywordEach (⟨some n, e, kp⟩ :: ks) X.env) = (some n, do let v ← eval e X.env; standAt pos; pure v) :: backToKw pos (keywordEach ks X.env) := rfl
          rw [e1]
          refine ⟨by simp only [List.all_cons, a1]; rfl, by simp only [List.filterMap_cons, a2], by simp only [List.any_cons, a3]; rfl⟩
      · cases h
theorem snd_Bool {op : BoolOp} {pos : Pos} : ∀ {vs : List Expr} {x : EX}, cBool f op vs = some x → SndE C (.BoolOp op vs pos) x ∧ ∀ X cls W F, Sit C X cls W F → PW X (.BoolOp op vs pos) (tT X.K cls W (evE F x))
  | [], _, h => by cases h
  | [a], x, h => by
    have h : f a = some x := h
    refine ⟨fun X cls W F t => te_one ((hf a x h).1 X cls W F t), fun X cls W F t => ?_⟩
    cases op with
    | And => exact tw_and1 ((hf a x h).2 X cls W F t)
    | Or => exact tw_or1 ((hf a x h).2 X cls W F t)
  | a :: b :: r, _, h => by
    unfold cBool at h
    split at h
    · rename_i x y h1 h2
      cases h
      obtain ⟨g1, g2⟩ := snd_Bool h2
      cases op with
      | And =>
        have e : ∀ F, evE F (.and x y) = fun ρ S => (evE F x ρ S).bind fun u S1 => match truU S1 u with | some true => evE F y ρ S1 | some false => .ok u S1 | none => .stuck := by intro F; funext ρ S; rw [evE] <;> rfl
        refine ⟨fun X cls W F t => ?_, fun X cls W F t => ?_⟩
        · show PE X _ (tE X.K cls W (evE F (.and x y)))
          rw [e]; exact te_and ((hf a x h1).1 X cls W F t) (g1 X cls W F t)
        · show PW X _ (tT X.K cls W (evE F (.and x y)))
          rw [e]; exact tw_and ((hf a x h1).2 X cls W F t) (g2 X cls W F t)
      | Or =>
        have e : ∀ F, evE F (.or x y) = fun ρ S => (evE F x ρ S).bind fun u S1 => match truU S1 u with | some true => .ok u S1 | some false => evE F y ρ S1 | none => .stuck := by intro F; funext ρ S; rw [evE] <;> rfl
        refine ⟨fun X cls W F t => ?_, fun X cls W F t => ?_⟩
        · show PE X _ (tE X.K cls W (evE F (.or x y)))
          rw [e]; exact te_or ((hf a x h1).1 X cls W F t) (g1 X cls W F t)
        · show PW X _ (tT X.K cls W (evE F (.or x y)))
          rw [e]; exact tw_or ((hf a x h1).2 X cls W F t) (g2 X cls W F t)
    · cases h
end
end Ev
set_option Elab.async false
set_option linter.all false
set_option maxRecDepth 100000
set_option maxHeartbeats 4000000
/-! Ev21: the trees say what the text does: names, operators, calls. -/
namespace Ev
open PySem PySem.Spec PyProof.Rows L2

theorem bind_ok {α β : Type} {r : R α} {f : α → Sto → R β} {b : β} {S : Sto} (h : r.bind f = .ok b S) : ∃ a S1, r = .ok a S1 ∧ f a S1 = .ok b S := by
  cases r with
  | ok a S1 => exact ⟨a, S1, rfl, h⟩
  | ex c S1 => cases h
  | stuck => cases h
theorem evEs_len (F : Nat → List U → Sto → R U) : ∀ (xs : List EX) (ρ : Rho) (S : Sto) (us : List U) (S' : Sto), evEs F xs ρ S = .ok us S' → us.length = xs.length
  | [], ρ, S, us, S', h => by rw [evEs] at h; cases h; rfl
  | x :: xs, ρ, S, us, S', h => by
    rw [evEs] at h
    obtain ⟨u, S1, _, h⟩ := bind_ok h
    obtain ⟨vs, S2, h2, h⟩ := bind_ok h
    cases h
    simp [evEs_len F xs ρ S1 vs _ h2]
theorem evEs_app (F : Nat → List U → Sto → R U) : ∀ (xs ys : List EX) (ρ : Rho) (S : Sto), evEs F (xs ++ ys) ρ S = (evEs F xs ρ S).bind fun us S1 => (evEs F ys ρ S1).bind fun ws S2 => .ok (us ++ ws) S2
  | [], ys, ρ, S => by
    rw [List.nil_append, evEs]
    show _ = (evEs F ys ρ S).bind fun ws S2 => .ok ([] ++ ws) S2
    cases evEs F ys ρ S <;> rfl
  | x :: xs, ys, ρ, S => by
    rw [List.cons_append, evEs, evEs]
    cases evE F x ρ S with
    | ok u S1 =>
      simp only [R.bind]
      rw [evEs_app F xs ys ρ S1]
      cases evEs F xs ρ S1 with
      | ok us S2 =>
        simp only [R.bind]
        cases evEs F ys ρ S2 <;> rfl
      | ex c S2 => rfl
      | stuck => rfl
    | ex c S1 => rfl
    | stuck => rfl

section
variable {C : CC}
theorem snd_const {c : Const} {k : Nat} {p : Pos} {x : EX} (h : cConst c = some x) : SndE C (.Constant c k p) x := by
  intro X cls W F t
  cases c with
  | none => cases h; exact te_cst pe_non fun _ _ _ => .non
  | bool b => cases h; exact te_cst pe_bl fun _ _ _ => .bl b
  | int i => cases h; exact te_cst pe_int fun _ _ _ => .int i
  | str x => cases h; exact te_cst pe_str fun _ _ _ => .str x
  | _ => cases h
theorem ev_var {F : Nat → List U → Sto → R U} {i : Nat} : evE F (.var i) = fun ρ S => optR S (getR ρ i) := by funext ρ S; rw [evE]
theorem ev_frz {F : Nat → List U → Sto → R U} {a : EX} : evE F (.frz a) = fun ρ S => (evE F a ρ S).bind fun u S1 => match u with
    | .ref n => match S1[n]? with
      | some (.liv (.lst xs)) => .ok (.lst xs) (S1.set n .ded)
      | _ => .stuck
    | _ => .ok u S1 := by funext ρ S; rw [evE] <;> rfl
theorem ev_cst {F : Nat → List U → Sto → R U} {u : U} : evE F (.cst u) = fun _ S => .ok u S := by funext ρ S; rw [evE]
theorem snd_name {y : Str} {p : Pos} {x : EX} (h : cName C y p = some x) : SndE C (.Name y p) x := by
  intro X cls W F t
  unfold cName at h
  split at h
  · rename_i hv
    split at h
    · rename_i i hi
      cases h
      obtain ⟨_, h1, h2⟩ := posN_of hi
      have hb := te_var (cls := cls) (W := W) (pos := p) (t.pos hi) (t.vis hv) h1 h2
      split
      · rw [ev_frz, ev_var]; exact te_frz hb
      · rw [ev_var]; exact hb
    · cases h
  · split at h
    · rename_i hg
      split at h
      · rename_i u hu
        cases h
        obtain ⟨w, v, h1, h2, h3⟩ := t.gvs _ _ hu
        obtain ⟨g1, g2, _⟩ := t.gl hg
        rw [ev_cst]
        exact te_glob g1 h1 h2 g2 h3
      · cases h
    · cases h
theorem ev_qv {F : Nat → List U → Sto → R U} {q : QX} : evE F (.qv q) = fun ρ S => (evQ F q ρ S).bind fun us S1 => .ok (.lst us) S1 := by funext ρ S; rw [evE] <;> rfl
theorem ev_qn {F : Nat → List U → Sto → R U} {q : QX} : evE F (.qn q) = fun ρ S => (evQ F q ρ S).bind fun us S1 => .ok (.ref S1.length) (S1 ++ [.liv (.lst us)]) := by funext ρ S; rw [evE] <;> rfl
/-- a new list, as a value or in the store -/
theorem snd_mkL {e : Expr} {q : QX} {p : Pos} {X : Cx} {cls : Nat → Value} {W : WX} {F : Nat → List U → Sto → R U} (h : PE X e (tQ X.K cls W (evQ F q))) : PE X e (tE X.K cls W (evE F (mkL C p q))) := by
  unfold mkL
  split
  · rw [ev_qn]; exact te_qn h
  · rw [ev_qv]; exact te_qv h
theorem op_of {X : Cx} {op : Operator} {o : Op} (h : opOf op = some o) : OpR X (binaryOp op) (rBin X.K o) := by
  cases op <;> first | cases h | skip
  · exact op_addU
  · exact op_subU
  · exact op_mulU
  · exact op_modU
  · exact op_powU
  · exact op_fdivU
theorem cp_of {X : Cx} {op : CmpOp} {o : Cp} (hu : X.A.units + 72 < cLine) (h : cpOf op = some o) : OpR X (compareOp op) (rCmp X.K o) := by
  cases op <;> first | cases h | skip
  · exact op_eqU hu
  · exact op_neU hu
  · exact op_ltU
  · exact op_leU
  · exact op_gtU
  · exact op_geU
  · exact op_isU
  · exact op_isnotU
  · exact op_inU hu
  · exact op_notinU hu
theorem ev_bin {F : Nat → List U → Sto → R U} {o : Op} {a b : EX} : evE F (.bin o a b) = fun ρ S => (evE F a ρ S).bind fun u S1 => (evE F b ρ S1).bind fun v S2 => optR S2 (binU S2 o u v) := by funext ρ S; rw [evE] <;> rfl
theorem ev_cmp {F : Nat → List U → Sto → R U} {o : Cp} {a b : EX} : evE F (.cmp o a b) = fun ρ S => (evE F a ρ S).bind fun u S1 => (evE F b ρ S1).bind fun v S2 => optR S2 ((cmpU S2 o u v).map U.bl) := by funext ρ S; rw [evE] <;> rfl
theorem ev_ch2 {F : Nat → List U → Sto → R U} {o p : Cp} {a b c : EX} : evE F (.ch2 o p a b c) = fun ρ S => (evE F a ρ S).bind fun u S1 => (evE F b ρ S1).bind fun v S2 => match cmpU S2 o u v with
    | some true => (evE F c ρ S2).bind fun w S3 => optR S3 ((cmpU S3 p v w).map U.bl)
    | some false => .ok (.bl false) S2
    | none => .stuck := by funext ρ S; rw [evE] <;> rfl
theorem ev_ix {F : Nat → List U → Sto → R U} {a b : EX} : evE F (.ix a b) = fun ρ S => (evE F a ρ S).bind fun u S1 => (evE F b ρ S1).bind fun v S2 => optR S2 (ixU S2 u v) := by funext ρ S; rw [evE] <;> rfl
variable {f : Expr → Option EX} (hf : Snd C f)
include hf
theorem snd_bin {a b : Expr} {op : Operator} {p : Pos} {x : EX} (h : cBin C f a op b p = some x) : SndE C (.BinOp a op b p) x := by
  intro X cls W F t
  unfold cBin at h
  split at h
  · rename_i es p2
    split at h
    · rename_i hl
      split at h
      · rename_i xs y h1 h2
        cases h
        obtain ⟨g1, g2, g3⟩ := snd_L hf h1
        refine snd_mkL ?_
        have e : evQ F (.rep xs y) = fun ρ S => (evEs F xs ρ S).bind fun us S1 => (evE F y ρ S1).bind fun v S2 => match v with
            | .int k => if us.length * k.toNat ≤ lim ∧ -(2 ^ 63) ≤ k ∧ k < 2 ^ 63 then .ok (List.replicate k.toNat us).flatten S2 else .stuck
            | _ => .stuck := by funext ρ S; rw [evQ] <;> rfl
        rw [e]
        exact tq_rep (g3 X cls W F t) (fun ρ S us S' h => by rw [evEs_len F _ _ _ _ _ h, g2]; exact hl) ((hf b y h2).1 X cls W F t)
      · cases h
    · cases h
  · split at h
    · rename_i o x y h1 h2 h3
      cases h
      rw [ev_bin]
      exact te_bin (op_of h1) ((hf a x h2).1 X cls W F t) ((hf b y h3).1 X cls W F t)
    · cases h
theorem snd_cmp {a : Expr} {ops : List CmpOp} {bs : List Expr} {p : Pos} {x : EX} (h : cCmp f a ops bs = some x) : SndE C (.Compare a ops bs p) x ∧ SndT C (.Compare a ops bs p) x := by
  unfold cCmp at h
  split at h
  · rename_i op b
    split at h
    · rename_i o x y h1 h2 h3 h4
      cases h
      refine ⟨fun X cls W F t => ?_, fun X cls W F t => ?_⟩
      · rw [ev_cmp]; exact te_cmp (cp_of t.hu h1) ((hf a x h3).1 X cls W F t) ((hf b y h4).1 X cls W F t) (plain_mark h2 op)
      · rw [ev_cmp]; exact tt_cmp (cp_of t.hu h1) ((hf a x h3).1 X cls W F t) ((hf b y h4).1 X cls W F t) (plain_mark h2 op)
    · cases h
  · rename_i op op' b c
    split at h
    · rename_i o o' x y z h1 h1' h2 h3 h4 h5
      cases h
      refine ⟨fun X cls W F t => ?_, fun X cls W F t => ?_⟩
      · rw [ev_ch2]; exact te_ch2 (cp_of t.hu h1) (cp_of t.hu h1') ((hf a x h3).1 X cls W F t) ((hf b y h4).1 X cls W F t) ((hf c z h5).1 X cls W F t) (plain_mark h2 op')
      · rw [ev_ch2]; exact tt_ch2 (cp_of t.hu h1) (cp_of t.hu h1') ((hf a x h3).1 X cls W F t) ((hf b y h4).1 X cls W F t) ((hf c z h5).1 X cls W F t) (plain_mark h2 op')
    · cases h
  · cases h
theorem snd_Op {o : Option Expr} {x : Option EX} (h : cOp f o = some x) : ∀ X cls W F, Sit C X cls W F → PO X o (tO X.K cls W (evO F x)) := by
  intro X cls W F t
  cases o with
  | none =>
    cases h
    have : evO F none = fun _ S => .ok none S := by funext ρ S; rw [evO]
    rw [this]; exact to_none
  | some e =>
    unfold cOp at h
    obtain ⟨y, h1, rfl⟩ := Option.map_eq_some_iff.mp h
    have : evO F (some y) = fun ρ S => (evE F y ρ S).bind fun u S1 => match u with | .int i => .ok (some i) S1 | _ => .stuck := by funext ρ S; rw [evO] <;> rfl
    rw [this]; exact to_some ((hf e y h1).1 X cls W F t)
theorem snd_sub {a s : Expr} {p : Pos} {x : EX} (h : cSub f a s = some x) : SndE C (.Subscript a s p) x := by
  intro X cls W F t
  unfold cSub at h
  split at h
  · obtain ⟨y, h1, rfl⟩ := Option.map_eq_some_iff.mp h
    have : evE F (.rev y) = fun ρ S => (evE F y ρ S).bind fun u S1 => optR S1 (revU S1 u) := by funext ρ S; rw [evE] <;> rfl
    rw [this]; exact te_rev ((hf a y h1).1 X cls W F t)
  · split at h
    · rename_i x l hh h1 h2 h3
      cases h
      have : evE F (.sl x l hh) = fun ρ S => (evE F x ρ S).bind fun u S1 => (evO F l ρ S1).bind fun l S2 => (evO F hh ρ S2).bind fun h S3 => optR S3 (slU S3 u l h) := by funext ρ S; rw [evE] <;> rfl
      rw [this]; exact te_sl ((hf a x h1).1 X cls W F t) (snd_Op hf h2 X cls W F t) (snd_Op hf h3 X cls W F t)
    · cases h
  · cases h
  · rename_i n1 n2 n3
    split at h
    · rename_i x y h1 h2
      cases h
      rw [ev_ix]
      refine te_ix t.hu ((hf a x h1).1 X cls W F t) ((hf s y h2).1 X cls W F t) ?_
      intro o i
      cases s <;> first | rfl | skip
      rename_i lo hi st p
      cases st with
      | none => exact absurd rfl (n2 _ _ _)
      | some st => exact absurd rfl (n3 _ _ _ _)
    · cases h
end
end Ev
set_option Elab.async false
set_option linter.all false
set_option maxRecDepth 100000
set_option maxHeartbeats 4000000
/-! Ev22: the trees say what the text does: calls, walks, comprehensions, all of it. -/
namespace Ev
open PySem PySem.Spec PyProof.Rows L2

theorem str_eq {x y : Str} (h : (x == y) = true) : x = y := eq_of_beq h
theorem tyOf_is {y : Str} {k : Ty} (h : tyOf y = some k) : y ∈ blts ∧ bootBuiltins y = some (.type k.nm) := by
  unfold tyOf at h
  split at h
  · rename_i e; cases h; rw [str_eq e]; exact ⟨by decide, boot_int⟩
  · split at h
    · rename_i e; cases h; rw [str_eq e]; exact ⟨by decide, boot_bool⟩
    · split at h
      · rename_i e; cases h; rw [str_eq e]; exact ⟨by decide, boot_str⟩
      · split at h
        · rename_i e; cases h; rw [str_eq e]; exact ⟨by decide, boot_list⟩
        · split at h
          · rename_i e; cases h; rw [str_eq e]; exact ⟨by decide, boot_tuple⟩
          · cases h
def BK.ok (X : Cx) (b : Bi) : BK → Prop
  | .b id => CallR X (.builtin id) (rBi X.K b)
  | .t id => CallR X (.type id) (rBi X.K b)
def BK.boot : BK → Value
  | .b id => .builtin id
  | .t id => .type id
theorem and_of {a b : Bool} (h : (a && b) = true) : a = true := by cases a <;> simp_all
theorem biOf_is {x : Str} {n : Nat} {b : Bi} {k : BK} (h : biOf x n = some (b, k)) : x ∈ blts ∧ bootBuiltins x = some k.boot ∧ ∀ X : Cx, X.calm = true → k.ok X b := by
  unfold biOf at h
  split at h
  · rename_i e; cases h; rw [str_eq (and_of e)]; exact ⟨by decide, PyProof.Rows.boot_abs, fun X _ => cr_absU⟩
  split at h
  · rename_i e; cases h; rw [str_eq (and_of e)]; exact ⟨by decide, boot_int, fun X _ => cr_intU⟩
  split at h
  · rename_i e; cases h; rw [str_eq (and_of e)]; exact ⟨by decide, by decide +kernel, fun X _ => cr_lenU⟩
  split at h
  · rename_i e; cases h; rw [str_eq (and_of e)]; exact ⟨by decide, by decide +kernel, fun X hc => cr_min2U hc⟩
  split at h
  · rename_i e; cases h; rw [str_eq (and_of e)]; exact ⟨by decide, by decide +kernel, fun X hc => cr_max2U hc⟩
  split at h
  · rename_i e; cases h; rw [str_eq (and_of e)]; exact ⟨by decide, boot_tuple, fun X _ => cr_tupleU⟩
  split at h
  · rename_i e; cases h; rw [str_eq (and_of e)]; exact ⟨by decide, by decide +kernel, fun X hc => cr_allU hc⟩
  split at h
  · rename_i e; cases h; rw [str_eq (and_of e)]; exact ⟨by decide, by decide +kernel, fun X hc => cr_anyU hc⟩
  split at h
  · rename_i e; cases h; rw [str_eq (and_of e)]; exact ⟨by decide, by decide +kernel, fun X hc => cr_sumU hc⟩
  · cases h
theorem ev_lrg1 {F : Nat → List U → Sto → R U} {x : EX} : evQ F (.comp (.nm 0) (.rng1 x) none (.var 0) []) = fun ρ S => (evE F x ρ S).bind fun u S1 => match u with
      | .int j => if small j = true then (if (iotaU 0 j.toNat).length ≤ lim then compL (stepC [] (evT F (.nm 0)) (evC F none) (evE F (.var 0)) ρ) (iotaU 0 j.toNat) S1 else .stuck) else .stuck
      | _ => .stuck := by
  funext ρ S
  rw [evQ, evI]
  cases evE F x ρ S with
  | stuck => rfl
  | ex c S1 => rfl
  | ok u S1 =>
    simp only [R.bind]
    cases u <;> first | rfl | skip
    rename_i j
    dsimp only
    by_cases hj : small j = true
    · rw [if_pos hj, if_pos hj]
      dsimp only
      split <;> rfl
    · rw [if_neg hj, if_neg hj]
theorem ev_lrg2 {F : Nat → List U → Sto → R U} {x y : EX} : evQ F (.comp (.nm 0) (.rng2 x y) none (.var 0) []) = fun ρ S => (evE F x ρ S).bind fun u S1 => (evE F y ρ S1).bind fun v S2 => match u, v with
      | .int i, .int j => if small i = true ∧ small j = true then (if (iotaU i (j - i).toNat).length ≤ lim then compL (stepC [] (evT F (.nm 0)) (evC F none) (evE F (.var 0)) ρ) (iotaU i (j - i).toNat) S2 else .stuck) else .stuck
      | _, _ => .stuck := by
  funext ρ S
  rw [evQ, evI]
  cases evE F x ρ S with
  | stuck => rfl
  | ex c S1 => rfl
  | ok u S1 =>
    simp only [R.bind]
    cases evE F y ρ S1 with
    | stuck => rfl
    | ex c S2 => rfl
    | ok v S2 =>
      dsimp only
      cases u <;> cases v <;> first | rfl | skip
      rename_i i j
      dsimp only
      by_cases hj : small i = true ∧ small j = true
      · rw [if_pos hj, if_pos hj]
        dsimp only
        split <;> rfl
      · rw [if_neg hj, if_neg hj]
section
variable {C : CC} {f : Expr → Option EX} (hf : Snd C f)
include hf
theorem snd_lrg {a : Expr} {it : IX} {p pos : Pos} (h : cRg C f a = some it) {X : Cx} {cls : Nat → Value} {W : WX} {F : Nat → List U → Sto → R U} (hl : Gl X "list") (t : Sit C X cls W F) :
    PE X (.Call (.Name "list" p) [a] [] pos) (tQ X.K cls W (evQ F (.comp (.nm 0) it none (.var 0) []))) := by
  unfold cRg at h
  split at h <;> first | contradiction | skip
  rename_i x px args pr
  split at h <;> first | contradiction | skip
  rename_i hg
  have := str_eq hg.2
  subst this
  obtain ⟨g1, _, _⟩ := t.gl hg.1
  have gm := t.blt "range" (by decide)
  have gl := t.blt "list" (by decide)
  split at h
  · rename_i a
    split at h <;> first | contradiction | skip
    rename_i ha
    obtain ⟨x, h1, rfl⟩ := Option.map_eq_some_iff.mp h
    rw [ev_lrg1]
    exact tq_lrg1 t.calm hl gl g1 gm ((hf a x h1).1 X cls W F t) (star_of ha _ _)
  · rename_i a b
    split at h <;> first | contradiction | skip
    rename_i ha
    split at h <;> first | contradiction | skip
    rename_i x y h1 h2
    cases h
    rw [ev_lrg2]
    exact tq_lrg2 t.calm hl gl g1 gm ((hf a x h1).1 X cls W F t) ((hf b y h2).1 X cls W F t) (star_of ha.1 _ _) (star_of ha.2 _ _) (back_any (by simp [ha.2]) _ _)
  · cases h
theorem snd_isi {a ty : Expr} {x : EX} {p pos : Pos} (ha : plainX a = true) (hg : glB C "isinstance" = true) (h : cIsi C f a ty = some x) : SndE C (.Call (.Name "isinstance" p) [a, ty] [] pos) x := by
  intro X cls W F t
  obtain ⟨g1, g2, g3⟩ := t.gl hg
  unfold cIsi at h
  split at h
  · rename_i y p2
    split at h
    · rename_i hy
      split at h
      · rename_i x k h1 h2
        cases h
        obtain ⟨g4, g5, g6⟩ := t.gl hy
        obtain ⟨b1, b2⟩ := tyOf_is h2
        have : evE F (.ist x [k]) = fun ρ S => (evE F x ρ S).bind fun u S1 => optR S1 ((vtU S1 u).map fun k' => .bl ([k].any k'.is)) := by funext ρ S; rw [evE] <;> rfl
        rw [this]
        exact te_ist1 g1 (t.blt _ (by decide)) PyProof.Rows.boot_isinstance g4 (t.blt _ b1) b2 g6 g5 ((hf a x h1).1 X cls W F t) g3 g2 (star_of ha _ _)
      · cases h
    · cases h
  · rename_i y py z pz k0 p4
    split at h
    · rename_i hy
      split at h
      · rename_i x k l h1 h2 h3
        cases h
        obtain ⟨g4, g5, g6⟩ := t.gl hy.1
        obtain ⟨g7, g8, g9⟩ := t.gl hy.2
        obtain ⟨b1, b2⟩ := tyOf_is h2
        obtain ⟨b3, b4⟩ := tyOf_is h3
        have : evE F (.ist x [k, l]) = fun ρ S => (evE F x ρ S).bind fun u S1 => optR S1 ((vtU S1 u).map fun k' => .bl ([k, l].any k'.is)) := by funext ρ S; rw [evE] <;> rfl
        rw [this]
        exact te_ist2 g1 (t.blt _ (by decide)) PyProof.Rows.boot_isinstance g4 (t.blt _ b1) b2 g6 g5 g7 (t.blt _ b3) b4 g9 g8 ((hf a x h1).1 X cls W F t) g3 g2 (star_of ha _ _)
      · cases h
    · cases h
  · cases h
theorem ev_call {F : Nat → List U → Sto → R U} {i : Nat} {xs : List EX} : evE F (.call i xs) = fun ρ S => (evEs F xs ρ S).bind fun us S1 => F i us S1 := by funext ρ S; rw [evE] <;> rfl
theorem ev_bi {F : Nat → List U → Sto → R U} {b : Bi} {xs : List EX} : evE F (.bi b xs) = fun ρ S => (evEs F xs ρ S).bind fun us S1 => optR S1 (biU S1 b us) := by funext ρ S; rw [evE] <;> rfl
theorem snd_call {y : Str} {args : List Expr} {kws : List Keyword} {p pos : Pos} {x : EX} (h : cCall C f y args kws pos = some x) : SndE C (.Call (.Name y p) args kws pos) x := by
  intro X cls W F t
  unfold cCall at h
  split at h
  case isFalse => cases h
  case isTrue hg =>
  obtain ⟨g1, g2, g3⟩ := t.gl hg
  split at h
  · rename_i i ps hG
    have D := t.defs _ _ _ hG
    split at h
    · rename_i xs ys ns h1 h2
      obtain ⟨a1, a2, a3⟩ := snd_L hf h1
      obtain ⟨b1, b2⟩ := snd_Kw hf h2 X cls W F t
      have ha := a3 X cls W F t
      -- only by place
      have plainCall : ns = [] → kws = [] → ys = [] → PE X (.Call (.Name y p) args kws pos) (tE X.K cls W (evE F (.call i xs))) := by
        rintro rfl rfl rfl
        rw [ev_call hf]
        cases args with
        | nil =>
          have : xs = [] := List.eq_nil_of_length_eq_zero a2
          subst this
          have e : evEs F [] = fun _ S => .ok [] S := by funext ρ S; rw [evEs]
          rw [e]
          exact te_call0 D t.tk g1 g2
        | cons e es =>
          simp only [List.all_cons, Bool.and_eq_true] at a1
          exact te_call D t.tk g1 ha g2 (star_of a1.1 es _) (back_any a1.2 _ _)
      have nil_of : ns = [] → kws = [] ∧ ys = [] := by
        rintro rfl
        cases kws with
        | nil => cases h2; exact ⟨rfl, rfl⟩
        | cons k ks =>
          obtain ⟨nm, e, kp⟩ := k
          cases nm with
          | none => simp [cKw] at h2
          | some n =>
            simp only [cKw] at h2
            split at h2 <;> cases h2
      split at h
      · rename_i hn
        cases h
        obtain ⟨hn, hl⟩ := hn
        by_cases hns : ns = []
        · obtain ⟨e1, e2⟩ := nil_of hns
          subst e2
          rw [List.append_nil]
          exact plainCall hns e1 rfl
        · obtain ⟨c1, c2, c3⟩ := b2 pos
          rw [ev_call hf]
          cases args with
          | nil =>
            have : xs = [] := List.eq_nil_of_length_eq_zero a2
            subst this
            rw [List.nil_append]
            have hn' : ns = ps := by rw [hn]; rfl
            exact te_callK0 D t.tk g1 b1 c1 (c2.trans hn') g2 (by
              show (false || _) = false
              rw [c3]; rfl)
          | cons e es =>
            simp only [List.all_cons, Bool.and_eq_true] at a1
            have key := te_callK D t.tk g1 ha (fun ρ S us S' h => by rw [evEs_len F _ _ _ _ _ h, a2]) b1 c1 (c2.trans hn) g2 (star_of a1.1 es _) (p := p) (by
              rw [back_any (by simp [a1.1, a1.2]), c3]; rfl)
            refine key.imp fun σ H Q ⟨fm, S, ρ, so, eo, q⟩ => ⟨fm, S, ρ, so, eo, ?_⟩
            revert q
            dsimp only
            rw [evEs_app]
            cases evEs F xs ρ S with
            | ok us S1 =>
              simp only [R.bind]
              cases evEs F ys ρ S1 <;> exact fun q => q
            | ex c S1 => exact fun q => q
            | stuck => exact fun q => q
      · split at h
        · rename_i hns
          cases h
          obtain ⟨e1, e2⟩ := nil_of hns
          exact plainCall hns e1 e2
        · cases h
    · cases h
  · split at h
    case h_2 => cases h
    case h_1 =>
    split at h
    · rename_i hi
      have := str_eq hi
      subst this
      split at h
      · rename_i a ty
        split at h
        · rename_i ha
          exact snd_isi hf ha hg h X cls W F t
        · cases h
      · cases h
    · split at h
      · rename_i hi
        have := str_eq hi
        subst this
        split at h
        · rename_i a
          split at h
          · rename_i ha
            split at h
            · rename_i it hit
              cases h
              refine snd_mkL ?_
              exact snd_lrg hf hit g1 t
            rename_i hno
            obtain ⟨y, h1, rfl⟩ := Option.map_eq_some_iff.mp h
            refine snd_mkL ?_
            have e : evQ F (.lof y) = fun ρ S => (evE F y ρ S).bind fun u S1 => optR S1 (seqOf S1 u) := by funext ρ S; rw [evQ] <;> rfl
            rw [e]
            exact tq_lof g1 (t.blt _ (by decide)) boot_list ((hf a y h1).1 X cls W F t) g3 g2 (star_of ha _ _)
          · cases h
        · cases h
      · split at h
        · rename_i hi
          have := str_eq hi
          subst this
          split at h
          · rename_i a
            split at h
            · rename_i ha
              obtain ⟨y, h1, rfl⟩ := Option.map_eq_some_iff.mp h
              refine snd_mkL ?_
              have e : evQ F (.srt y) = fun ρ S => (evE F y ρ S).bind fun u S1 => match seqOf S1 u with | some xs => optR S1 (srtU xs) | none => .stuck := by funext ρ S; rw [evQ] <;> rfl
              rw [e]
              exact tq_srt g1 (t.blt _ (by decide)) PyProof.Rows.boot_sorted ((hf a y h1).1 X cls W F t) g3 g2 (star_of ha _ _)
            · cases h
          · cases h
        · split at h
          · rename_i b k xs h1 h2
            cases h
            obtain ⟨a1, a2, a3⟩ := snd_L hf h2
            obtain ⟨c1, c2, c3⟩ := biOf_is h1
            rw [ev_bi hf]
            cases args with
            | nil =>
              exfalso
              have z : ∀ s : Str, (s == y && (0 : Nat) == 1) = false := fun s => by simp
              simp [biOf] at h1
            | cons e es =>
              simp only [List.all_cons, Bool.and_eq_true] at a1
              cases k with
              | b id => exact te_biB (c3 X t.calm) g1 (t.blt _ c1) c2 (a3 X cls W F t) g3 g2 (star_of a1.1 es _) (back_any a1.2 _ _)
              | t id => exact te_biT (c3 X t.calm) g1 (t.blt _ c1) c2 (a3 X cls W F t) g3 g2 (star_of a1.1 es _) (back_any a1.2 _ _)
          · cases h
end
end Ev
set_option Elab.async false
set_option linter.all false
set_option maxRecDepth 100000
set_option maxHeartbeats 4000000
/-! Ev23: the trees say what the text does: methods, targets, walks, comprehensions; every expression. -/
namespace Ev
open PySem PySem.Spec PyProof.Rows L2

section
variable {C : CC} {f : Expr → Option EX} (hf : Snd C f)
include hf
theorem ev_mth {F : Nat → List U → Sto → R U} {m : Mt} {a : EX} {xs : List EX} : evE F (.mth m a xs) = fun ρ S => (evE F a ρ S).bind fun u S1 => if mtOk S1 m u = true then (evEs F xs ρ S1).bind fun us S2 => mthR (mthU S2 m u us) else .stuck := by funext ρ S; rw [evE] <;> rfl
theorem snd_meth {o : Expr} {m : Str} {apos cpos : Pos} {args : List Expr} {x : EX} (h : cMeth f o m apos args cpos = some x) : SndE C (.Call (.Attribute o m apos) args [] cpos) x := by
  intro X cls W F t
  unfold cMeth at h
  split at h
  case isFalse => cases h
  case isTrue hb =>
  obtain ⟨hb, hl⟩ := hb
  split at h
  · rename_i hm
    have := str_eq hm
    subst this
    split at h
    · rename_i k d
      split at h
      · rename_i x y z h1 h2 h3
        split at h
        · rename_i hp
          cases h
          have e : evE F (.dget x y z) = fun ρ S => (evE F x ρ S).bind fun u S1 => if (dctOf S1 u).isSome = true then (evE F y ρ S1).bind fun v S2 => (evE F z ρ S2).bind fun w S3 => optR S3 (dgetU S3 u v w) else .stuck := by funext ρ S; rw [evE] <;> rfl
          rw [e]
          refine te_dget t.hu ((hf o x h1).1 X cls W F t) ((hf k y h2).1 X cls W F t) ((hf d z h3).1 X cls W F t) ⟨base_of hb _ _ _, ?_, hl, ?_⟩
          · rw [back_all (by simp [hp.1, hp.2])]; rfl
          · rw [star_of hp.1, star_of hp.2]; rfl
        · cases h
      · cases h
    · cases h
  · split at h
    · rename_i k x xs h1 h2 h3
      cases h
      obtain ⟨a1, a2, a3⟩ := snd_L hf h3
      have ho := (hf o x h2).1 X cls W F t
      have ha := a3 X cls W F t
      rw [ev_mth hf]
      unfold mtOf at h1
      have go : ∀ {id : String} {e : Expr} {es : List Expr}, args = e :: es → (e :: es).length < 30 → Slot "list" m id → typeOf (.builtin id) = pure (.type "method_descriptor") → MtM X id (rMt X.K k) →
          PE X (.Call (.Attribute o m apos) args [] cpos) (tE X.K cls W fun ρ S => (evE F x ρ S).bind fun u S1 => if mtOk S1 k u = true then (evEs F xs ρ S1).bind fun us S2 => mthR (mthU S2 k u us) else .stuck) := by
        rintro id e es rfl hlen slot hty hm
        have a1' := a1
        simp only [List.all_cons, Bool.and_eq_true] at a1'
        refine te_mt PySem.F.plainAttrs_list slot hty hm ho ha (base_of hb _ _ _) ?_ hl (star_of a1'.1 es _) (back_any a1'.2 _ _)
        rw [back_all a1]
        simp only [Bool.true_and, Bool.and_eq_true, decide_eq_true_eq]
        exact ⟨rfl, by simpa using hlen⟩
      split at h1
      · rename_i e
        cases h1
        simp only [Bool.and_eq_true, beq_iff_eq] at e
        have e1 := e.1; subst e1
        match args, e.2 with
        | [a], _ => exact go rfl (by simp) PySem.F.slot_list_append PySem.F.type_list_append mt_appU
      · split at h1
        · rename_i e
          cases h1
          simp only [Bool.and_eq_true, beq_iff_eq] at e
          have e1 := e.1; subst e1
          match args, e.2 with
          | [a], _ => exact go rfl (by simp) PySem.F.slot_list_extend PySem.F.type_list_extend mt_extU
        · split at h1
          · rename_i e
            cases h1
            simp only [Bool.and_eq_true, beq_iff_eq] at e
            have e1 := e.1; subst e1
            match args, e.2 with
            | [], _ =>
              have : xs = [] := List.eq_nil_of_length_eq_zero a2
              subst this
              have e2 : evEs F [] = fun _ S => .ok [] S := by funext ρ S; rw [evEs]
              rw [e2]
              exact te_mt0 PySem.F.plainAttrs_list PySem.F.slot_list_pop PySem.F.type_list_pop mt_pop0U ho (base_of hb _ _ _) hl
          · split at h1
            · rename_i e
              cases h1
              simp only [Bool.and_eq_true, beq_iff_eq] at e
              have e1 := e.1; subst e1
              match args, e.2 with
              | [a], _ => exact go rfl (by simp) PySem.F.slot_list_pop PySem.F.type_list_pop mt_pop1U
            · split at h1
              · rename_i e
                cases h1
                simp only [Bool.and_eq_true, beq_iff_eq] at e
                have e1 := e.1; subst e1
                match args, e.2 with
                | [a], _ => exact go rfl (by simp) PySem.F.slot_list_index PySem.F.type_list_index (mt_indexU t.hu)
              · cases h1
    · cases h
/-- targets -/
theorem snd_Ts (n : Nat) {wb : Nat → Bool} (ih : ∀ {e : Expr} {x : TX}, cT C f wb n e = some x → ∀ X cls W F, Sit C X cls W F → ∀ wr : Nat → Prop, (∀ i, wb i = true → wr i) → PG X e (tG X.K wr (evT F x))) :
    ∀ {es : List Expr} {xs : List TX}, es.mapM (cT C f wb n) = some xs → es.all plainX = true → xs.length = es.length ∧ ∀ X cls W F, Sit C X cls W F → ∀ wr : Nat → Prop, (∀ i, wb i = true → wr i) → PGs X es (tGs X.K wr (evTs F xs))
  | [], xs, h, _ => by
    rw [List.mapM_nil] at h
    cases h
    refine ⟨rfl, fun X cls W F t wr hw => ?_⟩
    refine tgs_nil.imp fun v σ H Q ⟨fm, S, ρ, us, so, eo, ru, ρ', S', e, q⟩ => ⟨fm, S, ρ, us, so, eo, ru, ρ', S', ?_, q⟩
    cases us with
    | nil => rw [evTs] at e; exact e
    | cons _ _ => simp [evTs] at e
  | e :: es, xs, h, hp => by
    rw [List.mapM_cons] at h
    simp only [List.all_cons, Bool.and_eq_true] at hp
    cases h1 : cT C f wb n e with
    | none => rw [h1] at h; cases h
    | some x =>
      rw [h1] at h
      cases h2 : es.mapM (cT C f wb n) with
      | none => rw [h2] at h; cases h
      | some ys =>
        rw [h2] at h
        cases h
        obtain ⟨g1, g2⟩ := snd_Ts n ih h2 hp.2
        refine ⟨by simp [g1], fun X cls W F t wr hw => ?_⟩
        have hs : (assignEach (e :: es) X.env).map (·.2) = assign e X.env :: (assignEach es X.env).map (·.2) := by
          have hp1 := hp.1
          cases e <;> first | rfl | cases hp1
        refine (tgs_cons (ih h1 X cls W F t wr hw) (g2 X cls W F t wr hw) hs).imp fun v σ H Q ⟨fm, S, ρ, us, so, eo, ru, ρ', S', e, q⟩ => ⟨fm, S, ρ, us, so, eo, ru, ρ', S', ?_, q⟩
        cases us with
        | nil => simp [evTs] at e
        | cons u us =>
          rw [evTs] at e
          dsimp only
          cases hx : evT F x u ρ S with
          | none => rw [hx] at e; exact e
          | some rs => rw [hx] at e; exact e
theorem snd_T {wb : Nat → Bool} : ∀ (n : Nat) {e : Expr} {x : TX}, cT C f wb n e = some x → ∀ X cls W F, Sit C X cls W F → ∀ wr : Nat → Prop, (∀ i, wb i = true → wr i) → PG X e (tG X.K wr (evT F x)) := by
  have name : ∀ (n : Nat) {y : Str} {p : Pos} {x : TX}, cT C f wb n (.Name y p) = some x → ∀ X cls W F, Sit C X cls W F → ∀ wr : Nat → Prop, (∀ i, wb i = true → wr i) → PG X (.Name y p) (tG X.K wr (evT F x)) := by
    intro n y p x h X cls W F t wr hw
    have h : (if locB C y = true then match posN C y with | some i => if wb i = true then some (TX.nm i) else none | none => none else none) = some x := by cases n <;> exact h
    split at h
    · rename_i hl
      split at h
      · rename_i i hi
        split at h
        · rename_i hwi
          cases h
          obtain ⟨l1, l2⟩ := t.loc hl
          have e : evT F (.nm i) = fun u ρ S => if i < ρ.length then some (ρ.set i (some u), S) else none := by funext u ρ S; rw [evT] <;> rfl
          rw [e]
          exact tg_name (by rw [t.hN]; exact t.nd) (t.pos hi) l1 l2 (hw i hwi)
        · cases h
      · cases h
    · cases h
  have sub : ∀ (n : Nat) {a b : Expr} {p : Pos} {x : TX}, cT C f wb n (.Subscript a b p) = some x → ∀ X cls W F, Sit C X cls W F → ∀ wr : Nat → Prop, (∀ i, wb i = true → wr i) → PG X (.Subscript a b p) (tG X.K wr (evT F x)) := by
    intro n a b p x h X cls W F t wr hw
    have h : (if plainX b = true then match f a, f b with | some x, some y => some (TX.ix x y) | _, _ => none else none) = some x := by cases n <;> exact h
    split at h
    · rename_i hb
      split at h
      · rename_i x y h1 h2
        cases h
        have t' := t.toF
        have key := tg_ix (wr := wr) (pos := p) t.hu ((hf a x h1).1 X cls WF F t') ((hf b y h2).1 X cls WF F t') (fun v => by cases b <;> first | rfl | cases hb)
        refine key.imp fun v σ H Q ⟨fm, S, ρ, u, so, eo, ru, ρ', S', e, q⟩ => ⟨fm, S, ρ, u, so, eo, ru, ρ', S', ?_, q⟩
        rw [evT] at e
        rw [← e] <;> rfl
      · cases h
    · cases h
  intro n
  induction n with
  | zero =>
    intro e x h
    cases e with
    | Name y p => exact name 0 h
    | Subscript a b p => exact sub 0 h
    | _ => simp [cT] at h
  | succ n ih =>
    intro e x h
    cases e with
    | Name y p => exact name _ h
    | Subscript a b p => exact sub _ h
    | Tuple es k p =>
      have h : (if es.all plainX = true then (es.mapM (cT C f wb n)).map TX.tp else none) = some x := h
      split at h
      · rename_i hp
        obtain ⟨xs, h1, rfl⟩ := Option.map_eq_some_iff.mp h
        obtain ⟨g1, g2⟩ := snd_Ts hf n (fun {e x} h => ih h) h1 hp
        intro X cls W F t wr hw
        have e : evT F (.tp xs) = fun u ρ S => match unpack xs.length u S with | some us => evTs F xs us ρ S | none => none := by funext u ρ S; rw [evT] <;> rfl
        rw [e]
        have hl : ∀ es : List Expr, es.all plainX = true → (assignEach es X.env).length = es.length ∧ (assignEach es X.env).findIdx? (·.1) = none := by
          intro es
          induction es with
          | nil => intro _; exact ⟨rfl, rfl⟩
          | cons e es ih2 =>
            intro hp
            simp only [List.all_cons, Bool.and_eq_true] at hp
            obtain ⟨j1, j2⟩ := ih2 hp.2
            have e1 : assignEach (e :: es) X.env = (false, assign e X.env) :: assignEach es X.env := by
              have hp1 := hp.1
              cases e <;> first | rfl | cases hp1
            rw [e1]
            refine ⟨by simp [j1], ?_⟩
            rw [List.findIdx?_cons]
            simp [j2]
        obtain ⟨l1, l2⟩ := hl es hp
        exact tg_tup t.calm (g2 X cls W F t wr hw) (by rw [l1, g1]) l2
      · cases h
    | _ => simp [cT] at h
end
end Ev
set_option Elab.async false
set_option linter.all false
set_option maxRecDepth 100000
set_option maxHeartbeats 4000000
/-! Ev24: the trees say what the text does: walks, comprehensions; every expression. -/
namespace Ev
open PySem PySem.Spec PyProof.Rows L2

section
variable {C : CC} {f : Expr → Option EX} (hf : Snd C f)
include hf
theorem snd_val {tg e : Expr} {it : IX} (h : (f e).map IX.val = some it) : ∀ X cls W F, Sit C X cls W F → PI X tg e (tI X.K cls W (evI F it)) := by
  intro X cls W F t
  obtain ⟨x, h1, rfl⟩ := Option.map_eq_some_iff.mp h
  have : evI F (.val x) = fun ρ S => (evE F x ρ S).bind fun u S1 => optR S1 (lockOf S1 u) := by funext ρ S; rw [evI] <;> rfl
  rw [this]
  exact ti_val ((hf e x h1).1 X cls W F t)
theorem star2 {a b : Expr} (ha : plainX a = true) (hb : plainX b = true) (env : Env) : starEach [a, b] env = [(false, eval a env), (false, eval b env)] := by rw [star_of ha, star_of hb]; rfl
theorem snd_I {tg e : Expr} {it : IX} (h : cI C f tg e = some it) : ∀ X cls W F, Sit C X cls W F → PI X tg e (tI X.K cls W (evI F it)) ∧ ∀ x, foldedSetIterable e X.env x = pure x := by
  intro X cls W F t
  unfold cI at h
  split at h
  · rename_i y py args p
    refine ⟨?_, fun _ => rfl⟩
    split at h
    · rename_i hg
      have := str_eq hg.2
      subst this
      obtain ⟨g1, _, _⟩ := t.gl hg.1
      have gm := t.blt "range" (by decide)
      split at h
      · rename_i a
        split at h
        · rename_i ha
          obtain ⟨x, h1, rfl⟩ := Option.map_eq_some_iff.mp h
          have : evI F (.rng1 x) = fun ρ S => (evE F x ρ S).bind fun u S1 => match u with
              | .int j => if small j = true then .ok (iotaU 0 j.toNat, none) S1 else .stuck
              | _ => .stuck := by funext ρ S; rw [evI] <;> rfl
          rw [this]
          exact ti_rng1 g1 gm ((hf a x h1).1 X cls W F t) (star_of ha _ _)
        · cases h
      · rename_i a b
        split at h
        · rename_i ha
          split at h
          · rename_i x y h1 h2
            cases h
            have : evI F (.rng2 x y) = fun ρ S => (evE F x ρ S).bind fun u S1 => (evE F y ρ S1).bind fun v S2 => match u, v with
                | .int i, .int j => if small i = true ∧ small j = true then .ok (iotaU i (j - i).toNat, none) S2 else .stuck
                | _, _ => .stuck := by funext ρ S; rw [evI] <;> rfl
            rw [this]
            exact ti_rng2 g1 gm ((hf a x h1).1 X cls W F t) ((hf b y h2).1 X cls W F t) (star2 hf ha.1 ha.2 _) (star_of ha.2 _ _)
          · cases h
        · cases h
      · rename_i a b c
        split at h
        · rename_i ha
          split at h
          · rename_i x y z h1 h2 h3
            cases h
            have : evI F (.rng3 x y z) = fun ρ S => (evE F x ρ S).bind fun u S1 => (evE F y ρ S1).bind fun v S2 => (evE F z ρ S2).bind fun w S3 => match u, v, w with
                | .int i, .int j, .int (-1) => if small i = true ∧ small j = true then .ok (iotaC i (-1) (i - j).toNat, none) S3 else .stuck
                | _, _, _ => .stuck := by funext ρ S; rw [evI] <;> rfl
            rw [this]
            refine ti_rng3 g1 gm ((hf a x h1).1 X cls W F t) ((hf b y h2).1 X cls W F t) ((hf c z h3).1 X cls W F t) (star_of ha.1 _ _) (star_of ha.2.1 _ _) (star_of ha.2.2 _ _) ?_
            exact back_any (by simp [ha.2.1, ha.2.2]) _ _
          · cases h
        · cases h
      · cases h
    · split at h
      · rename_i hg
        have := str_eq hg.2.1
        subst this
        obtain ⟨g1, _, _⟩ := t.gl hg.1
        split at h
        · rename_i a
          split at h
          · rename_i ha
            obtain ⟨x, h1, rfl⟩ := Option.map_eq_some_iff.mp h
            have htg := hg.2.2
            cases tg <;> first | cases htg | skip
            have : evI F (.enum x) = fun ρ S => (evE F x ρ S).bind fun u S1 => match lockOf S1 u with
                | some (xs, l) => .ok (enumU 0 xs, l) S1
                | none => .stuck := by funext ρ S; rw [evI] <;> rfl
            rw [this]
            exact ti_enum g1 (t.blt _ (by decide)) ((hf a x h1).1 X cls W F t) (star_of ha _ _)
          · cases h
        · cases h
      · split at h
        · rename_i hg
          have := str_eq hg.2.1
          subst this
          obtain ⟨g1, _, _⟩ := t.gl hg.1
          split at h
          · rename_i a b
            split at h
            · rename_i ha
              split at h
              · rename_i x y h1 h2
                cases h
                have htg := hg.2.2
                cases tg <;> first | cases htg | skip
                have : evI F (.zip2 x y) = fun ρ S => (evE F x ρ S).bind fun u S1 => (evE F y ρ S1).bind fun v S2 => match u, v with
                    | .tup xs, .tup ys => .ok (zipU xs ys, none) S2
                    | .lst xs, .lst ys => .ok (zipU xs ys, none) S2
                    | _, _ => .stuck := by funext ρ S; rw [evI] <;> rfl
                rw [this]
                exact ti_zip g1 (t.blt _ (by decide)) ((hf a x h1).1 X cls W F t) ((hf b y h2).1 X cls W F t) (star_of ha.1 _ _) (star_of ha.2 _ _) (back_any (by simp [ha.2]) _ _)
              · cases h
            · cases h
          · cases h
        · exact snd_val hf h X cls W F t
  · cases h
  · rename_i n1 n2
    exact ⟨snd_val hf h X cls W F t, fun x => fold_of (fun es k p z => n2 _ _ _ z) _ _⟩
theorem snd_If {ifs : List Expr} {cd : Option EX} (h : cIf f ifs = some cd) : ∀ X cls W F, Sit C X cls W F → PTs X ifs (tB X.K cls W (evC F cd)) := by
  intro X cls W F t
  unfold cIf at h
  split at h
  · cases h
    have : evC F none = fun _ S => .ok true S := by funext ρ S; rw [evC]
    rw [this]; exact tb_nil
  · rename_i c
    obtain ⟨x, h1, rfl⟩ := Option.map_eq_some_iff.mp h
    have : evC F (some x) = fun ρ S => (evE F x ρ S).bind fun u S1 => optR S1 (truU S1 u) := by funext ρ S; rw [evC] <;> rfl
    rw [this]; exact tb_one ((hf c x h1).2 X cls W F t)
  · cases h
end

/-- x if c else y, as a test -/
theorem tt_ite {X : Cx} {cls : Nat → Value} {W : WX} {a b c : Expr} {pos : Pos} {ra rb rc : Rho → Sto → R U} (hc : PT X c (tT X.K cls W rc)) (ha : PT X a (tT X.K cls W ra)) (hb : PT X b (tT X.K cls W rb)) :
    PT X (.IfExp c a b pos) (tT X.K cls W fun ρ S => (rc ρ S).bind fun u S1 => match truU S1 u with | some true => ra ρ S1 | some false => rb ρ S1 | none => .stuck) := by
  refine ⟨fun pins s σ H Q I ⟨fm, S, ρ, so, eo, q⟩ => ?_⟩
  show wpAny (model X.prog X.w) X.A (do if ← isTrue c X.env (eval c X.env) then isTrue a X.env (eval a X.env) else isTrue b X.env (eval b X.env)) (TP X pins σ Q) X.xe s
  refine wpAny_bind (thn (hc.run pins s σ H (fun k H1 => (k = true → tT X.K cls W ra σ H1 Q) ∧ (k = false → tT X.K cls W rb σ H1 Q)) I ⟨fm, S, ρ, so, eo, q.bind.imp fun u fm1 S1 H1 st1 so1 h1 => ?_⟩) fun k s1 ⟨H1, I1, q1, q2⟩ => ?_)
  · cases e : truU S1 u with
    | none => rw [e] at h1; exact h1.elim
    | some k =>
      rw [e] at h1
      refine ⟨k, rfl, fun z => ?_, fun z => ?_⟩
      · subst z; exact ⟨fm1, S1, ρ, so1, eo.mono st1.toGr, h1⟩
      · subst z; exact ⟨fm1, S1, ρ, so1, eo.mono st1.toGr, h1⟩
  · cases k with
    | true => exact ha.run pins s1 σ H1 Q I1 (q1 rfl)
    | false => exact hb.run pins s1 σ H1 Q I1 (q2 rfl)
/-- what a comprehension's parts say -/
structure CompOk (C : CC) (elt tg iter : Expr) (ifs : List Expr) (scope : Scope) (own : List (Str × Nat)) (X : Cx) (cls : Nat → Value) (W : WX) (F : Nat → List U → Sto → R U) (t : TX) (cd : Option EX) (el : EX) : Prop where
  ok : BlkOk X.N X.env.scope scope own
  hg : ∀ (s : Shared) (H : Hp) (c : Addr) (cl : List (Str × Addr)) (fp : List Addr), PG (X.blk s H scope (compEnvC scope cl c X.env) fp) tg (tG X.K (· ∈ own.map (·.2)) (evT F t))
  ht : ∀ (s : Shared) (H : Hp) (c : Addr) (cl : List (Str × Addr)) (fp : List Addr), PTs (X.blk s H scope (compEnvC scope cl c X.env) fp) ifs (tB X.K cls WF (evC F cd))
  he : ∀ (s : Shared) (H : Hp) (c : Addr) (cl : List (Str × Addr)) (fp : List Addr), PE (X.blk s H scope (compEnvC scope cl c X.env) fp) elt (tE X.K cls WF (evE F el))
theorem stepC_ev {F : Nat → List U → Sto → R U} {own : List Nat} {t : TX} {cd : Option EX} {el : EX} {ρ : Rho} : stepC own (evT F t) (evC F cd) (evE F el) ρ = fun x S => match evT F t x (wipeR ρ own) S with
    | some (ρ1, S1) => (evC F cd ρ1 S1).bind fun k S2 => if k = true then (evE F el ρ1 S2).bind fun y S3 => .ok (some y) S3 else .ok none S2
    | none => .stuck := rfl
theorem snd_comp {C : CC} {f : CC → Expr → Option EX} (hf : ∀ C, Snd C (f C)) {elt tg iter : Expr} {ifs : List Expr} {scope : Scope} {q : QX} (h : cComp C f elt tg iter ifs scope = some q) :
    ∃ (own : List (Str × Nat)) (t : TX) (cd : Option EX) (el : EX), (∀ X cls W F, Sit C X cls W F → CompOk C elt tg iter ifs scope own X cls W F t cd el) ∧
      ((∃ it, q = .comp t it cd el (own.map (·.2)) ∧ ∀ X cls W F, Sit C X cls W F → PI X tg iter (tI X.K cls W (evI F it)) ∧ ∀ x, foldedSetIterable iter X.env x = pure x) ∨
        ∃ y p i, iter = .Name y p ∧ visB C y = true ∧ posN C y = some i ∧ q = .compK i t cd el (own.map (·.2))) := by
  unfold cComp at h
  dsimp only at h
  split at h
  case isFalse => cases h
  case isTrue hb =>
  split at h
  · rename_i t cd el h1 h2 h3
    refine ⟨ownOf C scope, t, cd, el, fun X cls W F s => ⟨?_, fun s' H c cl fp => ?_, fun s' H c cl fp => ?_, fun s' H c cl fp => ?_⟩, ?_⟩
    · rw [s.hN, s.sc]; exact blkOk_by hb
    · refine snd_T (hf _) 20 h1 _ cls WF F (s.blk s' H c cl fp) _ fun i hi => ?_
      obtain ⟨p, hp, e⟩ := List.any_eq_true.mp hi
      exact List.mem_map.mpr ⟨p, hp, by simpa using e⟩
    · exact snd_If (hf _) h2 _ cls WF F (s.blk s' H c cl fp)
    · exact (hf _ _ _ h3).1 _ cls WF F (s.blk s' H c cl fp)
    · split at h
      · rename_i y p
        split at h
        · split at h
          · rename_i hv
            obtain ⟨i, hi, rfl⟩ := Option.map_eq_some_iff.mp h
            exact .inr ⟨y, p, i, rfl, hv, hi, rfl⟩
          · cases h
        · obtain ⟨x, hx, rfl⟩ := Option.map_eq_some_iff.mp h
          exact .inl ⟨.val x, rfl, fun X cls W F s => ⟨snd_val (hf C) (by rw [hx]; rfl) X cls W F s, fun _ => rfl⟩⟩
      · obtain ⟨it, hi, rfl⟩ := Option.map_eq_some_iff.mp h
        exact .inl ⟨it, rfl, fun X cls W F s => snd_I (hf C) hi X cls W F s⟩
  · cases h
theorem ev_comp {F : Nat → List U → Sto → R U} {t : TX} {it : IX} {cd : Option EX} {el : EX} {own : List Nat} : evQ F (.comp t it cd el own) = fun ρ S => (evI F it ρ S).bind fun p S1 => if p.1.length ≤ lim then lockd S1 p.2 fun S2 => compL (stepC own (evT F t) (evC F cd) (evE F el) ρ) p.1 S2 else .stuck := by
  funext ρ S; rw [evQ] <;> rfl
theorem ev_compK {F : Nat → List U → Sto → R U} {t : TX} {i : Nat} {cd : Option EX} {el : EX} {own : List Nat} : evQ F (.compK i t cd el own) = fun ρ S => match getR ρ i with
      | some (.ref n) => match S[n]? with
        | some (.liv (.dct kvs)) => if kvs.length ≤ lim then (compL (stepC own (evT F t) (evC F cd) (evE F el) ρ) (kvs.map fun kv => .int kv.1) (S.set n (.lck (.dct kvs)))).bind fun ys S2 => .ok ys (S2.set n (.liv (.dct kvs))) else .stuck
        | _ => .stuck
      | _ => .stuck := by
  funext ρ S; rw [evQ] <;> rfl
theorem snd_compQ {C : CC} {f : CC → Expr → Option EX} (hf : ∀ C, Snd C (f C)) {elt tg iter : Expr} {ifs : List Expr} {scope : Scope} {pos : Pos} {q : QX} (h : cComp C f elt tg iter ifs scope = some q) :
    ∀ X cls W F, Sit C X cls W F → PE X (.ListComp elt [⟨tg, iter, ifs, 0⟩] scope pos) (tQ X.K cls W (evQ F q)) := by
  intro X cls W F s
  obtain ⟨own, t, cd, el, h1, h2⟩ := snd_comp hf h
  have c := h1 X cls W F s
  have nd : X.N.Nodup := by rw [s.hN]; exact s.nd
  rcases h2 with ⟨it, rfl, h3⟩ | ⟨y, p, i, rfl, hv, hi, rfl⟩
  · obtain ⟨h4, h5⟩ := h3 X cls W F s
    rw [ev_comp]
    exact tq_comp s.calm nd h4 c.ok c.hg c.ht c.he h5
  · rw [ev_compK]
    obtain ⟨_, g1, g2⟩ := posN_of hi
    exact tq_compK (s.pos hi) (s.vis hv) g1 g2 s.calm nd c.ok c.hg c.ht c.he

theorem snd_all : ∀ (n : Nat) (C : CC), Snd C (cE n C)
  | 0, C, e, x, h => by cases h
  | n + 1, C, e, x, h => by
    have ih : Snd C (cE n C) := snd_all n C
    unfold cE at h
    split at h
    · exact snd_plain rfl (snd_const h)
    · exact snd_plain rfl (snd_name h)
    · rename_i es k p
      split at h
      · rename_i hl
        obtain ⟨xs, h1, rfl⟩ := Option.map_eq_some_iff.mp h
        obtain ⟨a1, a2, a3⟩ := snd_L ih h1
        refine snd_plain rfl fun X cls W F t => ?_
        have e : evE F (.tup xs) = fun ρ S => (evEs F xs ρ S).bind fun us S1 => .ok (.tup us) S1 := by funext ρ S; rw [evE] <;> rfl
        rw [e]
        exact te_tup (a3 X cls W F t) hl fun ρ S us S' h => by rw [evEs_len F _ _ _ _ _ h, a2]; exact hl
      · cases h
    · rename_i es p
      split at h
      · rename_i hl
        obtain ⟨xs, h1, rfl⟩ := Option.map_eq_some_iff.mp h
        obtain ⟨a1, a2, a3⟩ := snd_L ih h1
        refine snd_plain rfl fun X cls W F t => snd_mkL ?_
        have e : evQ F (.disp xs) = evEs F xs := by funext ρ S; rw [evQ]
        rw [e]
        exact tq_disp (a3 X cls W F t) fun ρ S us S' h => by rw [evEs_len F _ _ _ _ _ h, a2]; exact hl
      · cases h
    · cases h
      refine snd_plain rfl fun X cls W F t => ?_
      have e : evE F .dnew = fun _ S => .ok (.ref S.length) (S ++ [.liv (.dct [])]) := by funext ρ S; rw [evE]
      rw [e]
      exact te_dnew
    · exact snd_plain rfl (snd_bin ih h)
    · rename_i a p
      obtain ⟨y, h1, rfl⟩ := Option.map_eq_some_iff.mp h
      have e : ∀ F, evE F (.not y) = fun ρ S => (evE F y ρ S).bind fun u S1 => optR S1 ((truU S1 u).map fun k => .bl (!k)) := by intro F; funext ρ S; rw [evE] <;> rfl
      refine ⟨fun X cls W F t => ?_, fun X cls W F t => ?_⟩
      · rw [e]; exact te_not ((ih a y h1).1 X cls W F t)
      · rw [e]; exact tt_not ((ih a y h1).2 X cls W F t)
    · rename_i a p
      obtain ⟨y, h1, rfl⟩ := Option.map_eq_some_iff.mp h
      refine snd_plain rfl fun X cls W F t => ?_
      have e : evE F (.bin .sub (.cst (.int 0)) y) = fun ρ S => (R.ok (.int 0) S).bind fun u S1 => (evE F y ρ S1).bind fun v S2 => optR S2 (binU S2 .sub u v) := by
        rw [ev_bin, ev_cst]
      rw [e]
      exact te_neg ((ih a y h1).1 X cls W F t)
    · obtain ⟨g1, g2⟩ := snd_Bool ih h
      exact ⟨g1, fun X cls W F t => (g2 X cls W F t).pt⟩
    · rename_i c a b p
      split at h
      · rename_i x y z h1 h2 h3
        cases h
        have e : ∀ F, evE F (.ite x y z) = fun ρ S => (evE F x ρ S).bind fun u S1 => match truU S1 u with | some true => evE F y ρ S1 | some false => evE F z ρ S1 | none => .stuck := by intro F; funext ρ S; rw [evE] <;> rfl
        refine ⟨fun X cls W F t => ?_, fun X cls W F t => ?_⟩
        · rw [e]; exact te_ite ((ih c x h1).2 X cls W F t) ((ih a y h2).1 X cls W F t) ((ih b z h3).1 X cls W F t)
        · rw [e]; exact tt_ite ((ih c x h1).2 X cls W F t) ((ih a y h2).2 X cls W F t) ((ih b z h3).2 X cls W F t)
      · cases h
    · exact snd_cmp ih h
    · exact snd_plain rfl (snd_sub ih h)
    · exact snd_plain rfl (snd_call ih h)
    · exact snd_plain rfl (snd_meth ih h)
    · obtain ⟨q, h1, rfl⟩ := Option.map_eq_some_iff.mp h
      exact snd_plain rfl fun X cls W F t => snd_mkL (snd_compQ (fun C => snd_all n C) h1 X cls W F t)
    · cases h
end Ev
set_option Elab.async false
set_option linter.all false
set_option maxRecDepth 100000
set_option maxHeartbeats 4000000
/-! Ev25: statements: from the text to trees. -/
namespace Ev
open PySem PySem.Spec PyProof.Rows L2

def isStar : Expr → Bool
  | .Starred .. => true
  | _ => false
def swLine (ts : List Expr) : Nat := (ts.head?.map (·.pos.line)).getD 0
def swNames (sc : Scope) (ts : List Expr) : List Str := ts.filterMap fun t => match t with
    | .Name id pos => if sc.names.lookup id == some .local && pos.line == swLine ts then some id else none
    | _ => none
theorem sw_eq (ts vs : List Expr) (k k2 : Nat) (p p2 : Pos) (env : Env) (hk : env.scope.kind = .function) : swappedStores [.Tuple ts k p] (.Tuple vs k2 p2) env =
    (if (!(ts.length == 2 || ts.length == 3) || vs.length != ts.length) = true then pure none else if (vs.any isStar) = true then pure none
      else if ((swNames env.scope ts).length != ts.length || (swNames env.scope ts).eraseDups.length != (swNames env.scope ts).length) = true then pure none
      else if vs.all (foldedForSure 8) = true then pure none else if vs.all (constantsAlone 8) = true then (do unsupported "assign.tuple-of-constant-expressions:order-of-the-stores"; pure (some (swNames env.scope ts))) else pure (some (swNames env.scope ts))) := by
  have hb : (env.blockKind != .function) = false := by unfold Env.blockKind; rw [hk]; rfl
  unfold swappedStores
  simp only [hb, Bool.or_false]
  rfl
/-- the names that a, b = x, y stores apart; none: in the ordinary way -/
def swOf (sc : Scope) (tg e : Expr) : Option (Option (List Str)) :=
  match tg, e with
  | .Tuple ts _ _, .Tuple vs _ _ =>
    if (!(ts.length == 2 || ts.length == 3) || vs.length != ts.length) = true then some none else if (vs.any isStar) = true then some none
    else if ((swNames sc ts).length != ts.length || (swNames sc ts).eraseDups.length != (swNames sc ts).length) = true then some none
    else if vs.all (foldedForSure 8) = true then some none else if vs.all (constantsAlone 8) = true then none else some (some (swNames sc ts))
  | .List _ _, .Tuple _ _ _ => none
  | _, _ => some none
theorem sw_of {sc : Scope} {tg e : Expr} {r : Option (List Str)} {env : Env} (h : swOf sc tg e = some r) (hs : env.scope = sc) (hk : sc.kind = .function) : swappedStores [tg] e env = pure r := by
  subst hs
  unfold swOf at h
  split at h
  · rw [sw_eq _ _ _ _ _ _ _ hk]
    split at h
    · rename_i c; cases h; rw [if_pos c]
    · rename_i c
      rw [if_neg c]
      split at h
      · rename_i c; cases h; rw [if_pos c]
      · rename_i c
        rw [if_neg c]
        split at h
        · rename_i c; cases h; rw [if_pos c]
        · rename_i c
          rw [if_neg c]
          split at h
          · rename_i c; cases h; rw [if_pos c]
          · rename_i c
            rw [if_neg c]
            split at h
            · cases h
            · rename_i c; cases h; rw [if_neg c]
  · cases h
  · rename_i n1 n2
    cases h
    cases tg <;> first | rfl | skip
    · cases e <;> first | rfl | exact absurd rfl (n2 _ _ _ _ _ rfl)
    · cases e <;> first | rfl | exact absurd rfl (n1 _ _ _ _ _ _ rfl)

/-- the class of what is raised -/
def cRai (C : CC) : Option Expr → Option Nat
  | some (.Call (.Name x _) [] [] _) => if glB C x = true then C.xs.lookup x else none
  | _ => none
def isCq : QX → Bool
  | .comp .. => true
  | _ => false
def isLoc (C : CC) (x : Str) : Bool := decide (C.sc.names.lookup x = some .local)
/-- no comprehension, or a target that is no name -/
def okSw (tg e : Expr) : Bool := notComp e || (match tg with
  | .Tuple .. => true
  | .Subscript .. => true
  | _ => false)
def cAsg (C : CC) (tg e : Expr) : Option SX :=
  match tg, e with
  | .Name y py, .ListComp elt [⟨t, iter, ifs, 0⟩] scope pos =>
    if isLoc C y = true ∧ (py.line == pos.line) = true ∧ (scope.names.any fun (n, k) => n == y && (k == .local || k == .cell)) = false then
      match posN C y, cComp C (cE 40) elt t iter ifs scope with
      | some i, some q => if isCq q = true then some (.set (.nm i) (mkL C pos q)) else none
      | _, _ => none
    else none
  | .Tuple [.Name x px, .Name y py] kt pt, .Tuple [a, b] k2 pt2 =>
    match swOf C.sc tg e with
    | some (some ns) => if isLoc C x = true ∧ isLoc C y = true ∧ ns = [x, y] then match posN C x, posN C y, cL (cE 40 C) [a, b] with
      | some i, some j, some xs => if i ≠ j then some (.par [i, j] xs) else none
      | _, _, _ => none
      else none
    | some none => match cT C (cE 40 C) (fun _ => true) 20 tg, cE 40 C e with
      | some t, some x => some (.set t x)
      | _, _ => none
    | none => none
  | .Tuple [.Name x px, .Name y py, .Name z pz] kt pt, .Tuple [a, b, c] k2 pt2 =>
    match swOf C.sc tg e with
    | some (some ns) => if isLoc C x = true ∧ isLoc C y = true ∧ isLoc C z = true ∧ ns = [x, y, z] then match posN C x, posN C y, posN C z, cL (cE 40 C) [a, b, c] with
      | some i, some j, some l, some xs => if i ≠ j ∧ i ≠ l ∧ j ≠ l then some (.par [i, j, l] xs) else none
      | _, _, _, _ => none
      else none
    | some none => match cT C (cE 40 C) (fun _ => true) 20 tg, cE 40 C e with
      | some t, some x => some (.set t x)
      | _, _ => none
    | none => none
  | tg, e => if okSw tg e = true ∧ plainX tg = true then match swOf C.sc tg e with
    | some none => match cT C (cE 40 C) (fun _ => true) 20 tg, cE 40 C e with
      | some t, some x => some (.set t x)
      | _, _ => none
    | _ => none
    else none

/-- isinstance(n, ValueError), n the name of an except clause -/
def cIsn (C : CC) (nm : Str) : Expr → Bool
  | .Call (.Name f _) [.Name n' _, .Name T _] [] _ => (f == ("isinstance" : Str)) && glB C f && (n' == nm) && (T == ("ValueError" : Str)) && glB C T
  | _ => false
/-- an except suite of one statement -/
def cH (C : CC) (nm : Str) : Stmt → Option SX
  | .Assign [.Name x _] (.IfExp c (.Constant .none _ _) _ _) _ => if cIsn C nm c = true ∧ locB C x = true then (posN C x).map fun j => .set (.nm j) (.cst .non) else none
  | .Assign [.Name x _] (.Call f as ks p) _ => if cIsn C nm (.Call f as ks p) = true ∧ locB C x = true then (posN C x).map fun j => .set (.nm j) (.cst (.bl true)) else none
  | .Return (some (.IfExp c (.Constant .none _ _) _ _)) _ => if cIsn C nm c = true then some (.ret (.cst .non)) else none
  | .Expr (.Call (.Attribute (.Name x _) m ap) [c] [] cp) _ => if cIsn C nm c = true ∧ visB C x = true ∧ (m == ("append" : Str)) = true ∧ (ap.endLine == cp.line) = true then (posN C x).map fun j => .ex (.mth .append (.var j) [.cst (.bl true)]) else none
  | _ => none
mutual
def cS : Nat → CC → Stmt → Option SX
  | 0, _, _ => none
  | n + 1, C, st => match st with
    | .Expr (.Constant (.str _) _ _) _ => some .pass
    | .Expr e _ => if notComp e = true then (cE 40 C e).map .ex else none
    | .Assign [tg] e _ => cAsg C tg e
    | .Return (some e) _ => (cE 40 C e).map .ret
    | .Return none _ => some .retN
    | .If c a b _ => match cE 40 C c, cSs n C a, cSs n C b with
      | some x, some y, some z => some (.ife x y z)
      | _, _, _ => none
    | .For tg it b [] _ => match cT C (cE 40 C) (fun _ => true) 20 tg, cI C (cE 40 C) tg it, cSs n C b with
      | some x, some y, some z => some (.fo x y z)
      | _, _, _ => none
    | .While c b [] _ => match cE 40 C c, cSs n C b with
      | some x, some y => some (.wh x y)
      | _, _ => none
    | .Break _ => some .brk
    | .Continue _ => some .cnt
    | .Pass _ => some .pass
    | .Raise e none _ => some (match cRai C e with
      | some c => .rai c
      | none => .no)
    | .Try body [.ExceptHandler (some (.Name x _)) (some nm) [h] _] [] [] _ => match cSs n C body, C.xs.lookup x, posN C nm, cH C nm h with
      | some b, some c, some i, some hx => if glB C x = true ∧ isLoc C nm = true then some (.tryx b C.xs.length c i [hx]) else none
      | _, _, _, _ => none
    | _ => none
def cSs : Nat → CC → List Stmt → Option (List SX)
  | 0, _, _ => none
  | _ + 1, _, [] => some []
  | n + 1, C, s :: ss => match cS n C s, cSs n C ss with
    | some x, some xs => some (x :: xs)
    | _, _ => none
end

structure SitS (C : CC) (X : Cx) (cls : Nat → Value) (W : WX) (F : Nat → List U → Sto → R U) : Prop where
  s : Sit C X cls W F
  own : PassesOwn (model X.prog X.w) X.A X.env X.xe
  kind : C.sc.kind = .function
  stk : X.stack = X.env :: X.outer
  frm : X.env.frame = some X.env.locals
  dep : X.A.depth + 1 < recursionLimit
  xcl : ∀ x c, C.xs.lookup x = some c → c < C.xs.length ∧ ∃ D, cls c = .ref D ∧ X.mg x = some (.ref D) ∧ SupC X.prog X.K D ∧ ExcC X.K D ∧ PySem.W.kitOne X.K (.ref D) (.type "ValueError") = some true ∧
    ∀ c', c' < C.xs.length → PySem.W.exmOne X.K (cls c') (.ref D) = some (decide (c' = c))
theorem SitS.tr {C : CC} {X : Cx} {cls : Nat → Value} {W W' : WX} {F : Nat → List U → Sto → R U} (t : SitS C X cls W F) {pn : List (Addr × Obj)} {xe : Value → Shared → Prop} (tk : Takes (X.tr pn xe) W') (po : PassesOwn (model X.prog X.w) X.A X.env xe) : SitS C (X.tr pn xe) cls W' F where
  s := { hN := t.s.hN, nd := t.s.nd, sc := t.s.sc, calm := t.s.calm, fn := t.s.fn, tk := tk, hu := t.s.hu, blt := t.s.blt, gvs := t.s.gvs, defs := fun x i ps h => let ⟨⟨k, f, fd, h1⟩, h2⟩ := t.s.defs x i ps h; ⟨⟨k, f, fd, h1⟩, h2⟩ }
  own := po
  kind := t.kind
  stk := t.stk
  frm := t.frm
  dep := t.dep
  xcl := t.xcl
theorem snd_isn {C : CC} {nm : Str} {c : Expr} (h : cIsn C nm c = true) {X : Cx} {cls : Nat → Value} {W : WX} {F : Nat → List U → Sto → R U} (t : SitS C X cls W F) {i : Nat} (hi : posN C nm = some i) (hl : isLoc C nm = true) {D a : Addr} {oe : Obj} {pn : List (Addr × Obj)}
    (E : ExcC X.K D) (hz : Zc (.ref D) none oe) (hf : ∃ vs, oe.data = .fields vs) (hk : PySem.W.kitOne X.K (.ref D) (.type "ValueError") = some true) :
    PE (X.suite a ((a, oe) :: pn)) c (fun σ H Q => σ[i]? = some (some (.ref a)) ∧ Q (.bl true) H) ∧ plainT c = true ∧ plainX c = true ∧ notComp c = true := by
  unfold cIsn at h
  split at h
  · rename_i f p1 n' p2 T p3 p4
    simp only [Bool.and_eq_true] at h
    obtain ⟨⟨⟨⟨h1, h2⟩, h3⟩, h4⟩, h5⟩ := h
    have e1 := str_eq h1
    have e3 := str_eq h3
    have e4 := str_eq h4
    subst e1 e3 e4
    obtain ⟨g1, g2, g3⟩ := t.s.gl h2
    obtain ⟨k1, k2, k3⟩ := t.s.gl h5
    obtain ⟨_, q1, q2⟩ := posN_of hi
    have hv : Vis X.env.scope n' := by
      unfold isLoc at hl
      exact .inl (by rw [t.s.sc]; simpa using hl)
    exact ⟨pe_isi E hz hf (t.s.pos hi) hv q1 q2 g1 (t.s.blt _ (by decide)) k1 (t.s.blt _ (by decide)) PyProof.Rows.Boot.«ValueError» k3 k2 hk, rfl, rfl, rfl⟩
  · cases h
theorem noComp_sw {e : Expr} (h : notComp e = true) (tg : Option Expr) (l : Nat) (env : Env) : swapsWith e tg l env = pure false := by
  cases e <;> first | rfl | cases h
def SndS (C : CC) (st : Stmt) (sx : SX) : Prop := ∀ X cls W F w, SitS C X cls W F → PS X st (tS X.K cls W (evS F w sx))
theorem snd_H {C : CC} {nm : Str} {st : Stmt} {sx : SX} (h : cH C nm st = some sx) {X : Cx} {cls : Nat → Value} {W : WX} {F : Nat → List U → Sto → R U} {w : Nat} (t : SitS C X cls W F) {i : Nat} (hi : posN C nm = some i) (hl : isLoc C nm = true) {D a : Addr} {oe : Obj} {pn : List (Addr × Obj)}
    (E : ExcC X.K D) (hz : Zc (.ref D) none oe) (hf : ∃ vs, oe.data = .fields vs) (hk : PySem.W.kitOne X.K (.ref D) (.type "ValueError") = some true) :
    PSs (X.suite a ((a, oe) :: pn)) [st] (tPs a i (tS X.K cls WF (evSs F w [sx]))) := by
  have nd : X.N.Nodup := by rw [t.s.hN]; exact t.s.nd
  unfold cH at h
  split at h
  · rename_i x px c k p3 b p4 p5
    split at h
    · rename_i hc
      obtain ⟨j, hj, rfl⟩ := Option.map_eq_some_iff.mp h
      obtain ⟨e1, e2, e3, e4⟩ := snd_isn (W := W) (F := F) hc.1 t hi hl E hz hf hk (a := a) (pn := pn)
      obtain ⟨l1, l2⟩ := t.s.loc hc.2
      exact pss_h (X := X.suite a ((a, oe) :: pn)) (ps_h2 (X := X.suite a ((a, oe) :: pn)) (pe_h2 e1 fun whole => plain_test e2 X.env whole) nd (t.s.pos hj) l1 l2 rfl rfl)
    · cases h
  · rename_i x px f as ks p p5
    split at h
    · rename_i hc
      obtain ⟨j, hj, rfl⟩ := Option.map_eq_some_iff.mp h
      obtain ⟨e1, e2, e3, e4⟩ := snd_isn (W := W) (F := F) hc.1 t hi hl E hz hf hk (a := a) (pn := pn)
      obtain ⟨l1, l2⟩ := t.s.loc hc.2
      exact pss_h (X := X.suite a ((a, oe) :: pn)) (ps_h1 (X := X.suite a ((a, oe) :: pn)) e1 nd (t.s.pos hj) l1 l2 rfl rfl)
    · cases h
  · rename_i c k p3 b p4 p5
    split at h
    · rename_i hc
      cases h
      obtain ⟨e1, e2, e3, e4⟩ := snd_isn (W := W) (F := F) hc t hi hl E hz hf hk (a := a) (pn := pn)
      exact pss_h (X := X.suite a ((a, oe) :: pn)) (ps_h3 (X := X.suite a ((a, oe) :: pn)) (pe_h2 e1 fun whole => plain_test e2 X.env whole))
    · cases h
  · rename_i x px m ap c cp p5
    split at h
    · rename_i hc
      obtain ⟨h1, h2, h3, h4⟩ := hc
      have := str_eq h3
      subst this
      obtain ⟨j, hj, rfl⟩ := Option.map_eq_some_iff.mp h
      obtain ⟨e1, e2, e3, e4⟩ := snd_isn (W := W) (F := F) h1 t hi hl E hz hf hk (a := a) (pn := pn)
      obtain ⟨_, q1, q2⟩ := posN_of hj
      exact pss_h (X := X.suite a ((a, oe) :: pn)) (ps_h4 (X := X.suite a ((a, oe) :: pn)) e1 (t.s.pos hj) (t.s.vis h2) q1 q2 (star_of e3 [] X.env) h4 rfl)
    · cases h
  · cases h
theorem each1 {tg : Expr} (h : plainX tg = true) (env : Env) : (assignEach [tg] env).map (·.2) = [assign tg env] := by
  cases tg <;> first | rfl | cases h
theorem ev_set {F : Nat → List U → Sto → R U} {w : Nat} {t : TX} {x : EX} : evS F w (.set t x) = fun ρ S => (evE F x ρ S).toS ρ fun u S1 => match evT F t u ρ S1 with
    | some (ρ1, S2) => .ok (.nx ρ1) S2
    | none => .stuck := by funext ρ S; rw [evS] <;> rfl
theorem ev_par {F : Nat → List U → Sto → R U} {w : Nat} {is : List Nat} {xs : List EX} : evS F w (.par is xs) = fun ρ S => (evEs F xs ρ S).toS ρ fun us S1 => if is.length = us.length ∧ is.all (· < ρ.length) = true then .ok (.nx (setAll is us ρ)) S1 else .stuck := by funext ρ S; rw [evS] <;> rfl
theorem okSw_sw {tg e : Expr} (h : okSw tg e = true) (l : Nat) (env : Env) : swapsWith e (some tg) l env = pure false := by
  unfold okSw at h
  rw [Bool.or_eq_true] at h
  rcases h with h | h
  · exact noComp_sw h _ _ _
  · cases tg <;> first | (cases h; done) | (cases e <;> rfl)
theorem snd_set {C : CC} {tg e : Expr} {p : Pos} {t : TX} {x : EX} (hn : okSw tg e = true) (hp : plainX tg = true) (hsw : swOf C.sc tg e = some none) (h1 : cT C (cE 40 C) (fun _ => true) 20 tg = some t) (h2 : cE 40 C e = some x) : SndS C (.Assign [tg] e p) (.set t x) := by
  intro X cls W F w s
  rw [ev_set]
  exact ts_asg ((snd_all 40 C e x h2).1 X cls W F s.s) (snd_T (snd_all 40 C) 20 h1 X cls W F s.s wAll fun _ _ => trivial) (okSw_sw hn _ _) (sw_of hsw s.s.sc s.kind) (each1 hp _)
theorem isLoc_of {C : CC} {X : Cx} {cls : Nat → Value} {W : WX} {F : Nat → List U → Sto → R U} (s : Sit C X cls W F) {x : Str} (h : isLoc C x = true) : X.env.scope.names.lookup x = some .local := by
  unfold isLoc at h
  rw [s.sc]
  simpa using h
theorem snd_asg {C : CC} {tg e : Expr} {p : Pos} {sx : SX} (h : cAsg C tg e = some sx) : SndS C (.Assign [tg] e p) sx := by
  unfold cAsg at h
  split at h
  · rename_i y py elt t iter ifs scope pos
    split at h
    · rename_i hc
      obtain ⟨hl, hline, hown⟩ := hc
      split at h
      · rename_i i q hi hq
        split at h
        case isFalse => cases h
        case isTrue hcq =>
        cases h
        intro X cls W F w s
        obtain ⟨own, t', cd, el, g1, g2⟩ := snd_comp (fun C => snd_all 40 C) hq
        have c := g1 X cls W F s.s
        have nd : X.N.Nodup := by rw [s.s.hN]; exact s.s.nd
        have hy := s.s.pos hi
        have hyl := isLoc_of s.s hl
        have hsw : swapsWith (.ListComp elt [⟨t, iter, ifs, 0⟩] scope pos) (some (.Name y py)) p.line X.env = pure true := sw_true (by rw [s.s.sc]; exact s.kind) hyl hline hown
        rw [ev_set]
        have et : evT F (.nm i) = fun u ρ S => if i < ρ.length then some (ρ.set i (some u), S) else none := by funext u ρ S; rw [evT] <;> rfl
        rw [et]
        rcases g2 with ⟨it, rfl, h3⟩ | ⟨y2, p2, i2, rfl, hv, hi2, rfl⟩
        · obtain ⟨h4, h5⟩ := h3 X cls W F s.s
          unfold mkL
          split
          · rw [ev_qn, ev_comp]
            exact ts_setLc (mk := fun us S1 => .ok (.ref S1.length) (S1 ++ [.liv (.lst us)])) (fun h => mk_qn h) s.s.calm nd hy hyl hsw h4 c.ok c.hg c.ht c.he h5
          · rw [ev_qv, ev_comp]
            exact ts_setLc (mk := fun us S1 => .ok (.lst us) S1) (fun h => mk_qv h) s.s.calm nd hy hyl hsw h4 c.ok c.hg c.ht c.he h5
        · cases hcq
      · cases h
    · cases h
  · rename_i x px y py kt pt a b k2 pt2
    split at h
    · rename_i ns hns
      split at h
      · rename_i hc
        obtain ⟨hx, hy, rfl⟩ := hc
        split at h
        · rename_i i j xs hi hj hxs
          split at h
          · rename_i hij
            cases h
            intro X cls W F w s
            obtain ⟨a1, a2, a3⟩ := snd_L (snd_all 40 C) hxs
            rw [ev_par]
            exact ts_par s.s.calm (by rw [s.s.hN]; exact s.s.nd) (s.s.pos hi) (s.s.pos hj) hij (isLoc_of s.s hx) (isLoc_of s.s hy) (a3 X cls W F s.s) (sw_of hns s.s.sc s.kind)
          · cases h
        · cases h
      · cases h
    · rename_i hns
      split at h
      · rename_i t x h1 h2
        cases h
        exact snd_set rfl rfl hns h1 h2
      · cases h
    · cases h
  · rename_i x px y py z pz kt pt a b c k2 pt2
    split at h
    · rename_i ns hns
      split at h
      · rename_i hc
        obtain ⟨hx, hy, hz, rfl⟩ := hc
        split at h
        · rename_i i j l xs hi hj hl hxs
          split at h
          · rename_i hij
            cases h
            intro X cls W F w s
            obtain ⟨a1, a2, a3⟩ := snd_L (snd_all 40 C) hxs
            rw [ev_par]
            exact ts_par3 s.s.calm (by rw [s.s.hN]; exact s.s.nd) (s.s.pos hi) (s.s.pos hj) (s.s.pos hl) hij.1 hij.2.1 hij.2.2 (isLoc_of s.s hx) (isLoc_of s.s hy) (isLoc_of s.s hz) (a3 X cls W F s.s) (sw_of hns s.s.sc s.kind)
          · cases h
        · cases h
      · cases h
    · rename_i hns
      split at h
      · rename_i t x h1 h2
        cases h
        exact snd_set rfl rfl hns h1 h2
      · cases h
    · cases h
  · split at h
    · rename_i hc
      split at h
      · rename_i hns
        split at h
        · rename_i t x h1 h2
          cases h
          exact snd_set hc.1 hc.2 hns h1 h2
        · cases h
      · cases h
    · cases h

theorem ev_nil {F : Nat → List U → Sto → R U} {w : Nat} : evSs F w [] = fun ρ S => .ok (.nx ρ) S := by funext ρ S; rw [evSs]
theorem ev_cons {F : Nat → List U → Sto → R U} {w : Nat} {s : SX} {ss : List SX} : evSs F w (s :: ss) = fun ρ S => match evS F w s ρ S with | .ok (.nx ρ1) S1 => evSs F w ss ρ1 S1 | r => r := by funext ρ S; rw [evSs] <;> rfl
theorem ev_ife {F : Nat → List U → Sto → R U} {w : Nat} {c : EX} {a b : List SX} : evS F w (.ife c a b) = fun ρ S => (evE F c ρ S).toS ρ fun u S1 => match truU S1 u with | some true => evSs F w a ρ S1 | some false => evSs F w b ρ S1 | none => .stuck := by funext ρ S; rw [evS] <;> rfl
theorem ev_fo {F : Nat → List U → Sto → R U} {w : Nat} {t : TX} {it : IX} {b : List SX} : evS F w (.fo t it b) = fun ρ S => (evI F it ρ S).toS ρ fun p S1 => lockdS S1 p.2 fun S2 => forL (stepF (evT F t) (evSs F w b)) p.1 ρ S2 := by funext ρ S; rw [evS] <;> rfl
theorem ev_wh {F : Nat → List U → Sto → R U} {w : Nat} {c : EX} {b : List SX} : evS F w (.wh c b) = fun ρ S => whL (evE F c) (evSs F w b) w ρ S := by funext ρ S; rw [evS] <;> rfl
theorem cI_fold {C : CC} {f : Expr → Option EX} {tg e : Expr} {it : IX} (h : cI C f tg e = some it) (env : Env) (x : Value) : foldedSetIterable e env x = pure x := by
  cases e <;> first | rfl | cases h
mutual
theorem snd_S : ∀ (n : Nat) {C : CC} {st : Stmt} {sx : SX}, cS n C st = some sx → SndS C st sx
  | 0, _, _, _, h => by simp [cS] at h
  | n + 1, C, st, sx, h => by
    unfold cS at h
    intro X cls W F w s
    split at h
    · cases h
      have e : evS F w .pass = fun ρ S => .ok (.nx ρ) S := by funext ρ S; rw [evS]
      rw [e]; exact ts_doc
    · rename_i e p _
      split at h
      · rename_i hn
        obtain ⟨x, h1, rfl⟩ := Option.map_eq_some_iff.mp h
        have e' : evS F w (.ex x) = fun ρ S => (evE F x ρ S).toS ρ fun _ S1 => .ok (.nx ρ) S1 := by funext ρ S; rw [evS] <;> rfl
        rw [e']
        exact ts_expr ((snd_all 40 C e x h1).1 X cls W F s.s) (noComp_sw hn _ _ _)
      · cases h
    · exact snd_asg h X cls W F w s
    · rename_i e p
      obtain ⟨x, h1, rfl⟩ := Option.map_eq_some_iff.mp h
      have e' : evS F w (.ret x) = fun ρ S => (evE F x ρ S).toS ρ fun u S1 => .ok (.rt u) S1 := by funext ρ S; rw [evS] <;> rfl
      rw [e']
      exact ts_ret ((snd_all 40 C e x h1).1 X cls W F s.s)
    · cases h
      have e' : evS F w .retN = fun ρ S => .ok (.rt .non) S := by funext ρ S; rw [evS]
      rw [e']; exact ts_retN
    · rename_i c a b p
      split at h
      · rename_i x y z h1 h2 h3
        cases h
        rw [ev_ife]
        exact ts_if ((snd_all 40 C c x h1).2 X cls W F s.s) (snd_Ss n h2 X cls W F w s) (snd_Ss n h3 X cls W F w s)
      · cases h
    · rename_i tg it b p
      split at h
      · rename_i x y z h1 h2 h3
        cases h
        rw [ev_fo]
        exact ts_for s.own s.s.calm (snd_I (snd_all 40 C) h2 X cls W F s.s).1 (snd_T (snd_all 40 C) 20 h1 X cls W F s.s wAll fun _ _ => trivial) (snd_Ss n h3 X cls W F w s) (cI_fold h2 _)
      · cases h
    · rename_i c b p
      split at h
      · rename_i x y h1 h2
        cases h
        rw [ev_wh]
        exact ts_while s.own ((snd_all 40 C c x h1).2 X cls W F s.s) (snd_Ss n h2 X cls W F w s)
      · cases h
    · cases h
      have e' : evS F w .brk = fun ρ S => .ok (.bk ρ) S := by funext ρ S; rw [evS]
      rw [e']; exact ts_brk
    · cases h
      have e' : evS F w .cnt = fun ρ S => .ok (.ct ρ) S := by funext ρ S; rw [evS]
      rw [e']; exact ts_ct
    · cases h
      have e' : evS F w .pass = fun ρ S => .ok (.nx ρ) S := by funext ρ S; rw [evS]
      rw [e']; exact ts_pass
    · rename_i e p
      cases h
      split
      · rename_i c h1
        have e' : evS F w (.rai c) = fun ρ S => .ok (.ex c ρ) S := by funext ρ S; rw [evS]
        rw [e']
        unfold cRai at h1
        split at h1
        · rename_i x px pc
          split at h1
          · rename_i hg
            obtain ⟨g1, g2, g3⟩ := s.s.gl hg
            obtain ⟨_, D, d1, d2, d3, _⟩ := s.xcl _ _ h1
            exact (ps_sup d3 s.s.calm s.s.tk g1 d2 (s.s.blt _ (by decide)) s.dep g2).imp fun D' σ H ⟨fm, S, ρ, so, eo, q⟩ => by
              have := q fm H .refl so σ eo
              rw [d1] at this
              exact this
          · cases h1
        · cases h1
      · exact ts_never fun ρ S => by rw [evS]
    · rename_i body x np nm hh pos' pos
      split at h
      · rename_i b c i hx h1 h2 h3 h4
        split at h
        · rename_i hc
          cases h
          obtain ⟨g1, g2, g3⟩ := s.s.gl hc.1
          obtain ⟨hcm, D, d1, d2, d3, d4, d5, d6⟩ := s.xcl _ _ h2
          have e' : evS F w (.tryx b C.xs.length c i [hx]) = tryR C.xs.length c i (evSs F w b) (evSs F w [hx]) := by funext ρ S; rw [evS] <;> rfl
          rw [e']
          have nd : X.N.Nodup := by rw [s.s.hN]; exact s.s.nd
          exact ts_try s.stk s.frm nd (s.s.pos h3) (isLoc_of s.s hc.2) ⟨g1, g2, .inl d2⟩ s.s.tk (fun W' pn xe tk po => snd_Ss n h1 (X.tr pn xe) cls W' F w (s.tr tk po)) d1 hcm d6 fun a oe pn hz hf => snd_H h4 s h3 hc.2 d4 hz hf d5
        · cases h
      · cases h
    · cases h
theorem snd_Ss : ∀ (n : Nat) {C : CC} {st : List Stmt} {sx : List SX}, cSs n C st = some sx → ∀ X cls W F w, SitS C X cls W F → PSs X st (tS X.K cls W (evSs F w sx))
  | 0, _, _, _, h => by simp [cSs] at h
  | n + 1, C, [], sx, h => by
    simp only [cSs] at h
    cases h
    intro X cls W F w s
    rw [ev_nil]; exact tss_nil
  | n + 1, C, st :: sts, sx, h => by
    simp only [cSs] at h
    split at h
    · rename_i x xs h1 h2
      cases h
      intro X cls W F w s
      rw [ev_cons]
      exact tss_cons (snd_S n h1 X cls W F w s) (snd_Ss n h2 X cls W F w s)
    · cases h
end
end Ev
set_option Elab.async false
set_option linter.all false
set_option maxRecDepth 100000
set_option maxHeartbeats 4000000
/-! Ev26: a table of defs, each keeping what its tree yields; the law's end. -/
namespace Ev
open PySem PySem.Spec PyProof.Rows L2

/-- a def of the table -/
structure DR where
  x : Str
  st : Stmt
  ps : List Str
  N : List Str
  nw : List (Nat × Nat)
  fz : List (Nat × Nat)
  dk : List (Nat × Nat)
def tabG (T : List DR) : List (Str × Nat × List Str) := T.zipIdx.map fun p => (p.1.x, p.2, p.1.ps)
def ccOf (T : List DR) (gv : List (Str × U)) (xs : List (Str × Nat)) (r : DR) : CC := ⟨r.N, defScope r.st, fun _ => true, tabG T, gv, r.nw, r.fz, r.dk, xs⟩
structure RowOk (T : List DR) (gv : List (Str × U)) (xs : List (Str × Nat)) (r : DR) (fd : Fd) : Prop where
  np : fd.np = r.ps.length
  nn : fd.nn = r.N.length
  body : cSs 60 (ccOf T gv xs r) (defBody r.st) = some fd.body
  sc : FnScope r.N r.ps (defScope r.st)
structure TblOk (T : List DR) (gv : List (Str × U)) (xs : List (Str × Nat)) (D : List Fd) : Prop where
  row : ∀ (i : Nat) (r : DR), T[i]? = some r → ∃ fd, D[i]? = some fd ∧ RowOk T gv xs r fd
theorem tabG_of {T : List DR} {x : Str} {i : Nat} {ps : List Str} (h : (tabG T).lookup x = some (i, ps)) : ∃ r, T[i]? = some r ∧ r.x = x ∧ r.ps = ps := by
  have hm := PySem.mem_of_lookup h
  obtain ⟨p, hp, e⟩ := List.mem_map.mp hm
  obtain ⟨r, j⟩ := p
  cases e
  have := List.mem_zipIdx_iff_getElem?.mp hp
  exact ⟨r, by simpa using this, rfl, rfl⟩
theorem start_env {K : PySem.W.Frag} {fm : List Addr} {S : Sto} {H : Hp} {N : List Str} {us : List U} {vs : List V} (r : Rps K fm S H us vs) : EnvOk K fm S H (us.map some ++ List.replicate (N.length - us.length) none) (L2.start N vs) := by
  have hl := r.length
  refine ⟨by unfold L2.start; simp [hl], fun i u e => ?_⟩
  unfold L2.start
  by_cases hi : i < us.length
  · rw [List.getElem?_append_left (by simpa using hi), List.getElem?_map] at e
    cases q : us[i]? with
    | none => rw [q] at e; cases e
    | some u' =>
      rw [q] at e
      cases e
      obtain ⟨v, h1, h2⟩ := r.get q
      exact ⟨v, by rw [List.getElem?_append_left (by simpa [← hl] using hi), List.getElem?_map, h1]; rfl, h2⟩
  · rw [List.getElem?_append_right (by simpa using hi), List.getElem?_replicate] at e
    split at e <;> cases e

section
variable {P : Program} {w : World} {K : PySem.W.Frag} {mg : Str → Option Value} {base : Heap} {T : List DR} {gv : List (Str × U)} {D : List Fd} {cls : Nat → Value} {wf : Nat} {xs : List (Str × Nat)}
/-- the module as the law finds it -/
structure ModOk (P : Program) (K : PySem.W.Frag) (mg : Str → Option Value) (T : List DR) (gv : List (Str × U)) (xs : List (Str × Nat)) (cls : Nat → Value) : Prop where
  xcl : ∀ x c, xs.lookup x = some c → c < xs.length ∧ ∃ D, cls c = .ref D ∧ mg x = some (.ref D) ∧ SupC P K D ∧ ExcC K D ∧ PySem.W.kitOne K (.ref D) (.type "ValueError") = some true ∧
    ∀ c', c' < xs.length → PySem.W.exmOne K (cls c') (.ref D) = some (decide (c' = c))
  funs : ∀ r ∈ T, ∃ f fd, Fun K r.x r.x r.st f fd ∧ BindK fd r.ps ∧ mg r.x = some (.ref f)
  blt : ∀ x ∈ blts, mg x = none
  gvs : ∀ x u, gv.lookup x = some u → ∃ w v, mg x = some w ∧ RelV v w ∧ ∀ fm S H, Rp K fm S H u v
theorem run_few {D : List Fd} {wf d i : Nat} {fd : Fd} (h : D[i]? = some fd) (us : List U) (S : Sto) (hl : us.length ≠ fd.np) : run D wf d i us S = .stuck := by
  cases d with
  | zero => rfl
  | succ d =>
    unfold run
    rw [h]
    dsimp only
    rw [if_neg hl]
theorem def_ok (hT : TblOk T gv xs D) (hM : ModOk P K mg T gv xs cls) : ∀ (d i : Nat) (r : DR), T[i]? = some r → ∀ f fd, Fun K r.x r.x r.st f fd → FnOk P w K mg base (L2.CX P w) d f fd r.ps (spF K cls r.ps.length (run D wf d i))
  | 0, i, r, hr, f, fd, F => ⟨fun vs H Q E h => h.1, fun A outer s H args us vs Q E _ _ _ _ h => by
      obtain ⟨_, _, _, _, _, _, z⟩ := h
      exact z.elim⟩
  | d + 1, i, r, hr, f, fd, F => by
    obtain ⟨D0, hD, ro⟩ := hT.row i r hr
    refine F.okX ro.sc (fun vs H Q E h => h.1) fun cdv A outer s H vs Q E hroom h => ?_
    obtain ⟨hl, fm, S, us, so, rv, q⟩ := h
    have sit : SitS (ccOf T gv xs r) (cxOf (L2.CX P w) P w K mg base r.N r.x (defScope r.st) f cdv A outer s H E) cls (fun c d _ H => E c d H) (run D wf d) := by
      refine ⟨⟨rfl, ro.sc.nd, rfl, rfl, fun _ _ => rfl, takes_of rfl rfl rfl rfl, ?_, hM.blt, fun x j ps hx => ?_, hM.gvs⟩, passes_of rfl, ro.sc.kind, rfl, rfl, ?_, hM.xcl⟩
      · have := hroom.un
        show (A.deeper _).units + 72 < cLine
        omega
      · obtain ⟨r', h1, rfl, rfl⟩ := tabG_of hx
        obtain ⟨D1, hD1, ro1⟩ := hT.row j r' h1
        obtain ⟨f', fd', F', b', m'⟩ := hM.funs r' (List.mem_of_getElem? h1)
        exact ⟨⟨d, f', fd', def_ok hT hM d j r' h1 f' fd' F', hroom, m', F'.kp, b'⟩, fun us S hl => run_few hD1 us S (by rw [ro1.np]; exact hl)⟩
      · have := hroom.dp
        show (A.deeper _).depth + 1 < recursionLimit
        omega
    refine ⟨_, snd_Ss 60 ro.body _ cls _ _ wf sit, fm, S, us.map some ++ List.replicate (D0.nn - us.length) none, so, ?_, ?_⟩
    · rw [ro.nn]; exact start_env rv
    · unfold run at q
      rw [hD] at q
      dsimp only at q
      have hul : us.length = D0.np := by rw [rv.length, hl, ro.np]
      rw [if_pos hul] at q
      rw [hul]
      revert q
      cases evSs (run D wf d) wf D0.body (us.map some ++ List.replicate (D0.nn - D0.np) none) S with
      | stuck => exact fun q => q
      | ok o S1 =>
        cases o with
        | nx ρ1 => exact fun q fm' H' st so' σ eo => q fm' H' st so' .non .non
        | rt u => exact fun q fm' H' st so' v r => q fm' H' st so' v r
        | bk ρ1 => exact fun q => q.elim
        | ct ρ1 => exact fun q => q.elim
        | ex c ρ1 => exact fun q fm' H' st so' σ eo => q fm' H' st so'
/-- what the law promises -/
def spL (K : PySem.W.Frag) : Sp := fun vs H Q E => ∃ (a : Addr) (ns : List Int), vs = [.ref a] ∧ SqL K H a (ns.map V.int) ∧ ns.length ≤ 63 ∧ Only H ∧ ∀ H', Q (.bl true) H'
/-- the law's promise, from what its tree yields -/
theorem law_ok (hT : TblOk T gv xs D) (hM : ModOk P K mg T gv xs cls) {d i : Nat} {r : DR} (hr : T[i]? = some r) (h1 : r.ps.length = 1) {f : Addr} {fd : FuncData} (F : Fun K r.x r.x r.st f fd)
    (hlaw : ∀ (ns : List Int) (u : U) (S : Sto), ns.length ≤ 63 → rd S u = .fz (ns.map U.int) → ∃ S', run D wf d i [u] S = .ok (.bl true) S') :
    FnOk P w K mg base (L2.CX P w) d f fd r.ps (spL K) := by
  refine (def_ok (cls := cls) (wf := wf) hT hM d i r hr f fd F).imp fun vs H Q E ⟨a, ns, e1, hS, hl, ho, q⟩ => ?_
  subst e1
  refine ⟨by rw [h1]; rfl, ?_⟩
  have inH : ∀ z : HO, H a = some z → FzL K H a (ns.map V.int) → ∃ fm S us, StOk K fm S H ∧ Rps K fm S H us [V.ref a] ∧ Aft K cls (fun c d _ H => E c d H) [] fm S H (run D wf d i us S) fun u fm' S' H' => ∀ v, Rp K fm' S' H' u v → Q v H' := by
    intro z hH fz
    obtain ⟨S', hrun⟩ := hlaw ns (.ref 0) [.frz (ns.map U.int)] hl rfl
    refine ⟨[a], [.frz (ns.map U.int)], [.ref 0], ⟨rfl, fun n m b e1 e2 => ?_, fun n b e => ?_, fun n b c e1 e2 => ?_⟩, .cons (.ref rfl) .nil, ?_⟩
    · have : n = 0 := by
        cases n with
        | zero => rfl
        | succ n => simp at e1
      have : m = 0 := by
        cases m with
        | zero => rfl
        | succ n => simp at e2
      omega
    · cases n with
      | zero => simp at e; subst e; rw [hH]; simp
      | succ n => simp at e
    · cases n with
      | zero =>
        simp at e1 e2
        subst e1 e2
        exact ⟨_, fz, Rps.of_ints ns⟩
      | succ n => simp at e1
    · rw [hrun]
      intro fm' H' st so v rv
      cases rv
      exact q H'
  rcases hS with (h | ⟨o, h⟩) | h
  · rcases ho a with h' | ⟨o, xs, h'⟩
    · rw [h] at h'; cases h'
    · rw [h] at h'; cases h'
  · exact inH _ h (.inl ⟨o, h⟩)
  · obtain ⟨S', hrun⟩ := hlaw ns (.fz (ns.map U.int)) [] hl rfl
    refine ⟨[], [], [.fz (ns.map U.int)], ⟨rfl, fun n m b e1 e2 => by simp at e1, fun n b e => by simp at e, fun n b c e1 e2 => by simp at e1⟩, .cons (.fzK h (Rps.of_ints ns)) .nil, ?_⟩
    rw [hrun]
    intro fm' H' st so v rv
    cases rv
    exact q H'
end
end Ev
set_option Elab.async false
set_option linter.all false
set_option maxRecDepth 100000
set_option maxHeartbeats 1000000
/-! Ev27: plain lemmas about what trees yield. -/
namespace Ev
theorem run_succ {D : List Fd} {wf d i : Nat} {us : List U} {S : Sto} {fd : Fd} (h : D[i]? = some fd) (hl : us.length = fd.np) :
    run D wf (d + 1) i us S = (match evSs (run D wf d) wf fd.body (us.map some ++ List.replicate (fd.nn - fd.np) none) S with
        | .ok (.rt u) S1 => .ok u S1
        | .ok (.nx _) S1 => .ok .non S1
        | .ok (.ex c _) S1 => .ex c S1
        | _ => .stuck) := by
  rw [run, h]
  dsimp only
  rw [if_pos hl] <;> rfl
theorem at1 {d : Nat} (h : 1 ≤ d) : ∃ e, d = e + 1 := ⟨d - 1, by omega⟩
/-- a comprehension whose turns change nothing -/
theorem compL_pure {step : U → Sto → R (Option U)} {S : Sto} (g : U → Option U) : ∀ {us : List U}, (∀ x ∈ us, step x S = .ok (g x) S) → compL step us S = .ok (us.filterMap g) S
  | [], _ => rfl
  | x :: us, h => by
    rw [compL, h x List.mem_cons_self]
    simp only [noEx, R.bind]
    rw [compL_pure g fun y hy => h y (List.mem_cons_of_mem _ hy)]
    simp only [List.filterMap_cons]
    cases g x <;> rfl
theorem compL_map {α : Type} {step : U → Sto → R (Option U)} {S : Sto} {e : α → U} {g : α → U} : ∀ {xs : List α}, (∀ x ∈ xs, step (e x) S = .ok (some (g x)) S) → compL step (xs.map e) S = .ok (xs.map g) S
  | [], _ => rfl
  | x :: us, h => by
    rw [List.map_cons, compL, h x List.mem_cons_self]
    simp only [noEx, R.bind]
    rw [compL_map fun y hy => h y (List.mem_cons_of_mem _ hy)]
    rfl
theorem compL_filter {α : Type} {step : U → Sto → R (Option U)} {S : Sto} {e : α → U} {c : α → Bool} {g : α → U} : ∀ {xs : List α}, (∀ x ∈ xs, step (e x) S = .ok (if c x = true then some (g x) else none) S) → compL step (xs.map e) S = .ok ((xs.filter c).map g) S
  | [], _ => rfl
  | x :: us, h => by
    rw [List.map_cons, compL, h x List.mem_cons_self]
    simp only [noEx, R.bind]
    rw [compL_filter fun y hy => h y (List.mem_cons_of_mem _ hy)]
    cases hc : c x <;> simp [hc, List.filter_cons]
theorem iota_map : ∀ (n : Nat) (lo : Int), iotaU lo n = (List.range n).map fun (i : Nat) => U.int (lo + (i : Int))
  | 0, _ => rfl
  | n + 1, lo => by
    rw [iotaU, iota_map n (lo + 1), List.range_succ_eq_map, List.map_cons, List.map_map]
    congr 1
    · simp
    · apply List.map_congr_left
      intro i _
      simp only [Function.comp_apply]
      congr 1
      omega
theorem blsOf_map {α : Type} (g : α → Bool) : ∀ xs : List α, blsOf (xs.map fun x => U.bl (g x)) = some (xs.map g)
  | [] => rfl
  | x :: xs => by rw [List.map_cons, blsOf, blsOf_map g xs]; rfl
theorem intsOf_map {α : Type} (g : α → Int) : ∀ xs : List α, intsOf (xs.map fun x => U.int (g x)) = some (xs.map g)
  | [] => rfl
  | x :: xs => by rw [List.map_cons, intsOf, intsOf_map g xs]; rfl
theorem intsOf_int (xs : List Int) : intsOf (xs.map U.int) = some xs := by
  have := intsOf_map (fun x => x) xs
  simpa using this

/-- a for whose turns all go on, by an invariant -/
theorem forL_inv {step : U → Rho → Sto → SR} (P : Nat → Rho → Sto → Prop) : ∀ (us : List U) (k : Nat) (ρ : Rho) (S : Sto), P k ρ S →
    (∀ (i : Nat) (x : U) (ρ : Rho) (S : Sto), us[i]? = some x → P (k + i) ρ S → ∃ ρ' S', step x ρ S = .ok (.nx ρ') S' ∧ P (k + i + 1) ρ' S') →
    ∃ ρ' S', forL step us ρ S = .ok (.nx ρ') S' ∧ P (k + us.length) ρ' S'
  | [], k, ρ, S, h, _ => ⟨ρ, S, rfl, h⟩
  | x :: us, k, ρ, S, h, hs => by
    obtain ⟨ρ1, S1, e1, h1⟩ := hs 0 x ρ S rfl h
    obtain ⟨ρ2, S2, e2, h2⟩ := forL_inv P us (k + 1) ρ1 S1 h1 fun i y ρ S hy hp => by
      have e : k + 1 + i = k + (i + 1) := by omega
      rw [e] at hp ⊢
      exact hs (i + 1) y ρ S (by simpa using hy) hp
    refine ⟨ρ2, S2, ?_, ?_⟩
    · rw [forL, e1]; exact e2
    · have e : k + (x :: us).length = k + 1 + us.length := by simp; omega
      rw [e]; exact h2
theorem iota_at {n : Nat} {lo : Int} {i : Nat} {x : U} (h : (iotaU lo n)[i]? = some x) : i < n ∧ x = .int (lo + (i : Int)) := by
  rw [iota_map, List.getElem?_map] at h
  by_cases hi : i < n
  · rw [List.getElem?_range hi] at h
    exact ⟨hi, (Option.some.inj h).symm⟩
  · rw [List.getElem?_eq_none (by simpa using hi)] at h; cases h
theorem iota_len (n : Nat) (lo : Int) : (iotaU lo n).length = n := by rw [iota_map]; simp
theorem mul_l {i j : Int} (h : -(2 ^ 64) < i) (h2 : i < 2 ^ 64) : mulOk i j = true := by
  simp only [mulOk, Bool.or_eq_true, Bool.and_eq_true, decide_eq_true_eq]; exact .inl ⟨h, h2⟩
theorem mul_r {i j : Int} (h : -(2 ^ 64) < j) (h2 : j < 2 ^ 64) : mulOk i j = true := by
  simp only [mulOk, Bool.or_eq_true, Bool.and_eq_true, decide_eq_true_eq]; exact .inr ⟨h, h2⟩
theorem small_i {i : Int} (h : -(2 ^ 62) ≤ i) (h2 : i < 2 ^ 62) : small i = true := by
  simp only [small, Bool.and_eq_true, decide_eq_true_eq]; exact ⟨h, h2⟩

/-! ### by statements -/
section
variable {D : List Fd} {F : Nat → List U → Sto → R U} {w : Nat} {ρ ρ1 : Rho} {S S1 S2 S3 : Sto} {u v z : U} {us ys : List U} {o : Out}
theorem run_rt {d i : Nat} {fd : Fd} (h : D[i]? = some fd) (hl : us.length = fd.np) (hb : evSs (run D w d) w fd.body (us.map some ++ List.replicate (fd.nn - fd.np) none) S = .ok (.rt u) S1) : run D w (d + 1) i us S = .ok u S1 := by
  rw [run_succ h hl, hb]
theorem s_nx {s : SX} {ss : List SX} {r : SR} (h : evS F w s ρ S = .ok (.nx ρ1) S1) (h2 : evSs F w ss ρ1 S1 = r) : evSs F w (s :: ss) ρ S = r := by
  rw [ev_cons]; dsimp only; rw [h]; exact h2
theorem s_rt {s : SX} {ss : List SX} (h : evS F w s ρ S = .ok (.rt u) S1) : evSs F w (s :: ss) ρ S = .ok (.rt u) S1 := by
  rw [ev_cons]; dsimp only; rw [h]
theorem s_nil : evSs F w [] ρ S = .ok (.nx ρ) S := by rw [ev_nil]
theorem st_ret {e : EX} (h : evE F e ρ S = .ok u S1) : evS F w (.ret e) ρ S = .ok (.rt u) S1 := by
  rw [evS]; rw [h]; rfl
theorem st_ex {e : EX} (h : evE F e ρ S = .ok u S1) : evS F w (.ex e) ρ S = .ok (.nx ρ) S1 := by
  rw [evS]; rw [h]; rfl
theorem st_set {t : TX} {e : EX} (h : evE F e ρ S = .ok u S1) (h2 : evT F t u ρ S1 = some (ρ1, S2)) : evS F w (.set t e) ρ S = .ok (.nx ρ1) S2 := by
  rw [ev_set]; dsimp only; rw [h]; dsimp only [R.toS]; rw [h2]
theorem st_nm {i : Nat} {e : EX} (h : evE F e ρ S = .ok u S1) (hi : decide (i < ρ.length) = true) : evS F w (.set (.nm i) e) ρ S = .ok (.nx (ρ.set i (some u))) S1 :=
  st_set h (by rw [evT]; exact if_pos (of_decide_eq_true hi))
theorem st_par {is : List Nat} {es : List EX} (h : evEs F es ρ S = .ok us S1) (hl : is.length = us.length) (ha : is.all (· < ρ.length) = true) : evS F w (.par is es) ρ S = .ok (.nx (setAll is us ρ)) S1 := by
  rw [ev_par]; dsimp only; rw [h]; dsimp only [R.toS]; rw [if_pos ⟨hl, ha⟩]
theorem st_ifT {c : EX} {a b : List SX} {r : SR} (h : evE F c ρ S = .ok u S1) (ht : truU S1 u = some true) (h2 : evSs F w a ρ S1 = r) : evS F w (.ife c a b) ρ S = r := by
  rw [ev_ife]; dsimp only; rw [h]; dsimp only [R.toS]; rw [ht]; exact h2
theorem st_ifF {c : EX} {a b : List SX} {r : SR} (h : evE F c ρ S = .ok u S1) (ht : truU S1 u = some false) (h2 : evSs F w b ρ S1 = r) : evS F w (.ife c a b) ρ S = r := by
  rw [ev_ife]; dsimp only; rw [h]; dsimp only [R.toS]; rw [ht]; exact h2
theorem st_fo {t : TX} {it : IX} {b : List SX} (h : evI F it ρ S = .ok (us, none) S1) (h2 : forL (stepF (evT F t) (evSs F w b)) us ρ S1 = .ok o S2) : evS F w (.fo t it b) ρ S = .ok o S2 := by
  rw [ev_fo]; dsimp only; rw [h]; exact h2
theorem q_comp {t : TX} {it : IX} {cd : Option EX} {el : EX} {own : List Nat} (h : evI F it ρ S = .ok (us, none) S1) (hl : us.length ≤ lim) (h2 : compL (stepC own (evT F t) (evC F cd) (evE F el) ρ) us S1 = .ok ys S2) : evQ F (.comp t it cd el own) ρ S = .ok ys S2 := by
  rw [ev_comp]; dsimp only; rw [h]; dsimp only [R.bind]; rw [if_pos hl]; exact h2
theorem e_qv {q : QX} (h : evQ F q ρ S = .ok us S1) : evE F (.qv q) ρ S = .ok (.lst us) S1 := by rw [ev_qv]; dsimp only; rw [h]; rfl
theorem es_nil : evEs F [] ρ S = .ok [] S := by rw [evEs]
theorem es_cons {a : EX} {es : List EX} (h : evE F a ρ S = .ok u S1) (h2 : evEs F es ρ S1 = .ok us S2) : evEs F (a :: es) ρ S = .ok (u :: us) S2 := by
  rw [evEs, h]; dsimp only [R.bind]; rw [h2]
theorem e_bi {b : Bi} {es : List EX} (h : evEs F es ρ S = .ok us S1) (h2 : biU S1 b us = some v) : evE F (.bi b es) ρ S = .ok v S1 := by
  rw [evE, h]; dsimp only [R.bind]; rw [h2]; rfl
theorem e_bi1 {b : Bi} {e : EX} (h : evE F e ρ S = .ok u S1) (h2 : biU S1 b [u] = some v) : evE F (.bi b [e]) ρ S = .ok v S1 := e_bi (es_cons h es_nil) h2
theorem e_call {i : Nat} {es : List EX} {r : R U} (h : evEs F es ρ S = .ok us S1) (h2 : F i us S1 = r) : evE F (.call i es) ρ S = r := by
  rw [evE, h]; exact h2
theorem e_tup {es : List EX} (h : evEs F es ρ S = .ok us S1) : evE F (.tup es) ρ S = .ok (.tup us) S1 := by
  rw [evE, h]; rfl
theorem e_and {a b : EX} {r : R U} (h : evE F a ρ S = .ok (.bl true) S1) (h2 : evE F b ρ S1 = r) : evE F (.and a b) ρ S = r := by
  rw [evE, h]; exact h2
theorem e_andF {a b : EX} (h : evE F a ρ S = .ok (.bl false) S1) : evE F (.and a b) ρ S = .ok (.bl false) S1 := by
  rw [evE, h]; rfl
theorem e_or {a b : EX} {r : R U} (h : evE F a ρ S = .ok (.bl false) S1) (h2 : evE F b ρ S1 = r) : evE F (.or a b) ρ S = r := by
  rw [evE, h]; exact h2
theorem e_orT {a b : EX} (h : evE F a ρ S = .ok (.bl true) S1) : evE F (.or a b) ρ S = .ok (.bl true) S1 := by
  rw [evE, h]; rfl
theorem e_not {a : EX} {b : Bool} (h : evE F a ρ S = .ok (.bl b) S1) : evE F (.not a) ρ S = .ok (.bl (!b)) S1 := by
  rw [evE, h]; rfl
theorem e_call1 {i : Nat} {a : EX} {r : R U} (h : evE F a ρ S = .ok u S1) (h2 : F i [u] S1 = r) : evE F (.call i [a]) ρ S = r := e_call (es_cons h es_nil) h2
theorem e_call2 {i : Nat} {a b : EX} {r : R U} (h : evE F a ρ S = .ok u S1) (h1 : evE F b ρ S1 = .ok v S2) (h2 : F i [u, v] S2 = r) : evE F (.call i [a, b]) ρ S = r := e_call (es_cons h (es_cons h1 es_nil)) h2
theorem e_call3 {i : Nat} {a b c : EX} {r : R U} (h : evE F a ρ S = .ok u S1) (h1 : evE F b ρ S1 = .ok v S2) (h2 : evE F c ρ S2 = .ok z S3) (h3 : F i [u, v, z] S3 = r) : evE F (.call i [a, b, c]) ρ S = r := e_call (es_cons h (es_cons h1 (es_cons h2 es_nil))) h3
theorem e_var {i : Nat} (h : getR ρ i = some u) : evE F (.var i) ρ S = .ok u S := by rw [ev_var]; dsimp only; rw [h]; rfl
theorem e_cst : evE F (.cst u) ρ S = .ok u S := by rw [ev_cst]
theorem e_bin {op : Op} {a b : EX} (h : evE F a ρ S = .ok u S1) (h1 : evE F b ρ S1 = .ok v S2) (h2 : binU S2 op u v = some z) : evE F (.bin op a b) ρ S = .ok z S2 := by
  rw [ev_bin]; dsimp only; rw [h]; dsimp only [R.bind]; rw [h1]; dsimp only [R.bind]; rw [h2]; rfl
theorem e_cmp {op : Cp} {a b : EX} {k : Bool} (h : evE F a ρ S = .ok u S1) (h1 : evE F b ρ S1 = .ok v S2) (h2 : cmpU S2 op u v = some k) : evE F (.cmp op a b) ρ S = .ok (.bl k) S2 := by
  rw [ev_cmp]; dsimp only; rw [h]; dsimp only [R.bind]; rw [h1]; dsimp only [R.bind]; rw [h2]; rfl
theorem e_ix {a b : EX} (h : evE F a ρ S = .ok u S1) (h1 : evE F b ρ S1 = .ok v S2) (h2 : ixU S2 u v = some z) : evE F (.ix a b) ρ S = .ok z S2 := by
  rw [ev_ix]; dsimp only; rw [h]; dsimp only [R.bind]; rw [h1]; dsimp only [R.bind]; rw [h2]; rfl
theorem e_iteT {c a b : EX} {r : R U} (h : evE F c ρ S = .ok (.bl true) S1) (h2 : evE F a ρ S1 = r) : evE F (.ite c a b) ρ S = r := by
  rw [evE, h]; exact h2
theorem e_iteF {c a b : EX} {r : R U} (h : evE F c ρ S = .ok (.bl false) S1) (h2 : evE F b ρ S1 = r) : evE F (.ite c a b) ρ S = r := by
  rw [evE, h]; exact h2
theorem i_rng1 {a : EX} {j : Int} (h : evE F a ρ S = .ok (.int j) S1) (hs : small j = true) : evI F (.rng1 a) ρ S = .ok (iotaU 0 j.toNat, none) S1 := by
  rw [evI, h]; dsimp only [R.bind]; rw [if_pos hs]
theorem i_rng2 {a b : EX} {i j : Int} (h : evE F a ρ S = .ok (.int i) S1) (h1 : evE F b ρ S1 = .ok (.int j) S2) (hs : small i = true) (hs2 : small j = true) : evI F (.rng2 a b) ρ S = .ok (iotaU i (j - i).toNat, none) S2 := by
  rw [evI, h]; dsimp only [R.bind]; rw [h1]; simp only [hs, hs2, and_self, if_true]
theorem i_tup {a : EX} (h : evE F a ρ S = .ok (.tup us) S1) : evI F (.val a) ρ S = .ok (us, none) S1 := by
  rw [evI, h]; rfl
theorem i_lst {a : EX} (h : evE F a ρ S = .ok (.lst us) S1) : evI F (.val a) ρ S = .ok (us, none) S1 := by
  rw [evI, h]; rfl
/-- one turn: a name set, no test -/
theorem c_nm {own : List Nat} {i : Nat} {el : EX} {x : U} (hi : decide (i < ρ.length) = true) (h : evE F el ((wipeR ρ own).set i (some x)) S = .ok u S1) : stepC own (evT F (.nm i)) (evC F none) (evE F el) ρ x S = .ok (some u) S1 := by
  have hw : ∀ l : List Nat, (wipeR ρ l).length = ρ.length := fun l => by
    induction l with
    | nil => rfl
    | cons a l ih => rw [wipeR, List.length_set, ih]
  rw [stepC, evT, if_pos (by rw [hw]; exact of_decide_eq_true hi)]
  dsimp only
  rw [evC]; dsimp only [R.bind]
  rw [if_pos rfl, h]
/-- .. with a test -/
theorem c_nmI {own : List Nat} {i : Nat} {el c : EX} {x : U} {k : Bool} (hi : decide (i < ρ.length) = true) (h : evE F c ((wipeR ρ own).set i (some x)) S = .ok (.bl k) S) (h2 : evE F el ((wipeR ρ own).set i (some x)) S = .ok u S) :
    stepC own (evT F (.nm i)) (evC F (some c)) (evE F el) ρ x S = .ok (if k = true then some u else none) S := by
  have hw : ∀ l : List Nat, (wipeR ρ l).length = ρ.length := fun l => by
    induction l with
    | nil => rfl
    | cons a l ih => rw [wipeR, List.length_set, ih]
  rw [stepC, evT, if_pos (by rw [hw]; exact of_decide_eq_true hi)]
  dsimp only
  rw [evC, h]; dsimp only [R.bind, optR, truU, rd]
  cases k with
  | true => rw [if_pos rfl, if_pos rfl, h2]
  | false => rw [if_neg (by simp), if_neg (by simp)]
theorem stepF_nm {i : Nat} {b : List SX} {x : U} {r : SR} (hi : decide (i < ρ.length) = true) (h : evSs F w b (ρ.set i (some x)) S = r) : stepF (evT F (.nm i)) (evSs F w b) x ρ S = r := by
  rw [stepF, evT, if_pos (of_decide_eq_true hi)]; exact h
end

/-! ### values -/
theorem okDs_ints (k : Nat) : ∀ xs : List Int, okDs k (xs.map U.int) = true
  | [] => by simp [okDs]
  | x :: xs => by rw [List.map_cons, okDs, okDs_ints k xs]; cases k <;> simp [okD]
theorem okD_ints (xs : List Int) : okD 20 (.tup (xs.map U.int)) = true := by rw [okD]; exact okDs_ints 19 xs
theorem eqUs_ints : ∀ xs ys : List Int, eqUs (xs.map U.int) (ys.map U.int) = decide (xs = ys)
  | [], [] => by simp [eqUs]
  | [], y :: ys => by simp [eqUs]
  | x :: xs, [] => by simp [eqUs]
  | x :: xs, y :: ys => by
    rw [List.map_cons, List.map_cons, eqUs, eqUs_ints xs ys, eqU]
    by_cases h : x = y <;> by_cases h2 : xs = ys <;> simp [h, h2]
theorem eqV_tups (xs ys : List Int) : eqV? (.tup (xs.map U.int)) (.tup (ys.map U.int)) = some (decide (xs = ys)) := by
  unfold eqV?
  rw [if_pos ⟨okD_ints xs, okD_ints ys⟩, eqU, eqUs_ints]
theorem eqV_ints (x y : Int) : eqV? (.int x) (.int y) = some (decide (x = y)) := by
  unfold eqV?
  rw [if_pos ⟨by simp [okD], by simp [okD]⟩, eqU]
  by_cases h : x = y <;> simp [h]
theorem eqV_bls (x y : Bool) : eqV? (.bl x) (.bl y) = some (x == y) := by
  unfold eqV?
  rw [if_pos ⟨by simp [okD], by simp [okD]⟩, eqU]
theorem ixN_nat {n i : Nat} (h : i < n) : ixN n (i : Int) = some i := by
  unfold ixN
  rw [if_pos (by omega), if_pos (by omega)]
  simp
theorem ix_tup {S : Sto} {us : List U} {i : Nat} {z : U} (h : us[i]? = some z) : ixU S (.tup us) (.int (i : Int)) = some z := by
  have hi : i < us.length := (List.getElem?_eq_some_iff.mp h).1
  simp only [ixU, dctOf, seqOf, rd, atU, ixN_nat hi, Option.bind_some]
  exact h
theorem ix_lst {S : Sto} {us : List U} {i : Nat} {z : U} (h : us[i]? = some z) : ixU S (.lst us) (.int (i : Int)) = some z := by
  have hi : i < us.length := (List.getElem?_eq_some_iff.mp h).1
  simp only [ixU, dctOf, seqOf, rd, atU, ixN_nat hi, Option.bind_some]
  exact h
theorem ix_last {S : Sto} {us : List U} {z : U} (h : us.getLast? = some z) : ixU S (.tup us) (.int (-1)) = some z := by
  have hl : us ≠ [] := fun e => by subst e; simp at h
  have hp : 0 < us.length := List.length_pos_iff.mpr hl
  simp only [ixU, dctOf, seqOf, rd, atU]
  have : ixN us.length (-1) = some (us.length - 1) := by
    unfold ixN
    rw [if_neg (by omega), if_pos (by omega)]
    congr 1
    omega
  rw [this, Option.bind_some]
  rw [List.getLast?_eq_getElem?] at h
  exact h
theorem ix_store {S : Sto} {n : Nat} {us : List U} {i : Nat} {z : U} (hs : S[n]? = some (.liv (.lst us))) (h : us[i]? = some z) : ixU S (.ref n) (.int (i : Int)) = some z := by
  have hi : i < us.length := (List.getElem?_eq_some_iff.mp h).1
  simp only [ixU, dctOf, hs, seqOf, rd, atU, ixN_nat hi, Option.bind_some]
  exact h

theorem wipeR_len (ρ : Rho) : ∀ l : List Nat, (wipeR ρ l).length = ρ.length
  | [] => rfl
  | a :: l => by rw [wipeR, List.length_set, wipeR_len ρ l]
section
variable {F : Nat → List U → Sto → R U} {w : Nat} {ρ : Rho} {S S1 : Sto} {u a b : U}
theorem t_two {i j : Nat} (hi : decide (i < ρ.length) = true) (hj : decide (j < ρ.length) = true) : evT F (.tp [.nm i, .nm j]) (.tup [a, b]) ρ S = some ((ρ.set i (some a)).set j (some b), S) := by
  rw [evT]
  show (match unpack 2 (.tup [a, b]) S with | some us => evTs F [.nm i, .nm j] us ρ S | none => none) = _
  have : unpack 2 (.tup [a, b]) S = some [a, b] := rfl
  rw [this]
  dsimp only
  rw [evTs, evT, if_pos (of_decide_eq_true hi)]
  dsimp only
  rw [evTs, evT, if_pos (by rw [List.length_set]; exact of_decide_eq_true hj)]
  dsimp only
  rw [evTs]
theorem c_two {own : List Nat} {i j : Nat} {el : EX} (hi : decide (i < ρ.length) = true) (hj : decide (j < ρ.length) = true) (h : evE F el (((wipeR ρ own).set i (some a)).set j (some b)) S = .ok u S1) :
    stepC own (evT F (.tp [.nm i, .nm j])) (evC F none) (evE F el) ρ (.tup [a, b]) S = .ok (some u) S1 := by
  rw [stepC, t_two (by rw [wipeR_len]; exact hi) (by rw [wipeR_len]; exact hj)]
  dsimp only
  rw [evC]; dsimp only [R.bind]
  rw [if_pos rfl, h]
theorem c_twoI {own : List Nat} {i j : Nat} {el c : EX} {k : Bool} (hi : decide (i < ρ.length) = true) (hj : decide (j < ρ.length) = true) (h : evE F c (((wipeR ρ own).set i (some a)).set j (some b)) S = .ok (.bl k) S) (h2 : evE F el (((wipeR ρ own).set i (some a)).set j (some b)) S = .ok u S) :
    stepC own (evT F (.tp [.nm i, .nm j])) (evC F (some c)) (evE F el) ρ (.tup [a, b]) S = .ok (if k = true then some u else none) S := by
  rw [stepC, t_two (by rw [wipeR_len]; exact hi) (by rw [wipeR_len]; exact hj)]
  dsimp only
  rw [evC, h]; dsimp only [R.bind, optR, truU, rd]
  cases k with
  | true => rw [if_pos rfl, if_pos rfl, h2]
  | false => rw [if_neg (by simp), if_neg (by simp)]
theorem stepF_two {i j : Nat} {bd : List SX} {r : SR} (hi : decide (i < ρ.length) = true) (hj : decide (j < ρ.length) = true) (h : evSs F w bd ((ρ.set i (some a)).set j (some b)) S = r) : stepF (evT F (.tp [.nm i, .nm j])) (evSs F w bd) (.tup [a, b]) ρ S = r := by
  rw [stepF, t_two hi hj]; exact h
theorem zip_ints : ∀ xs ys : List Int, zipU (xs.map U.int) (ys.map U.int) = (xs.zip ys).map fun p => U.tup [.int p.1, .int p.2]
  | [], ys => by simp [zipU]
  | x :: xs, [] => by simp [zipU]
  | x :: xs, y :: ys => by simp [zipU, zip_ints xs ys]
end
end Ev
set_option Elab.async false
set_option linter.all false
set_option maxRecDepth 100000
set_option maxHeartbeats 1000000
/-! Ev28: more plain lemmas about what trees yield: the store. -/
namespace Ev
section
variable {F : Nat → List U → Sto → R U} {w : Nat} {ρ ρ1 : Rho} {S S1 S2 S3 : Sto} {u v z : U} {us ys xs : List U}
theorem e_ist {a : EX} {ts : List Ty} {k : Vt} (h : evE F a ρ S = .ok u S1) (h2 : vtU S1 u = some k) : evE F (.ist a ts) ρ S = .ok (.bl (ts.any k.is)) S1 := by
  rw [evE, h]; dsimp only [R.bind]; rw [h2]; rfl
theorem t_ixL {a b : EX} {n k : Nat} {i : Int} (h : evE F a ρ S = .ok (.ref n) S1) (h1 : evE F b ρ S1 = .ok (.int i) S2) (hs : S2[n]? = some (.liv (.lst xs))) (hk : ixN xs.length i = some k) : evT F (.ix a b) v ρ S = some (ρ, S2.set n (.liv (.lst (xs.set k v)))) := by
  rw [evT, h]; dsimp only; rw [h1]; dsimp only; rw [hs]; dsimp only; rw [hk]
theorem t_ixD {a b : EX} {n : Nat} {i : Int} {kvs : List (Int × U)} (h : evE F a ρ S = .ok (.ref n) S1) (h1 : evE F b ρ S1 = .ok (.int i) S2) (hs : S2[n]? = some (.liv (.dct kvs))) (hk : kvs.length < lim) : evT F (.ix a b) v ρ S = some (ρ, S2.set n (.liv (.dct (dputU kvs i v)))) := by
  rw [evT, h]; dsimp only; rw [h1]; dsimp only; rw [hs]; dsimp only; rw [if_pos hk]
theorem e_mth {a : EX} {es : List EX} {m : Mt} {n : Nat} (h : evE F a ρ S = .ok (.ref n) S1) (hs : S1[n]? = some (.liv (.lst xs))) (h1 : evEs F es ρ S1 = .ok us S2) (h2 : mthU S2 m (.ref n) us = some (v, S3)) : evE F (.mth m a es) ρ S = .ok v S3 := by
  rw [evE, h]; dsimp only [R.bind]
  rw [if_pos (by simp [mtOk, rd, hs]), h1]; dsimp only [R.bind]; rw [h2]; rfl
theorem e_frz {a : EX} {n : Nat} (h : evE F a ρ S = .ok (.ref n) S1) (hs : S1[n]? = some (.liv (.lst xs))) : evE F (.frz a) ρ S = .ok (.lst xs) (S1.set n .ded) := by
  rw [ev_frz]; dsimp only; rw [h]; dsimp only [R.bind]; rw [hs]
theorem q_srt {a : EX} (h : evE F a ρ S = .ok u S1) (h1 : seqOf S1 u = some xs) (h2 : srtU xs = some ys) : evQ F (.srt a) ρ S = .ok ys S1 := by
  rw [evQ, h]; dsimp only [R.bind]; rw [h1]; dsimp only; rw [h2]; rfl
theorem q_lof {a : EX} (h : evE F a ρ S = .ok u S1) (h1 : seqOf S1 u = some xs) : evQ F (.lof a) ρ S = .ok xs S1 := by
  rw [evQ, h]; dsimp only [R.bind]; rw [h1]; rfl
theorem q_disp {es : List EX} (h : evEs F es ρ S = .ok us S1) : evQ F (.disp es) ρ S = .ok us S1 := by rw [evQ]; exact h
theorem e_qn {q : QX} (h : evQ F q ρ S = .ok us S1) : evE F (.qn q) ρ S = .ok (.ref S1.length) (S1 ++ [.liv (.lst us)]) := by rw [ev_qn]; dsimp only; rw [h]; rfl
theorem e_rev {a : EX} (h : evE F a ρ S = .ok u S1) (h2 : revU S1 u = some v) : evE F (.rev a) ρ S = .ok v S1 := by
  rw [evE, h]; dsimp only [R.bind]; rw [h2]; rfl
theorem o_none : evO F none ρ S = .ok none S := by rw [evO]
theorem o_some {a : EX} {i : Int} (h : evE F a ρ S = .ok (.int i) S1) : evO F (some a) ρ S = .ok (some i) S1 := by rw [evO, h]; rfl
theorem e_sl {a : EX} {l r : Option EX} {lo hi : Option Int} (h : evE F a ρ S = .ok u S1) (h1 : evO F l ρ S1 = .ok lo S2) (h2 : evO F r ρ S2 = .ok hi S3) (h3 : slU S3 u lo hi = some v) : evE F (.sl a l r) ρ S = .ok v S3 := by
  rw [evE, h]; dsimp only [R.bind]; rw [h1]; dsimp only [R.bind]; rw [h2]; dsimp only [R.bind]; rw [h3]; rfl
theorem i_enumL {a : EX} (h : evE F a ρ S = .ok (.lst us) S1) : evI F (.enum a) ρ S = .ok (enumU 0 us, none) S1 := by
  rw [evI, h]; rfl
theorem i_zipL {a b : EX} (h : evE F a ρ S = .ok (.lst us) S1) (h1 : evE F b ρ S1 = .ok (.lst ys) S2) : evI F (.zip2 a b) ρ S = .ok (zipU us ys, none) S2 := by
  rw [evI, h]; dsimp only [R.bind]; rw [h1]
theorem i_zipT {a b : EX} (h : evE F a ρ S = .ok (.tup us) S1) (h1 : evE F b ρ S1 = .ok (.tup ys) S2) : evI F (.zip2 a b) ρ S = .ok (zipU us ys, none) S2 := by
  rw [evI, h]; dsimp only [R.bind]; rw [h1]
/-- a comprehension with an invariant of the store -/
theorem compL_inv {step : U → Sto → R (Option U)} (P : Nat → Sto → Prop) (Q : U → Prop) : ∀ (us : List U) (k : Nat) (S : Sto), P k S →
    (∀ (i : Nat) (x : U) (S : Sto), us[i]? = some x → P (k + i) S → ∃ y S', step x S = .ok (some y) S' ∧ Q y ∧ P (k + i + 1) S') →
    ∃ ys S', compL step us S = .ok ys S' ∧ ys.length = us.length ∧ (∀ y ∈ ys, Q y) ∧ P (k + us.length) S'
  | [], k, S, h, _ => ⟨[], S, rfl, rfl, fun _ h => by simp at h, h⟩
  | x :: us, k, S, h, hs => by
    obtain ⟨y, S1, e1, q1, h1⟩ := hs 0 x S rfl h
    obtain ⟨ys, S2, e2, l2, q2, h2⟩ := compL_inv P Q us (k + 1) S1 h1 fun i y S hy hp => by
      have e : k + 1 + i = k + (i + 1) := by omega
      rw [e] at hp ⊢
      exact hs (i + 1) y S (by simpa using hy) hp
    refine ⟨y :: ys, S2, ?_, by simp [l2], fun z hz => ?_, ?_⟩
    · rw [compL, e1]; simp only [noEx, R.bind]; rw [e2]
    · rcases List.mem_cons.mp hz with rfl | hz
      · exact q1
      · exact q2 z hz
    · have e : k + (x :: us).length = k + 1 + us.length := by simp; omega
      rw [e]; exact h2
theorem ints_of : ∀ {ys : List U} {Q : Int → Prop}, (∀ y ∈ ys, ∃ i, y = .int i ∧ Q i) → ∃ ns : List Int, ys = ns.map U.int ∧ ∀ i ∈ ns, Q i
  | [], Q, _ => ⟨[], rfl, fun _ h => by simp at h⟩
  | y :: ys, Q, h => by
    obtain ⟨i, rfl, q⟩ := h y List.mem_cons_self
    obtain ⟨ns, rfl, q2⟩ := ints_of (ys := ys) (Q := Q) fun z hz => h z (List.mem_cons_of_mem _ hz)
    refine ⟨i :: ns, rfl, fun j hj => ?_⟩
    rcases List.mem_cons.mp hj with rfl | hj
    · exact q
    · exact q2 j hj
theorem cut_map {α : Type} (f : α → U) (xs : List α) (lo hi : Option Int) : ∃ ys : List α, cutU (xs.map f) lo hi = ys.map f ∧ ys.length ≤ xs.length := by
  refine ⟨(xs.drop (sIx xs.length 0 lo)).take (sIx xs.length xs.length hi - sIx xs.length 0 lo), ?_, ?_⟩
  · unfold cutU; rw [List.length_map, List.map_take, List.map_drop]
  · rw [List.length_take, List.length_drop]; omega
theorem log_ok {j : Int} (h0 : 0 < j) (h : j < 2 ^ 64) : 0 < j ∧ j.natAbs.log2 < 9000 := by
  refine ⟨h0, ?_⟩
  have : j.natAbs < 2 ^ 64 := by omega
  have := (Nat.log2_lt (by omega : j.natAbs ≠ 0)).mpr this
  omega
theorem zip_map {α β : Type} (f : α → U) (g : β → U) : ∀ (xs : List α) (ys : List β), zipU (xs.map f) (ys.map g) = (xs.zip ys).map fun p => U.tup [f p.1, g p.2]
  | [], ys => by simp [zipU]
  | x :: xs, [] => by simp [zipU]
  | x :: xs, y :: ys => by simp [zipU, zip_map f g xs ys]
end
end Ev
set_option Elab.async false
set_option linter.all false
set_option maxRecDepth 100000
set_option maxHeartbeats 1000000
/-! EvW: what a tree yields, forward: W r Q E: r yields a value with Q, or raises with E. -/
namespace Ev
def W {α : Type} (r : R α) (Q : α → Sto → Prop) (E : Nat → Sto → Prop) : Prop :=
  match r with
  | .ok a S => Q a S
  | .ex c S => E c S
  | .stuck => False
def WS (r : SR) (P : Out → Sto → Prop) : Prop :=
  match r with
  | .ok o S => P o S
  | .stuck => False
def noE : Nat → Sto → Prop := fun _ _ => False
section
variable {α β : Type} {r : R α} {Q Q' : α → Sto → Prop} {E E' : Nat → Sto → Prop}
theorem W.mono (h : W r Q E) (hq : ∀ a S, Q a S → Q' a S) (he : ∀ c S, E c S → E' c S) : W r Q' E' := by
  cases r with
  | ok a S => exact hq _ _ h
  | ex c S => exact he _ _ h
  | stuck => exact h
theorem W.post (h : W r Q noE) (hq : ∀ a S, Q a S → Q' a S) : W r Q' E := h.mono hq fun _ _ z => z.elim
theorem W.bind {f : α → Sto → R β} {Q : β → Sto → Prop} (h : W r (fun a S => W (f a S) Q E) E) : W (r.bind f) Q E := by
  cases r with
  | ok a S => exact h
  | ex c S => exact h
  | stuck => exact h
theorem WS.toS {ρ : Rho} {f : α → Sto → SR} {P : Out → Sto → Prop} (h : W r (fun a S => WS (f a S) P) (fun c S => P (.ex c ρ) S)) : WS (r.toS ρ f) P := by
  cases r with
  | ok a S => exact h
  | ex c S => exact h
  | stuck => exact h
theorem W.ok {a : α} {S : Sto} (h : Q a S) : W (.ok a S) Q E := h
theorem W.opt {S : Sto} {o : Option α} {a : α} (e : o = some a) (h : Q a S) : W (optR S o) Q E := by subst e; exact h
theorem W.eq {a : α} {S : Sto} (e : r = .ok a S) (h : Q a S) : W r Q E := by rw [e]; exact h
theorem W.exq {c : Nat} {S : Sto} (e : r = .ex c S) (h : E c S) : W r Q E := by rw [e]; exact h
theorem W.is (h : W r Q noE) : ∃ a S, r = .ok a S ∧ Q a S := by
  cases r with
  | ok a S => exact ⟨a, S, rfl, h⟩
  | ex c S => exact h.elim
  | stuck => exact h.elim
theorem W.of {a : α} {S : Sto} (h : W r (fun b T => b = a ∧ T = S) noE) : r = .ok a S := by
  obtain ⟨b, T, e, rfl, rfl⟩ := h.is
  exact e
end
theorem WS.mono {r : SR} {P P' : Out → Sto → Prop} (h : WS r P) (hp : ∀ o S, P o S → P' o S) : WS r P' := by
  cases r with
  | ok o S => exact hp _ _ h
  | stuck => exact h
theorem WS.is {r : SR} {P : Out → Sto → Prop} (h : WS r P) : ∃ o S, r = .ok o S ∧ P o S := by
  cases r with
  | ok o S => exact ⟨o, S, rfl, h⟩
  | stuck => exact h.elim

section
variable {F : Nat → List U → Sto → R U} {w : Nat} {ρ : Rho} {S : Sto} {Q : U → Sto → Prop} {Qs : List U → Sto → Prop} {E : Nat → Sto → Prop} {P : Out → Sto → Prop} {a b c : EX} {u v : U}
theorem w_var {i : Nat} (h : getR ρ i = some u) (q : Q u S) : W (evE F (.var i) ρ S) Q E := .eq (e_var h) q
theorem w_varE {i : Nat} (h : ∃ u, getR ρ i = some u ∧ Q u S) : W (evE F (.var i) ρ S) Q E := let ⟨_, h1, q⟩ := h; .eq (e_var h1) q
theorem w_cst (q : Q u S) : W (evE F (.cst u) ρ S) Q E := .eq e_cst q
theorem w_tup {es : List EX} (h : W (evEs F es ρ S) (fun us S1 => Q (.tup us) S1) E) : W (evE F (.tup es) ρ S) Q E := by
  rw [evE]; exact .bind h
theorem w_bin {o : Op} (h : W (evE F a ρ S) (fun u S1 => W (evE F b ρ S1) (fun v S2 => ∃ z, binU S2 o u v = some z ∧ Q z S2) E) E) : W (evE F (.bin o a b) ρ S) Q E := by
  rw [ev_bin]
  exact .bind (h.mono (fun u S1 h => .bind (h.mono (fun v S2 ⟨z, e, q⟩ => .opt e q) fun _ _ x => x)) fun _ _ x => x)
theorem w_cmp {o : Cp} (h : W (evE F a ρ S) (fun u S1 => W (evE F b ρ S1) (fun v S2 => ∃ k, cmpU S2 o u v = some k ∧ Q (.bl k) S2) E) E) : W (evE F (.cmp o a b) ρ S) Q E := by
  rw [ev_cmp]
  exact .bind (h.mono (fun u S1 h => .bind (h.mono (fun v S2 ⟨z, e, q⟩ => .opt (by rw [e]; rfl) q) fun _ _ x => x)) fun _ _ x => x)
theorem w_ch2 {o p : Cp} (h : W (evE F a ρ S) (fun u S1 => W (evE F b ρ S1) (fun v S2 => ∃ k, cmpU S2 o u v = some k ∧ (k = true → W (evE F c ρ S2) (fun z S3 => ∃ k, cmpU S3 p v z = some k ∧ Q (.bl k) S3) E) ∧ (k = false → Q (.bl false) S2)) E) E) : W (evE F (.ch2 o p a b c) ρ S) Q E := by
  rw [ev_ch2]
  refine .bind (h.mono (fun u S1 h => .bind (h.mono (fun v S2 ⟨k, e, q1, q2⟩ => ?_) fun _ _ x => x)) fun _ _ x => x)
  rw [e]
  cases k with
  | true => exact .bind ((q1 rfl).mono (fun z S3 ⟨k, e, q⟩ => .opt (by rw [e]; rfl) q) fun _ _ x => x)
  | false => exact q2 rfl
/-- and, of tests -/
theorem w_and (h : W (evE F a ρ S) (fun u S1 => ∃ k, u = .bl k ∧ (k = true → W (evE F b ρ S1) Q E) ∧ (k = false → Q (.bl false) S1)) E) : W (evE F (.and a b) ρ S) Q E := by
  rw [evE]
  refine .bind (h.mono (fun u S1 ⟨k, e, q1, q2⟩ => ?_) fun _ _ x => x)
  subst e
  cases k with
  | true => exact q1 rfl
  | false => exact q2 rfl
theorem w_or (h : W (evE F a ρ S) (fun u S1 => ∃ k, u = .bl k ∧ (k = false → W (evE F b ρ S1) Q E) ∧ (k = true → Q (.bl true) S1)) E) : W (evE F (.or a b) ρ S) Q E := by
  rw [evE]
  refine .bind (h.mono (fun u S1 ⟨k, e, q1, q2⟩ => ?_) fun _ _ x => x)
  subst e
  cases k with
  | true => exact q2 rfl
  | false => exact q1 rfl
theorem w_not (h : W (evE F a ρ S) (fun u S1 => ∃ k, u = .bl k ∧ Q (.bl (!k)) S1) E) : W (evE F (.not a) ρ S) Q E := by
  rw [evE]
  refine .bind (h.mono (fun u S1 ⟨k, e, q⟩ => ?_) fun _ _ x => x)
  subst e
  exact q
theorem w_ite (h : W (evE F c ρ S) (fun u S1 => ∃ k, truU S1 u = some k ∧ (k = true → W (evE F a ρ S1) Q E) ∧ (k = false → W (evE F b ρ S1) Q E)) E) : W (evE F (.ite c a b) ρ S) Q E := by
  rw [evE]
  refine .bind (h.mono (fun u S1 ⟨k, e, q1, q2⟩ => ?_) fun _ _ x => x)
  rw [e]
  cases k with
  | true => exact q1 rfl
  | false => exact q2 rfl
theorem w_ix (h : W (evE F a ρ S) (fun u S1 => W (evE F b ρ S1) (fun v S2 => ∃ z, ixU S2 u v = some z ∧ Q z S2) E) E) : W (evE F (.ix a b) ρ S) Q E := by
  rw [ev_ix]
  exact .bind (h.mono (fun u S1 h => .bind (h.mono (fun v S2 ⟨z, e, q⟩ => .opt e q) fun _ _ x => x)) fun _ _ x => x)
theorem w_oNone {Q : Option Int → Sto → Prop} (q : Q none S) : W (evO F none ρ S) Q E := .eq o_none q
theorem w_oSome {Q : Option Int → Sto → Prop} (h : W (evE F a ρ S) (fun u S1 => ∃ i, u = .int i ∧ Q (some i) S1) E) : W (evO F (some a) ρ S) Q E := by
  rw [evO]
  refine .bind (h.mono (fun u S1 ⟨k, e, q⟩ => ?_) fun _ _ x => x)
  subst e
  exact q
theorem w_sl {lo hi : Option EX} (h : W (evE F a ρ S) (fun u S1 => W (evO F lo ρ S1) (fun l S2 => W (evO F hi ρ S2) (fun h S3 => ∃ z, slU S3 u l h = some z ∧ Q z S3) E) E) E) : W (evE F (.sl a lo hi) ρ S) Q E := by
  rw [evE]
  exact .bind (h.mono (fun u S1 h => .bind (h.mono (fun v S2 h => .bind (h.mono (fun v S2 ⟨z, e, q⟩ => .opt e q) fun _ _ x => x)) fun _ _ x => x)) fun _ _ x => x)
theorem w_rev (h : W (evE F a ρ S) (fun u S1 => ∃ z, revU S1 u = some z ∧ Q z S1) E) : W (evE F (.rev a) ρ S) Q E := by
  rw [evE]
  exact .bind (h.mono (fun u S1 ⟨z, e, q⟩ => .opt e q) fun _ _ x => x)
theorem w_call {f : Nat} {es : List EX} (h : W (evEs F es ρ S) (fun us S1 => W (F f us S1) Q E) E) : W (evE F (.call f es) ρ S) Q E := by
  rw [evE]; exact .bind h
theorem w_bi {bi : Bi} {es : List EX} (h : W (evEs F es ρ S) (fun us S1 => ∃ z, biU S1 bi us = some z ∧ Q z S1) E) : W (evE F (.bi bi es) ρ S) Q E := by
  rw [evE]
  exact .bind (h.mono (fun u S1 ⟨z, e, q⟩ => .opt e q) fun _ _ x => x)
theorem w_ist {ts : List Ty} (h : W (evE F a ρ S) (fun u S1 => ∃ k, vtU S1 u = some k ∧ Q (.bl (ts.any k.is)) S1) E) : W (evE F (.ist a ts) ρ S) Q E := by
  rw [evE]
  exact .bind (h.mono (fun u S1 ⟨z, e, q⟩ => .opt (by rw [e]; rfl) q) fun _ _ x => x)
theorem w_mth {m : Mt} {es : List EX} (h : W (evE F a ρ S) (fun u S1 => mtOk S1 m u = true ∧ W (evEs F es ρ S1) (fun us S2 => ∃ z S3, mthU S2 m u us = some (z, S3) ∧ Q z S3) E) E) : W (evE F (.mth m a es) ρ S) Q E := by
  rw [evE]
  refine .bind (h.mono (fun u S1 ⟨e, h⟩ => ?_) fun _ _ x => x)
  rw [if_pos e]
  refine .bind (h.mono (fun us S2 ⟨z, S3, e, q⟩ => ?_) fun _ _ x => x)
  rw [e]; exact q
theorem w_qv {q : QX} (h : W (evQ F q ρ S) (fun us S1 => Q (.lst us) S1) E) : W (evE F (.qv q) ρ S) Q E := by
  rw [ev_qv]; exact .bind h
theorem w_qn {q : QX} (h : W (evQ F q ρ S) (fun us S1 => Q (.ref S1.length) (S1 ++ [.liv (.lst us)])) E) : W (evE F (.qn q) ρ S) Q E := by
  rw [ev_qn]; exact .bind h
theorem w_frz (h : W (evE F a ρ S) (fun u S1 => ∃ n xs, u = .ref n ∧ S1[n]? = some (.liv (.lst xs)) ∧ Q (.lst xs) (S1.set n .ded)) E) : W (evE F (.frz a) ρ S) Q E := by
  rw [ev_frz]
  refine .bind (h.mono (fun u S1 ⟨n, xs, e1, e2, q⟩ => ?_) fun _ _ x => x)
  subst e1
  dsimp only
  rw [e2]; exact q
theorem w_dnew (q : Q (.ref S.length) (S ++ [.liv (.dct [])])) : W (evE F .dnew ρ S) Q E := by rw [evE]; exact q
theorem w_dget (h : W (evE F a ρ S) (fun u S1 => (dctOf S1 u).isSome = true ∧ W (evE F b ρ S1) (fun v S2 => W (evE F c ρ S2) (fun z S3 => ∃ y, dgetU S3 u v z = some y ∧ Q y S3) E) E) E) : W (evE F (.dget a b c) ρ S) Q E := by
  rw [evE]
  refine .bind (h.mono (fun u S1 ⟨e, h⟩ => ?_) fun _ _ x => x)
  rw [if_pos e]
  exact .bind (h.mono (fun v S2 h => .bind (h.mono (fun z S3 ⟨y, e, q⟩ => .opt e q) fun _ _ x => x)) fun _ _ x => x)
theorem w_nil (q : Qs [] S) : W (evEs F [] ρ S) Qs E := .eq es_nil q
theorem w_cons {es : List EX} (h : W (evE F a ρ S) (fun u S1 => W (evEs F es ρ S1) (fun us S2 => Qs (u :: us) S2) E) E) : W (evEs F (a :: es) ρ S) Qs E := by
  rw [evEs]
  exact .bind (h.mono (fun u S1 h => .bind h) fun _ _ x => x)
/-! new lists -/
theorem w_disp {es : List EX} (h : W (evEs F es ρ S) Qs E) : W (evQ F (.disp es) ρ S) Qs E := by rw [evQ]; exact h
theorem w_lof (h : W (evE F a ρ S) (fun u S1 => ∃ xs, seqOf S1 u = some xs ∧ Qs xs S1) E) : W (evQ F (.lof a) ρ S) Qs E := by
  rw [evQ]
  exact .bind (h.mono (fun u S1 ⟨z, e, q⟩ => .opt e q) fun _ _ x => x)
theorem w_srt (h : W (evE F a ρ S) (fun u S1 => ∃ xs ys, seqOf S1 u = some xs ∧ srtU xs = some ys ∧ Qs ys S1) E) : W (evQ F (.srt a) ρ S) Qs E := by
  rw [evQ]
  refine .bind (h.mono (fun u S1 ⟨xs, ys, e, e2, q⟩ => ?_) fun _ _ x => x)
  rw [e]; exact .opt e2 q
theorem w_rep {es : List EX} (h : W (evEs F es ρ S) (fun us S1 => W (evE F a ρ S1) (fun v S2 => ∃ k : Int, v = .int k ∧ (us.length * k.toNat ≤ lim ∧ -(2 ^ 63) ≤ k ∧ k < 2 ^ 63) ∧ Qs (List.replicate k.toNat us).flatten S2) E) E) : W (evQ F (.rep es a) ρ S) Qs E := by
  rw [evQ]
  refine .bind (h.mono (fun u S1 h => .bind (h.mono (fun v S2 ⟨k, e, hk, q⟩ => ?_) fun _ _ x => x)) fun _ _ x => x)
  subst e
  dsimp only
  rw [if_pos hk]; exact q
theorem w_comp {t : TX} {it : IX} {cd : Option EX} {el : EX} {own : List Nat} (h : W (evI F it ρ S) (fun p S1 => p.1.length ≤ lim ∧ p.2 = none ∧ W (compL (stepC own (evT F t) (evC F cd) (evE F el) ρ) p.1 S1) Qs E) E) : W (evQ F (.comp t it cd el own) ρ S) Qs E := by
  rw [ev_comp]
  refine .bind (h.mono (fun p S1 ⟨e1, e2, q⟩ => ?_) fun _ _ x => x)
  try dsimp only
  rw [if_pos e1, e2]; exact q
/-! walks -/
section
variable {Qp : List U × Option Nat → Sto → Prop}
theorem w_val (h : W (evE F a ρ S) (fun u S1 => ∃ p, lockOf S1 u = some p ∧ Qp p S1) E) : W (evI F (.val a) ρ S) Qp E := by
  rw [evI]
  exact .bind (h.mono (fun u S1 ⟨z, e, q⟩ => .opt e q) fun _ _ x => x)
theorem w_rng1 (h : W (evE F a ρ S) (fun u S1 => ∃ j, u = .int j ∧ small j = true ∧ Qp (iotaU 0 j.toNat, none) S1) E) : W (evI F (.rng1 a) ρ S) Qp E := by
  rw [evI]
  refine .bind (h.mono (fun u S1 ⟨j, e, hs, q⟩ => ?_) fun _ _ x => x)
  subst e
  dsimp only
  rw [if_pos hs]; exact q
theorem w_rng2 (h : W (evE F a ρ S) (fun u S1 => W (evE F b ρ S1) (fun v S2 => ∃ i j, u = .int i ∧ v = .int j ∧ small i = true ∧ small j = true ∧ Qp (iotaU i (j - i).toNat, none) S2) E) E) : W (evI F (.rng2 a b) ρ S) Qp E := by
  rw [evI]
  refine .bind (h.mono (fun u S1 h => .bind (h.mono (fun v S2 ⟨i, j, e, e2, hs, hs2, q⟩ => ?_) fun _ _ x => x)) fun _ _ x => x)
  subst e e2
  dsimp only
  rw [if_pos ⟨hs, hs2⟩]; exact q
theorem w_rng3 (h : W (evE F a ρ S) (fun u S1 => W (evE F b ρ S1) (fun v S2 => W (evE F c ρ S2) (fun z S3 => ∃ i j, u = .int i ∧ v = .int j ∧ z = .int (-1) ∧ small i = true ∧ small j = true ∧ Qp (iotaC i (-1) (i - j).toNat, none) S3) E) E) E) : W (evI F (.rng3 a b c) ρ S) Qp E := by
  rw [evI]
  refine .bind (h.mono (fun u S1 h => .bind (h.mono (fun v S2 h => .bind (h.mono (fun z S3 ⟨i, j, e, e2, e3, hs, hs2, q⟩ => ?_) fun _ _ x => x)) fun _ _ x => x)) fun _ _ x => x)
  subst e e2 e3
  show W (if small i = true ∧ small j = true then R.ok (iotaC i (-1) (i - j).toNat, none) _ else .stuck) Qp E
  rw [if_pos ⟨hs, hs2⟩]; exact q
theorem w_enum (h : W (evE F a ρ S) (fun u S1 => ∃ xs l, lockOf S1 u = some (xs, l) ∧ Qp (enumU 0 xs, l) S1) E) : W (evI F (.enum a) ρ S) Qp E := by
  rw [evI]
  refine .bind (h.mono (fun u S1 ⟨xs, l, e, q⟩ => ?_) fun _ _ x => x)
  rw [e]; exact q
def zipOf : U → U → Option (List U)
  | .tup xs, .tup ys => some (zipU xs ys)
  | .lst xs, .lst ys => some (zipU xs ys)
  | _, _ => none
theorem w_zip2 (h : W (evE F a ρ S) (fun u S1 => W (evE F b ρ S1) (fun v S2 => ∃ zs, zipOf u v = some zs ∧ Qp (zs, none) S2) E) E) : W (evI F (.zip2 a b) ρ S) Qp E := by
  rw [evI]
  refine .bind (h.mono (fun u S1 h => .bind (h.mono (fun v S2 ⟨zs, e, q⟩ => ?_) fun _ _ x => x)) fun _ _ x => x)
  unfold zipOf at e
  split at e <;> cases e <;> exact q
end
/-! statements -/
theorem ws_nil (p : P (.nx ρ) S) : WS (evSs F w [] ρ S) P := by rw [ev_nil]; exact p
theorem ws_cons {s : SX} {ss : List SX} (h : WS (evS F w s ρ S) (fun o S1 => match o with | .nx ρ1 => WS (evSs F w ss ρ1 S1) P | o => P o S1)) : WS (evSs F w (s :: ss) ρ S) P := by
  rw [ev_cons]
  dsimp only
  revert h
  cases evS F w s ρ S with
  | stuck => exact fun h => h
  | ok o S1 => cases o <;> exact fun h => h
theorem ws_ex (h : W (evE F a ρ S) (fun _ S1 => P (.nx ρ) S1) (fun c S1 => P (.ex c ρ) S1)) : WS (evS F w (.ex a) ρ S) P := by
  rw [evS]; exact .toS h
theorem ws_set {t : TX} (h : W (evE F a ρ S) (fun u S1 => ∃ ρ1 S2, evT F t u ρ S1 = some (ρ1, S2) ∧ P (.nx ρ1) S2) (fun c S1 => P (.ex c ρ) S1)) : WS (evS F w (.set t a) ρ S) P := by
  rw [ev_set]
  refine .toS (h.mono (fun u S1 ⟨ρ1, S2, e, p⟩ => ?_) fun _ _ x => x)
  rw [e]; exact p
theorem ws_nm {i : Nat} (h : W (evE F a ρ S) (fun u S1 => P (.nx (ρ.set i (some u))) S1) (fun c S1 => P (.ex c ρ) S1)) (hi : decide (i < ρ.length) = true) : WS (evS F w (.set (.nm i) a) ρ S) P := by
  refine ws_set (h.mono (fun u S1 p => ⟨_, _, ?_, p⟩) fun _ _ x => x)
  rw [evT]; exact if_pos (of_decide_eq_true hi)
theorem ws_par {is : List Nat} {es : List EX} (h : W (evEs F es ρ S) (fun us S1 => is.length = us.length ∧ is.all (· < ρ.length) = true ∧ P (.nx (setAll is us ρ)) S1) (fun c S1 => P (.ex c ρ) S1)) : WS (evS F w (.par is es) ρ S) P := by
  rw [ev_par]
  refine .toS (h.mono (fun u S1 ⟨e1, e2, p⟩ => ?_) fun _ _ x => x)
  rw [if_pos ⟨e1, e2⟩]; exact p
theorem ws_if {x y : List SX} (h : W (evE F c ρ S) (fun u S1 => ∃ k, truU S1 u = some k ∧ (k = true → WS (evSs F w x ρ S1) P) ∧ (k = false → WS (evSs F w y ρ S1) P)) (fun c S1 => P (.ex c ρ) S1)) : WS (evS F w (.ife c x y) ρ S) P := by
  rw [ev_ife]
  refine .toS (h.mono (fun u S1 ⟨k, e, p, q⟩ => ?_) fun _ _ x => x)
  rw [e]
  cases k with
  | true => exact p rfl
  | false => exact q rfl
theorem ws_ret (h : W (evE F a ρ S) (fun u S1 => P (.rt u) S1) (fun c S1 => P (.ex c ρ) S1)) : WS (evS F w (.ret a) ρ S) P := by
  rw [evS]; exact .toS h
theorem ws_retN (p : P (.rt .non) S) : WS (evS F w .retN ρ S) P := by rw [evS]; exact p
theorem ws_brk (p : P (.bk ρ) S) : WS (evS F w .brk ρ S) P := by rw [evS]; exact p
theorem ws_cnt (p : P (.ct ρ) S) : WS (evS F w .cnt ρ S) P := by rw [evS]; exact p
theorem ws_pass (p : P (.nx ρ) S) : WS (evS F w .pass ρ S) P := by rw [evS]; exact p
theorem ws_rai {c : Nat} (p : P (.ex c ρ) S) : WS (evS F w (.rai c) ρ S) P := by rw [evS]; exact p
/-- what a turn's end means -/
def turnP (I : Rho → Sto → Prop) (P : Out → Sto → Prop) : Out → Sto → Prop
  | .nx ρ, S => I ρ S
  | .ct ρ, S => I ρ S
  | .bk ρ, S => P (.nx ρ) S
  | .rt u, S => P (.rt u) S
  | .ex c ρ, S => P (.ex c ρ) S
theorem wl_inv {step : U → Rho → Sto → SR} (I : Nat → Rho → Sto → Prop) : ∀ (us : List U) (k : Nat) (ρ : Rho) (S : Sto), I k ρ S →
    (∀ (i : Nat) (x : U) (ρ : Rho) (S : Sto), us[i]? = some x → I (k + i) ρ S → WS (step x ρ S) (turnP (I (k + i + 1)) P)) → (∀ ρ S, I (k + us.length) ρ S → P (.nx ρ) S) → WS (forL step us ρ S) P
  | [], k, ρ, S, h, _, hp => hp ρ S h
  | x :: us, k, ρ, S, h, hs, hp => by
    have h0 := hs 0 x ρ S rfl h
    rw [forL]
    have next : ∀ ρ1 S1, I (k + 0 + 1) ρ1 S1 → WS (forL step us ρ1 S1) P := fun ρ1 S1 h1 => wl_inv I us (k + 1) ρ1 S1 h1 (fun i y ρ S hy hp => by
      have e : k + 1 + i = k + (i + 1) := by omega
      rw [e] at hp ⊢
      exact hs (i + 1) y ρ S (by simpa using hy) hp) fun ρ S h => hp ρ S (by
      have e : k + (x :: us).length = k + 1 + us.length := by simp; omega
      rw [e]; exact h)
    revert h0
    cases step x ρ S with
    | stuck => exact fun h => h
    | ok o S1 =>
      cases o with
      | nx ρ1 => exact fun h => next ρ1 S1 h
      | ct ρ1 => exact fun h => next ρ1 S1 h
      | bk ρ1 => exact fun h => h
      | rt u => exact fun h => h
      | ex c ρ1 => exact fun h => h
theorem ws_fo {t : TX} {it : IX} {bd : List SX} (h : W (evI F it ρ S) (fun p S1 => p.2 = none ∧ WS (forL (stepF (evT F t) (evSs F w bd)) p.1 ρ S1) P) (fun c S1 => P (.ex c ρ) S1)) : WS (evS F w (.fo t it bd) ρ S) P := by
  rw [ev_fo]
  refine .toS (h.mono (fun p S1 ⟨e, q⟩ => ?_) fun _ _ x => x)
  rw [e]; exact q
/-- while, by an invariant and a measure below w -/
theorem wh_inv {F : Nat → List U → Sto → R U} {c : EX} {bd : List SX} {w : Nat} (I : Nat → Rho → Sto → Prop)
    (hs : ∀ m ρ S, I m ρ S → W (evE F c ρ S) (fun u S1 => ∃ k, truU S1 u = some k ∧ (k = true → 0 < m ∧ WS (evSs F w bd ρ S1) (turnP (I (m - 1)) P)) ∧ (k = false → P (.nx ρ) S1)) (fun c S1 => P (.ex c ρ) S1)) :
    ∀ (v m : Nat) (ρ : Rho) (S : Sto), I m ρ S → m < v → WS (whL (evE F c) (evSs F w bd) v ρ S) P
  | 0, m, ρ, S, h, hv => absurd hv (Nat.not_lt_zero _)
  | v + 1, m, ρ, S, h, hv => by
    have h0 := hs m ρ S h
    rw [whL]
    revert h0
    cases evE F c ρ S with
    | stuck => exact fun h => h
    | ex c S0 => exact fun h => h
    | ok u S0 =>
      rintro ⟨k, e, h1, h2⟩
      dsimp only
      rw [e]
      cases k with
      | false => exact h2 rfl
      | true =>
        dsimp only
        obtain ⟨hm, h1⟩ := h1 rfl
        revert h1
        have next : ∀ ρ1 S1, I (m - 1) ρ1 S1 → WS (whL (evE F c) (evSs F w bd) v ρ1 S1) P := fun ρ1 S1 h => wh_inv I hs v (m - 1) ρ1 S1 h (by omega)
        cases evSs F w bd ρ S0 with
        | stuck => exact fun h => h
        | ok o S1 =>
          cases o with
          | nx ρ1 => exact fun h => next ρ1 S1 h
          | ct ρ1 => exact fun h => next ρ1 S1 h
          | bk ρ1 => exact fun h => h
          | rt u => exact fun h => h
          | ex c ρ1 => exact fun h => h
theorem ws_wh {bd : List SX} (h : WS (whL (evE F c) (evSs F w bd) w ρ S) P) : WS (evS F w (.wh c bd) ρ S) P := by
  rw [ev_wh]; exact h
theorem ws_try {bd : List SX} {n cc i : Nat} {hd : List SX} (h : WS (evSs F w bd ρ S) (fun o S1 => match o with
    | .ex c' ρ1 => (c' = cc ∧ i < ρ1.length ∧ WS (evSs F w hd (ρ1.set i (some (.exc c'))) S1) (fun o2 S2 => match o2 with
        | .nx ρ2 => P (.nx (ρ2.set i none)) S2
        | .rt u => P (.rt u) S2
        | _ => False)) ∨ (c' ≠ cc ∧ c' < n ∧ P (.ex c' ρ1) S1)
    | o => P o S1)) : WS (evS F w (.tryx bd n cc i hd) ρ S) P := by
  have e' : evS F w (.tryx bd n cc i hd) = tryR n cc i (evSs F w bd) (evSs F w hd) := by funext ρ S; rw [evS] <;> rfl
  rw [e']
  unfold tryR
  revert h
  cases evSs F w bd ρ S with
  | stuck => exact fun h => h
  | ok o S1 =>
    cases o with
    | nx ρ1 => exact fun h => h
    | ct ρ1 => exact fun h => h
    | bk ρ1 => exact fun h => h
    | rt u => exact fun h => h
    | ex c' ρ1 =>
      dsimp only
      rintro (⟨e, hl, h⟩ | ⟨e, hn, h⟩)
      · rw [if_pos e, if_pos hl]
        revert h
        cases evSs F w hd (ρ1.set i (some (.exc c'))) S1 with
        | stuck => exact fun h => h
        | ok o2 S2 => cases o2 <;> first | exact fun h => h | exact fun h => h.elim
      · rw [if_neg e, if_pos hn]; exact h
/-! a turn of a for; a turn of a comprehension -/
theorem wt_nm {i : Nat} {bd : List SX} {x : U} (hi : decide (i < ρ.length) = true) (h : WS (evSs F w bd (ρ.set i (some x)) S) P) : WS (stepF (evT F (.nm i)) (evSs F w bd) x ρ S) P := by
  rw [stepF_nm hi rfl]; exact h
theorem wt_two {i j : Nat} {bd : List SX} {x y : U} (hi : decide (i < ρ.length) = true) (hj : decide (j < ρ.length) = true) (h : WS (evSs F w bd ((ρ.set i (some x)).set j (some y)) S) P) : WS (stepF (evT F (.tp [.nm i, .nm j])) (evSs F w bd) (.tup [x, y]) ρ S) P := by
  rw [stepF_two hi hj rfl]; exact h
section
variable {Qo : Option U → Sto → Prop} {own : List Nat} {el cd : EX} {i j : Nat} {x y : U}
theorem wc_nm (hi : decide (i < ρ.length) = true) (h : W (evE F el ((wipeR ρ own).set i (some x)) S) (fun u S1 => Qo (some u) S1) E) : W (stepC own (evT F (.nm i)) (evC F none) (evE F el) ρ x S) Qo E := by
  rw [stepC, evT, if_pos (by rw [wipeR_len]; exact of_decide_eq_true hi)]
  dsimp only
  rw [evC]
  refine .bind (W.ok ?_)
  rw [if_pos rfl]; exact .bind h
theorem wc_nmI (hi : decide (i < ρ.length) = true) (h : W (evE F cd ((wipeR ρ own).set i (some x)) S) (fun u S1 => ∃ k, truU S1 u = some k ∧ (k = true → W (evE F el ((wipeR ρ own).set i (some x)) S1) (fun u S1 => Qo (some u) S1) E) ∧ (k = false → Qo none S1)) E) : W (stepC own (evT F (.nm i)) (evC F (some cd)) (evE F el) ρ x S) Qo E := by
  rw [stepC, evT, if_pos (by rw [wipeR_len]; exact of_decide_eq_true hi)]
  dsimp only
  rw [evC]
  refine .bind (.bind (h.mono (fun u S1 ⟨k, e, h1, h2⟩ => .opt e ?_) fun _ _ x => x))
  cases k with
  | true => rw [if_pos rfl]; exact .bind (h1 rfl)
  | false => rw [if_neg (by decide)]; exact h2 rfl
theorem wc_two (hi : decide (i < ρ.length) = true) (hj : decide (j < ρ.length) = true) (h : W (evE F el (((wipeR ρ own).set i (some x)).set j (some y)) S) (fun u S1 => Qo (some u) S1) E) : W (stepC own (evT F (.tp [.nm i, .nm j])) (evC F none) (evE F el) ρ (.tup [x, y]) S) Qo E := by
  rw [stepC, t_two (by rw [wipeR_len]; exact hi) (by rw [wipeR_len]; exact hj)]
  dsimp only
  rw [evC]
  refine .bind (W.ok ?_)
  rw [if_pos rfl]; exact .bind h
theorem wc_twoI (hi : decide (i < ρ.length) = true) (hj : decide (j < ρ.length) = true) (h : W (evE F cd (((wipeR ρ own).set i (some x)).set j (some y)) S) (fun u S1 => ∃ k, truU S1 u = some k ∧ (k = true → W (evE F el (((wipeR ρ own).set i (some x)).set j (some y)) S1) (fun u S1 => Qo (some u) S1) E) ∧ (k = false → Qo none S1)) E) : W (stepC own (evT F (.tp [.nm i, .nm j])) (evC F (some cd)) (evE F el) ρ (.tup [x, y]) S) Qo E := by
  rw [stepC, t_two (by rw [wipeR_len]; exact hi) (by rw [wipeR_len]; exact hj)]
  dsimp only
  rw [evC]
  refine .bind (.bind (h.mono (fun u S1 ⟨k, e, h1, h2⟩ => .opt e ?_) fun _ _ x => x))
  cases k with
  | true => rw [if_pos rfl]; exact .bind (h1 rfl)
  | false => rw [if_neg (by decide)]; exact h2 rfl
end
/-- a comprehension whose turns change nothing -/
theorem wq_map {α : Type} {step : U → Sto → R (Option U)} {e g : α → U} {xs : List α} (h : ∀ x ∈ xs, W (step (e x) S) (fun o S1 => o = some (g x) ∧ S1 = S) noE) (q : Qs (xs.map g) S) : W (compL step (xs.map e) S) Qs E :=
  .eq (compL_map fun x hx => (h x hx).of) q
theorem wq_filter {α : Type} {step : U → Sto → R (Option U)} {e g : α → U} {cc : α → Bool} {xs : List α} (h : ∀ x ∈ xs, W (step (e x) S) (fun o S1 => o = (if cc x = true then some (g x) else none) ∧ S1 = S) noE) (q : Qs ((xs.filter cc).map g) S) : W (compL step (xs.map e) S) Qs E :=
  .eq (compL_filter fun x hx => (h x hx).of) q
/-- one with an invariant of the store -/
theorem wq_inv {step : U → Sto → R (Option U)} (I : List U → Sto → Prop) : ∀ (us : List U) (ys : List U) (S : Sto) {Qs : List U → Sto → Prop}, I ys S → (∀ x ∈ us, ∀ ys S, I ys S → W (step x S) (fun o S1 => I (match o with | some y => ys ++ [y] | none => ys) S1) noE) →
    (∀ zs S, I (ys ++ zs) S → Qs zs S) → W (compL step us S) Qs E
  | [], ys, S, Qs, h, _, q => by rw [compL]; exact q [] S (by simpa using h)
  | x :: us, ys, S, Qs, h, hs, q => by
    rw [compL]
    obtain ⟨o, S1, e, h1⟩ := (hs x List.mem_cons_self ys S h).is
    rw [e]
    refine .bind (W.ok ?_)
    refine .bind (wq_inv I us _ S1 h1 (fun y hy => hs y (List.mem_cons_of_mem _ hy)) fun zs S2 h2 => ?_)
    refine W.ok (q _ S2 ?_)
    cases o with
    | some y => simpa using h2
    | none => exact h2
end
section
variable {D : List Fd} {w d i : Nat} {us : List U} {S : Sto} {Q : U → Sto → Prop} {E : Nat → Sto → Prop} {fd : Fd}
def endP (Q : U → Sto → Prop) (E : Nat → Sto → Prop) : Out → Sto → Prop
  | .rt u, S => Q u S
  | .nx _, S => Q .non S
  | .ex c _, S => E c S
  | _, _ => False
theorem w_run (h : D[i]? = some fd) (hl : us.length = fd.np) (hb : WS (evSs (run D w d) w fd.body (us.map some ++ List.replicate (fd.nn - fd.np) none) S) (endP Q E)) : W (run D w (d + 1) i us S) Q E := by
  rw [run_succ h hl]
  revert hb
  cases evSs (run D w d) w fd.body (us.map some ++ List.replicate (fd.nn - fd.np) none) S with
  | stuck => exact fun h => h
  | ok o S1 => cases o <;> exact fun h => h
end
section
variable {F : Nat → List U → Sto → R U} {w : Nat} {ρ : Rho} {S : Sto} {Qs : List U → Sto → Prop} {E : Nat → Sto → Prop} {P : Out → Sto → Prop}
/-- walks over a list that stands in the store: locked meanwhile -/
theorem w_compR {t : TX} {it : IX} {cd : Option EX} {el : EX} {own : List Nat} (h : W (evI F it ρ S) (fun p S1 => ∃ n us, p.1.length ≤ lim ∧ p.2 = some n ∧ S1[n]? = some (.liv (.lst us)) ∧ W (compL (stepC own (evT F t) (evC F cd) (evE F el) ρ) p.1 (S1.set n (.lck (.lst us)))) (fun ys S2 => Qs ys (S2.set n (.liv (.lst us)))) noE) E) : W (evQ F (.comp t it cd el own) ρ S) Qs E := by
  rw [ev_comp]
  refine .bind (h.mono (fun p S1 ⟨n, us, e1, e2, e3, q⟩ => ?_) fun _ _ x => x)
  try dsimp only
  rw [if_pos e1, e2]
  unfold lockd
  dsimp only
  rw [e3]
  exact .bind (q.post fun ys S2 q => W.ok q)
theorem ws_foR {t : TX} {it : IX} {bd : List SX} (h : W (evI F it ρ S) (fun p S1 => ∃ n us, p.2 = some n ∧ S1[n]? = some (.liv (.lst us)) ∧ WS (forL (stepF (evT F t) (evSs F w bd)) p.1 ρ (S1.set n (.lck (.lst us)))) (fun o S2 => P o (S2.set n (.liv (.lst us))))) (fun c S1 => P (.ex c ρ) S1)) : WS (evS F w (.fo t it bd) ρ S) P := by
  rw [ev_fo]
  refine .toS (h.mono (fun p S1 ⟨n, us, e2, e3, q⟩ => ?_) fun _ _ x => x)
  try dsimp only
  rw [e2]
  unfold lockdS
  dsimp only
  rw [e3]
  dsimp only
  revert q
  cases forL (stepF (evT F t) (evSs F w bd)) p.1 ρ (S1.set n (.lck (.lst us))) with
  | stuck => exact fun h => h
  | ok o S2 => exact fun h => h
end
end Ev
set_option Elab.async false
set_option linter.all false
set_option maxRecDepth 100000
set_option maxHeartbeats 1000000
/-! EvP: the laws' common beginnings and the small defs, once for all tables. -/
namespace Ev
theorem lim_of {n : Nat} (h : n ≤ 100000) : n ≤ lim := Nat.le_trans h (by decide)
abbrev tZ (xs : List Int) : U := .tup (xs.map U.int)
abbrev lZ (xs : List Int) : U := .lst (xs.map U.int)
/-! values -/
/-- plain, of depth k at most, no list too long -/
def wf : Nat → U → Prop
  | 0, u => match u with
    | .non => True
    | .bl _ => True
    | .int _ => True
    | _ => False
  | k + 1, u => match u with
    | .non => True
    | .bl _ => True
    | .int _ => True
    | .tup xs => xs.length ≤ lim ∧ ∀ x ∈ xs, wf k x
    | .lst xs => xs.length ≤ lim ∧ ∀ x ∈ xs, wf k x
    | _ => False
theorem wf_int (k : Nat) (i : Int) : wf k (.int i) := by cases k <;> trivial
theorem wf_bl (k : Nat) (i : Bool) : wf k (.bl i) := by cases k <;> trivial
theorem wf_non (k : Nat) : wf k .non := by cases k <;> trivial
theorem wf_tup {k : Nat} {xs : List U} (hl : xs.length ≤ lim) (h : ∀ x ∈ xs, wf k x) : wf (k + 1) (.tup xs) := ⟨hl, h⟩
theorem wf_lst {k : Nat} {xs : List U} (hl : xs.length ≤ lim) (h : ∀ x ∈ xs, wf k x) : wf (k + 1) (.lst xs) := ⟨hl, h⟩
theorem wf_tZ {xs : List Int} (hl : xs.length ≤ lim) (k : Nat) : wf (k + 1) (tZ xs) := wf_tup (by simpa using hl) fun x hx => by
  obtain ⟨i, _, rfl⟩ := List.mem_map.mp hx
  exact wf_int _ _
theorem wf_lZ {xs : List Int} (hl : xs.length ≤ lim) (k : Nat) : wf (k + 1) (lZ xs) := wf_lst (by simpa using hl) fun x hx => by
  obtain ⟨i, _, rfl⟩ := List.mem_map.mp hx
  exact wf_int _ _
mutual
/-- tuples in the place of lists -/
def tupU : U → U
  | .tup xs => .tup (tupUs xs)
  | .lst xs => .tup (tupUs xs)
  | u => u
def tupUs : List U → List U
  | [] => []
  | x :: xs => tupU x :: tupUs xs
end
theorem tupUs_map : ∀ xs : List U, tupUs xs = xs.map tupU
  | [] => rfl
  | x :: xs => by rw [tupUs, tupUs_map xs]; rfl
theorem tupU_tZ (xs : List Int) : tupU (tZ xs) = tZ xs := by
  show U.tup (tupUs _) = _
  rw [tupUs_map, List.map_map]; rfl
theorem tupU_lZ (xs : List Int) : tupU (lZ xs) = tZ xs := by
  show U.tup (tupUs _) = _
  rw [tupUs_map, List.map_map]; rfl
mutual
/-- lists in the place of tuples -/
def lstU : U → U
  | .tup xs => .lst (lstUs xs)
  | .lst xs => .lst (lstUs xs)
  | u => u
def lstUs : List U → List U
  | [] => []
  | x :: xs => lstU x :: lstUs xs
end
theorem lstUs_map : ∀ xs : List U, lstUs xs = xs.map lstU
  | [] => rfl
  | x :: xs => by rw [lstUs, lstUs_map xs]; rfl
mutual
theorem tup_lst : ∀ u : U, tupU (lstU u) = tupU u
  | .tup xs => by rw [lstU, tupU, tupU, tup_lsts xs]
  | .lst xs => by rw [lstU, tupU, tupU, tup_lsts xs]
  | .non => rfl
  | .bl _ => rfl
  | .int _ => rfl
  | .str _ => rfl
  | .fz _ => rfl
  | .ref _ => rfl
  | .exc _ => rfl
theorem tup_lsts : ∀ us : List U, tupUs (lstUs us) = tupUs us
  | [] => rfl
  | x :: xs => by rw [lstUs, tupUs, tupUs, tup_lst x, tup_lsts xs]
end
theorem lst_wf : ∀ (k : Nat) (u : U), wf k u → wf k (lstU u)
  | k + 1, .tup xs, h => by
    rw [lstU, lstUs_map]
    exact ⟨by simpa using h.1, fun x hx => by
      obtain ⟨y, hy, rfl⟩ := List.mem_map.mp hx
      exact lst_wf k y (h.2 y hy)⟩
  | k + 1, .lst xs, h => by
    rw [lstU, lstUs_map]
    exact ⟨by simpa using h.1, fun x hx => by
      obtain ⟨y, hy, rfl⟩ := List.mem_map.mp hx
      exact lst_wf k y (h.2 y hy)⟩
  | 0, .tup xs, h => h.elim
  | 0, .lst xs, h => h.elim
  | _, .non, h => h
  | _, .bl _, h => h
  | _, .int _, h => h
  | 0, .str _, h => h
  | 0, .fz _, h => h
  | 0, .ref _, h => h
  | 0, .exc _, h => h
  | _ + 1, .str _, h => h
  | _ + 1, .fz _, h => h
  | _ + 1, .ref _, h => h
  | _ + 1, .exc _, h => h
theorem eqUs_of : ∀ {xs : List U}, (∀ x ∈ xs, eqU x x = true) → eqUs xs xs = true
  | [], _ => rfl
  | x :: xs, h => by rw [eqUs, h x List.mem_cons_self, eqUs_of fun y hy => h y (List.mem_cons_of_mem _ hy)]; rfl
theorem wf_eq : ∀ (k : Nat) (u : U), wf k u → eqU u u = true
  | k + 1, .tup xs, h => by rw [eqU]; exact eqUs_of fun x hx => wf_eq k x (h.2 x hx)
  | k + 1, .lst xs, h => by rw [eqU]; exact eqUs_of fun x hx => wf_eq k x (h.2 x hx)
  | 0, .tup xs, h => h.elim
  | 0, .lst xs, h => h.elim
  | _, .non, h => rfl
  | _, .bl b, h => by rw [eqU]; simp
  | _, .int i, h => by rw [eqU]; simp
  | 0, .str _, h => h.elim
  | 0, .fz _, h => h.elim
  | 0, .ref _, h => h.elim
  | 0, .exc _, h => h.elim
  | _ + 1, .str _, h => h.elim
  | _ + 1, .fz _, h => h.elim
  | _ + 1, .ref _, h => h.elim
  | _ + 1, .exc _, h => h.elim
/-! atoms -/
section
variable {S : Sto} {a b : Int}
theorem cmp_eqI : cmpU S .eq (.int a) (.int b) = some (decide (a = b)) := by simp only [cmpU, rd]; exact eqV_ints a b
theorem cmp_ltI {S : Sto} {a b : Int} : cmpU S .lt (.int a) (.int b) = some (decide (a < b)) := rfl
theorem cmp_leI {S : Sto} {a b : Int} : cmpU S .le (.int a) (.int b) = some (decide (a ≤ b)) := rfl
theorem cmp_gtI {S : Sto} {a b : Int} : cmpU S .gt (.int a) (.int b) = some (decide (a > b)) := rfl
theorem cmp_geI {S : Sto} {a b : Int} : cmpU S .ge (.int a) (.int b) = some (decide (a ≥ b)) := rfl
theorem bin_addI {S : Sto} {a b : Int} : binU S .add (.int a) (.int b) = some (.int (a + b)) := rfl
theorem bin_subI {S : Sto} {a b : Int} : binU S .sub (.int a) (.int b) = some (.int (a - b)) := rfl
theorem cmp_neI : cmpU S .ne (.int a) (.int b) = some (decide (a ≠ b)) := by
  show (eqV? (.int a) (.int b)).map (!·) = _
  rw [eqV_ints]; simp
theorem cmp_eqB {a b : Bool} : cmpU S .eq (.bl a) (.bl b) = some (a == b) := by simp only [cmpU, rd]; exact eqV_bls a b
theorem cmp_neB {a b : Bool} : cmpU S .ne (.bl a) (.bl b) = some (!(a == b)) := by
  show (eqV? (.bl a) (.bl b)).map (!·) = _
  rw [eqV_bls]; rfl
theorem cmp_eqT {xs ys : List Int} : cmpU S .eq (tZ xs) (tZ ys) = some (decide (xs = ys)) := by simp only [cmpU, rd]; exact eqV_tups xs ys
theorem cmp_neT {xs ys : List Int} : cmpU S .ne (tZ xs) (tZ ys) = some (decide (xs ≠ ys)) := by
  show (eqV? (tZ xs) (tZ ys)).map (!·) = _
  rw [eqV_tups]; simp
theorem cmp_eqT0 {xs : List Int} : cmpU S .eq (tZ xs) (.tup []) = some (decide (xs = [])) := cmp_eqT (ys := [])
theorem cmp_neT0 {xs : List Int} : cmpU S .ne (tZ xs) (.tup []) = some (decide (xs ≠ [])) := cmp_neT (ys := [])
theorem eqV_lists (xs ys : List Int) : eqV? (lZ xs) (lZ ys) = some (decide (xs = ys)) := by
  unfold eqV?
  rw [if_pos ⟨by rw [okD]; exact okDs_ints 19 xs, by rw [okD]; exact okDs_ints 19 ys⟩, eqU, eqUs_ints]
theorem cmp_eqL {xs ys : List Int} : cmpU S .eq (lZ xs) (lZ ys) = some (decide (xs = ys)) := by simp only [cmpU, rd]; exact eqV_lists xs ys
theorem cmp_neL {xs ys : List Int} : cmpU S .ne (lZ xs) (lZ ys) = some (decide (xs ≠ ys)) := by
  show (eqV? (lZ xs) (lZ ys)).map (!·) = _
  rw [eqV_lists]; simp
theorem cmp_eqL0 {xs : List Int} : cmpU S .eq (lZ xs) (.lst []) = some (decide (xs = [])) := cmp_eqL (ys := [])
theorem cmp_neL0 {xs : List Int} : cmpU S .ne (lZ xs) (.lst []) = some (decide (xs ≠ [])) := cmp_neL (ys := [])
theorem bin_mul (h : (-(2 ^ 64) < a ∧ a < 2 ^ 64) ∨ (-(2 ^ 64) < b ∧ b < 2 ^ 64)) : binU S .mul (.int a) (.int b) = some (.int (a * b)) := by
  show (if mulOk a b = true then _ else _) = _
  rw [if_pos (by rcases h with h | h; exact mul_l h.1 h.2; exact mul_r h.1 h.2)]
theorem bin_mod (h : 0 < b) : binU S .mod (.int a) (.int b) = some (.int (a % b)) := by
  show (if 0 < b then _ else _) = _
  rw [if_pos h]
theorem bin_div (h : 0 < b) (h2 : b.natAbs.log2 < 9000) : binU S .fdiv (.int a) (.int b) = some (.int (a / b)) := by
  show (if 0 < b ∧ b.natAbs.log2 < 9000 then _ else _) = _
  rw [if_pos ⟨h, h2⟩]
theorem bin_div' (h : 0 < b) (h2 : b < 2 ^ 64) : binU S .fdiv (.int a) (.int b) = some (.int (a / b)) := bin_div h (log_ok h h2).2
theorem bin_appT {xs ys : List U} (h : xs.length + ys.length ≤ lim) : binU S .add (.tup xs) (.tup ys) = some (.tup (xs ++ ys)) := by
  show (if xs.length + ys.length ≤ lim then _ else _) = _
  rw [if_pos h]
theorem bin_appL {xs ys : List U} (h : xs.length + ys.length ≤ lim) : binU S .add (.lst xs) (.lst ys) = some (.lst (xs ++ ys)) := by
  show (if xs.length + ys.length ≤ lim then _ else _) = _
  rw [if_pos h]
theorem bin_tZ {xs ys : List Int} (h : xs.length + ys.length ≤ lim) : binU S .add (tZ xs) (tZ ys) = some (tZ (xs ++ ys)) := by
  rw [bin_appT (by simpa using h), ← List.map_append]
theorem bin_repT {xs : List U} {k : Int} (h1 : xs.length ≤ 1000) (h2 : k ≤ 1000) (h3 : -(2 ^ 62) ≤ k) : binU S .mul (.tup xs) (.int k) = some (.tup (List.replicate k.toNat xs).flatten) := by
  show (if xs.length ≤ 1000 ∧ k ≤ 1000 ∧ -(2 ^ 62) ≤ k then _ else _) = _
  rw [if_pos ⟨h1, h2, h3⟩]
theorem bin_rep1 {x : Int} {k : Int} (h2 : k ≤ 1000) (h3 : -(2 ^ 62) ≤ k) : binU S .mul (.tup [.int x]) (.int k) = some (tZ (List.replicate k.toNat x)) := by
  rw [bin_repT (by simp) h2 h3]
  congr 2
  induction k.toNat with
  | zero => rfl
  | succ n ih => rw [List.replicate_succ, List.flatten_cons, ih, List.replicate_succ]; rfl
theorem sum_tZ {xs : List Int} : biU S .sum [tZ xs] = some (.int xs.sum) := by
  show (match seqOf S (tZ xs) with | some xs => (intsOf xs).map fun (ns : List Int) => U.int ns.sum | none => none) = _
  show (intsOf (xs.map U.int)).map _ = _
  rw [intsOf_int]; rfl
theorem sum_lZ {xs : List Int} : biU S .sum [lZ xs] = some (.int xs.sum) := by
  show (intsOf (xs.map U.int)).map _ = _
  rw [intsOf_int]; rfl
theorem all_of {α : Type} {g : α → Bool} {xs : List α} : biU S .all [.lst (xs.map fun x => U.bl (g x))] = some (.bl (xs.all g)) := by
  show (blsOf _).map _ = _
  rw [blsOf_map, Option.map_some, List.all_map]; rfl
theorem any_of {α : Type} {g : α → Bool} {xs : List α} : biU S .any [.lst (xs.map fun x => U.bl (g x))] = some (.bl (xs.any g)) := by
  show (blsOf _).map _ = _
  rw [blsOf_map, Option.map_some, List.any_map]; rfl
theorem mapI {xs : List Int} {i : Nat} (h : i < xs.length) : (xs.map U.int)[i]? = some (.int xs[i]) := by rw [List.getElem?_map, List.getElem?_eq_getElem h]; rfl
theorem ix_tZ {xs : List Int} {i : Nat} (h : i < xs.length) : ixU S (tZ xs) (.int (i : Int)) = some (.int xs[i]) := ix_tup (mapI h)
theorem ix_lZ {xs : List Int} {i : Nat} (h : i < xs.length) : ixU S (lZ xs) (.int (i : Int)) = some (.int xs[i]) := ix_lst (mapI h)
theorem ix_tZl {xs : List Int} (h : xs ≠ []) : ixU S (tZ xs) (.int (-1)) = some (.int (xs.getLast h)) := ix_last (by rw [List.getLast?_map, List.getLast?_eq_some_getLast h]; rfl)
theorem iota0 (n : Nat) : iotaU 0 n = (List.range n).map fun (i : Nat) => U.int (i : Int) := by
  rw [iota_map]; apply List.map_congr_left; intro i _; rw [Int.zero_add]
theorem min2_eq : biU S .min2 [.int a, .int b] = some (.int (min a b)) := by
  show some (U.int (if b < a then b else a)) = _
  congr 2; split <;> omega
theorem max2_eq : biU S .max2 [.int a, .int b] = some (.int (max a b)) := by
  show some (U.int (if b > a then b else a)) = _
  congr 2; split <;> omega
theorem srt_ints (xs : List Int) : srtU (xs.map U.int) = some ((srtI xs).map U.int) := by
  unfold srtU
  split
  · rename_i h
    rw [List.length_map] at h
    match xs, h with
    | [], _ => rfl
    | [x], _ => rfl
  · rw [intsOf_int]
theorem zip_tZ {xs ys : List Int} : zipOf (tZ xs) (tZ ys) = some ((xs.zip ys).map fun p => U.tup [U.int p.1, U.int p.2]) := by
  show some (zipU _ _) = _
  rw [zip_ints]
end
section
variable {S : Sto} {p A B : Prop} [Decidable p]
theorem br_bl (h : (p → A) ∧ (¬ p → B)) : ∃ k, U.bl (decide p) = .bl k ∧ (k = true → A) ∧ (k = false → B) := ⟨_, rfl, fun e => h.1 (of_decide_eq_true e), fun e => h.2 (of_decide_eq_false e)⟩
theorem br_blO (h : (¬ p → A) ∧ (p → B)) : ∃ k, U.bl (decide p) = .bl k ∧ (k = false → A) ∧ (k = true → B) := ⟨_, rfl, fun e => h.1 (of_decide_eq_false e), fun e => h.2 (of_decide_eq_true e)⟩
theorem br_blN (h : (¬ p → A) ∧ (p → B)) : ∃ k, U.bl (!decide p) = .bl k ∧ (k = true → A) ∧ (k = false → B) := ⟨_, rfl, fun e => h.1 (by simpa using e), fun e => h.2 (by simpa using e)⟩
theorem br_and (h : (p → A) ∧ (¬ p → B)) : (decide p = true → A) ∧ (decide p = false → B) := ⟨fun e => h.1 (of_decide_eq_true e), fun e => h.2 (of_decide_eq_false e)⟩
theorem br_tr (h : (p → A) ∧ (¬ p → B)) : ∃ k, truU S (.bl (decide p)) = some k ∧ (k = true → A) ∧ (k = false → B) := ⟨_, rfl, fun e => h.1 (of_decide_eq_true e), fun e => h.2 (of_decide_eq_false e)⟩
theorem br_trN (h : (¬ p → A) ∧ (p → B)) : ∃ k, truU S (.bl (!decide p)) = some k ∧ (k = true → A) ∧ (k = false → B) := ⟨_, rfl, fun e => h.1 (by simpa using e), fun e => h.2 (by simpa using e)⟩
end
section
variable {S : Sto}
theorem len_tZ {xs : List Int} : biU S .len [tZ xs] = some (.int xs.length) := by simp [biU, seqOf, rd]
theorem len_lZ {xs : List Int} : biU S .len [lZ xs] = some (.int xs.length) := by simp [biU, seqOf, rd]
theorem rev_tZ {xs : List Int} : revU S (tZ xs) = some (tZ xs.reverse) := by simp [revU, rd]
theorem rev_lZ {xs : List Int} : revU S (lZ xs) = some (lZ xs.reverse) := by simp [revU, rd]
end
local macro_rules | `(tactic| walk_at "w") => `(tactic| (first
  | (with_reducible refine ws_cons ?_) | (with_reducible refine ws_nil ?_) | (with_reducible refine ws_nm ?_ rfl) | (with_reducible refine ws_set ?_) | (with_reducible refine ws_par ?_) | (with_reducible refine ws_if ?_) | (with_reducible refine ws_ret ?_) | (with_reducible refine ws_retN ?_) | (with_reducible refine ws_brk ?_) | (with_reducible refine ws_cnt ?_) | (with_reducible refine ws_pass ?_) | (with_reducible refine ws_rai ?_) | (with_reducible refine ws_ex ?_) | (with_reducible refine ws_fo ?_) | (with_reducible refine ws_wh ?_)
  | (with_reducible refine w_varE ?_; refine ⟨_, rfl, ?_⟩) | (with_reducible refine w_cst ?_) | (with_reducible refine w_tup ?_) | (with_reducible refine w_bin ?_) | (with_reducible refine w_cmp ?_) | (with_reducible refine w_ch2 ?_) | (with_reducible refine w_and ?_) | (with_reducible refine w_or ?_) | (with_reducible refine w_not ?_) | (with_reducible refine w_ite ?_) | (with_reducible refine w_ix ?_) | (with_reducible refine w_sl ?_) | (with_reducible refine w_oNone ?_) | (with_reducible refine w_oSome ?_) | (with_reducible refine w_rev ?_) | (with_reducible refine w_call ?_) | (with_reducible refine w_bi ?_) | (with_reducible refine w_ist ?_) | (with_reducible refine w_mth ?_) | (with_reducible refine w_qv ?_) | (with_reducible refine w_qn ?_) | (with_reducible refine w_frz ?_) | (with_reducible refine w_dnew ?_) | (with_reducible refine w_dget ?_) | (with_reducible refine w_nil ?_) | (with_reducible refine w_cons ?_)
  | (with_reducible refine w_disp ?_) | (with_reducible refine w_lof ?_) | (with_reducible refine w_srt ?_) | (with_reducible refine w_rep ?_) | (with_reducible refine w_comp ?_) | (with_reducible refine w_val ?_) | (with_reducible refine w_rng1 ?_) | (with_reducible refine w_rng2 ?_) | (with_reducible refine w_rng3 ?_) | (with_reducible refine w_enum ?_) | (with_reducible refine w_zip2 ?_)
  | (with_reducible refine wt_nm rfl ?_) | (with_reducible refine wt_two rfl rfl ?_) | (with_reducible refine wc_nm rfl ?_) | (with_reducible refine wc_nmI rfl ?_) | (with_reducible refine wc_two rfl rfl ?_) | (with_reducible refine wc_twoI rfl rfl ?_)))
local macro_rules | `(tactic| walk_at "b") => `(tactic| (first
  | (with_reducible refine br_bl ?_) | (with_reducible refine br_blO ?_) | (with_reducible refine br_tr ?_) | (with_reducible refine br_trN ?_) | (with_reducible refine br_blN ?_) | (with_reducible refine br_and ?_)
  | (with_reducible refine ⟨_, cmp_eqI, ?_⟩) | (with_reducible refine ⟨_, cmp_neI, ?_⟩) | (with_reducible refine ⟨_, cmp_eqB, ?_⟩) | (with_reducible refine ⟨_, cmp_neB, ?_⟩) | (with_reducible refine ⟨_, cmp_eqT0, ?_⟩) | (with_reducible refine ⟨_, cmp_neT0, ?_⟩) | (with_reducible refine ⟨_, cmp_eqT, ?_⟩) | (with_reducible refine ⟨_, cmp_neT, ?_⟩) | (with_reducible refine ⟨_, cmp_eqL0, ?_⟩) | (with_reducible refine ⟨_, cmp_neL0, ?_⟩) | (with_reducible refine ⟨_, cmp_eqL, ?_⟩) | (with_reducible refine ⟨_, cmp_neL, ?_⟩)
  | (with_reducible refine ⟨_, sum_tZ, ?_⟩) | (with_reducible refine ⟨_, sum_lZ, ?_⟩) | (with_reducible refine ⟨_, min2_eq, ?_⟩) | (with_reducible refine ⟨_, max2_eq, ?_⟩) | (with_reducible refine ⟨_, zip_tZ, ?_⟩) | (with_reducible refine ⟨_, len_tZ, ?_⟩) | (with_reducible refine ⟨_, len_lZ, ?_⟩) | (with_reducible refine ⟨_, rev_tZ, ?_⟩) | (with_reducible refine ⟨_, rev_lZ, ?_⟩)))
local macro_rules | `(tactic| walk_at "a") => `(tactic| (first
  | walk_at "b"
  | (refine ⟨_, rfl, fun _ => ?_, fun hh => Bool.noConfusion (show true = false from hh)⟩)
  | (refine ⟨_, rfl, fun hh => Bool.noConfusion (show false = true from hh), fun _ => ?_⟩)
  | (refine ⟨_, rfl, fun _ => ?_, fun hh => Bool.noConfusion (show false = true from hh)⟩)
  | (refine ⟨_, rfl, fun hh => Bool.noConfusion (show true = false from hh), fun _ => ?_⟩)
  | (refine ⟨_, rfl, ?_⟩) | (refine ⟨_, _, rfl, ?_⟩) | (exact ⟨rfl, rfl⟩) | (refine ⟨rfl, rfl, ?_⟩) | (refine ⟨rfl, ?_⟩)))
local macro_rules | `(tactic| walk_at "s") => `(tactic| repeat (first | walk_at "w" | walk_at "b"))
local macro_rules | `(tactic| walk_at "g") => `(tactic| repeat (first | walk_at "w" | walk_at "a"))
section
variable {D : List Fd} {w d : Nat} {S : Sto} {Q : U → Sto → Prop} {E : Nat → Sto → Prop}
def d_is_number : Fd := ⟨1, 1, [.ret (.and (.ist (.var 0) [.int]) (.not (.ist (.var 0) [.bool])))]⟩
theorem w_is_number {i : Nat} (h : D[i]? = some d_is_number) (hd : 1 ≤ d) (x : Int) (q : Q (.bl true) S) : W (run D w d i [.int x] S) Q E := by
  obtain ⟨e, rfl⟩ := at1 hd
  refine w_run h rfl ?_
  show WS (evSs _ _ [_] [some (.int x)] S) _
  walk_at "g"
  exact q
/-- is_within, is_number at j -/
def d_is_within (j : Nat) : Fd := ⟨3, 3, [.ret (.and (.call j [.var 0]) (.ch2 .le .le (.var 1) (.var 0) (.var 2)))]⟩
theorem w_is_within {i j : Nat} (h : D[i]? = some (d_is_within j)) (hj : D[j]? = some d_is_number) (hd : 2 ≤ d) (x a b : Int) (q : Q (.bl (decide (a ≤ x) && decide (x ≤ b))) S) : W (run D w d i [.int x, .int a, .int b] S) Q E := by
  obtain ⟨e, rfl⟩ := at1 (by omega : 1 ≤ d)
  refine w_run h rfl ?_
  show WS (evSs _ _ [_] [some (.int x), some (.int a), some (.int b)] S) _
  walk_at "g"
  refine w_is_number hj (by omega) x ?_
  walk_at "g"
  refine ⟨fun h1 => ?_, fun h1 => ?_⟩
  · walk_at "g"
    rw [decide_eq_true h1] at q; exact q
  · rw [decide_eq_false h1] at q; exact q
def d_is_from (j : Nat) : Fd := ⟨2, 2, [.ret (.and (.call j [(.var 0)]) (.cmp .ge (.var 0) (.var 1)))]⟩
theorem w_is_from {i j : Nat} (h : D[i]? = some (d_is_from j)) (hj : D[j]? = some d_is_number) (hd : 2 ≤ d) (x a : Int) (q : Q (.bl (decide (a ≤ x))) S) : W (run D w d i [.int x, .int a] S) Q E := by
  obtain ⟨e, rfl⟩ := at1 (by omega : 1 ≤ d)
  refine w_run h rfl ?_
  show WS (evSs _ _ [_] [some (.int x), some (.int a)] S) _
  walk_at "g"
  refine w_is_number hj (by omega) x ?_
  walk_at "g"
  exact q
def d_are_numbers (j : Nat) : Fd := ⟨1, 2, [.ret (.and (.ist (.var 0) [.tuple]) (.bi .all [(.qv (.comp (.nm 1) (.val (.var 0)) none (.call j [(.var 1)]) [1]))]))]⟩
theorem w_are_numbers {i j : Nat} (h : D[i]? = some (d_are_numbers j)) (hj : D[j]? = some d_is_number) (hd : 2 ≤ d) (xs : List Int) (hl : xs.length ≤ 100000) (q : Q (.bl true) S) : W (run D w d i [tZ xs] S) Q E := by
  obtain ⟨e, rfl⟩ := at1 (by omega : 1 ≤ d)
  refine w_run h rfl ?_
  show WS (evSs _ _ [_] [some (tZ xs), none] S) _
  walk_at "g"
  refine ⟨lim_of (by simpa using hl), rfl, wq_map (g := fun _ => .bl true) (fun x _ => ?_) ?_⟩
  · walk_at "g"
    exact w_is_number hj (by omega) x ⟨rfl, rfl⟩
  · walk_at "g"
    refine ⟨_, all_of (g := fun _ => true), ?_⟩
    rw [show (xs.all fun _ => true) = true by simp]
    exact q
def d_tupled (j : Nat) : Fd := ⟨1, 2, [.ret (.ite (.ist (.var 0) [.list, .tuple]) (.bi .tuple [(.qv (.comp (.nm 1) (.val (.var 0)) none (.call j [(.var 1)]) [1]))]) (.var 0))]⟩
theorem w_tupled {i : Nat} (h : D[i]? = some (d_tupled i)) : ∀ (k d : Nat) (u : U) {Q : U → Sto → Prop} {E : Nat → Sto → Prop}, wf k u → k + 1 ≤ d → Q (tupU u) S → W (run D w d i [u] S) Q E := by
  have flat : ∀ (d : Nat) (u : U) {Q : U → Sto → Prop} {E : Nat → Sto → Prop}, 1 ≤ d → (∃ v, vtU S u = some v ∧ ([Ty.list, Ty.tuple].any v.is) = false) → Q u S → W (run D w d i [u] S) Q E := by
    intro d u Q E hd hv q
    obtain ⟨e, rfl⟩ := at1 hd
    obtain ⟨v, hv1, hv2⟩ := hv
    refine w_run h rfl ?_
    show WS (evSs _ _ [_] [some u, none] S) _
    walk_at "w"; walk_at "w"; walk_at "w"; walk_at "w"; walk_at "w"
    refine ⟨v, hv1, ?_⟩
    rw [hv2]
    walk_at "g"
    exact q
  have seq : ∀ (k d : Nat) (us : List U) (u : U) {Q : U → Sto → Prop} {E : Nat → Sto → Prop}, (u = .tup us ∨ u = .lst us) → us.length ≤ lim → 1 ≤ d → (∀ x ∈ us, ∀ {Q : U → Sto → Prop} {E : Nat → Sto → Prop}, Q (tupU x) S → W (run D w (d - 1) i [x] S) Q E) → Q (.tup (us.map tupU)) S → W (run D w d i [u] S) Q E := by
    intro k d us u Q E hu hl hd ih q
    obtain ⟨e, rfl⟩ := at1 hd
    refine w_run h rfl ?_
    show WS (evSs _ _ [_] [some u, none] S) _
    have hm : us = us.map fun x => x := by simp
    rcases hu with rfl | rfl
    · walk_at "g"
      refine ⟨hl, rfl, ?_⟩
      dsimp only
      rw [hm]
      refine wq_map (g := tupU) (fun x hx => ?_) ?_
      · walk_at "g"
        exact ih x hx ⟨rfl, rfl⟩
      · walk_at "g"
        exact q
    · walk_at "g"
      refine ⟨hl, rfl, ?_⟩
      dsimp only
      rw [hm]
      refine wq_map (g := tupU) (fun x hx => ?_) ?_
      · walk_at "g"
        exact ih x hx ⟨rfl, rfl⟩
      · walk_at "g"
        exact q
  intro k
  induction k with
  | zero =>
    intro d u Q E hu hd q
    cases u with
    | non => exact flat d _ hd ⟨_, rfl, rfl⟩ q
    | bl b => exact flat d _ hd ⟨_, rfl, rfl⟩ q
    | int i => exact flat d _ hd ⟨_, rfl, rfl⟩ q
    | _ => exact hu.elim
  | succ k ih =>
    intro d u Q E hu hd q
    cases u with
    | non => exact flat d _ (by omega) ⟨_, rfl, rfl⟩ q
    | bl b => exact flat d _ (by omega) ⟨_, rfl, rfl⟩ q
    | int i => exact flat d _ (by omega) ⟨_, rfl, rfl⟩ q
    | tup xs =>
      rw [tupU, tupUs_map] at q
      exact seq k d xs _ (.inl rfl) hu.1 (by omega) (fun x hx Q E q => ih (d - 1) x (hu.2 x hx) (by omega) q) q
    | lst xs =>
      rw [tupU, tupUs_map] at q
      exact seq k d xs _ (.inr rfl) hu.1 (by omega) (fun x hx Q E q => ih (d - 1) x (hu.2 x hx) (by omega) q) q
    | _ => exact hu.elim
/-- two things of one kind, one by one the same -/
def d_same (j : Nat) : Fd := ⟨2, 4, [.ife (.ist (.var 1) [.list, .tuple]) [.ife (.or (.cmp .ne (.ist (.var 0) [.list]) (.ist (.var 1) [.list])) (.cmp .ne (.ist (.var 0) [.tuple]) (.ist (.var 1) [.tuple]))) [.ret (.cst (.bl false))] [], .ret (.and (.cmp .eq (.bi .len [(.var 0)]) (.bi .len [(.var 1)])) (.bi .all [(.qv (.comp (.tp [(.nm 2), (.nm 3)]) (.zip2 (.var 0) (.var 1)) none (.call j [(.var 2), (.var 3)]) [2, 3]))]))] [], .ife (.cmp .is (.var 1) (.cst .non)) [.ret (.cmp .is (.var 0) (.cst .non))] [], .ife (.ist (.var 1) [.bool, .str]) [.ret (.and (.cmp .eq (.ist (.var 0) [.bool]) (.ist (.var 1) [.bool])) (.and (.cmp .eq (.ist (.var 0) [.str]) (.ist (.var 1) [.str])) (.cmp .eq (.var 0) (.var 1))))] [], .ret (.and (.ist (.var 0) [.int]) (.and (.not (.ist (.var 0) [.bool])) (.cmp .eq (.var 0) (.var 1))))]⟩
theorem zipU_self : ∀ xs : List U, zipU xs xs = xs.map fun x => U.tup [x, x]
  | [] => rfl
  | x :: xs => by rw [zipU, zipU_self xs]; rfl
theorem w_same {i : Nat} (h : D[i]? = some (d_same i)) : ∀ (k d : Nat) (u : U) {Q : U → Sto → Prop} {E : Nat → Sto → Prop}, wf k u → k + 1 ≤ d → Q (.bl true) S → W (run D w d i [u, u] S) Q E := by
  have flat : ∀ (k d : Nat) (u : U) {Q : U → Sto → Prop} {E : Nat → Sto → Prop}, wf k u → 1 ≤ d → (u = .non ∨ (∃ b, u = .bl b) ∨ ∃ i, u = .int i) → Q (.bl true) S → W (run D w d i [u, u] S) Q E := by
    intro k d u Q E hw hd hu q
    obtain ⟨e, rfl⟩ := at1 hd
    refine w_run h rfl ?_
    show WS (evSs _ _ [_, _, _, _] [some u, some u, none, none] S) _
    rcases hu with rfl | ⟨b, rfl⟩ | ⟨i, rfl⟩
    · walk_at "g"
      exact q
    · walk_at "g"
      show Q (.bl (b == b)) S
      simpa using q
    · walk_at "g"
      show Q _ S
      simpa using q
  have seq : ∀ (d : Nat) (us : List U) (u : U) {Q : U → Sto → Prop} {E : Nat → Sto → Prop}, (u = .tup us ∨ u = .lst us) → us.length ≤ lim → 1 ≤ d → (∀ x ∈ us, ∀ {Q : U → Sto → Prop} {E : Nat → Sto → Prop}, Q (.bl true) S → W (run D w (d - 1) i [x, x] S) Q E) → Q (.bl true) S → W (run D w d i [u, u] S) Q E := by
    intro d us u Q E hu hl hd ih q
    obtain ⟨e, rfl⟩ := at1 hd
    refine w_run h rfl ?_
    show WS (evSs _ _ [_, _, _, _] [some u, some u, none, none] S) _
    have fin : ∀ {Q : U → Sto → Prop}, Q (.bl true) S → ∃ z, biU S .all [.lst (us.map fun _ => .bl true)] = some z ∧ Q z S := fun {Q} q => ⟨_, all_of (g := fun _ => true), by
      rw [show (us.all fun _ => true) = true by simp]; exact q⟩
    rcases hu with rfl | rfl
    · walk_at "g"
      refine ⟨fun _ => ?_, fun hh => by simp at hh⟩
      walk_at "g"
      rw [zipU_self]
      refine ⟨by simpa using hl, rfl, wq_map (g := fun _ => .bl true) (fun x hx => ?_) ?_⟩
      · walk_at "g"
        exact ih x hx ⟨rfl, rfl⟩
      · walk_at "g"
        exact fin q
    · walk_at "g"
      refine ⟨fun _ => ?_, fun hh => by simp at hh⟩
      walk_at "g"
      rw [zipU_self]
      refine ⟨by simpa using hl, rfl, wq_map (g := fun _ => .bl true) (fun x hx => ?_) ?_⟩
      · walk_at "g"
        exact ih x hx ⟨rfl, rfl⟩
      · walk_at "g"
        exact fin q
  intro k
  induction k with
  | zero =>
    intro d u Q E hu hd q
    cases u with
    | non => exact flat 0 d _ hu hd (.inl rfl) q
    | bl b => exact flat 0 d _ hu hd (.inr (.inl ⟨_, rfl⟩)) q
    | int i => exact flat 0 d _ hu hd (.inr (.inr ⟨_, rfl⟩)) q
    | _ => exact hu.elim
  | succ k ih =>
    intro d u Q E hu hd q
    cases u with
    | non => exact flat (k + 1) d _ hu (by omega) (.inl rfl) q
    | bl b => exact flat (k + 1) d _ hu (by omega) (.inr (.inl ⟨_, rfl⟩)) q
    | int i => exact flat (k + 1) d _ hu (by omega) (.inr (.inr ⟨_, rfl⟩)) q
    | tup xs => exact seq d xs _ (.inl rfl) hu.1 (by omega) (fun x hx Q E q => ih (d - 1) x (hu.2 x hx) (by omega) q) q
    | lst xs => exact seq d xs _ (.inr rfl) hu.1 (by omega) (fun x hx Q E q => ih (d - 1) x (hu.2 x hx) (by omega) q) q
    | _ => exact hu.elim
end
end Ev
set_option Elab.async false
set_option linter.all false
set_option maxRecDepth 100000
set_option maxHeartbeats 2000000
/-! EvQ: the laws' draws and cells, once for all tables. -/
namespace Ev
local macro_rules | `(tactic| walk_at "w") => `(tactic| (first
  | (with_reducible refine ws_cons ?_) | (with_reducible refine ws_nil ?_) | (with_reducible refine ws_nm ?_ rfl) | (with_reducible refine ws_set ?_) | (with_reducible refine ws_par ?_) | (with_reducible refine ws_if ?_) | (with_reducible refine ws_ret ?_) | (with_reducible refine ws_retN ?_) | (with_reducible refine ws_brk ?_) | (with_reducible refine ws_cnt ?_) | (with_reducible refine ws_pass ?_) | (with_reducible refine ws_rai ?_) | (with_reducible refine ws_ex ?_) | (with_reducible refine ws_fo ?_) | (with_reducible refine ws_wh ?_)
  | (with_reducible refine w_varE ?_; refine ⟨_, rfl, ?_⟩) | (with_reducible refine w_cst ?_) | (with_reducible refine w_tup ?_) | (with_reducible refine w_bin ?_) | (with_reducible refine w_cmp ?_) | (with_reducible refine w_ch2 ?_) | (with_reducible refine w_and ?_) | (with_reducible refine w_or ?_) | (with_reducible refine w_not ?_) | (with_reducible refine w_ite ?_) | (with_reducible refine w_ix ?_) | (with_reducible refine w_sl ?_) | (with_reducible refine w_oNone ?_) | (with_reducible refine w_oSome ?_) | (with_reducible refine w_rev ?_) | (with_reducible refine w_call ?_) | (with_reducible refine w_bi ?_) | (with_reducible refine w_ist ?_) | (with_reducible refine w_mth ?_) | (with_reducible refine w_qv ?_) | (with_reducible refine w_qn ?_) | (with_reducible refine w_frz ?_) | (with_reducible refine w_dnew ?_) | (with_reducible refine w_dget ?_) | (with_reducible refine w_nil ?_) | (with_reducible refine w_cons ?_)
  | (with_reducible refine w_disp ?_) | (with_reducible refine w_lof ?_) | (with_reducible refine w_srt ?_) | (with_reducible refine w_rep ?_) | (with_reducible refine w_comp ?_) | (with_reducible refine w_val ?_) | (with_reducible refine w_rng1 ?_) | (with_reducible refine w_rng2 ?_) | (with_reducible refine w_rng3 ?_) | (with_reducible refine w_enum ?_) | (with_reducible refine w_zip2 ?_)
  | (with_reducible refine wt_nm rfl ?_) | (with_reducible refine wt_two rfl rfl ?_) | (with_reducible refine wc_nm rfl ?_) | (with_reducible refine wc_nmI rfl ?_) | (with_reducible refine wc_two rfl rfl ?_) | (with_reducible refine wc_twoI rfl rfl ?_)))
local macro_rules | `(tactic| walk_at "b") => `(tactic| (first
  | (with_reducible refine br_bl ?_) | (with_reducible refine br_blO ?_) | (with_reducible refine br_tr ?_) | (with_reducible refine br_trN ?_) | (with_reducible refine br_blN ?_) | (with_reducible refine br_and ?_)
  | (with_reducible refine ⟨_, cmp_eqI, ?_⟩) | (with_reducible refine ⟨_, cmp_neI, ?_⟩) | (with_reducible refine ⟨_, cmp_eqB, ?_⟩) | (with_reducible refine ⟨_, cmp_neB, ?_⟩) | (with_reducible refine ⟨_, cmp_eqT0, ?_⟩) | (with_reducible refine ⟨_, cmp_neT0, ?_⟩) | (with_reducible refine ⟨_, cmp_eqT, ?_⟩) | (with_reducible refine ⟨_, cmp_neT, ?_⟩) | (with_reducible refine ⟨_, cmp_eqL0, ?_⟩) | (with_reducible refine ⟨_, cmp_neL0, ?_⟩) | (with_reducible refine ⟨_, cmp_eqL, ?_⟩) | (with_reducible refine ⟨_, cmp_neL, ?_⟩)
  | (with_reducible refine ⟨_, sum_tZ, ?_⟩) | (with_reducible refine ⟨_, sum_lZ, ?_⟩) | (with_reducible refine ⟨_, min2_eq, ?_⟩) | (with_reducible refine ⟨_, max2_eq, ?_⟩) | (with_reducible refine ⟨_, zip_tZ, ?_⟩) | (with_reducible refine ⟨_, len_tZ, ?_⟩) | (with_reducible refine ⟨_, len_lZ, ?_⟩) | (with_reducible refine ⟨_, rev_tZ, ?_⟩) | (with_reducible refine ⟨_, rev_lZ, ?_⟩)))
local macro_rules | `(tactic| walk_at "a") => `(tactic| (first
  | walk_at "b"
  | (refine ⟨_, rfl, fun _ => ?_, fun hh => Bool.noConfusion (show true = false from hh)⟩)
  | (refine ⟨_, rfl, fun hh => Bool.noConfusion (show false = true from hh), fun _ => ?_⟩)
  | (refine ⟨_, rfl, fun _ => ?_, fun hh => Bool.noConfusion (show false = true from hh)⟩)
  | (refine ⟨_, rfl, fun hh => Bool.noConfusion (show true = false from hh), fun _ => ?_⟩)
  | (refine ⟨_, rfl, ?_⟩) | (refine ⟨_, _, rfl, ?_⟩) | (exact ⟨rfl, rfl⟩) | (refine ⟨rfl, rfl, ?_⟩) | (refine ⟨rfl, ?_⟩)))
local macro_rules | `(tactic| walk_at "s") => `(tactic| repeat (first | walk_at "w" | walk_at "b"))
local macro_rules | `(tactic| walk_at "g") => `(tactic| repeat (first | walk_at "w" | walk_at "a"))
/-- the source of draws at n: at most k draws so far -/
def Tin (S : Sto) (n k : Nat) : Prop := ∃ a b c : Int, S[n]? = some (.liv (.lst [.int a, .int b, .int c])) ∧ 0 ≤ c ∧ c ≤ k
theorem Tin.mono {S : Sto} {n k k' : Nat} (h : Tin S n k) (hk : k ≤ k') : Tin S n k' := by
  obtain ⟨a, b, c, h1, h2, h3⟩ := h
  exact ⟨a, b, c, h1, h2, by omega⟩
theorem Tin.lt {S : Sto} {n k : Nat} (h : Tin S n k) : n < S.length := by
  obtain ⟨a, b, c, h1, h2, h3⟩ := h
  exact (List.getElem?_eq_some_iff.mp h1).1
theorem Tin.app {S : Sto} {n k : Nat} (h : Tin S n k) (T : Sto) : Tin (S ++ T) n k := by
  have hl := h.lt
  obtain ⟨a, b, c, h1, h2, h3⟩ := h
  exact ⟨a, b, c, by rw [List.getElem?_append_left hl]; exact h1, h2, h3⟩
section
variable {D : List Fd} {w d : Nat} {Q : U → Sto → Prop} {E : Nat → Sto → Prop}
def d_take : Fd := ⟨2, 6, [.ife (.cmp .gt (.ix (.var 0) (.cst (.int 0))) (.cst (.int 0))) [.set (.nm 5) (.bin .mod (.bi .int [(.ix (.var 0) (.cst (.int 0)))]) (.var 1)), .set (.ix (.var 0) (.cst (.int 0))) (.bin .fdiv (.ix (.var 0) (.cst (.int 0))) (.var 1)), .ret (.var 5)] [], .set (.ix (.var 0) (.cst (.int 2))) (.bin .add (.ix (.var 0) (.cst (.int 2))) (.cst (.int 1))), .set (.nm 2) (.bin .mod (.bi .int [(.bin .mul (.bin .add (.ix (.var 0) (.cst (.int 1))) (.bin .mul (.cst (.int 48271)) (.ix (.var 0) (.cst (.int 2))))) (.bin .add (.cst (.int 39373)) (.ix (.var 0) (.cst (.int 2)))))]) (.cst (.int 2147483647))), .set (.nm 3) (.bin .add (.bin .mod (.bi .int [(.var 2)]) (.cst (.int 40009))) (.cst (.int 7))), .set (.nm 4) (.bin .mod (.bi .int [(.bin .mul (.bin .add (.bin .add (.var 2) (.ix (.var 0) (.cst (.int 2)))) (.bin .fdiv (.ix (.var 0) (.cst (.int 1))) (.cst (.int 1000003)))) (.var 3))]) (.cst (.int 2147483629))), .ret (.bin .mod (.bi .int [(.bin .fdiv (.bin .mod (.bi .int [(.bin .add (.bin .mul (.var 4) (.cst (.int 48271))) (.var 2))]) (.cst (.int 2147483587))) (.cst (.int 64)))]) (.var 1))]⟩
theorem ix_st {S : Sto} {n : Nat} {us : List U} {z : U} (i : Nat) (hs : S[n]? = some (.liv (.lst us))) (h : us[i]? = some z) : ixU S (.ref n) (.int (i : Int)) = some z := ix_store hs h
/-- a draw -/
theorem w_take {i : Nat} (h : D[i]? = some d_take) (hd : 1 ≤ d) {S T : Sto} {n k : Nat} (t : Tin S n k) (hk : k < 2 ^ 60) (m : Int) (hm : 0 < m) (hm2 : m < 2 ^ 60)
    (q : ∀ (v : Int) (S' : Sto), 0 ≤ v → v < m → Tin S' n (k + 1) → S'.length = S.length → Q (.int v) (S' ++ T)) : W (run D w d i [.ref n, .int m] (S ++ T)) Q E := by
  obtain ⟨e, rfl⟩ := at1 hd
  obtain ⟨a, b, c, hs0, hc0, hck⟩ := t
  have hn : n < S.length := (List.getElem?_eq_some_iff.mp hs0).1
  have hs : (S ++ T)[n]? = some (.liv (.lst [.int a, .int b, .int c])) := by rw [List.getElem?_append_left hn]; exact hs0
  have sapp : ∀ c, (S ++ T).set n c = S.set n c ++ T := fun c => by rw [List.set_append_left _ _ hn]
  refine w_run h rfl ?_
  show WS (evSs _ _ [_, _, _, _, _, _] [some (.ref n), some (.int m), none, none, none, none] (S ++ T)) _
  walk_at "g"
  refine ⟨_, ix_st 0 hs rfl, ?_⟩
  walk_at "g"
  refine ⟨fun ha => ?_, fun ha => ?_⟩
  · walk_at "g"
    refine ⟨_, ix_st 0 hs rfl, ?_⟩
    walk_at "g"
    refine ⟨_, bin_mod hm, ?_⟩
    walk_at "g"
    refine ⟨_, ix_st 0 hs rfl, ?_⟩
    walk_at "g"
    refine ⟨_, bin_div' hm (by omega), _, _, t_ixL (k := 0) (e_var rfl) e_cst hs rfl, ?_⟩
    walk_at "g"
    rw [sapp]
    exact q _ _ (Int.emod_nonneg _ (by omega)) (Int.emod_lt_of_pos _ hm) ⟨a / m, b, c, List.getElem?_set_self hn, hc0, by omega⟩ (List.length_set ..)
  · walk_at "g"
    refine ⟨_, ix_st 2 hs rfl, ?_⟩
    walk_at "g"
    refine ⟨_, _, t_ixL (k := 2) (e_var rfl) e_cst hs rfl, ?_⟩
    rw [sapp]
    have hs1 : (S.set n (.liv (.lst [.int a, .int b, .int (c + 1)])) ++ T)[n]? = some (.liv (.lst [.int a, .int b, .int (c + 1)])) := by
      rw [List.getElem?_append_left (by simpa using hn)]; exact List.getElem?_set_self hn
    walk_at "g"
    refine ⟨_, ix_st 1 hs1 rfl, ?_⟩
    walk_at "g"
    refine ⟨_, ix_st 2 hs1 rfl, ?_⟩
    walk_at "g"
    refine ⟨_, ix_st 2 hs1 rfl, ?_⟩
    walk_at "g"
    refine ⟨_, bin_mul (.inr ⟨by omega, by omega⟩), ?_⟩
    walk_at "g"
    generalize ho : ((b + 48271 * (c + 1)) * (39373 + (c + 1))) % 2147483647 = once
    have ho2 : 0 ≤ once ∧ once < 2147483647 := by rw [← ho]; exact ⟨Int.emod_nonneg _ (by omega), Int.emod_lt_of_pos _ (by omega)⟩
    refine ⟨_, ix_st 2 hs1 rfl, ?_⟩
    walk_at "g"
    refine ⟨_, ix_st 1 hs1 rfl, ?_⟩
    walk_at "g"
    refine ⟨_, bin_mul (.inr ⟨by omega, by omega⟩), ?_⟩
    walk_at "g"
    refine ⟨_, bin_mul (.inr ⟨by omega, by omega⟩), ?_⟩
    walk_at "g"
    refine ⟨_, bin_mod hm, ?_⟩
    exact q _ _ (Int.emod_nonneg _ (by omega)) (Int.emod_lt_of_pos _ hm) ⟨a, b, c + 1, List.getElem?_set_self hn, by omega, by omega⟩ (List.length_set ..)
/-- one of several -/
def d_of (j : Nat) : Fd := ⟨2, 2, [.ret (.ix (.var 1) (.call j [(.var 0), (.bi .len [(.var 1)])]))]⟩
theorem w_of {i j : Nat} (h : D[i]? = some (d_of j)) (hj : D[j]? = some d_take) (hd : 2 ≤ d) {S T : Sto} {n k : Nat} (t : Tin S n k) (hk : k < 2 ^ 60) (gs : List U) (hg : gs ≠ []) (hg2 : gs.length < 2 ^ 60)
    (q : ∀ (v : U) (S' : Sto), v ∈ gs → Tin S' n (k + 1) → S'.length = S.length → Q v (S' ++ T)) : W (run D w d i [.ref n, .lst gs] (S ++ T)) Q E := by
  obtain ⟨e, rfl⟩ := at1 (by omega : 1 ≤ d)
  have hp : 0 < gs.length := List.length_pos_iff.mpr hg
  refine w_run h rfl ?_
  show WS (evSs _ _ [_] [some (.ref n), some (.lst gs)] (S ++ T)) _
  walk_at "g"
  refine w_take hj (by omega) t hk gs.length (by omega) (by omega) fun v S' v0 v1 t' l' => ?_
  obtain ⟨x, rfl⟩ := Int.eq_ofNat_of_zero_le v0
  have hx : x < gs.length := by omega
  refine ⟨gs[x], ix_lst (List.getElem?_eq_getElem hx), ?_⟩
  exact q _ _ (List.getElem_mem hx) t' l'
/-- the source made -/
def d_box : Fd := ⟨2, 3, [.set (.nm 2) (.ite (.cmp .lt (.var 1) (.bi .len [(.var 0)])) (.ix (.var 0) (.var 1)) (.cst (.int 0))), .ret (.qn (.disp [(.bin .mul (.bi .abs [(.var 2)]) (.bi .int [(.cmp .ge (.bi .abs [(.var 2)]) (.bin .pow (.cst (.int 10)) (.cst (.int 18))))])), (.bin .add (.bin .add (.bin .mod (.bi .int [(.var 2)]) (.cst (.int 2305843009213693951))) (.bin .mul (.cst (.int 39373)) (.var 1))) (.cst (.int 170511))), (.cst (.int 0))]))]⟩
theorem w_box {i : Nat} (h : D[i]? = some d_box) (hd : 1 ≤ d) {S : Sto} (zs : List Int) (hz : zs ≠ []) (q : ∀ (n : Nat) (S' : Sto), Tin S' n 0 → Q (.ref n) S') : W (run D w d i [lZ zs, .int 0] S) Q E := by
  obtain ⟨e, rfl⟩ := at1 hd
  have hp : 0 < zs.length := List.length_pos_iff.mpr hz
  refine w_run h rfl ?_
  show WS (evSs _ _ [_, _] [some (lZ zs), some (.int 0), none] S) _
  walk_at "g"
  refine ⟨fun _ => ?_, fun hh => ?_⟩
  · walk_at "g"
    refine ⟨_, ix_lZ (i := 0) hp, ?_⟩
    walk_at "g"
    have hb : ∀ b : Bool, -(2 ^ 64) < (if b = true then (1 : Int) else 0) ∧ (if b = true then (1 : Int) else 0) < 2 ^ 64 := by decide
    refine ⟨_, bin_mul (.inr (hb _)), ?_⟩
    walk_at "g"
    exact q S.length _ ⟨_, _, 0, by rw [List.getElem?_append_right (Nat.le_refl _), Nat.sub_self]; rfl, by decide, by decide⟩
  · omega
theorem rd_app {S T : Sto} {u : U} {xs : List U} (h : rd S u = .fz xs) : rd (S ++ T) u = .fz xs := by
  cases u with
  | ref n =>
    cases e : S[n]? with
    | none => simp [rd, e] at h
    | some c =>
      have hn : n < S.length := (List.getElem?_eq_some_iff.mp e).1
      have e2 : (S ++ T)[n]? = some c := by rw [List.getElem?_append_left hn]; exact e
      cases c with
      | liv o => cases o <;> simp [rd, e] at h
      | lck o => cases o <;> simp [rd, e] at h
      | frz ys => simp [rd, e] at h; simp [rd, e2, h]
      | ded => simp [rd, e] at h
  | _ => exact h
theorem last_at {S : Sto} {c : C} : (S ++ [c])[S.length]? = some c := by rw [List.getElem?_append_right (Nat.le_refl _)]; simp
theorem enum_at : ∀ (xs : List U) (k i : Nat) (z : U), (enumU k xs)[i]? = some z → ∃ x, xs[i]? = some x ∧ z = .tup [.int ((k + i : Nat) : Int), x]
  | [], k, i, z, h => by simp [enumU] at h
  | x :: xs, k, 0, z, h => by simp [enumU] at h; exact ⟨x, rfl, h.symm⟩
  | x :: xs, k, i + 1, z, h => by
    have h : (enumU (k + 1) xs)[i]? = some z := h
    obtain ⟨y, h1, h2⟩ := enum_at xs (k + 1) i z h
    refine ⟨y, by simpa using h1, ?_⟩
    rw [h2]
    congr 4
    omega
/-- the first numbers of the script -/
def d_cells : Fd := ⟨2, 6, [.set (.nm 2) (.or (.qn (.lof (.sl (.var 0) none (some (.var 1))))) (.qn (.disp [(.cst (.int 0))]))), .fo (.tp [(.nm 3), (.nm 4)]) (.enum (.sl (.var 0) (some (.var 1)) (some (.cst (.int 63))))) [.set (.nm 5) (.bin .mod (.bi .int [(.var 3)]) (.var 1)), .set (.ix (.var 2) (.var 5)) (.bin .add (.ix (.var 2) (.var 5)) (.bin .mul (.var 4) (.bin .add (.var 3) (.cst (.int 2)))))], .ret (.frz (.var 2))]⟩
theorem w_cells {i : Nat} (h : D[i]? = some d_cells) (hd : 1 ≤ d) {S : Sto} {u : U} (ns : List Int) (hl : ns.length ≤ 63) (hu : rd S u = .fz (ns.map U.int)) (q : ∀ (zs : List Int) (S' : Sto), zs ≠ [] → Q (lZ zs) S') : W (run D w d i [u, .int 1] S) Q E := by
  obtain ⟨e, rfl⟩ := at1 hd
  -- the first numbers
  have first : ∃ (zs : List Int) (T : Sto) (n : Nat), zs ≠ [] ∧ (S ++ T)[n]? = some (.liv (.lst (zs.map U.int))) ∧
      evE (run D w e) (.or (.qn (.lof (.sl (.var 0) none (some (.var 1))))) (.qn (.disp [.cst (.int 0)]))) [some u, some (.int 1), none, none, none, none] S = .ok (.ref n) (S ++ T) := by
    obtain ⟨ys, hy, _⟩ := cut_map U.int ns none (some 1)
    have h1 : evE (run D w e) (.qn (.lof (.sl (.var 0) none (some (.var 1))))) [some u, some (.int 1), none, none, none, none] S = .ok (.ref S.length) (S ++ [.liv (.lst (ys.map U.int))]) := by
      refine e_qn (q_lof (u := .lst (ys.map U.int)) (e_sl (e_var rfl) o_none (o_some (e_var rfl)) ?_) rfl)
      unfold slU; rw [hu]; dsimp only; rw [hy]
    by_cases hne : ys = []
    · subst hne
      refine ⟨[0], [.liv (.lst []), .liv (.lst [.int 0])], S.length + 1, by simp, ?_, ?_⟩
      · rw [List.getElem?_append_right (by omega)]
        have : S.length + 1 - S.length = 1 := by omega
        rw [this]; rfl
      · rw [evE, h1]
        dsimp only [R.bind]
        rw [show truU (S ++ [C.liv (O.lst (List.map U.int []))]) (.ref S.length) = some false by simp [truU, rd, last_at]]
        dsimp only
        rw [e_qn (q_disp (es_cons e_cst es_nil))]
        simp
    · refine ⟨ys, [.liv (.lst (ys.map U.int))], S.length, hne, last_at, ?_⟩
      rw [evE, h1]
      dsimp only [R.bind]
      rw [show truU (S ++ [C.liv (O.lst (List.map U.int ys))]) (.ref S.length) = some true by simp [truU, rd, last_at, hne]]
  obtain ⟨zs, T, n, hz, hs, he⟩ := first
  obtain ⟨ys, hy, hyl⟩ := cut_map U.int ns (some 1) (some 63)
  refine w_run h rfl ?_
  show WS (evSs _ _ [_, _, _] [some u, some (.int 1), none, none, none, none] S) _
  refine ws_cons (ws_nm (.eq he ?_) rfl)
  walk_at "g"
  refine ⟨.lst (ys.map U.int), by unfold slU; rw [rd_app hu]; dsimp only; rw [hy], ?_⟩
  walk_at "g"
  refine wl_inv (fun i ρ S' => (∃ zs : List Int, zs ≠ [] ∧ S'[n]? = some (.liv (.lst (zs.map U.int)))) ∧ ∃ y z a, ρ = [some u, some (.int 1), some (.ref n), y, z, a]) _ 0 _ _ ⟨⟨zs, hz, hs⟩, none, none, none, rfl⟩ ?_ ?_
  · rintro i x ρ S' hx ⟨⟨zs, hz, hs⟩, y, z, a, rfl⟩
    obtain ⟨x', hx', rfl⟩ := enum_at _ _ _ _ hx
    rw [List.getElem?_map] at hx'
    obtain ⟨v, hv, rfl⟩ := Option.map_eq_some_iff.mp hx'
    have hi : i < ys.length := (List.getElem?_eq_some_iff.mp hv).1
    have hp : 0 < zs.length := List.length_pos_iff.mpr hz
    have hn : n < S'.length := (List.getElem?_eq_some_iff.mp hs).1
    walk_at "g"
    rw [Int.emod_one]
    refine ⟨_, ix_st 0 hs (mapI hp), ?_⟩
    walk_at "g"
    refine ⟨_, bin_mul (.inr ⟨by omega, by omega⟩), ?_⟩
    walk_at "g"
    refine ⟨_, _, t_ixL (k := 0) (e_var rfl) (e_var rfl) hs (ixN_nat (n := (zs.map U.int).length) (i := 0) (by simpa using hp)), ?_⟩
    walk_at "g"
    refine ⟨⟨zs.set 0 (zs[0] + v * (((0 + i : Nat) : Int) + 2)), fun z => hz (List.eq_nil_of_length_eq_zero (by rw [← List.length_set (as := zs) (i := 0) (a := zs[0] + v * (((0 + i : Nat) : Int) + 2)), z]; rfl)), ?_⟩, _, _, _, rfl⟩
    rw [List.getElem?_set_self hn, List.map_set]
  · rintro ρ S' ⟨⟨zs, hz, hs⟩, y, z, a, rfl⟩
    walk_at "g"
    refine ⟨n, _, rfl, hs, q zs _ hz⟩
/-- up to so many different ones, in a drawn order -/
def d_pick (j : Nat) : Fd := ⟨3, 6, [.par [4, 5] [(.qn (.lof (.var 1))), (.qn (.disp []))], .fo (.nm 3) (.rng1 (.bi .min2 [(.bi .int [(.var 2)]), (.bi .len [(.var 4)])])) [.ex (.mth .append (.var 5) [(.mth .pop1 (.var 4) [(.call j [(.var 0), (.bi .len [(.var 4)])])])])], .ret (.frz (.var 5))]⟩
theorem len_ref {S : Sto} {n : Nat} {xs : List U} (h : S[n]? = some (.liv (.lst xs))) : biU S .len [.ref n] = some (.int xs.length) := by simp [biU, seqOf, rd, h]
theorem perm_erase {α : Type} {xs : List α} {i : Nat} (h : i < xs.length) : xs.Perm (xs[i] :: xs.eraseIdx i) := by
  have h1 : xs = xs.take i ++ xs[i] :: xs.drop (i + 1) := by
    rw [← List.drop_eq_getElem_cons h, List.take_append_drop]
  have h2 : xs.eraseIdx i = xs.take i ++ xs.drop (i + 1) := List.eraseIdx_eq_take_drop_succ ..
  rw [h2]
  exact (h1 ▸ List.perm_middle : _)
theorem w_pick {i j : Nat} (h : D[i]? = some (d_pick j)) (hj : D[j]? = some d_take) (hd : 2 ≤ d) {S : Sto} {n k : Nat} (t : Tin S n k) (gs : List U) (hg2 : gs.length ≤ 100000) (hk : k + gs.length < 2 ^ 60) (m : Nat)
    (hm : m < 2 ^ 60) (q : ∀ (found rest : List U) (S' T : Sto), (found ++ rest).Perm gs → found.length = min m gs.length → Tin S' n (k + gs.length) → S'.length = S.length → Q (.lst found) (S' ++ T)) : W (run D w d i [.ref n, .lst gs, .int m] S) Q E := by
  obtain ⟨e, rfl⟩ := at1 (by omega : 1 ≤ d)
  refine w_run h rfl ?_
  show WS (evSs _ _ [_, _, _] [some (.ref n), some (.lst gs), some (.int m), none, none, none] S) _
  walk_at "g"
  rw [show (S ++ [C.liv (O.lst gs)]).length = S.length + 1 by simp, List.append_assoc, List.singleton_append]
  refine ⟨_, len_ref (n := S.length) (xs := gs) (by rw [List.getElem?_append_right (Nat.le_refl _), Nat.sub_self]; rfl), ?_⟩
  walk_at "g"
  have hmin : min (m : Int) gs.length = ((min m gs.length : Nat) : Int) := by omega
  rw [hmin]
  refine ⟨small_i (by omega) (by omega), rfl, wl_inv (fun i ρ S' => ∃ S0 pool found y, S' = S0 ++ [C.liv (O.lst pool), C.liv (O.lst found)] ∧ S0.length = S.length ∧ Tin S0 n (k + i) ∧ (found ++ pool).Perm gs ∧ found.length = i ∧ ρ = [some (.ref n), some (.lst gs), some (.int m), y, some (.ref S.length), some (.ref (S.length + 1))]) _ 0 _ _ ⟨S, gs, [], none, rfl, rfl, t, by simp, rfl, rfl⟩ ?_ ?_⟩
  · rintro i x ρ S' hx ⟨S0, pool, found, y, rfl, hl, t0, hp, hf, rfl⟩
    have hi := (iota_at hx).1
    have hpl : found.length + pool.length = gs.length := by rw [← List.length_append]; exact hp.length_eq
    have hpp : 0 < pool.length := by omega
    walk_at "g"
    refine ⟨by simp [mtOk, rd, ← hl], ?_⟩
    walk_at "g"
    refine ⟨by simp [mtOk, rd, ← hl], ?_⟩
    walk_at "g"
    refine ⟨_, len_ref (n := S.length) (xs := pool) (by rw [List.getElem?_append_right (by omega), hl, Nat.sub_self]; rfl), ?_⟩
    walk_at "g"
    refine w_take hj (by omega) t0 (by omega) _ (by omega) (by omega) fun v S1 v0 v1 t1 l1 => ?_
    obtain ⟨z, rfl⟩ := Int.eq_ofNat_of_zero_le v0
    have hz : z < pool.length := by omega
    walk_at "g"
    refine ⟨pool[z], S1 ++ [C.liv (O.lst (pool.eraseIdx z)), C.liv (O.lst found)], ?_, ?_⟩
    · have e1 : (S1 ++ [C.liv (O.lst pool), C.liv (O.lst found)])[S.length]? = some (.liv (.lst pool)) := by rw [List.getElem?_append_right (by omega), show S.length - S1.length = 0 by omega]; rfl
      have e2 : (S1 ++ [C.liv (O.lst pool), C.liv (O.lst found)]).set S.length (.liv (.lst (pool.eraseIdx z))) = S1 ++ [C.liv (O.lst (pool.eraseIdx z)), C.liv (O.lst found)] := by
        rw [List.set_append_right _ _ (by omega), show S.length - S1.length = 0 by omega]; rfl
      simp only [mthU, e1, ixN_nat hz, List.getElem?_eq_getElem hz, e2]
      rw [if_pos (small_i (by omega) (by omega))]
    walk_at "g"
    refine ⟨.non, S1 ++ [C.liv (O.lst (pool.eraseIdx z)), C.liv (O.lst (found ++ [pool[z]]))], ?_, ?_⟩
    · have e1 : (S1 ++ [C.liv (O.lst (pool.eraseIdx z)), C.liv (O.lst found)])[S.length + 1]? = some (.liv (.lst found)) := by rw [List.getElem?_append_right (by omega), show S.length + 1 - S1.length = 1 by omega]; rfl
      have e2 : (S1 ++ [C.liv (O.lst (pool.eraseIdx z)), C.liv (O.lst found)]).set (S.length + 1) (.liv (.lst (found ++ [pool[z]]))) = S1 ++ [C.liv (O.lst (pool.eraseIdx z)), C.liv (O.lst (found ++ [pool[z]]))] := by
        rw [List.set_append_right _ _ (by omega), show S.length + 1 - S1.length = 1 by omega]; rfl
      simp only [mthU, e1, e2]
      rw [if_pos (Nat.lt_of_lt_of_le (show found.length < 100001 by omega) (by decide))]
    walk_at "g"
    refine ⟨S1, _, _, some x, rfl, by omega, ?_, ?_, by simp [hf], rfl⟩
    · rw [show k + (0 + i + 1) = k + (0 + i) + 1 by omega]; exact t1
    · rw [List.append_assoc, List.singleton_append]
      exact (List.Perm.append_left _ (perm_erase hz).symm).trans hp
  · rintro ρ S' ⟨S0, pool, found, y, rfl, hl, t0, hp, hf, rfl⟩
    walk_at "g"
    rw [iota_len, Nat.zero_add, Int.toNat_natCast] at hf t0
    refine ⟨_, _, rfl, by rw [List.getElem?_append_right (by omega), show S.length + 1 - S0.length = 1 by omega]; rfl, ?_⟩
    rw [List.set_append_right _ _ (by omega)]
    exact q found pool S0 _ hp hf (t0.mono (by omega)) hl
end
end Ev
set_option Elab.async false
set_option linter.all false
set_option maxRecDepth 100000
set_option maxHeartbeats 4000000
/-! EvF: what a tree yields beside a store, it yields behind any other one. -/
namespace Ev
mutual
def sh (n : Nat) : U → U
  | .tup xs => .tup (shs n xs)
  | .lst xs => .lst (shs n xs)
  | .fz xs => .fz (shs n xs)
  | .ref m => .ref (m + n)
  | .non => .non
  | .bl b => .bl b
  | .int i => .int i
  | .str x => .str x
  | .exc c => .exc c
def shs (n : Nat) : List U → List U
  | [] => []
  | x :: xs => sh n x :: shs n xs
end
theorem shs_map (n : Nat) : ∀ xs : List U, shs n xs = xs.map (sh n)
  | [] => rfl
  | x :: xs => by rw [shs, shs_map n xs]; rfl
def shO (n : Nat) : O → O
  | .lst xs => .lst (xs.map (sh n))
  | .dct kvs => .dct (kvs.map fun kv => (kv.1, sh n kv.2))
def shC (n : Nat) : C → C
  | .liv o => .liv (shO n o)
  | .lck o => .lck (shO n o)
  | .frz xs => .frz (xs.map (sh n))
  | .ded => .ded
section
variable (B : Sto)
def sto (S : Sto) : Sto := B ++ S.map (shC B.length)
abbrev shB : U → U := sh B.length
def shR {α β : Type} (f : α → β) : R α → R β
  | .ok a S => .ok (f a) (sto B S)
  | .ex c S => .ex c (sto B S)
  | .stuck => .stuck
abbrev shE (ρ : Rho) : Rho := ρ.map (Option.map (shB B))
def shP (p : List U × Option Nat) : List U × Option Nat := (p.1.map (shB B), p.2.map (· + B.length))
end
section
variable {B : Sto} {S : Sto} {n m : Nat} {u v : U}
theorem sto_at : (sto B S)[m + B.length]? = (S[m]?).map (shC B.length) := by
  unfold sto
  rw [List.getElem?_append_right (by omega), Nat.add_sub_cancel, List.getElem?_map]
theorem sto_set {c : C} : (sto B S).set (m + B.length) (shC B.length c) = sto B (S.set m c) := by
  unfold sto
  rw [List.set_append_right _ _ (by omega), Nat.add_sub_cancel, List.map_set]
theorem sto_len : (sto B S).length = S.length + B.length := by
  unfold sto; simp; omega
theorem sto_app {c : C} : sto B S ++ [shC B.length c] = sto B (S ++ [c]) := by
  unfold sto; simp
theorem sh_tup {xs : List U} : sh n (.tup xs) = .tup (xs.map (sh n)) := by rw [sh, shs_map]
theorem sh_lst {xs : List U} : sh n (.lst xs) = .lst (xs.map (sh n)) := by rw [sh, shs_map]
theorem sh_fz {xs : List U} : sh n (.fz xs) = .fz (xs.map (sh n)) := by rw [sh, shs_map]
theorem sh_ref : sh n (.ref m) = .ref (m + n) := by rw [sh]
theorem sh_non : sh n .non = .non := by rw [sh]
theorem sh_bl {b : Bool} : sh n (.bl b) = .bl b := by rw [sh]
theorem sh_int {b : Int} : sh n (.int b) = .int b := by rw [sh]
theorem sh_str {b : PySem.Str} : sh n (.str b) = .str b := by rw [sh]
theorem sh_exc {b : Nat} : sh n (.exc b) = .exc b := by rw [sh]
theorem rd_sh : rd (sto B S) (shB B u) = shB B (rd S u) := by
  cases u with
  | ref m =>
    rw [shB, sh_ref]
    unfold rd
    dsimp only
    rw [sto_at]
    cases S[m]? with
    | none => simp [sh_ref]
    | some c =>
      cases c with
      | liv o => cases o <;> simp [shC, shO, sh_lst, sh_ref]
      | lck o => cases o <;> simp [shC, shO, sh_lst, sh_ref]
      | frz xs => simp [shC, sh_fz]
      | ded => simp [shC, sh_ref]
  | _ => simp [rd, sh_tup, sh_lst, sh_fz, sh_non, sh_bl, sh_int, sh_str, sh_exc]
theorem seq_sh : seqOf (sto B S) (shB B u) = (seqOf S u).map (List.map (shB B)) := by
  unfold seqOf
  rw [rd_sh]
  cases rd S u <;> simp [sh_tup, sh_lst, sh_fz, sh_non, sh_bl, sh_int, sh_str, sh_exc, sh_ref]
theorem dct_sh : dctOf (sto B S) (shB B u) = (dctOf S u).map (List.map fun kv => (kv.1, shB B kv.2)) := by
  cases u with
  | ref m =>
    rw [shB, sh_ref]
    unfold dctOf
    dsimp only
    rw [sto_at]
    cases S[m]? with
    | none => rfl
    | some c =>
      cases c with
      | liv o => cases o <;> rfl
      | lck o => cases o <;> rfl
      | frz xs => rfl
      | ded => rfl
  | _ => simp [dctOf, sh_tup, sh_lst, sh_fz, sh_non, sh_bl, sh_int, sh_str, sh_exc]
mutual
theorem okD_sh : ∀ (k : Nat) (u : U), okD k (sh n u) = okD k u
  | _, .non => by rw [sh_non]
  | _, .bl _ => by rw [sh_bl]
  | _, .int _ => by rw [sh_int]
  | _, .str x => by rw [sh_str]
  | _, .exc x => by rw [sh_exc]
  | k + 1, .tup xs => by rw [sh_tup, okD, okD, okDs_sh k xs]
  | k + 1, .lst xs => by rw [sh_lst, okD, okD, okDs_sh k xs]
  | 0, .tup xs => by rw [sh_tup]; rfl
  | 0, .lst xs => by rw [sh_lst]; rfl
  | 0, .fz xs => by rw [sh_fz]; rfl
  | 0, .ref m => by rw [sh_ref]; rfl
  | _ + 1, .fz xs => by rw [sh_fz]; rfl
  | _ + 1, .ref m => by rw [sh_ref]; rfl
theorem okDs_sh : ∀ (k : Nat) (us : List U), okDs k (us.map (sh n)) = okDs k us
  | _, [] => rfl
  | k, x :: xs => by rw [List.map_cons, okDs, okDs, okD_sh k x, okDs_sh k xs]
end
section
variable {B : Sto} {S : Sto} {n m : Nat} {u v : U} {xs ys : List U}
mutual
theorem eqU_sh (n : Nat) : ∀ (u v : U), eqU (sh n u) (sh n v) = eqU u v
  | .tup xs, .tup ys => by rw [sh_tup, sh_tup, eqU, eqU, eqUs_sh n xs ys]
  | .lst xs, .lst ys => by rw [sh_lst, sh_lst, eqU, eqU, eqUs_sh n xs ys]
  | .tup xs, .lst ys => by rw [sh_tup, sh_lst]; rfl
  | .lst xs, .tup ys => by rw [sh_tup, sh_lst]; rfl
  | .non, v => by cases v <;> simp [sh_tup, sh_lst, sh_fz, sh_non, sh_bl, sh_int, sh_str, sh_exc, sh_ref, eqU]
  | .bl _, v => by cases v <;> simp [sh_tup, sh_lst, sh_fz, sh_non, sh_bl, sh_int, sh_str, sh_exc, sh_ref, eqU]
  | .int _, v => by cases v <;> simp [sh_tup, sh_lst, sh_fz, sh_non, sh_bl, sh_int, sh_str, sh_exc, sh_ref, eqU]
  | .str _, v => by cases v <;> simp [sh_tup, sh_lst, sh_fz, sh_non, sh_bl, sh_int, sh_str, sh_exc, sh_ref, eqU]
  | .fz _, v => by cases v <;> simp [sh_tup, sh_lst, sh_fz, sh_non, sh_bl, sh_int, sh_str, sh_exc, sh_ref, eqU]
  | .ref _, v => by cases v <;> simp [sh_tup, sh_lst, sh_fz, sh_non, sh_bl, sh_int, sh_str, sh_exc, sh_ref, eqU]
  | .exc _, v => by cases v <;> simp [sh_tup, sh_lst, sh_fz, sh_non, sh_bl, sh_int, sh_str, sh_exc, sh_ref, eqU]
  | .tup _, .non => by simp [sh_tup, sh_non, eqU]
  | .tup _, .bl _ => by simp [sh_tup, sh_bl, eqU]
  | .tup _, .int _ => by simp [sh_tup, sh_int, eqU]
  | .tup _, .str _ => by simp [sh_tup, sh_str, eqU]
  | .tup _, .fz _ => by simp [sh_tup, sh_fz, eqU]
  | .tup _, .ref _ => by simp [sh_tup, sh_ref, eqU]
  | .tup _, .exc _ => by simp [sh_tup, sh_exc, eqU]
  | .lst _, .non => by simp [sh_lst, sh_non, eqU]
  | .lst _, .bl _ => by simp [sh_lst, sh_bl, eqU]
  | .lst _, .int _ => by simp [sh_lst, sh_int, eqU]
  | .lst _, .str _ => by simp [sh_lst, sh_str, eqU]
  | .lst _, .fz _ => by simp [sh_lst, sh_fz, eqU]
  | .lst _, .ref _ => by simp [sh_lst, sh_ref, eqU]
  | .lst _, .exc _ => by simp [sh_lst, sh_exc, eqU]
theorem eqUs_sh (n : Nat) : ∀ (us vs : List U), eqUs (us.map (sh n)) (vs.map (sh n)) = eqUs us vs
  | [], [] => rfl
  | [], _ :: _ => rfl
  | _ :: _, [] => rfl
  | x :: xs, y :: ys => by rw [List.map_cons, List.map_cons, eqUs, eqUs, eqU_sh n x y, eqUs_sh n xs ys]
end
theorem eqV_sh : eqV? (sh n u) (sh n v) = eqV? u v := by
  unfold eqV?
  rw [okD_sh, okD_sh, eqU_sh]
theorem ints_sh : ∀ us : List U, intsOf (us.map (sh n)) = intsOf us
  | [] => rfl
  | x :: xs => by
    rw [List.map_cons]
    cases x with
    | int i => rw [sh_int, intsOf, intsOf, ints_sh xs]
    | _ => simp [sh_tup, sh_lst, sh_fz, sh_non, sh_bl, sh_str, sh_exc, sh_ref, intsOf]
theorem bls_sh : ∀ us : List U, blsOf (us.map (sh n)) = blsOf us
  | [] => rfl
  | x :: xs => by
    rw [List.map_cons]
    cases x with
    | bl i => rw [sh_bl, blsOf, blsOf, bls_sh xs]
    | _ => simp [sh_tup, sh_lst, sh_fz, sh_non, sh_int, sh_str, sh_exc, sh_ref, blsOf]
theorem tups_sh : ∀ us : List U, tupsI (us.map (sh n)) = tupsI us
  | [] => rfl
  | x :: xs => by
    rw [List.map_cons]
    cases x with
    | tup ys => rw [sh_tup, tupsI, tupsI, ints_sh, tups_sh xs]
    | _ => simp [sh_bl, sh_lst, sh_fz, sh_non, sh_int, sh_str, sh_exc, sh_ref, tupsI]
theorem shI (n : Nat) (xs : List Int) : (xs.map U.int).map (sh n) = xs.map U.int := by
  rw [List.map_map]; exact List.map_congr_left fun x _ => sh_int
theorem srt_sh : srtU (xs.map (sh n)) = (srtU xs).map (List.map (sh n)) := by
  unfold srtU
  rw [ints_sh, tups_sh, List.length_map]
  split
  · rfl
  · cases intsOf xs with
    | some ns => simp only [Option.map_some]; rw [shI]
    | none =>
      dsimp only
      cases tupsI xs with
      | none => rfl
      | some ts =>
        dsimp only
        split
        · simp only [Option.map_some, List.map_map]
          congr 1
          refine List.map_congr_left fun t _ => ?_
          simp only [Function.comp_apply]
          rw [sh_tup, shI]
        · rfl
theorem any_sh (x : U) (xs : List U) : ((xs.map (sh n)).any fun z => eqU z (sh n x)) = xs.any fun z => eqU z x := by
  rw [List.any_map]
  congr 1
  funext z
  exact eqU_sh _ _ _
theorem add_sh : addU (sh n u) (sh n v) = (addU u v).map (sh n) := by
  cases u <;> cases v <;> simp only [sh_tup, sh_lst, sh_fz, sh_non, sh_bl, sh_int, sh_str, sh_exc, sh_ref, addU, Option.map_none, Option.map_some, List.length_map]
  · split <;> simp [sh_tup]
  · split <;> simp [sh_lst]
theorem mul_sh : mulU (sh n u) (sh n v) = (mulU u v).map (sh n) := by
  cases u <;> cases v <;> simp only [sh_tup, sh_lst, sh_fz, sh_non, sh_bl, sh_int, sh_str, sh_exc, sh_ref, mulU, Option.map_none, Option.map_some, List.length_map]
  · split <;> simp [sh_int]
  · split <;> simp [sh_tup, List.map_flatten]
theorem int2_sh {f : Int → Int → Option U} (h : ∀ i j, (f i j).map (sh n) = f i j) : int2 f (sh n u) (sh n v) = (int2 f u v).map (sh n) := by
  cases u <;> cases v <;> simp only [sh_tup, sh_lst, sh_fz, sh_non, sh_bl, sh_int, sh_str, sh_exc, sh_ref, int2, Option.map_none, Option.map_some]
  rw [h]
theorem bin_sh {o : Op} : binU (sto B S) o (shB B u) (shB B v) = (binU S o u v).map (shB B) := by
  unfold binU
  rw [rd_sh, rd_sh]
  cases o <;> dsimp only
  · exact add_sh
  · exact int2_sh fun i j => by simp [sh_int]
  · exact mul_sh
  · exact int2_sh fun i j => by split <;> simp [sh_int]
  · exact int2_sh fun i j => by split <;> simp [sh_int]
  · exact int2_sh fun i j => by split <;> simp [sh_int]
theorem cmp_sh {o : Cp} : cmpU (sto B S) o (shB B u) (shB B v) = cmpU S o u v := by
  unfold cmpU
  cases o <;> dsimp only
  · cases u <;> cases v <;> simp [sh_tup, sh_lst, sh_fz, sh_non, sh_bl, sh_int, sh_str, sh_exc, sh_ref]
  · cases u <;> cases v <;> simp [sh_tup, sh_lst, sh_fz, sh_non, sh_bl, sh_int, sh_str, sh_exc, sh_ref]
  · cases u <;> cases v <;> simp [sh_tup, sh_lst, sh_fz, sh_non, sh_bl, sh_int, sh_str, sh_exc, sh_ref]
  · cases u <;> cases v <;> simp [sh_tup, sh_lst, sh_fz, sh_non, sh_bl, sh_int, sh_str, sh_exc, sh_ref]
  · rw [rd_sh, rd_sh, eqV_sh]
  · rw [rd_sh, rd_sh, eqV_sh]
  · cases u <;> cases v <;> simp [sh_tup, sh_lst, sh_fz, sh_non, sh_bl, sh_int, sh_str, sh_exc, sh_ref]
  · cases u <;> cases v <;> simp [sh_tup, sh_lst, sh_fz, sh_non, sh_bl, sh_int, sh_str, sh_exc, sh_ref]
  · rw [rd_sh, rd_sh]
    cases rd S v <;> simp only [sh_tup, sh_lst, sh_fz, sh_non, sh_bl, sh_int, sh_str, sh_exc, sh_ref]
    rename_i xs
    rw [← sh_lst, okD_sh, okD_sh, any_sh]
  · rw [rd_sh, rd_sh]
    cases rd S v <;> simp only [sh_tup, sh_lst, sh_fz, sh_non, sh_bl, sh_int, sh_str, sh_exc, sh_ref]
    rename_i xs
    rw [← sh_lst, okD_sh, okD_sh, any_sh]
theorem at_sh {i : Int} : atU (xs.map (sh n)) i = (atU xs i).map (sh n) := by
  unfold atU
  rw [List.length_map]
  cases ixN xs.length i with
  | none => rfl
  | some k => simp only [Option.bind_some, List.getElem?_map]
theorem dval_sh (kvs : List (Int × U)) (k : Int) : dvalU (kvs.map fun kv => (kv.1, sh n kv.2)) k = (dvalU kvs k).map (sh n) := by
  unfold dvalU
  rw [List.find?_map, Option.map_map, Option.map_map]
  rfl
theorem dput_sh (kvs : List (Int × U)) (k : Int) : dputU (kvs.map fun kv => (kv.1, sh n kv.2)) k (sh n v) = (dputU kvs k v).map fun kv => (kv.1, sh n kv.2) := by
  unfold dputU
  rw [List.any_map]
  have : ((fun kv : Int × U => decide (kv.1 = k)) ∘ fun kv : Int × U => (kv.1, sh n kv.2)) = fun kv => decide (kv.1 = k) := rfl
  rw [this]
  split
  · rw [List.map_map, List.map_map]
    refine List.map_congr_left fun kv _ => ?_
    simp only [Function.comp_apply]
    split <;> rfl
  · rw [List.map_append]; rfl
theorem ix_sh : ixU (sto B S) (shB B u) (shB B v) = (ixU S u v).map (shB B) := by
  cases v with
  | int i =>
    rw [shB, sh_int]
    unfold ixU
    dsimp only
    rw [dct_sh]
    cases dctOf S u with
    | some kvs => simp only [Option.map_some]; exact dval_sh kvs i
    | none =>
      simp only [Option.map_none]
      rw [seq_sh]
      cases seqOf S u with
      | none => rfl
      | some xs => simp only [Option.map_some]; exact at_sh
  | _ => simp [sh_tup, sh_lst, sh_fz, sh_non, sh_bl, sh_str, sh_exc, sh_ref, ixU]
theorem dget_sh {k d : U} : dgetU (sto B S) (shB B u) (shB B k) (shB B d) = (dgetU S u k d).map (shB B) := by
  unfold dgetU
  rw [dct_sh]
  cases k with
  | int i =>
    rw [shB, sh_int]
    cases dctOf S u with
    | some kvs =>
      simp only [Option.map_some]
      rw [dval_sh]
      cases dvalU kvs i <;> rfl
    | none => rfl
  | _ => simp [sh_tup, sh_lst, sh_fz, sh_non, sh_bl, sh_str, sh_exc, sh_ref]
theorem cut_sh {lo hi : Option Int} : cutU (xs.map (sh n)) lo hi = (cutU xs lo hi).map (sh n) := by
  unfold cutU; rw [List.length_map, List.map_take, List.map_drop]
theorem sl_sh {lo hi : Option Int} : slU (sto B S) (shB B u) lo hi = (slU S u lo hi).map (shB B) := by
  unfold slU
  rw [rd_sh]
  cases rd S u <;> simp [sh_tup, sh_lst, sh_fz, sh_non, sh_bl, sh_int, sh_str, sh_exc, sh_ref, cut_sh]
theorem rev_sh : revU (sto B S) (shB B u) = (revU S u).map (shB B) := by
  unfold revU
  rw [rd_sh]
  cases rd S u <;> simp [sh_tup, sh_lst, sh_fz, sh_non, sh_bl, sh_int, sh_str, sh_exc, sh_ref]
theorem tru_sh : truU (sto B S) (shB B u) = truU S u := by
  unfold truU
  rw [rd_sh]
  cases rd S u <;> simp [sh_tup, sh_lst, sh_fz, sh_non, sh_bl, sh_int, sh_str, sh_exc, sh_ref]
theorem vt_sh : vtU (sto B S) (shB B u) = vtU S u := by
  unfold vtU
  rw [rd_sh]
  cases rd S u <;> simp [sh_tup, sh_lst, sh_fz, sh_non, sh_bl, sh_int, sh_str, sh_exc, sh_ref]
theorem unpack_sh {k : Nat} : unpack k (shB B u) (sto B S) = (unpack k u S).map (List.map (shB B)) := by
  unfold unpack
  rw [seq_sh]
  cases seqOf S u with
  | none => rfl
  | some xs =>
    simp only [Option.map_some, List.length_map]
    split <;> rfl
theorem lockOf_sh : lockOf (sto B S) (shB B u) = (lockOf S u).map (shP B) := by
  cases u with
  | ref m =>
    rw [shB, sh_ref]
    unfold lockOf
    dsimp only
    rw [sto_at]
    cases S[m]? with
    | none => rfl
    | some c =>
      cases c with
      | liv o => cases o <;> rfl
      | lck o => cases o <;> rfl
      | frz xs => rfl
      | ded => rfl
  | _ => simp [lockOf, sh_tup, sh_lst, sh_fz, sh_non, sh_bl, sh_int, sh_str, sh_exc, shP]
theorem enum_sh : ∀ (k : Nat) (xs : List U), enumU k (xs.map (sh n)) = (enumU k xs).map (sh n)
  | _, [] => rfl
  | k, x :: xs => by rw [List.map_cons, enumU, enumU, List.map_cons, enum_sh (k + 1) xs, sh_tup]; simp [sh_int]
theorem zip_sh : ∀ (xs ys : List U), zipU (xs.map (sh n)) (ys.map (sh n)) = (zipU xs ys).map (sh n)
  | [], ys => by simp [zipU]
  | x :: xs, [] => by simp [zipU]
  | x :: xs, y :: ys => by rw [List.map_cons, List.map_cons, zipU, zipU, List.map_cons, zip_sh xs ys, sh_tup]; rfl
theorem iota_sh : ∀ (k : Nat) (lo : Int), (iotaU lo k).map (sh n) = iotaU lo k
  | 0, _ => rfl
  | k + 1, lo => by rw [iotaU, List.map_cons, iota_sh k, sh_int]
theorem iotaC_sh (c : Int) : ∀ (k : Nat) (lo : Int), (iotaC lo c k).map (sh n) = iotaC lo c k
  | 0, _ => rfl
  | k + 1, lo => by rw [iotaC, List.map_cons, iotaC_sh c k, sh_int]
theorem getR_sh {ρ : Rho} {i : Nat} : getR (shE B ρ) i = (getR ρ i).map (shB B) := by
  unfold getR
  rw [List.getElem?_map]
  cases ρ[i]? with
  | none => rfl
  | some o => cases o <;> rfl
theorem wipe_sh {ρ : Rho} : ∀ l : List Nat, wipeR (shE B ρ) l = shE B (wipeR ρ l)
  | [] => rfl
  | v :: vs => by rw [wipeR, wipeR, wipe_sh vs]; simp [shE, List.map_set]
theorem bi_sh {b : Bi} {us : List U} : biU (sto B S) b (us.map (shB B)) = (biU S b us).map (shB B) := by
  have one : ∀ u, biU (sto B S) b [shB B u] = (biU S b [u]).map (shB B) := fun u => by
    cases b
    case len => show (seqOf _ _).map _ = ((seqOf _ _).map _).map _; rw [seq_sh]; cases seqOf S u <;> simp [sh_int]
    case tuple => show (seqOf _ _).map _ = ((seqOf _ _).map _).map _; rw [seq_sh]; cases seqOf S u <;> simp [sh_tup]
    case sum =>
      show (match seqOf _ _ with | some xs => (intsOf xs).map fun (ns : List Int) => U.int ns.sum | none => none) = _
      rw [seq_sh]
      show _ = (match seqOf S u with | some xs => (intsOf xs).map fun (ns : List Int) => U.int ns.sum | none => none).map _
      cases seqOf S u with
      | none => rfl
      | some xs => simp only [Option.map_some]; rw [ints_sh]; cases intsOf xs <;> simp [sh_int]
    case all =>
      show (match rd (sto B S) (shB B u) with | .lst xs => (blsOf xs).map fun (bs : List Bool) => U.bl (bs.all id) | _ => none) = _
      rw [rd_sh]
      show _ = (match rd S u with | .lst xs => (blsOf xs).map fun (bs : List Bool) => U.bl (bs.all id) | _ => none).map _
      cases rd S u <;> simp [sh_tup, sh_lst, sh_fz, sh_non, sh_bl, sh_int, sh_str, sh_exc, sh_ref, bls_sh]
      rename_i xs; cases blsOf xs <;> simp [sh_bl]
    case any =>
      show (match rd (sto B S) (shB B u) with | .lst xs => (blsOf xs).map fun (bs : List Bool) => U.bl (bs.any id) | _ => none) = _
      rw [rd_sh]
      show _ = (match rd S u with | .lst xs => (blsOf xs).map fun (bs : List Bool) => U.bl (bs.any id) | _ => none).map _
      cases rd S u <;> simp [sh_tup, sh_lst, sh_fz, sh_non, sh_bl, sh_int, sh_str, sh_exc, sh_ref, bls_sh]
      rename_i xs; cases blsOf xs <;> simp [sh_bl]
    all_goals cases u <;> simp [biU, sh_tup, sh_lst, sh_fz, sh_non, sh_bl, sh_int, sh_str, sh_exc, sh_ref]
  match us with
  | [] => cases b <;> rfl
  | [u] => exact one u
  | [u, v] => cases b <;> first | rfl | (cases u <;> cases v <;> simp [biU, sh_tup, sh_lst, sh_fz, sh_non, sh_bl, sh_int, sh_str, sh_exc, sh_ref])
  | u :: v :: w :: r => cases b <;> simp [biU]
theorem erase_map {α β : Type} (f : α → β) : ∀ (xs : List α) (i : Nat), (xs.map f).eraseIdx i = (xs.eraseIdx i).map f
  | [], _ => rfl
  | _ :: _, 0 => rfl
  | x :: xs, i + 1 => by simp [List.eraseIdx, erase_map f xs i]
theorem mtOk_sh {k : Mt} : mtOk (sto B S) k (shB B u) = mtOk S k u := by
  unfold mtOk
  rw [rd_sh]
  cases rd S u <;> simp [sh_tup, sh_lst, sh_fz, sh_non, sh_bl, sh_int, sh_str, sh_exc, sh_ref]
theorem mth_sh {k : Mt} {us : List U} : mthU (sto B S) k (shB B u) (us.map (shB B)) = (mthU S k u us).map fun p => (shB B p.1, sto B p.2) := by
  cases u with
  | ref m =>
    rw [shB, sh_ref]
    unfold mthU
    dsimp only
    rw [sto_at]
    cases S[m]? with
    | none => rfl
    | some c =>
      cases c with
      | liv o =>
        cases o with
        | dct kvs => rfl
        | lst xs =>
          simp only [Option.map_some, shC, shO]
          have hset : ∀ ys : List U, (sto B S).set (m + B.length) (.liv (.lst (ys.map (sh B.length)))) = sto B (S.set m (.liv (.lst ys))) := fun ys => sto_set (c := .liv (.lst ys))
          cases k
          case append =>
            match us with
            | [] => rfl
            | [v] =>
              simp only [List.map_cons, List.map_nil, List.length_map]
              split
              · simp only [Option.map_some, sh_non]
                rw [show xs.map (sh B.length) ++ [sh B.length v] = (xs ++ [v]).map (sh B.length) by simp, hset]
              · rfl
            | _ :: _ :: _ => rfl
          case extend =>
            match us with
            | [] => rfl
            | [v] =>
              simp only [List.map_cons, List.map_nil]
              rw [rd_sh]
              cases rd S v <;> simp only [sh_tup, sh_lst, sh_fz, sh_non, sh_bl, sh_int, sh_str, sh_exc, sh_ref, Option.map_none, List.length_map]
              split
              · simp only [Option.map_some, sh_non]
                rw [← List.map_append, hset]
              · rfl
            | _ :: _ :: _ => rfl
          case pop0 =>
            match us with
            | [] =>
              simp only [List.map_nil, List.getLast?_map]
              cases xs.getLast? with
              | none => rfl
              | some y =>
                simp only [Option.map_some]
                rw [← List.map_dropLast, hset]
            | _ :: _ => rfl
          case index =>
            match us with
            | [] => rfl
            | [v] =>
              simp only [List.map_cons, List.map_nil]
              rw [rd_sh, ← sh_lst, okD_sh, okD_sh]
              split
              · rw [List.findIdx?_map]
                have e : ((fun z => eqU z (sh B.length (rd S v))) ∘ sh B.length) = fun z => eqU z (rd S v) := by funext z; exact eqU_sh _ _ _
                rw [e]
                cases List.findIdx? (fun z => eqU z (rd S v)) xs with
                | none => rfl
                | some j => simp [sh_int]
              · rfl
            | _ :: _ :: _ => rfl
          case pop1 =>
            match us with
            | [] => rfl
            | [v] =>
              cases v with
              | int i =>
                simp only [List.map_cons, List.map_nil, sh_int, List.length_map]
                split
                · cases ixN xs.length i with
                  | none => rfl
                  | some j =>
                    dsimp only
                    rw [List.getElem?_map]
                    cases xs[j]? with
                    | none => rfl
                    | some y =>
                      simp only [Option.map_some]
                      rw [erase_map, hset]
                · rfl
              | _ => simp [sh_tup, sh_lst, sh_fz, sh_non, sh_bl, sh_str, sh_exc, sh_ref]
            | _ :: _ :: _ => simp
      | lck o => rfl
      | frz xs => rfl
      | ded => rfl
  | _ => simp [mthU, sh_tup, sh_lst, sh_fz, sh_non, sh_bl, sh_int, sh_str, sh_exc]
end
/-! trees -/
section
variable {B : Sto} {F F' : Nat → List U → Sto → R U} {w : Nat} {α β γ δ : Type}
theorem bind_sh {r : R α} {f : α → Sto → R β} {a : α → γ} {b : β → δ} {f' : γ → Sto → R δ} (h : ∀ x S, f' (a x) (sto B S) = shR B b (f x S)) : (shR B a r).bind f' = shR B b (r.bind f) := by
  cases r with
  | ok x S => exact h x S
  | ex c S => rfl
  | stuck => rfl
theorem opt_sh {S : Sto} {o : Option α} {a : α → γ} : optR (sto B S) (o.map a) = shR B a (optR S o) := by cases o <;> rfl
variable (hF : ∀ i us S, F' i (us.map (shB B)) (sto B S) = shR B (shB B) (F i us S))
theorem noEx_sh {r : R α} {a : α → γ} : noEx (shR B a r) = shR B a (noEx r) := by cases r <;> rfl
theorem comp_sh {st st' : U → Sto → R (Option U)} (h : ∀ x S, st' (shB B x) (sto B S) = shR B (Option.map (shB B)) (st x S)) : ∀ (us : List U) (S : Sto), compL st' (us.map (shB B)) (sto B S) = shR B (List.map (shB B)) (compL st us S)
  | [], S => rfl
  | x :: us, S => by
    rw [List.map_cons, compL, compL, h, noEx_sh]
    refine bind_sh fun o S1 => ?_
    rw [comp_sh h us S1]
    refine bind_sh fun ys S2 => ?_
    cases o <;> rfl
theorem lockd_sh {S : Sto} {l : Option Nat} {f : Sto → R α} {f' : Sto → R γ} {a : α → γ} (h : ∀ S, f' (sto B S) = shR B a (f S)) : lockd (sto B S) (l.map (· + B.length)) f' = shR B a (lockd S l f) := by
  cases l with
  | none => exact h S
  | some n =>
    unfold lockd
    simp only [Option.map_some]
    rw [sto_at]
    cases S[n]? with
    | none => rfl
    | some c =>
      cases c with
      | liv o =>
        cases o with
        | dct kvs => rfl
        | lst us =>
          simp only [Option.map_some, shC, shO]
          rw [show (sto B S).set (n + B.length) (.lck (.lst (us.map (sh B.length)))) = sto B (S.set n (.lck (.lst us))) from sto_set (c := .lck (.lst us)), h]
          refine bind_sh fun x S2 => ?_
          rw [show (sto B S2).set (n + B.length) (.liv (.lst (us.map (sh B.length)))) = sto B (S2.set n (.liv (.lst us))) from sto_set (c := .liv (.lst us))]
          rfl
      | lck o => rfl
      | frz xs => rfl
      | ded => rfl
mutual
/-- the constants of a tree know no place of the store -/
def nrE : EX → Bool
  | .var _ => true
  | .cst u => nrU u
  | .tup es => nrEs es
  | .bin _ a b => nrE a && nrE b
  | .cmp _ a b => nrE a && nrE b
  | .ch2 _ _ a b c => nrE a && nrE b && nrE c
  | .and a b => nrE a && nrE b
  | .or a b => nrE a && nrE b
  | .not a => nrE a
  | .ite c a b => nrE c && nrE a && nrE b
  | .ix a b => nrE a && nrE b
  | .sl a l h => nrE a && nrO l && nrO h
  | .rev a => nrE a
  | .call _ es => nrEs es
  | .bi _ es => nrEs es
  | .ist a _ => nrE a
  | .mth _ a es => nrE a && nrEs es
  | .qv q => nrQ q
  | .qn q => nrQ q
  | .frz a => nrE a
  | .dnew => true
  | .dget a b c => nrE a && nrE b && nrE c
def nrEs : List EX → Bool
  | [] => true
  | e :: es => nrE e && nrEs es
def nrO : Option EX → Bool
  | none => true
  | some e => nrE e
def nrQ : QX → Bool
  | .disp es => nrEs es
  | .comp t it c el _ => nrT t && nrI it && nrO c && nrE el
  | .compK _ t c el _ => nrT t && nrO c && nrE el
  | .lof a => nrE a
  | .srt a => nrE a
  | .rep es n => nrEs es && nrE n
def nrI : IX → Bool
  | .val a => nrE a
  | .rng1 a => nrE a
  | .rng2 a b => nrE a && nrE b
  | .rng3 a b c => nrE a && nrE b && nrE c
  | .enum a => nrE a
  | .zip2 a b => nrE a && nrE b
  | .zip3 a b c => nrE a && nrE b && nrE c
def nrT : TX → Bool
  | .nm _ => true
  | .tp ts => nrTs ts
  | .ix a b => nrE a && nrE b
def nrTs : List TX → Bool
  | [] => true
  | t :: ts => nrT t && nrTs ts
def nrU : U → Bool
  | .tup xs => nrUs xs
  | .lst xs => nrUs xs
  | .fz xs => nrUs xs
  | .ref _ => false
  | _ => true
def nrUs : List U → Bool
  | [] => true
  | x :: xs => nrU x && nrUs xs
end
mutual
theorem nr_sh (n : Nat) : ∀ u : U, nrU u = true → sh n u = u
  | .tup xs, h => by rw [nrU] at h; rw [sh_tup, nrs_sh n xs h]
  | .lst xs, h => by rw [nrU] at h; rw [sh_lst, nrs_sh n xs h]
  | .fz xs, h => by rw [nrU] at h; rw [sh_fz, nrs_sh n xs h]
  | .ref _, h => by simp [nrU] at h
  | .non, _ => sh_non
  | .bl _, _ => sh_bl
  | .int _, _ => sh_int
  | .str _, _ => sh_str
  | .exc _, _ => sh_exc
theorem nrs_sh (n : Nat) : ∀ us : List U, nrUs us = true → us.map (sh n) = us
  | [], _ => rfl
  | x :: xs, h => by
    rw [nrUs, Bool.and_eq_true] at h
    rw [List.map_cons, nr_sh n x h.1, nrs_sh n xs h.2]
end
theorem step_sh {t : TX} {cd : Option EX} {el : EX} {own : List Nat} (ht : ∀ u ρ S, evT F' t (shB B u) (shE B ρ) (sto B S) = (evT F t u ρ S).map fun p => (shE B p.1, sto B p.2)) (hc : ∀ ρ S, evC F' cd (shE B ρ) (sto B S) = shR B id (evC F cd ρ S)) (he : ∀ ρ S, evE F' el (shE B ρ) (sto B S) = shR B (shB B) (evE F el ρ S)) (ρ : Rho) (x : U) (S : Sto) :
    stepC own (evT F' t) (evC F' cd) (evE F' el) (shE B ρ) (shB B x) (sto B S) = shR B (Option.map (shB B)) (stepC own (evT F t) (evC F cd) (evE F el) ρ x S) := by
  unfold stepC
  rw [wipe_sh, ht x (wipeR ρ own) S]
  cases evT F t x (wipeR ρ own) S with
  | none => rfl
  | some p =>
    obtain ⟨ρ1, S1⟩ := p
    simp only [Option.map_some]
    rw [hc ρ1 S1]
    refine bind_sh (a := id) fun k S2 => ?_
    dsimp only [id]
    split
    · rw [he ρ1 S2]
      exact bind_sh fun y S3 => rfl
    · rfl
include hF
mutual
theorem E_sh : ∀ (e : EX) (ρ : Rho) (S : Sto), nrE e = true → evE F' e (shE B ρ) (sto B S) = shR B (shB B) (evE F e ρ S)
  | .var i, ρ, S, _ => by rw [evE, evE, getR_sh, opt_sh]
  | .cst u, ρ, S, h => by rw [evE, evE]; rw [nrE] at h; show R.ok u _ = R.ok (shB B u) _; rw [shB, nr_sh _ u h]
  | .tup es, ρ, S, h => by
    rw [nrE] at h
    rw [evE, evE, Es_sh es ρ S h]
    exact bind_sh fun us S1 => by show R.ok _ _ = R.ok _ _; rw [shB, sh_tup]
  | .bin o a b, ρ, S, h => by
    rw [nrE, Bool.and_eq_true] at h
    rw [ev_bin, ev_bin]; dsimp only
    rw [E_sh a ρ S h.1]
    refine bind_sh fun u S1 => ?_
    rw [E_sh b ρ S1 h.2]
    exact bind_sh fun v S2 => by rw [bin_sh, opt_sh]
  | .cmp o a b, ρ, S, h => by
    rw [nrE, Bool.and_eq_true] at h
    rw [ev_cmp, ev_cmp]; dsimp only
    rw [E_sh a ρ S h.1]
    refine bind_sh fun u S1 => ?_
    rw [E_sh b ρ S1 h.2]
    exact bind_sh fun v S2 => by rw [cmp_sh]; cases cmpU S2 o u v <;> simp [optR, shR, sh_bl]
  | .ch2 o p a b c, ρ, S, h => by
    rw [nrE, Bool.and_eq_true, Bool.and_eq_true] at h
    rw [ev_ch2, ev_ch2]; dsimp only
    rw [E_sh a ρ S h.1.1]
    refine bind_sh fun u S1 => ?_
    rw [E_sh b ρ S1 h.1.2]
    refine bind_sh fun v S2 => ?_
    rw [cmp_sh]
    cases cmpU S2 o u v with
    | none => rfl
    | some k =>
      cases k with
      | false => show R.ok _ _ = R.ok _ _; rw [shB, sh_bl]
      | true =>
        dsimp only
        rw [E_sh c ρ S2 h.2]
        exact bind_sh fun z S3 => by rw [cmp_sh]; cases cmpU S3 p v z <;> simp [optR, shR, sh_bl]
  | .and a b, ρ, S, h => by
    rw [nrE, Bool.and_eq_true] at h
    rw [evE, evE, E_sh a ρ S h.1]
    refine bind_sh fun u S1 => ?_
    rw [tru_sh]
    cases truU S1 u with
    | none => rfl
    | some k => cases k with
      | true => exact E_sh b ρ S1 h.2
      | false => rfl
  | .or a b, ρ, S, h => by
    rw [nrE, Bool.and_eq_true] at h
    rw [evE, evE, E_sh a ρ S h.1]
    refine bind_sh fun u S1 => ?_
    rw [tru_sh]
    cases truU S1 u with
    | none => rfl
    | some k => cases k with
      | false => exact E_sh b ρ S1 h.2
      | true => rfl
  | .not a, ρ, S, h => by
    rw [nrE] at h
    rw [evE, evE, E_sh a ρ S h]
    exact bind_sh fun u S1 => by rw [tru_sh]; cases truU S1 u <;> simp [optR, shR, sh_bl]
  | .ite c a b, ρ, S, h => by
    rw [nrE, Bool.and_eq_true, Bool.and_eq_true] at h
    rw [evE, evE, E_sh c ρ S h.1.1]
    refine bind_sh fun u S1 => ?_
    rw [tru_sh]
    cases truU S1 u with
    | none => rfl
    | some k => cases k with
      | true => exact E_sh a ρ S1 h.1.2
      | false => exact E_sh b ρ S1 h.2
  | .ix a b, ρ, S, h => by
    rw [nrE, Bool.and_eq_true] at h
    rw [ev_ix, ev_ix]; dsimp only
    rw [E_sh a ρ S h.1]
    refine bind_sh fun u S1 => ?_
    rw [E_sh b ρ S1 h.2]
    exact bind_sh fun v S2 => by rw [ix_sh, opt_sh]
  | .sl a lo hi, ρ, S, h => by
    rw [nrE, Bool.and_eq_true, Bool.and_eq_true] at h
    rw [evE, evE, E_sh a ρ S h.1.1]
    refine bind_sh fun u S1 => ?_
    rw [O_sh lo ρ S1 h.1.2]
    refine bind_sh (a := id) fun l S2 => ?_
    dsimp only [id]
    rw [O_sh hi ρ S2 h.2]
    refine bind_sh (a := id) fun l2 S3 => ?_
    dsimp only [id]
    rw [sl_sh, opt_sh]
  | .rev a, ρ, S, h => by
    rw [nrE] at h
    rw [evE, evE, E_sh a ρ S h]
    exact bind_sh fun u S1 => by rw [rev_sh, opt_sh]
  | .call f es, ρ, S, h => by
    rw [nrE] at h
    rw [evE, evE, Es_sh es ρ S h]
    exact bind_sh fun us S1 => hF f us S1
  | .bi b es, ρ, S, h => by
    rw [nrE] at h
    rw [evE, evE, Es_sh es ρ S h]
    exact bind_sh fun us S1 => by rw [bi_sh, opt_sh]
  | .ist a ts, ρ, S, h => by
    rw [nrE] at h
    rw [evE, evE, E_sh a ρ S h]
    exact bind_sh fun u S1 => by rw [vt_sh]; cases vtU S1 u <;> simp [optR, shR, sh_bl]
  | .mth m a es, ρ, S, h => by
    rw [nrE, Bool.and_eq_true] at h
    rw [evE, evE, E_sh a ρ S h.1]
    refine bind_sh fun u S1 => ?_
    rw [mtOk_sh]
    split
    · rw [Es_sh es ρ S1 h.2]
      refine bind_sh fun us S2 => ?_
      rw [mth_sh]
      cases mthU S2 m u us <;> rfl
    · rfl
  | .qv q, ρ, S, h => by
    rw [nrE] at h
    rw [ev_qv, ev_qv]; dsimp only
    rw [Q_sh q ρ S h]
    exact bind_sh fun us S1 => by show R.ok _ _ = R.ok _ _; rw [shB, sh_lst]
  | .qn q, ρ, S, h => by
    rw [nrE] at h
    rw [ev_qn, ev_qn]; dsimp only
    rw [Q_sh q ρ S h]
    refine bind_sh fun us S1 => ?_
    show R.ok _ _ = R.ok _ _
    rw [shB, sh_ref, sto_len, show sto B S1 ++ [C.liv (O.lst (us.map (sh B.length)))] = sto B (S1 ++ [C.liv (O.lst us)]) from sto_app (c := .liv (.lst us))]
  | .frz a, ρ, S, h => by
    rw [nrE] at h
    rw [ev_frz, ev_frz]; dsimp only
    rw [E_sh a ρ S h]
    refine bind_sh fun u S1 => ?_
    cases u with
    | ref m =>
      rw [shB, sh_ref]
      dsimp only
      rw [sto_at]
      cases S1[m]? with
      | none => rfl
      | some c =>
        cases c with
        | liv o =>
          cases o with
          | dct kvs => rfl
          | lst xs =>
            simp only [Option.map_some, shC, shO]
            show R.ok _ _ = R.ok _ _
            rw [sh_lst, show (sto B S1).set (m + B.length) .ded = sto B (S1.set m .ded) from sto_set (c := .ded)]
        | lck o => rfl
        | frz xs => rfl
        | ded => rfl
    | _ => simp [sh_tup, sh_lst, sh_fz, sh_non, sh_bl, sh_int, sh_str, sh_exc, shR]
  | .dnew, ρ, S, _ => by
    rw [evE, evE]
    show R.ok _ _ = R.ok _ _
    rw [shB, sh_ref, sto_len, show sto B S ++ [C.liv (O.dct [])] = sto B (S ++ [C.liv (O.dct [])]) from sto_app (c := .liv (.dct []))]
  | .dget a b c, ρ, S, h => by
    rw [nrE, Bool.and_eq_true, Bool.and_eq_true] at h
    rw [evE, evE, E_sh a ρ S h.1.1]
    refine bind_sh fun u S1 => ?_
    rw [dct_sh, show ((dctOf S1 u).map (List.map fun kv => (kv.1, shB B kv.2))).isSome = (dctOf S1 u).isSome by cases dctOf S1 u <;> rfl]
    split
    · rw [E_sh b ρ S1 h.1.2]
      refine bind_sh fun v S2 => ?_
      rw [E_sh c ρ S2 h.2]
      exact bind_sh fun z S3 => by rw [dget_sh, opt_sh]
    · rfl
theorem Es_sh : ∀ (es : List EX) (ρ : Rho) (S : Sto), nrEs es = true → evEs F' es (shE B ρ) (sto B S) = shR B (List.map (shB B)) (evEs F es ρ S)
  | [], ρ, S, _ => by rw [evEs, evEs]; rfl
  | e :: es, ρ, S, h => by
    rw [nrEs, Bool.and_eq_true] at h
    rw [evEs, evEs, E_sh e ρ S h.1]
    refine bind_sh fun u S1 => ?_
    rw [Es_sh es ρ S1 h.2]
    exact bind_sh fun us S2 => rfl
theorem O_sh : ∀ (o : Option EX) (ρ : Rho) (S : Sto), nrO o = true → evO F' o (shE B ρ) (sto B S) = shR B id (evO F o ρ S)
  | none, ρ, S, _ => by rw [evO, evO]; rfl
  | some e, ρ, S, h => by
    rw [nrO] at h
    rw [evO, evO, E_sh e ρ S h]
    refine bind_sh fun u S1 => ?_
    cases u <;> simp [sh_tup, sh_lst, sh_fz, sh_non, sh_bl, sh_int, sh_str, sh_exc, sh_ref, shR]
theorem C_sh : ∀ (o : Option EX) (ρ : Rho) (S : Sto), nrO o = true → evC F' o (shE B ρ) (sto B S) = shR B id (evC F o ρ S)
  | none, ρ, S, _ => by rw [evC, evC]; rfl
  | some e, ρ, S, h => by
    rw [nrO] at h
    rw [evC, evC, E_sh e ρ S h]
    exact bind_sh fun u S1 => by rw [tru_sh]; cases truU S1 u <;> rfl
theorem Q_sh : ∀ (q : QX) (ρ : Rho) (S : Sto), nrQ q = true → evQ F' q (shE B ρ) (sto B S) = shR B (List.map (shB B)) (evQ F q ρ S)
  | .disp es, ρ, S, h => by rw [nrQ] at h; rw [evQ, evQ]; exact Es_sh es ρ S h
  | .comp t it cd el own, ρ, S, h => by
    rw [nrQ, Bool.and_eq_true, Bool.and_eq_true, Bool.and_eq_true] at h
    obtain ⟨⟨⟨h1, h2⟩, h3⟩, h4⟩ := h
    rw [ev_comp, ev_comp]; dsimp only
    rw [I_sh it ρ S h2]
    refine bind_sh fun p S1 => ?_
    show (if (p.1.map (shB B)).length ≤ lim then _ else _) = _
    rw [List.length_map]
    split
    · exact lockd_sh fun S2 => comp_sh (fun x S => step_sh (fun u ρ S => T_sh t u ρ S h1) (fun ρ S => C_sh cd ρ S h3) (fun ρ S => E_sh el ρ S h4) ρ x S) p.1 S2
    · rfl
  | .compK i t cd el own, ρ, S, h => by
    rw [nrQ, Bool.and_eq_true, Bool.and_eq_true] at h
    obtain ⟨⟨h1, h3⟩, h4⟩ := h
    rw [ev_compK, ev_compK]; dsimp only
    rw [getR_sh]
    cases getR ρ i with
    | none => rfl
    | some u =>
      cases u with
      | ref m =>
        simp only [Option.map_some]
        rw [shB, sh_ref]
        dsimp only
        rw [sto_at]
        cases S[m]? with
        | none => rfl
        | some c =>
          cases c with
          | liv o =>
            cases o with
            | lst xs => rfl
            | dct kvs =>
              simp only [Option.map_some, shC, shO, List.length_map]
              split
              · have ek : (kvs.map fun kv => (kv.1, sh B.length kv.2)).map (fun kv => U.int kv.1) = (kvs.map fun kv => U.int kv.1).map (shB B) := by
                  rw [List.map_map, List.map_map]
                  exact List.map_congr_left fun x _ => (sh_int (n := B.length) (b := x.1)).symm
                rw [show (sto B S).set (m + B.length) (.lck (.dct (kvs.map fun kv => (kv.1, sh B.length kv.2)))) = sto B (S.set m (.lck (.dct kvs))) from sto_set (c := .lck (.dct kvs)), ek]
                rw [comp_sh (fun x S => step_sh (fun u ρ S => T_sh t u ρ S h1) (fun ρ S => C_sh cd ρ S h3) (fun ρ S => E_sh el ρ S h4) ρ x S)]
                refine bind_sh fun ys S2 => ?_
                show R.ok _ _ = R.ok _ _
                rw [show (sto B S2).set (m + B.length) (.liv (.dct (kvs.map fun kv => (kv.1, sh B.length kv.2)))) = sto B (S2.set m (.liv (.dct kvs))) from sto_set (c := .liv (.dct kvs))]
              · rfl
          | lck o => rfl
          | frz xs => rfl
          | ded => rfl
      | _ => simp [sh_tup, sh_lst, sh_fz, sh_non, sh_bl, sh_int, sh_str, sh_exc, shR]
  | .lof a, ρ, S, h => by
    rw [nrQ] at h
    rw [evQ, evQ, E_sh a ρ S h]
    exact bind_sh fun u S1 => by rw [seq_sh, opt_sh]
  | .srt a, ρ, S, h => by
    rw [nrQ] at h
    rw [evQ, evQ, E_sh a ρ S h]
    refine bind_sh fun u S1 => ?_
    rw [seq_sh]
    cases seqOf S1 u with
    | none => rfl
    | some xs => simp only [Option.map_some]; rw [srt_sh, opt_sh]
  | .rep es a, ρ, S, h => by
    rw [nrQ, Bool.and_eq_true] at h
    rw [evQ, evQ, Es_sh es ρ S h.1]
    refine bind_sh fun us S1 => ?_
    rw [E_sh a ρ S1 h.2]
    refine bind_sh fun v S2 => ?_
    cases v with
    | int k =>
      rw [shB, sh_int]
      dsimp only
      rw [List.length_map]
      split
      · show R.ok _ _ = R.ok _ _
        rw [List.map_flatten, List.map_replicate]
      · rfl
    | _ => simp [sh_tup, sh_lst, sh_fz, sh_non, sh_bl, sh_str, sh_exc, sh_ref, shR]
theorem I_sh : ∀ (it : IX) (ρ : Rho) (S : Sto), nrI it = true → evI F' it (shE B ρ) (sto B S) = shR B (shP B) (evI F it ρ S)
  | .val a, ρ, S, h => by
    rw [nrI] at h
    rw [evI, evI, E_sh a ρ S h]
    exact bind_sh fun u S1 => by rw [lockOf_sh, opt_sh]
  | .rng1 a, ρ, S, h => by
    rw [nrI] at h
    rw [evI, evI, E_sh a ρ S h]
    refine bind_sh fun u S1 => ?_
    cases u with
    | int j =>
      rw [shB, sh_int]
      dsimp only
      split
      · show R.ok _ _ = R.ok (_, _) _; rw [iota_sh]; rfl
      · rfl
    | _ => simp [sh_tup, sh_lst, sh_fz, sh_non, sh_bl, sh_str, sh_exc, sh_ref, shR]
  | .rng2 a b, ρ, S, h => by
    rw [nrI, Bool.and_eq_true] at h
    rw [evI, evI, E_sh a ρ S h.1]
    refine bind_sh fun u S1 => ?_
    rw [E_sh b ρ S1 h.2]
    refine bind_sh fun v S2 => ?_
    cases u with
    | int i =>
      cases v with
      | int j =>
        rw [shB, sh_int, sh_int]
        dsimp only
        split
        · show R.ok _ _ = R.ok (_, _) _; rw [iota_sh]; rfl
        · rfl
      | _ => simp [sh_tup, sh_lst, sh_fz, sh_non, sh_bl, sh_int, sh_str, sh_exc, sh_ref, shR]
    | _ => simp [sh_tup, sh_lst, sh_fz, sh_non, sh_bl, sh_str, sh_exc, sh_ref, shR]
  | .rng3 a b c, ρ, S, h => by
    rw [nrI, Bool.and_eq_true, Bool.and_eq_true] at h
    rw [evI, evI, E_sh a ρ S h.1.1]
    refine bind_sh fun u S1 => ?_
    rw [E_sh b ρ S1 h.1.2]
    refine bind_sh fun v S2 => ?_
    rw [E_sh c ρ S2 h.2]
    refine bind_sh fun z S3 => ?_
    cases u with
    | int i =>
      cases v with
      | int j =>
        cases z with
        | int k =>
          rw [shB, sh_int, sh_int, sh_int]
          by_cases hk : k = -1
          · subst hk
            show (if small i = true ∧ small j = true then R.ok (iotaC i (-1) (i - j).toNat, none) _ else R.stuck) = shR B (shP B) (if small i = true ∧ small j = true then R.ok (iotaC i (-1) (i - j).toNat, none) _ else R.stuck)
            split
            · show R.ok _ _ = R.ok (_, _) _; rw [iotaC_sh]; rfl
            · rfl
          · split
            · rename_i h1 h2 h3; cases h3; exact absurd rfl hk
            · rfl
        | _ => simp [sh_tup, sh_lst, sh_fz, sh_non, sh_bl, sh_int, sh_str, sh_exc, sh_ref, shR]
      | _ => simp [sh_tup, sh_lst, sh_fz, sh_non, sh_bl, sh_int, sh_str, sh_exc, sh_ref, shR]
    | _ => simp [sh_tup, sh_lst, sh_fz, sh_non, sh_bl, sh_str, sh_exc, sh_ref, shR]
  | .enum a, ρ, S, h => by
    rw [nrI] at h
    rw [evI, evI, E_sh a ρ S h]
    refine bind_sh fun u S1 => ?_
    rw [lockOf_sh]
    cases lockOf S1 u with
    | none => rfl
    | some p => obtain ⟨xs, l⟩ := p; simp only [Option.map_some, shP]; rw [enum_sh]; rfl
  | .zip2 a b, ρ, S, h => by
    rw [nrI, Bool.and_eq_true] at h
    rw [evI, evI, E_sh a ρ S h.1]
    refine bind_sh fun u S1 => ?_
    rw [E_sh b ρ S1 h.2]
    refine bind_sh fun v S2 => ?_
    cases u <;> cases v <;> simp [sh_tup, sh_lst, sh_fz, sh_non, sh_bl, sh_int, sh_str, sh_exc, sh_ref, shR, shP, zip_sh]
  | .zip3 a b c, ρ, S, h => by rw [evI, evI]; rfl
theorem T_sh : ∀ (t : TX) (u : U) (ρ : Rho) (S : Sto), nrT t = true → evT F' t (shB B u) (shE B ρ) (sto B S) = (evT F t u ρ S).map fun p => (shE B p.1, sto B p.2)
  | .nm i, u, ρ, S, _ => by
    rw [evT, evT, List.length_map]
    split
    · show some _ = some _
      rw [show (shE B ρ).set i (some (shB B u)) = shE B (ρ.set i (some u)) by simp [shE, List.map_set]]
    · rfl
  | .tp ts, u, ρ, S, h => by
    rw [nrT] at h
    rw [evT, evT, unpack_sh]
    cases unpack ts.length u S with
    | none => rfl
    | some us => exact Ts_sh ts us ρ S h
  | .ix a b, v, ρ, S, h => by
    rw [nrT, Bool.and_eq_true] at h
    rw [evT, evT, E_sh a ρ S h.1]
    cases evE F a ρ S with
    | stuck => rfl
    | ex c S1 => rfl
    | ok u S1 =>
      cases u with
      | ref m =>
        simp only [shR, sh_ref]
        rw [E_sh b ρ S1 h.2]
        cases evE F b ρ S1 with
        | stuck => rfl
        | ex c S2 => rfl
        | ok x S2 =>
          cases x with
          | int i =>
            simp only [shR, sh_int]
            rw [sto_at]
            cases S2[m]? with
            | none => rfl
            | some c =>
              cases c with
              | liv o =>
                cases o with
                | lst xs =>
                  simp only [Option.map_some, shC, shO, List.length_map]
                  cases ixN xs.length i with
                  | none => rfl
                  | some k =>
                    simp only [Option.map_some]
                    rw [show (sto B S2).set (m + B.length) (.liv (.lst ((xs.map (sh B.length)).set k (shB B v)))) = sto B (S2.set m (.liv (.lst (xs.set k v)))) by
                      rw [show (xs.map (sh B.length)).set k (shB B v) = (xs.set k v).map (sh B.length) from (List.map_set ..).symm]; exact sto_set (c := .liv (.lst (xs.set k v)))]
                | dct kvs =>
                  simp only [Option.map_some, shC, shO, List.length_map]
                  split
                  · simp only [Option.map_some]
                    rw [show (sto B S2).set (m + B.length) (.liv (.dct (dputU (kvs.map fun kv => (kv.1, sh B.length kv.2)) i (shB B v)))) = sto B (S2.set m (.liv (.dct (dputU kvs i v)))) by
                      rw [dput_sh]; exact sto_set (c := .liv (.dct (dputU kvs i v)))]
                  · rfl
              | lck o => rfl
              | frz xs => rfl
              | ded => rfl
          | _ => simp [sh_tup, sh_lst, sh_fz, sh_non, sh_bl, sh_str, sh_exc, sh_ref, shR]
      | _ => simp [sh_tup, sh_lst, sh_fz, sh_non, sh_bl, sh_int, sh_str, sh_exc, shR]
theorem Ts_sh : ∀ (ts : List TX) (us : List U) (ρ : Rho) (S : Sto), nrTs ts = true → evTs F' ts (us.map (shB B)) (shE B ρ) (sto B S) = (evTs F ts us ρ S).map fun p => (shE B p.1, sto B p.2)
  | [], [], ρ, S, _ => by rw [List.map_nil, evTs, evTs]; rfl
  | [], _ :: _, ρ, S, _ => by simp [evTs]
  | _ :: _, [], ρ, S, _ => by simp [evTs]
  | t :: ts, u :: us, ρ, S, h => by
    rw [nrTs, Bool.and_eq_true] at h
    rw [List.map_cons, evTs, evTs, T_sh t u ρ S h.1]
    cases evT F t u ρ S with
    | none => rfl
    | some p => exact Ts_sh ts us p.1 p.2 h.2
end
end
end
section
variable {B : Sto} {F F' : Nat → List U → Sto → R U} {w : Nat}
def shO2 (B : Sto) : Out → Out
  | .nx ρ => .nx (shE B ρ)
  | .rt u => .rt (shB B u)
  | .bk ρ => .bk (shE B ρ)
  | .ct ρ => .ct (shE B ρ)
  | .ex c ρ => .ex c (shE B ρ)
def shS (B : Sto) : SR → SR
  | .ok o S => .ok (shO2 B o) (sto B S)
  | .stuck => .stuck
theorem toS_sh {α β : Type} {r : R α} {f : α → Sto → SR} {a : α → β} {ρ : Rho} {f' : β → Sto → SR} (h : ∀ x S, f' (a x) (sto B S) = shS B (f x S)) : (shR B a r).toS (shE B ρ) f' = shS B (r.toS ρ f) := by
  cases r with
  | ok x S => exact h x S
  | ex c S => rfl
  | stuck => rfl
theorem for_sh {st st' : U → Rho → Sto → SR} (h : ∀ x ρ S, st' (shB B x) (shE B ρ) (sto B S) = shS B (st x ρ S)) : ∀ (us : List U) (ρ : Rho) (S : Sto), forL st' (us.map (shB B)) (shE B ρ) (sto B S) = shS B (forL st us ρ S)
  | [], ρ, S => rfl
  | x :: us, ρ, S => by
    rw [List.map_cons, forL, forL, h]
    cases st x ρ S with
    | stuck => rfl
    | ok o S1 =>
      cases o with
      | nx ρ1 => exact for_sh h us ρ1 S1
      | ct ρ1 => exact for_sh h us ρ1 S1
      | bk ρ1 => rfl
      | rt u => rfl
      | ex c ρ1 => rfl
theorem lockdS_sh {S : Sto} {l : Option Nat} {f f' : Sto → SR} (h : ∀ S, f' (sto B S) = shS B (f S)) : lockdS (sto B S) (l.map (· + B.length)) f' = shS B (lockdS S l f) := by
  cases l with
  | none => exact h S
  | some n =>
    unfold lockdS
    simp only [Option.map_some]
    rw [sto_at]
    cases S[n]? with
    | none => rfl
    | some c =>
      cases c with
      | liv o =>
        cases o with
        | dct kvs => rfl
        | lst us =>
          simp only [Option.map_some, shC, shO]
          rw [show (sto B S).set (n + B.length) (.lck (.lst (us.map (sh B.length)))) = sto B (S.set n (.lck (.lst us))) from sto_set (c := .lck (.lst us)), h]
          cases f (S.set n (.lck (.lst us))) with
          | stuck => rfl
          | ok a S2 =>
            show SR.ok _ _ = SR.ok _ _
            rw [show (sto B S2).set (n + B.length) (.liv (.lst (us.map (sh B.length)))) = sto B (S2.set n (.liv (.lst us))) from sto_set (c := .liv (.lst us))]
      | lck o => rfl
      | frz xs => rfl
      | ded => rfl
theorem wh_sh {c c' : Rho → Sto → R U} {st st' : Rho → Sto → SR} (hc : ∀ ρ S, c' (shE B ρ) (sto B S) = shR B (shB B) (c ρ S)) (h : ∀ ρ S, st' (shE B ρ) (sto B S) = shS B (st ρ S)) : ∀ (k : Nat) (ρ : Rho) (S : Sto), whL c' st' k (shE B ρ) (sto B S) = shS B (whL c st k ρ S)
  | 0, _, _ => rfl
  | k + 1, ρ, S => by
    rw [whL, whL, hc]
    cases c ρ S with
    | stuck => rfl
    | ex c S0 => rfl
    | ok u S0 =>
      simp only [shR]
      rw [tru_sh]
      cases truU S0 u with
      | none => rfl
      | some b =>
        cases b with
        | false => rfl
        | true =>
          dsimp only
          rw [h]
          cases st ρ S0 with
          | stuck => rfl
          | ok o S1 =>
            cases o with
            | nx ρ1 => exact wh_sh hc h k ρ1 S1
            | ct ρ1 => exact wh_sh hc h k ρ1 S1
            | bk ρ1 => rfl
            | rt u => rfl
            | ex c ρ1 => rfl
theorem setAll_sh : ∀ (is : List Nat) (us : List U) (ρ : Rho), setAll is (us.map (shB B)) (shE B ρ) = shE B (setAll is us ρ)
  | [], us, ρ => by simp [setAll]
  | _ :: _, [], ρ => by simp [setAll]
  | i :: is, u :: us, ρ => by
    rw [List.map_cons, setAll, setAll, show (shE B ρ).set i (some (shB B u)) = shE B (ρ.set i (some u)) by simp [shE, List.map_set]]
    exact setAll_sh is us _
mutual
def nrS : SX → Bool
  | .ex e => nrE e
  | .set t e => nrT t && nrE e
  | .par _ es => nrEs es
  | .aug _ _ _ => false
  | .augs _ _ _ _ => false
  | .ife c a b => nrE c && nrSs a && nrSs b
  | .fo t it b => nrT t && nrI it && nrSs b
  | .wh c b => nrE c && nrSs b
  | .ret e => nrE e
  | .retN => true
  | .brk => true
  | .cnt => true
  | .pass => true
  | .rai _ => true
  | .no => true
  | .tryx b _ _ _ h => nrSs b && nrSs h
def nrSs : List SX → Bool
  | [] => true
  | s :: ss => nrS s && nrSs ss
end
variable (hF : ∀ i us S, F' i (us.map (shB B)) (sto B S) = shR B (shB B) (F i us S))
include hF
mutual
theorem S_sh : ∀ (s : SX) (ρ : Rho) (S : Sto), nrS s = true → evS F' w s (shE B ρ) (sto B S) = shS B (evS F w s ρ S)
  | .ex e, ρ, S, h => by
    rw [nrS] at h
    rw [evS, evS, E_sh hF e ρ S h]
    exact toS_sh fun u S1 => rfl
  | .set t e, ρ, S, h => by
    rw [nrS, Bool.and_eq_true] at h
    rw [ev_set, ev_set]; dsimp only
    rw [E_sh hF e ρ S h.2]
    refine toS_sh fun u S1 => ?_
    rw [T_sh hF t u ρ S1 h.1]
    cases evT F t u ρ S1 <;> rfl
  | .par is es, ρ, S, h => by
    rw [nrS] at h
    rw [ev_par, ev_par]; dsimp only
    rw [Es_sh hF es ρ S h]
    refine toS_sh fun us S1 => ?_
    rw [List.length_map, List.length_map]
    split
    · rw [setAll_sh]; rfl
    · rfl
  | .aug _ _ _, _, _, h => by simp [nrS] at h
  | .augs _ _ _ _, _, _, h => by simp [nrS] at h
  | .ife c a b, ρ, S, h => by
    rw [nrS, Bool.and_eq_true, Bool.and_eq_true] at h
    rw [ev_ife, ev_ife]; dsimp only
    rw [E_sh hF c ρ S h.1.1]
    refine toS_sh fun u S1 => ?_
    rw [tru_sh]
    cases truU S1 u with
    | none => rfl
    | some k => cases k with
      | true => exact Ss_sh a ρ S1 h.1.2
      | false => exact Ss_sh b ρ S1 h.2
  | .fo t it b, ρ, S, h => by
    rw [nrS, Bool.and_eq_true, Bool.and_eq_true] at h
    rw [ev_fo, ev_fo]; dsimp only
    rw [I_sh hF it ρ S h.1.2]
    refine toS_sh fun p S1 => ?_
    refine lockdS_sh fun S2 => ?_
    refine for_sh (fun x ρ S => ?_) p.1 ρ S2
    unfold stepF
    rw [T_sh hF t x ρ S h.1.1]
    cases evT F t x ρ S with
    | none => rfl
    | some q => exact Ss_sh b q.1 q.2 h.2
  | .wh c b, ρ, S, h => by
    rw [nrS, Bool.and_eq_true] at h
    rw [ev_wh, ev_wh]
    exact wh_sh (fun ρ S => E_sh hF c ρ S h.1) (fun ρ S => Ss_sh b ρ S h.2) w ρ S
  | .ret e, ρ, S, h => by
    rw [nrS] at h
    rw [evS, evS, E_sh hF e ρ S h]
    exact toS_sh fun u S1 => rfl
  | .retN, ρ, S, _ => by rw [evS, evS]; show SR.ok _ _ = SR.ok (.rt _) _; rw [shB, sh_non]
  | .brk, ρ, S, _ => by rw [evS, evS]; rfl
  | .cnt, ρ, S, _ => by rw [evS, evS]; rfl
  | .pass, ρ, S, _ => by rw [evS, evS]; rfl
  | .rai c, ρ, S, _ => by rw [evS, evS]; rfl
  | .no, ρ, S, _ => by rw [evS, evS]; rfl
  | .tryx b n c i hd, ρ, S, h => by
    rw [nrS, Bool.and_eq_true] at h
    have e1 : ∀ F, evS F w (.tryx b n c i hd) = tryR n c i (evSs F w b) (evSs F w hd) := fun F => by funext ρ S; rw [evS] <;> rfl
    rw [e1, e1]
    unfold tryR
    rw [Ss_sh b ρ S h.1]
    cases evSs F w b ρ S with
    | stuck => rfl
    | ok o S1 =>
      cases o with
      | nx ρ1 => rfl
      | ct ρ1 => rfl
      | bk ρ1 => rfl
      | rt u => rfl
      | ex c' ρ1 =>
        simp only [shS, shO2, List.length_map]
        split
        · split
          · rw [show (shE B ρ1).set i (some (U.exc c')) = shE B (ρ1.set i (some (U.exc c'))) by simp [shE, List.map_set, sh_exc]]
            rw [Ss_sh hd (ρ1.set i (some (.exc c'))) S1 h.2]
            have un : ∀ ρ2 : Rho, (shE B ρ2).set i none = shE B (ρ2.set i none) := fun ρ2 => by simp [shE, List.map_set]
            cases evSs F w hd (ρ1.set i (some (.exc c'))) S1 with
            | stuck => rfl
            | ok o2 S2 =>
              cases o2 with
              | nx ρ2 => simp only [shS, shO2]; rw [un]
              | ct ρ2 => simp only [shS, shO2]; rw [un]
              | bk ρ2 => simp only [shS, shO2]; rw [un]
              | rt u => rfl
              | ex c ρ2 => rfl
          · rfl
        · split <;> rfl
theorem Ss_sh : ∀ (ss : List SX) (ρ : Rho) (S : Sto), nrSs ss = true → evSs F' w ss (shE B ρ) (sto B S) = shS B (evSs F w ss ρ S)
  | [], ρ, S, _ => by rw [ev_nil, ev_nil]; rfl
  | s :: ss, ρ, S, h => by
    rw [nrSs, Bool.and_eq_true] at h
    rw [ev_cons, ev_cons]; dsimp only
    rw [S_sh s ρ S h.1]
    cases evS F w s ρ S with
    | stuck => rfl
    | ok o S1 =>
      cases o with
      | nx ρ1 => exact Ss_sh ss ρ1 S1 h.2
      | ct ρ1 => rfl
      | bk ρ1 => rfl
      | rt u => rfl
      | ex c ρ1 => rfl
end
end
theorem run_sh {B : Sto} {D : List Fd} {w : Nat} (hD : (D.all fun fd => nrSs fd.body) = true) : ∀ (d i : Nat) (us : List U) (S : Sto), run D w d i (us.map (shB B)) (sto B S) = shR B (shB B) (run D w d i us S)
  | 0, _, _, _ => rfl
  | d + 1, i, us, S => by
    rw [run, run]
    cases hi : D[i]? with
    | none => rfl
    | some fd =>
      dsimp only
      rw [List.length_map]
      split
      · have hb : nrSs fd.body = true := List.all_eq_true.mp hD fd (List.mem_of_getElem? hi)
        have e : (us.map (shB B)).map some ++ List.replicate (fd.nn - fd.np) none = shE B (us.map some ++ List.replicate (fd.nn - fd.np) none) := by
          simp [shE, List.map_append, List.map_replicate, Function.comp_def]
        rw [e, Ss_sh (fun i us S => run_sh hD d i us S) fd.body _ S hb]
        cases evSs (run D w d) w fd.body (us.map some ++ List.replicate (fd.nn - fd.np) none) S with
        | stuck => rfl
        | ok o S1 => cases o <;> first | rfl | (simp [shS, shO2, shR, sh_non])
      · rfl
/-- what a def yields beside nothing, it yields beside anything -/
theorem run_at {D : List Fd} {w d i : Nat} {us : List U} {v : U} (hD : (D.all fun fd => nrSs fd.body) = true) (hu : nrUs us = true) (hv : nrU v = true) {T : Sto} (h : run D w d i us [] = .ok v T) (B : Sto) : ∃ T', run D w d i us B = .ok v (B ++ T') := by
  have e := run_sh (B := B) (w := w) hD d i us []
  rw [nrs_sh _ _ hu, h] at e
  refine ⟨T.map (shC B.length), ?_⟩
  have e2 : sto B [] = B := by simp [sto]
  rw [e2] at e
  rw [e]
  show R.ok _ _ = _
  rw [shB, nr_sh _ _ hv]; rfl
theorem run_ex_at {D : List Fd} {w d i : Nat} {us : List U} {c : Nat} (hD : (D.all fun fd => nrSs fd.body) = true) (hu : nrUs us = true) {T : Sto} (h : run D w d i us [] = .ex c T) (B : Sto) : ∃ T', run D w d i us B = .ex c (B ++ T') := by
  have e := run_sh (B := B) (w := w) hD d i us []
  rw [nrs_sh _ _ hu, h] at e
  refine ⟨T.map (shC B.length), ?_⟩
  have e2 : sto B [] = B := by simp [sto]
  rw [e2] at e
  rw [e]; rfl
end Ev
set_option Elab.async false
set_option linter.all false
set_option maxRecDepth 100000
set_option maxHeartbeats 2000000
/-! EvR: falls, once for all tables. -/
namespace Ev
local macro_rules | `(tactic| walk_at "w") => `(tactic| (first
  | (with_reducible refine ws_cons ?_) | (with_reducible refine ws_nil ?_) | (with_reducible refine ws_nm ?_ rfl) | (with_reducible refine ws_set ?_) | (with_reducible refine ws_par ?_) | (with_reducible refine ws_if ?_) | (with_reducible refine ws_ret ?_) | (with_reducible refine ws_retN ?_) | (with_reducible refine ws_brk ?_) | (with_reducible refine ws_cnt ?_) | (with_reducible refine ws_pass ?_) | (with_reducible refine ws_rai ?_) | (with_reducible refine ws_ex ?_) | (with_reducible refine ws_fo ?_) | (with_reducible refine ws_wh ?_)
  | (with_reducible refine w_varE ?_; refine ⟨_, rfl, ?_⟩) | (with_reducible refine w_cst ?_) | (with_reducible refine w_tup ?_) | (with_reducible refine w_bin ?_) | (with_reducible refine w_cmp ?_) | (with_reducible refine w_ch2 ?_) | (with_reducible refine w_and ?_) | (with_reducible refine w_or ?_) | (with_reducible refine w_not ?_) | (with_reducible refine w_ite ?_) | (with_reducible refine w_ix ?_) | (with_reducible refine w_sl ?_) | (with_reducible refine w_oNone ?_) | (with_reducible refine w_oSome ?_) | (with_reducible refine w_rev ?_) | (with_reducible refine w_call ?_) | (with_reducible refine w_bi ?_) | (with_reducible refine w_ist ?_) | (with_reducible refine w_mth ?_) | (with_reducible refine w_qv ?_) | (with_reducible refine w_qn ?_) | (with_reducible refine w_frz ?_) | (with_reducible refine w_dnew ?_) | (with_reducible refine w_dget ?_) | (with_reducible refine w_nil ?_) | (with_reducible refine w_cons ?_)
  | (with_reducible refine w_disp ?_) | (with_reducible refine w_lof ?_) | (with_reducible refine w_srt ?_) | (with_reducible refine w_rep ?_) | (with_reducible refine w_comp ?_) | (with_reducible refine w_val ?_) | (with_reducible refine w_rng1 ?_) | (with_reducible refine w_rng2 ?_) | (with_reducible refine w_rng3 ?_) | (with_reducible refine w_enum ?_) | (with_reducible refine w_zip2 ?_)
  | (with_reducible refine wt_nm rfl ?_) | (with_reducible refine wt_two rfl rfl ?_) | (with_reducible refine wc_nm rfl ?_) | (with_reducible refine wc_nmI rfl ?_) | (with_reducible refine wc_two rfl rfl ?_) | (with_reducible refine wc_twoI rfl rfl ?_)))
local macro_rules | `(tactic| walk_at "b") => `(tactic| (first
  | (with_reducible refine br_bl ?_) | (with_reducible refine br_blO ?_) | (with_reducible refine br_tr ?_) | (with_reducible refine br_trN ?_) | (with_reducible refine br_blN ?_) | (with_reducible refine br_and ?_)
  | (with_reducible refine ⟨_, cmp_eqI, ?_⟩) | (with_reducible refine ⟨_, cmp_neI, ?_⟩) | (with_reducible refine ⟨_, cmp_eqB, ?_⟩) | (with_reducible refine ⟨_, cmp_neB, ?_⟩) | (with_reducible refine ⟨_, cmp_eqT0, ?_⟩) | (with_reducible refine ⟨_, cmp_neT0, ?_⟩) | (with_reducible refine ⟨_, cmp_eqT, ?_⟩) | (with_reducible refine ⟨_, cmp_neT, ?_⟩) | (with_reducible refine ⟨_, cmp_eqL0, ?_⟩) | (with_reducible refine ⟨_, cmp_neL0, ?_⟩) | (with_reducible refine ⟨_, cmp_eqL, ?_⟩) | (with_reducible refine ⟨_, cmp_neL, ?_⟩)
  | (with_reducible refine ⟨_, sum_tZ, ?_⟩) | (with_reducible refine ⟨_, sum_lZ, ?_⟩) | (with_reducible refine ⟨_, min2_eq, ?_⟩) | (with_reducible refine ⟨_, max2_eq, ?_⟩) | (with_reducible refine ⟨_, zip_tZ, ?_⟩) | (with_reducible refine ⟨_, len_tZ, ?_⟩) | (with_reducible refine ⟨_, len_lZ, ?_⟩) | (with_reducible refine ⟨_, rev_tZ, ?_⟩) | (with_reducible refine ⟨_, rev_lZ, ?_⟩)))
local macro_rules | `(tactic| walk_at "a") => `(tactic| (first
  | walk_at "b"
  | (refine ⟨_, rfl, fun _ => ?_, fun hh => Bool.noConfusion (show true = false from hh)⟩)
  | (refine ⟨_, rfl, fun hh => Bool.noConfusion (show false = true from hh), fun _ => ?_⟩)
  | (refine ⟨_, rfl, fun _ => ?_, fun hh => Bool.noConfusion (show false = true from hh)⟩)
  | (refine ⟨_, rfl, fun hh => Bool.noConfusion (show true = false from hh), fun _ => ?_⟩)
  | (refine ⟨_, rfl, ?_⟩) | (refine ⟨_, _, rfl, ?_⟩) | (exact ⟨rfl, rfl⟩) | (refine ⟨rfl, rfl, ?_⟩) | (refine ⟨rfl, ?_⟩)))
local macro_rules | `(tactic| walk_at "s") => `(tactic| repeat (first | walk_at "w" | walk_at "b"))
local macro_rules | `(tactic| walk_at "g") => `(tactic| repeat (first | walk_at "w" | walk_at "a"))
/-- none above the one ahead -/
abbrev Fall (xs : List Int) : Prop := xs.Pairwise fun a b => b ≤ a
def isFall (xs : List Int) : Bool := (List.range (xs.length - 1)).all fun k => decide (xs.getD (k + 1) 0 ≤ xs.getD k 0)
theorem isFall_cons {x y : Int} {r : List Int} : isFall (x :: y :: r) = (decide (y ≤ x) && isFall (y :: r)) := by
  unfold isFall
  simp only [List.length_cons, Nat.add_sub_cancel]
  rw [List.range_succ_eq_map, List.all_cons, List.all_map]
  rfl
theorem isFall_iff : ∀ xs : List Int, isFall xs = true ↔ Fall xs
  | [] => by simp [isFall, Fall]
  | [x] => by simp [isFall, Fall]
  | x :: y :: r => by
    rw [isFall_cons, Bool.and_eq_true, isFall_iff (y :: r), decide_eq_true_eq]
    unfold Fall
    rw [List.pairwise_cons (l := y :: r)]
    constructor
    · rintro ⟨h1, h2⟩
      refine ⟨fun z hz => ?_, h2⟩
      rcases List.mem_cons.mp hz with rfl | hz
      · exact h1
      · exact Int.le_trans ((List.pairwise_cons.mp h2).1 z hz) h1
    · rintro ⟨h1, h2⟩
      exact ⟨h1 y List.mem_cons_self, h2⟩
def plusL (xs ys : List Int) : List Int := (xs.zip ys).map fun p => p.1 + p.2
def backL (xs : List Int) : List Int := xs.reverse.map fun x => 0 - x
/-- first numbers come to no less, all to as much -/
def abvGo (near far : Int) : List (Int × Int) → Bool
  | [] => decide (near = far)
  | p :: r => if near + p.1 < far + p.2 then false else abvGo (near + p.1) (far + p.2) r
def abvB (xs ys : List Int) : Bool := abvGo 0 0 (xs.zip ys)
section
variable {D : List Fd} {w d : Nat} {S : Sto} {Q : U → Sto → Prop} {E : Nat → Sto → Prop}
def d_is_fall_in (a : Nat) : Fd := ⟨1, 2, [.ret (.and (.call a [(.var 0)]) (.and (.cmp .ne (.var 0) (.tup [])) (.bi .all [(.qv (.comp (.nm 1) (.rng1 (.bin .sub (.bi .len [(.var 0)]) (.cst (.int 1)))) none (.cmp .ge (.ix (.var 0) (.var 1)) (.ix (.var 0) (.bin .add (.var 1) (.cst (.int 1))))) [1]))])))]⟩
theorem w_is_fall_in {i a b : Nat} (h : D[i]? = some (d_is_fall_in a)) (ha : D[a]? = some (d_are_numbers b)) (hb : D[b]? = some d_is_number) (hd : 3 ≤ d) (xs : List Int) (hl : xs.length ≤ 100000) (q : Q (.bl (decide (xs ≠ []) && isFall xs)) S) : W (run D w d i [tZ xs] S) Q E := by
  obtain ⟨e, rfl⟩ := at1 (by omega : 1 ≤ d)
  refine w_run h rfl ?_
  show WS (evSs _ _ [_] [some (tZ xs), none] S) _
  walk_at "g"
  refine w_are_numbers ha hb (by omega) xs hl ?_
  walk_at "g"
  refine ⟨fun h1 => ?_, fun h1 => ?_⟩
  · have hne : xs ≠ [] := h1
    have hp : 0 < xs.length := List.length_pos_iff.mpr hne
    walk_at "g"
    refine ⟨small_i (by omega) (by omega), ?_⟩
    refine ⟨by rw [iota_len]; exact lim_of (by omega), rfl, ?_⟩
    dsimp only
    rw [iota0, show ((xs.length : Int) - 1).toNat = xs.length - 1 by omega]
    refine wq_map (g := fun k => .bl (decide (xs.getD (k + 1) 0 ≤ xs.getD k 0))) (fun k hk => ?_) ?_
    · have hk := List.mem_range.mp hk
      walk_at "g"
      refine ⟨_, ix_tZ (i := k) (by omega), ?_⟩
      walk_at "g"
      refine ⟨_, ix_tZ (i := k + 1) (by omega), ?_⟩
      walk_at "g"
      rw [List.getD_eq_getElem?_getD, List.getElem?_eq_getElem (by omega : k + 1 < xs.length), List.getD_eq_getElem?_getD, List.getElem?_eq_getElem (by omega : k < xs.length)]
      exact ⟨rfl, rfl⟩
    · walk_at "g"
      refine ⟨_, all_of (g := fun k => decide (xs.getD (k + 1) 0 ≤ xs.getD k 0)), ?_⟩
      rw [decide_eq_true h1] at q
      exact q
  · rw [decide_eq_false h1] at q
    exact q
theorem w_is_fall_ok {i a b : Nat} (h : D[i]? = some (d_is_fall_in a)) (ha : D[a]? = some (d_are_numbers b)) (hb : D[b]? = some d_is_number) (hd : 3 ≤ d) (xs : List Int) (hl : xs.length ≤ 100000) (hne : xs ≠ []) (hf : Fall xs) (q : Q (.bl true) S) : W (run D w d i [tZ xs] S) Q E :=
  w_is_fall_in h ha hb hd xs hl (by rw [decide_eq_true hne, (isFall_iff xs).mpr hf]; exact q)
/-- a def that says f(x), f at a -/
def d_via (a : Nat) : Fd := ⟨1, 1, [.ret (.call a [(.var 0)])]⟩
theorem w_via {i a : Nat} {u : U} (h : D[i]? = some (d_via a)) (hd : 1 ≤ d) (q : W (run D w (d - 1) a [u] S) Q E) : W (run D w d i [u] S) Q E := by
  obtain ⟨e, rfl⟩ := at1 hd
  refine w_run h rfl ?_
  show WS (evSs _ _ [_] [some u] S) _
  walk_at "g"
  exact q.mono (fun _ _ x => x) fun _ _ x => x
def d_sure_fall (t f c : Nat) : Fd := ⟨1, 2, [.set (.nm 1) (.call t [(.var 0)]), .ife (.not (.call f [(.var 1)])) [.rai c] [], .ret (.var 1)]⟩
theorem w_sure_fall {i t f c a b k : Nat} {u : U} (h : D[i]? = some (d_sure_fall t f c)) (ht : D[t]? = some (d_tupled t)) (hf : D[f]? = some (d_is_fall_in a)) (ha : D[a]? = some (d_are_numbers b)) (hb : D[b]? = some d_is_number) (hd : 4 ≤ d) (hk : k + 2 ≤ d) (hu : wf k u)
    (xs : List Int) (he : tupU u = tZ xs) (hl : xs.length ≤ 100000) (hne : xs ≠ []) (hfa : Fall xs) (q : Q (tZ xs) S) : W (run D w d i [u] S) Q E := by
  obtain ⟨e, rfl⟩ := at1 (by omega : 1 ≤ d)
  refine w_run h rfl ?_
  show WS (evSs _ _ [_, _, _] [some u, none] S) _
  walk_at "g"
  refine w_tupled ht k e u hu (by omega) ?_
  rw [he]
  walk_at "g"
  refine w_is_fall_ok hf ha hb (by omega) xs hl hne hfa ?_
  walk_at "g"
  exact q
def d_sure_falls (s c : Nat) : Fd := ⟨2, 4, [.par [2, 3] [(.call s [(.var 0)]), (.call s [(.var 1)])], .ife (.cmp .ne (.bi .len [(.var 2)]) (.bi .len [(.var 3)])) [.rai c] [], .ret (.tup [(.var 2), (.var 3)])]⟩
/-- what surely falls by the defs of D -/
structure SureF (D : List Fd) (s t f a b c : Nat) : Prop where
  s : D[s]? = some (d_sure_fall t f c)
  t : D[t]? = some (d_tupled t)
  f : D[f]? = some (d_is_fall_in a)
  a : D[a]? = some (d_are_numbers b)
  b : D[b]? = some d_is_number
theorem SureF.one {s t f a b c : Nat} (F : SureF D s t f a b c) (hd : 4 ≤ d) (xs : List Int) (hl : xs.length ≤ 100000) (hne : xs ≠ []) (hfa : Fall xs) (q : Q (tZ xs) S) : W (run D w d s [tZ xs] S) Q E :=
  w_sure_fall (k := 1) F.s F.t F.f F.a F.b hd (by omega) (wf_tZ (Nat.le_trans hl (by decide)) 0) xs (tupU_tZ xs) hl hne hfa q
theorem SureF.two {i s t f a b c : Nat} (F : SureF D s t f a b c) (h : D[i]? = some (d_sure_falls s c)) (hd : 5 ≤ d) (xs ys : List Int) (hl : xs.length ≤ 100000) (hne : xs ≠ []) (hfa : Fall xs) (hly : ys.length = xs.length) (hfy : Fall ys) (q : Q (.tup [tZ xs, tZ ys]) S) : W (run D w d i [tZ xs, tZ ys] S) Q E := by
  obtain ⟨e, rfl⟩ := at1 (by omega : 1 ≤ d)
  have hny : ys ≠ [] := fun z => hne (List.eq_nil_of_length_eq_zero (by rw [← hly, z]; rfl))
  refine w_run h rfl ?_
  show WS (evSs _ _ [_, _, _] [some (tZ xs), some (tZ ys), none, none] S) _
  walk_at "g"
  refine F.one (by omega) xs hl hne hfa ?_
  walk_at "g"
  refine F.one (by omega) ys (by omega) hny hfy ?_
  walk_at "g"
  refine ⟨fun hh => ?_, fun _ => ?_⟩
  · omega
  · walk_at "g"
    exact q
def d_added : Fd := ⟨2, 4, [.ret (.bi .tuple [(.qv (.comp (.tp [(.nm 2), (.nm 3)]) (.zip2 (.var 0) (.var 1)) none (.bin .add (.var 2) (.var 3)) [2, 3]))])]⟩
theorem w_added {i : Nat} (h : D[i]? = some d_added) (hd : 1 ≤ d) (xs ys : List Int) (hl : xs.length ≤ 100000) (q : Q (tZ (plusL xs ys)) S) : W (run D w d i [tZ xs, tZ ys] S) Q E := by
  obtain ⟨e, rfl⟩ := at1 (by omega : 1 ≤ d)
  refine w_run h rfl ?_
  show WS (evSs _ _ [_] [some (tZ xs), some (tZ ys), none, none] S) _
  walk_at "g"
  refine ⟨by rw [List.length_map, List.length_zip]; exact lim_of (by omega), rfl, wq_map (g := fun p : Int × Int => .int (p.1 + p.2)) (fun p hp => ?_) ?_⟩
  · walk_at "g"
  · walk_at "g"
    have e1 : (xs.zip ys).map (fun p : Int × Int => U.int (p.1 + p.2)) = (plusL xs ys).map U.int := by rw [plusL, List.map_map]; rfl
    rw [e1]
    exact q
/-- tuple(sorted(row)[::-1]) -/
def d_fall : Fd := ⟨1, 1, [.ret (.bi .tuple [(.rev (.qv (.srt (.var 0))))])]⟩
theorem w_fall {i : Nat} {u : U} (h : D[i]? = some d_fall) (hd : 1 ≤ d) (xs : List Int) (hu : seqOf S u = some (xs.map U.int)) (q : Q (tZ (srtI xs).reverse) S) : W (run D w d i [u] S) Q E := by
  obtain ⟨e, rfl⟩ := at1 (by omega : 1 ≤ d)
  refine w_run h rfl ?_
  show WS (evSs _ _ [_] [some u] S) _
  walk_at "g"
  refine ⟨_, _, hu, srt_ints xs, ?_⟩
  walk_at "g"
  exact q
def d_back : Fd := ⟨1, 2, [.ret (.bi .tuple [(.qv (.comp (.nm 1) (.val (.rev (.var 0))) none (.bin .sub (.cst (.int 0)) (.var 1)) [1]))])]⟩
theorem w_back {i : Nat} (h : D[i]? = some d_back) (hd : 1 ≤ d) (xs : List Int) (hl : xs.length ≤ 100000) (q : Q (tZ (backL xs)) S) : W (run D w d i [tZ xs] S) Q E := by
  obtain ⟨e, rfl⟩ := at1 (by omega : 1 ≤ d)
  refine w_run h rfl ?_
  show WS (evSs _ _ [_] [some (tZ xs), none] S) _
  walk_at "g"
  refine ⟨by rw [List.length_map, List.length_reverse]; exact lim_of hl, rfl, wq_map (g := fun x : Int => .int (0 - x)) (fun p hp => ?_) ?_⟩
  · walk_at "g"
  · walk_at "g"
    have e1 : xs.reverse.map (fun x : Int => U.int (0 - x)) = (backL xs).map U.int := by rw [backL, List.map_map]; rfl
    rw [e1]
    exact q
def d_above : Fd := ⟨2, 6, [.set (.tp [(.nm 2), (.nm 3)]) (.tup [(.cst (.int 0)), (.cst (.int 0))]), .fo (.tp [(.nm 4), (.nm 5)]) (.zip2 (.var 0) (.var 1)) [.par [2, 3] [(.bin .add (.var 2) (.var 4)), (.bin .add (.var 3) (.var 5))], .ife (.cmp .lt (.var 2) (.var 3)) [.ret (.cst (.bl false))] []], .ret (.cmp .eq (.var 2) (.var 3))]⟩
theorem w_above {i : Nat} (h : D[i]? = some d_above) (hd : 1 ≤ d) (xs ys : List Int) (q : Q (.bl (abvB xs ys)) S) : W (run D w d i [tZ xs, tZ ys] S) Q E := by
  obtain ⟨e, rfl⟩ := at1 (by omega : 1 ≤ d)
  refine w_run h rfl ?_
  show WS (evSs _ _ [_, _, _] [some (tZ xs), some (tZ ys), none, none, none, none] S) _
  walk_at "g"
  refine wl_inv (fun k ρ S' => S' = S ∧ ∃ near far y z, ρ = [some (tZ xs), some (tZ ys), some (.int near), some (.int far), y, z] ∧ abvB xs ys = abvGo near far ((xs.zip ys).drop k)) _ 0 _ _ ⟨rfl, 0, 0, none, none, rfl, rfl⟩ ?_ ?_
  · rintro k x ρ S' hx ⟨rfl, near, far, y, z, rfl, hg⟩
    rw [List.getElem?_map] at hx
    obtain ⟨p, hp, rfl⟩ := Option.map_eq_some_iff.mp hx
    have hk : k < (xs.zip ys).length := (List.getElem?_eq_some_iff.mp hp).1
    rw [Nat.zero_add, List.drop_eq_getElem_cons hk] at hg
    have hp2 : (xs.zip ys)[k] = p := by rw [List.getElem?_eq_getElem hk] at hp; exact Option.some.inj hp
    rw [hp2, abvGo] at hg
    walk_at "g"
    refine ⟨fun hh => ?_, fun hh => ?_⟩
    · walk_at "g"
      rw [if_pos hh] at hg
      rw [hg] at q
      exact q
    · walk_at "g"
      rw [if_neg hh] at hg
      rw [Nat.zero_add]
      exact ⟨_, _, _, _, rfl, hg⟩
  · rintro ρ S' ⟨rfl, near, far, y, z, rfl, hg⟩
    rw [Nat.zero_add, List.length_map, List.drop_length] at hg
    walk_at "g"
    rw [hg, abvGo] at q
    exact q
end
end Ev
set_option Elab.async false
set_option linter.all false
/-! EvL: falls, plain. -/
namespace Ev
def fallI (xs : List Int) : List Int := (srtI xs).reverse
theorem fallI_perm (xs : List Int) : (fallI xs).Perm xs := (List.reverse_perm _).trans (srtI_perm xs)
theorem fallI_len (xs : List Int) : (fallI xs).length = xs.length := (fallI_perm xs).length_eq
theorem fallI_fall (xs : List Int) : Fall (fallI xs) := by
  unfold fallI Fall
  rw [List.pairwise_reverse]
  exact srtI_pw xs
theorem fallI_of {row one : List Int} (p : row.Perm one) (h : Fall one) : fallI row = one := by
  have h1 : one.reverse.Pairwise (· ≤ ·) := by rw [List.pairwise_reverse]; exact h
  have h2 := srtI_of (a := one.reverse) (l := row) ((List.reverse_perm _).trans p.symm) h1
  unfold fallI
  rw [← h2, List.reverse_reverse]
/-- as much in all, and no first numbers come to more -/
def Dom (xs ys : List Int) : Prop := xs.sum = ys.sum ∧ ∀ k, (ys.take k).sum ≤ (xs.take k).sum
theorem go_iff : ∀ (zs : List (Int × Int)) (a b : Int), b ≤ a → (abvGo a b zs = true ↔ (a + (zs.map (·.1)).sum = b + (zs.map (·.2)).sum ∧ ∀ k, b + ((zs.map (·.2)).take k).sum ≤ a + ((zs.map (·.1)).take k).sum))
  | [], a, b, h => by simp [abvGo, h]
  | p :: r, a, b, h => by
    rw [abvGo]
    simp only [List.map_cons, List.sum_cons]
    split
    · rename_i hl
      constructor
      · intro z; cases z
      · rintro ⟨_, h2⟩
        have := h2 1
        simp at this
        omega
    · rename_i hl
      rw [go_iff r _ _ (by omega)]
      constructor
      · rintro ⟨h1, h2⟩
        refine ⟨by omega, fun k => ?_⟩
        cases k with
        | zero => simp; exact h
        | succ k =>
          have := h2 k
          rw [List.take_succ_cons, List.take_succ_cons, List.sum_cons, List.sum_cons]
          omega
      · rintro ⟨h1, h2⟩
        refine ⟨by omega, fun k => ?_⟩
        have := h2 (k + 1)
        rw [List.take_succ_cons, List.take_succ_cons, List.sum_cons, List.sum_cons] at this
        omega
theorem abv_iff {xs ys : List Int} (h : ys.length = xs.length) : abvB xs ys = true ↔ Dom xs ys := by
  unfold abvB Dom
  rw [go_iff _ 0 0 (Int.le_refl _)]
  rw [show (xs.zip ys).map (·.1) = xs from List.map_fst_zip (by omega), show (xs.zip ys).map (·.2) = ys from List.map_snd_zip (by omega)]
  simp
theorem Dom.refl (xs : List Int) : Dom xs xs := ⟨rfl, fun _ => Int.le_refl _⟩
theorem sums_eq : ∀ {xs ys : List Int}, ys.length = xs.length → (∀ k, (ys.take k).sum = (xs.take k).sum) → xs = ys
  | [], [], _, _ => rfl
  | x :: xs, y :: ys, h, hk => by
    have e1 : y = x := by have := hk 1; simpa using this
    subst e1
    congr 1
    refine sums_eq (by simpa using h) fun k => ?_
    have := hk (k + 1)
    rw [List.take_succ_cons, List.take_succ_cons, List.sum_cons, List.sum_cons] at this
    omega
theorem Dom.anti {xs ys : List Int} (h : ys.length = xs.length) (a : Dom xs ys) (b : Dom ys xs) : xs = ys := sums_eq h fun k => Int.le_antisymm (a.2 k) (b.2 k)
theorem plus_take : ∀ (xs ys : List Int) (k : Nat), xs.length = ys.length → ((plusL xs ys).take k).sum = (xs.take k).sum + (ys.take k).sum
  | [], [], k, _ => by simp [plusL]
  | x :: xs, y :: ys, 0, _ => by simp
  | x :: xs, y :: ys, k + 1, h => by
    have := plus_take xs ys k (by simpa using h)
    unfold plusL at this ⊢
    rw [List.zip_cons_cons, List.map_cons, List.take_succ_cons, List.take_succ_cons, List.take_succ_cons, List.sum_cons, List.sum_cons, List.sum_cons, this]
    omega
theorem plusL_len {xs ys : List Int} (h : ys.length = xs.length) : (plusL xs ys).length = xs.length := by simp [plusL]; omega
theorem take_all (xs : List Int) : (xs.take xs.length).sum = xs.sum := by rw [List.take_length]
theorem Dom.plus {a b c : List Int} (h1 : b.length = a.length) (h2 : c.length = a.length) (h : Dom a b) : Dom (plusL a c) (plusL b c) := by
  have hk : ∀ k, ((plusL b c).take k).sum ≤ ((plusL a c).take k).sum := fun k => by
    rw [plus_take _ _ _ h2.symm, plus_take _ _ _ (by omega)]
    have := h.2 k
    omega
  refine ⟨?_, hk⟩
  rw [← take_all (plusL a c), ← take_all (plusL b c), plus_take _ _ _ h2.symm, plus_take _ _ _ (by omega), plusL_len h2, plusL_len (by omega : c.length = b.length), h1, take_all a, ← h1, take_all b, h.1]
theorem sum_mul (k : Int) : ∀ xs : List Int, (xs.map fun x => k * x).sum = k * xs.sum
  | [] => by simp
  | x :: xs => by rw [List.map_cons, List.sum_cons, List.sum_cons, sum_mul k xs, Int.mul_add]
theorem Dom.times {a b : List Int} {k : Int} (hk : 0 ≤ k) (h : Dom a b) : Dom (a.map fun x => k * x) (b.map fun x => k * x) := by
  refine ⟨by rw [sum_mul, sum_mul, h.1], fun j => ?_⟩
  rw [← List.map_take, ← List.map_take, sum_mul, sum_mul]
  exact Int.mul_le_mul_of_nonneg_left (h.2 j) hk
theorem sum_neg : ∀ xs : List Int, (xs.map fun x => 0 - x).sum = 0 - xs.sum
  | [] => by simp
  | x :: xs => by rw [List.map_cons, List.sum_cons, List.sum_cons, sum_neg xs]; omega
theorem sum_app (xs ys : List Int) : (xs ++ ys).sum = xs.sum + ys.sum := by simp
theorem sum_rev (xs : List Int) : xs.reverse.sum = xs.sum := by simp
theorem back_take (xs : List Int) (k : Nat) : ((backL xs).take k).sum = (xs.take (xs.length - k)).sum - xs.sum := by
  unfold backL
  rw [← List.map_take, sum_neg, List.take_reverse, sum_rev]
  have := sum_app (xs.take (xs.length - k)) (xs.drop (xs.length - k))
  rw [List.take_append_drop] at this
  omega
theorem back_sum (xs : List Int) : (backL xs).sum = 0 - xs.sum := by unfold backL; rw [sum_neg, sum_rev]
theorem Dom.back {a b : List Int} (hl : b.length = a.length) (h : Dom a b) : Dom (backL a) (backL b) := by
  refine ⟨by rw [back_sum, back_sum, h.1], fun j => ?_⟩
  rw [back_take, back_take, hl]
  have := h.2 (a.length - j)
  have := h.1
  omega
/-! what is above t -/
def ovr (t : Int) (xs : List Int) : Int := (xs.map fun x => max (x - t) 0).sum
theorem sum_perm {xs ys : List Int} (p : xs.Perm ys) : xs.sum = ys.sum := by
  induction p with
  | nil => rfl
  | cons x _ ih => simp [ih]
  | swap x y l => simp only [List.sum_cons]; omega
  | trans _ _ a b => exact a.trans b
theorem ovr_perm {t : Int} {xs ys : List Int} (p : xs.Perm ys) : ovr t xs = ovr t ys := sum_perm (p.map _)
theorem ovr_nonneg (t : Int) : ∀ xs : List Int, 0 ≤ ovr t xs
  | [] => by simp [ovr]
  | x :: xs => by
    have := ovr_nonneg t xs
    unfold ovr at this ⊢
    rw [List.map_cons, List.sum_cons]
    omega
theorem ovr_app (t : Int) (xs ys : List Int) : ovr t (xs ++ ys) = ovr t xs + ovr t ys := by simp [ovr]
theorem ovr_ge (t : Int) : ∀ xs : List Int, xs.sum - (xs.length : Int) * t ≤ ovr t xs
  | [] => by simp [ovr]
  | x :: xs => by
    have := ovr_ge t xs
    unfold ovr at this ⊢
    rw [List.map_cons, List.sum_cons, List.sum_cons, List.length_cons]
    have e : ((xs.length + 1 : Nat) : Int) * t = (xs.length : Int) * t + t := by push_cast; rw [Int.add_mul]; omega
    rw [e]
    omega
theorem ovr_eq (t : Int) : ∀ xs : List Int, (∀ x ∈ xs, t ≤ x) → ovr t xs = xs.sum - (xs.length : Int) * t
  | [], _ => by simp [ovr]
  | x :: xs, h => by
    have := ovr_eq t xs fun y hy => h y (by simp [hy])
    have hx := h x (by simp)
    unfold ovr at this ⊢
    rw [List.map_cons, List.sum_cons, List.sum_cons, List.length_cons]
    have e : ((xs.length + 1 : Nat) : Int) * t = (xs.length : Int) * t + t := by push_cast; rw [Int.add_mul]; omega
    rw [e]
    omega
theorem ovr_zero (t : Int) : ∀ xs : List Int, (∀ x ∈ xs, x ≤ t) → ovr t xs = 0
  | [], _ => by simp [ovr]
  | x :: xs, h => by
    have := ovr_zero t xs fun y hy => h y (by simp [hy])
    have hx := h x (by simp)
    unfold ovr at this ⊢
    rw [List.map_cons, List.sum_cons]
    omega
/-- less is no more than one above any t, and as much in all -/
def Maj (one less : List Int) : Prop := less.sum = one.sum ∧ ∀ t, ovr t less ≤ ovr t one
theorem Maj.refl (xs : List Int) : Maj xs xs := ⟨rfl, fun _ => Int.le_refl _⟩
theorem Maj.perm {one a b : List Int} (h : Maj one a) (p : b.Perm a) : Maj one b := ⟨(sum_perm p).trans h.1, fun t => by rw [ovr_perm p]; exact h.2 t⟩
theorem Maj.dom {xs ys : List Int} (hl : ys.length = xs.length) (hf : Fall xs) (h : Maj xs ys) : Dom xs ys := by
  refine ⟨h.1.symm, fun k => ?_⟩
  by_cases hk : k < xs.length
  · have h1 := h.2 xs[k]
    have h2 := ovr_ge xs[k] (ys.take k)
    have h3 := ovr_nonneg xs[k] (ys.drop k)
    have h4 := ovr_app xs[k] (ys.take k) (ys.drop k)
    rw [List.take_append_drop] at h4
    have h5 := ovr_app xs[k] (xs.take k) (xs.drop k)
    rw [List.take_append_drop] at h5
    have split : Fall (xs.take k ++ xs.drop k) := by rw [List.take_append_drop]; exact hf
    have hd : xs.drop k = xs[k] :: xs.drop (k + 1) := List.drop_eq_getElem_cons hk
    have sp := List.pairwise_append.mp split
    have h6 := ovr_eq xs[k] (xs.take k) fun x hx => sp.2.2 x hx xs[k] (hd ▸ List.mem_cons_self)
    have h7 := ovr_zero xs[k] (xs.drop k) (by
      rw [hd]
      intro x hx
      rcases List.mem_cons.mp hx with rfl | hx
      · exact Int.le_refl _
      · have := sp.2.1
        rw [hd] at this
        exact (List.pairwise_cons.mp this).1 x hx)
    rw [List.length_take] at h2 h6
    rw [show min k ys.length = k by omega] at h2
    rw [show min k xs.length = k by omega] at h6
    omega
  · rw [List.take_of_length_le (by omega), List.take_of_length_le (by omega), h.1]
    exact Int.le_refl _
/-- x from a high place to a low one -/
theorem ovr_set (t : Int) : ∀ (xs : List Int) (i : Nat) (v : Int) (h : i < xs.length), ovr t (xs.set i v) = ovr t xs - max (xs[i] - t) 0 + max (v - t) 0
  | x :: xs, 0, v, h => by simp [ovr]; omega
  | x :: xs, i + 1, v, h => by
    have := ovr_set t xs i v (by simpa using h)
    unfold ovr at this ⊢
    simp only [List.set_cons_succ, List.map_cons, List.sum_cons, List.getElem_cons_succ]
    omega
theorem sum_set : ∀ (xs : List Int) (i : Nat) (v : Int) (h : i < xs.length), (xs.set i v).sum = xs.sum - xs[i] + v
  | x :: xs, 0, v, h => by simp; omega
  | x :: xs, i + 1, v, h => by
    have := sum_set xs i v (by simpa using h)
    simp only [List.set_cons_succ, List.sum_cons, List.getElem_cons_succ]
    omega
theorem Maj.move {one less : List Int} (h : Maj one less) {a b : Nat} (ha : a < less.length) (hb : b < less.length) {x : Int} (h0 : 0 ≤ x) (hx : less[a] - less[b] ≥ 2 * x) : Maj one ((less.set a (less[a] - x)).set b (less[b] + x)) := by
  by_cases e : a = b
  · subst e
    have : x = 0 := by omega
    subst this
    simp
    exact h
  · have hb2 : b < (less.set a (less[a] - x)).length := by simpa using hb
    have eb : (less.set a (less[a] - x))[b] = less[b] := by rw [List.getElem_set_ne e]
    refine ⟨?_, fun t => ?_⟩
    · rw [sum_set _ _ _ hb2, sum_set _ _ _ ha, eb, h.1]
      omega
    · rw [ovr_set t _ _ _ hb2, ovr_set t _ _ _ ha, eb]
      have := h.2 t
      omega
/-! falls again -/
theorem fall_plus {xs ys : List Int} (a : Fall xs) (b : Fall ys) : Fall (plusL xs ys) := by
  induction xs generalizing ys with
  | nil => simp [plusL, Fall]
  | cons x xs ih =>
    cases ys with
    | nil => simp [plusL, Fall]
    | cons y ys =>
      have a := List.pairwise_cons.mp a
      have b := List.pairwise_cons.mp b
      have := ih a.2 b.2
      unfold plusL at this ⊢
      rw [List.zip_cons_cons, List.map_cons]
      refine List.pairwise_cons.mpr ⟨fun z hz => ?_, this⟩
      obtain ⟨p, hp, rfl⟩ := List.mem_map.mp hz
      have h1 := a.1 p.1 (List.of_mem_zip (a := p.1) (b := p.2) hp).1
      have h2 := b.1 p.2 (List.of_mem_zip (a := p.1) (b := p.2) hp).2
      show p.1 + p.2 ≤ x + y
      omega
theorem fall_map {xs : List Int} {f : Int → Int} (h : ∀ a b, b ≤ a → f b ≤ f a) (a : Fall xs) : Fall (xs.map f) := by
  unfold Fall
  rw [List.pairwise_map]
  exact a.imp fun {x y} h2 => h x y h2
theorem fall_times {xs : List Int} {k : Int} (hk : 0 ≤ k) (a : Fall xs) : Fall (xs.map fun x => k * x) := fall_map (fun _ _ h => Int.mul_le_mul_of_nonneg_left h hk) a
theorem fall_back {xs : List Int} (a : Fall xs) : Fall (backL xs) := by
  unfold backL Fall
  rw [List.pairwise_map, List.pairwise_reverse]
  exact a.imp fun {x y} h => by omega
theorem not_fall {xs : List Int} (h : xs ≠ []) : isFall (xs ++ [xs.getLast h + 1]) = false := by
  cases e : isFall (xs ++ [xs.getLast h + 1]) with
  | false => rfl
  | true =>
    have := (List.pairwise_append.mp ((isFall_iff _).mp e)).2.2 _ (List.getLast_mem h) (xs.getLast h + 1) (by simp)
    omega
theorem not_fallB {xs : List Int} (h : xs ≠ []) : (decide (xs ++ [xs.getLast h + 1] ≠ []) && isFall (xs ++ [xs.getLast h + 1])) = false := by rw [not_fall h, Bool.and_false]
end Ev
set_option Elab.async false
set_option linter.all false
/-! EvS: draws beside what else is stored. -/
namespace Ev
/-- S' is S, but for places up to n -/
def Past (n : Nat) (S S' : Sto) : Prop := S'.length = S.length ∧ ∀ j, n < j → S'[j]? = S[j]?
theorem Past.trans {n : Nat} {S S1 S2 : Sto} (a : Past n S S1) (b : Past n S1 S2) : Past n S S2 := ⟨b.1.trans a.1, fun j h => (b.2 j h).trans (a.2 j h)⟩
theorem Past.refl {n : Nat} {S : Sto} : Past n S S := ⟨rfl, fun _ _ => rfl⟩
theorem past_app {n : Nat} {S S' : Sto} (h : n < S.length) (e : S'.length = (S.take (n + 1)).length) : Past n S (S' ++ S.drop (n + 1)) := by
  have hl : S'.length = n + 1 := by rw [e, List.length_take]; omega
  refine ⟨by simp [hl]; omega, fun j hj => ?_⟩
  rw [List.getElem?_append_right (by omega), List.getElem?_drop, hl]
  congr 1
  omega
section
variable {D : List Fd} {w d : Nat} {Q : U → Sto → Prop} {E : Nat → Sto → Prop}
theorem Tin.part {S : Sto} {n k : Nat} (t : Tin S n k) : Tin (S.take (n + 1)) n k := by
  obtain ⟨a, b, c, h1, h2, h3⟩ := t
  refine ⟨a, b, c, ?_, h2, h3⟩
  rw [List.getElem?_take, if_pos (by omega)]
  exact h1
theorem w_takeN {i : Nat} (h : D[i]? = some d_take) (hd : 1 ≤ d) {S : Sto} {n k : Nat} (t : Tin S n k) (hk : k < 2 ^ 60) (m : Int) (hm : 0 < m) (hm2 : m < 2 ^ 60)
    (q : ∀ (v : Int) (S' : Sto), 0 ≤ v → v < m → Tin S' n (k + 1) → Past n S S' → Q (.int v) S') : W (run D w d i [.ref n, .int m] S) Q E := by
  have e : S = S.take (n + 1) ++ S.drop (n + 1) := (List.take_append_drop _ _).symm
  have p := t.part
  have hl := t.lt
  suffices x : W (run D w d i [.ref n, .int m] (S.take (n + 1) ++ S.drop (n + 1))) Q E by rw [← e] at x; exact x
  exact w_take h hd p hk m hm hm2 fun v S' v0 v1 t' l' => q v _ v0 v1 (t'.app _) (past_app hl l')
theorem w_ofN {i j : Nat} (h : D[i]? = some (d_of j)) (hj : D[j]? = some d_take) (hd : 2 ≤ d) {S : Sto} {n k : Nat} (t : Tin S n k) (hk : k < 2 ^ 60) (gs : List U) (hg : gs ≠ []) (hg2 : gs.length < 2 ^ 60)
    (q : ∀ (v : U) (S' : Sto), v ∈ gs → Tin S' n (k + 1) → Past n S S' → Q v S') : W (run D w d i [.ref n, .lst gs] S) Q E := by
  have e : S = S.take (n + 1) ++ S.drop (n + 1) := (List.take_append_drop _ _).symm
  have p := t.part
  have hl := t.lt
  suffices x : W (run D w d i [.ref n, .lst gs] (S.take (n + 1) ++ S.drop (n + 1))) Q E by rw [← e] at x; exact x
  exact w_of h hj hd p hk gs hg hg2 fun v S' hv t' l' => q v _ hv (t'.app _) (past_app hl l')
theorem wq_draw {step : U → Sto → R (Option U)} {N : Nat} (J : Nat → Sto → Prop) (G : U → Prop) : ∀ (us : List U) (j : Nat) (S : Sto) {Qs : List U → Sto → Prop}, j + us.length ≤ N → J j S →
    (∀ x ∈ us, ∀ j S, j < N → J j S → W (step x S) (fun o S1 => ∃ y, o = some y ∧ G y ∧ J (j + 1) S1) noE) → (∀ ys S', ys.length = us.length → (∀ y ∈ ys, G y) → J (j + us.length) S' → Qs ys S') → W (compL step us S) Qs E
  | [], j, S, Qs, hN, h, _, q => by rw [compL]; exact q [] S rfl (by simp) h
  | x :: us, j, S, Qs, hN, h, hs, q => by
    rw [List.length_cons] at hN
    rw [compL]
    obtain ⟨o, S1, e, y, rfl, g, h1⟩ := (hs x List.mem_cons_self j S (by omega) h).is
    rw [e]
    refine .bind (W.ok ?_)
    refine .bind (wq_draw J G us (j + 1) S1 (by omega) h1 (fun y hy => hs y (List.mem_cons_of_mem _ hy)) fun ys S2 l2 g2 h2 => ?_)
    refine W.ok (q _ S2 (by simp [l2]) (fun z hz => ?_) (by rw [List.length_cons, show j + (us.length + 1) = j + 1 + us.length by omega]; exact h2))
    rcases List.mem_cons.mp hz with rfl | hz
    · exact g
    · exact g2 z hz
theorem ints_of_mem {G : Int → Prop} : ∀ (ys : List U), (∀ y ∈ ys, ∃ i, y = .int i ∧ G i) → ∃ xs : List Int, ys = xs.map U.int ∧ ∀ x ∈ xs, G x
  | [], _ => ⟨[], rfl, by simp⟩
  | y :: ys, h => by
    obtain ⟨i, rfl, g⟩ := h y List.mem_cons_self
    obtain ⟨xs, rfl, g2⟩ := ints_of_mem ys fun z hz => h z (List.mem_cons_of_mem _ hz)
    refine ⟨i :: xs, rfl, fun x hx => ?_⟩
    rcases List.mem_cons.mp hx with rfl | hx
    · exact g
    · exact g2 x hx
theorem t_twoL' {F : Nat → List U → Sto → R U} {ρ : Rho} {S : Sto} {a b : U} {i j : Nat} (hi : decide (i < ρ.length) = true) (hj : decide (j < ρ.length) = true) : evT F (.tp [.nm i, .nm j]) (.lst [a, b]) ρ S = some ((ρ.set i (some a)).set j (some b), S) := by
  have h1 := of_decide_eq_true hi
  have h2 := of_decide_eq_true hj
  rw [evT]
  show evTs F [.nm i, .nm j] [a, b] ρ S = _
  rw [evTs, evT, if_pos h1]
  dsimp only
  rw [evTs, evT, if_pos (by simpa using h2)]
  dsimp only
  rw [evTs]
theorem t_ix2 {F : Nat → List U → Sto → R U} {ρ : Rho} {S : Sto} {a b : U} {c i j n p q : Nat} {xs : List U} (h1 : getR ρ c = some (.ref n)) (h2 : getR ρ i = some (.int (p : Int))) (h3 : getR ρ j = some (.int (q : Int))) (hs : S[n]? = some (.liv (.lst xs))) (hp : p < xs.length) (hq : q < xs.length) :
    evT F (.tp [.ix (.var c) (.var i), .ix (.var c) (.var j)]) (.tup [a, b]) ρ S = some (ρ, S.set n (.liv (.lst ((xs.set p a).set q b)))) := by
  have hn : n < S.length := (List.getElem?_eq_some_iff.mp hs).1
  rw [evT]
  show evTs F [.ix (.var c) (.var i), .ix (.var c) (.var j)] [a, b] ρ S = _
  rw [evTs, t_ixL (k := p) (e_var h1) (e_var h2) hs (ixN_nat hp)]
  dsimp only
  rw [evTs, t_ixL (k := q) (xs := xs.set p a) (e_var h1) (e_var h3) (List.getElem?_set_self hn) (by rw [List.length_set]; exact ixN_nat hq)]
  dsimp only
  rw [evTs, List.set_set]
theorem map_set (xs : List Int) (i : Nat) (v : Int) : (xs.map U.int).set i (.int v) = (xs.set i v).map U.int := by rw [List.map_set]
end
end Ev
set_option Elab.async false
set_option linter.all false
set_option maxRecDepth 100000
/-! K41a: the defs of the linked text, as trees. -/
namespace K41
open PySem Ev
def top (i : Nat) : Stmt := PySem.Challenge.pw_tentfalls_k41_main_falls_of_twelve_numbe.main.body.getD i (.Pass ⟨0, 0, 0, 0⟩)
def r_is_number : DR := ⟨"is_number", top 5, ["thing"], ["thing"], [], [], []⟩
def r_is_from : DR := ⟨"is_from", top 6, ["thing", "least"], ["thing", "least"], [], [], []⟩
def r_is_within : DR := ⟨"is_within", top 7, ["thing", "least", "most"], ["thing", "least", "most"], [], [], []⟩
def r_are_numbers : DR := ⟨"are_numbers", top 8, ["thing"], ["thing", "own"], [], [], []⟩
def r_tupled : DR := ⟨"tupled", top 9, ["value"], ["value", "own"], [], [], []⟩
def r_is_fall_in : DR := ⟨"is_fall_in", top 13, ["thing"], ["thing", "k"], [], [], []⟩
def r_sure_fall : DR := ⟨"sure_fall", top 14, ["fall"], ["fall", "own"], [], [], []⟩
def r_sure_falls : DR := ⟨"sure_falls", top 15, ["one", "other"], ["one", "other", "own", "its"], [], [], []⟩
def r_added : DR := ⟨"added", top 16, ["one", "other"], ["one", "other", "near", "far"], [], [], []⟩
def r_sorted_in : DR := ⟨"sorted_in", top 17, ["row"], ["row"], [], [], []⟩
def r_back_in : DR := ⟨"back_in", top 18, ["fall"], ["fall", "own"], [], [], []⟩
def r_is_above_in : DR := ⟨"is_above_in", top 19, ["one", "other"], ["one", "other", "near", "far", "own", "its"], [], [], []⟩
def r_below_in : DR := ⟨"below_in", top 20, ["fall"], ["fall", "found", "place", "total", "many", "later", "own"], [(57, 16)], [], []⟩
def r_steps_below : DR := ⟨"steps_below", top 21, ["fall", "own", "total", "left"], ["fall", "own", "total", "left", "room", "most", "rest", "least", "number"], [], [], []⟩
def r_transposed_in : DR := ⟨"transposed_in", top 22, ["fall", "many"], ["fall", "many", "number", "own"], [], [], []⟩
def r_choose : DR := ⟨"choose", top 23, ["many", "size"], ["many", "size", "found", "place"], [], [], []⟩
def r_is_fall : DR := ⟨"is_fall", top 24, ["thing"], ["thing"], [], [], []⟩
def r_fall_of : DR := ⟨"fall_of", top 25, ["row"], ["row", "own"], [], [], []⟩
def r_fall_sum : DR := ⟨"fall_sum", top 26, ["one", "other"], ["one", "other", "own", "its"], [], [], []⟩
def r_fall_times : DR := ⟨"fall_times", top 27, ["fall", "times"], ["fall", "times", "own", "number"], [], [], []⟩
def r_fall_raised : DR := ⟨"fall_raised", top 28, ["fall", "number"], ["fall", "number", "own", "its"], [], [], []⟩
def r_fall_back : DR := ⟨"fall_back", top 29, ["fall"], ["fall"], [], [], []⟩
def r_is_above : DR := ⟨"is_above", top 30, ["one", "other"], ["one", "other", "own", "its"], [], [], []⟩
def r_falls_below : DR := ⟨"falls_below", top 31, ["fall"], ["fall"], [], [], []⟩
def r_transposed : DR := ⟨"transposed", top 32, ["fall", "many"], ["fall", "many", "own"], [], [], []⟩
def r_how_many_falls : DR := ⟨"how_many_falls", top 33, ["many", "most"], ["many", "most"], [], [], []⟩
def r_ulaw_box : DR := ⟨"_law_box", top 35, ["script", "k"], ["script", "k", "bit_so"], [(120, 11)], [], []⟩
def r_ulaw_take : DR := ⟨"_law_take", top 36, ["tin", "below_so"], ["tin", "below_so", "once_so", "wide_so", "twice_so", "drawn_so"], [], [], []⟩
def r_ulaw_cells : DR := ⟨"_law_cells", top 37, ["script", "most_so"], ["script", "most_so", "cells_so", "k", "bit_so", "at_so"], [(132, 15), (132, 41)], [(136, 11)], []⟩
def r_ulaw_of : DR := ⟨"_law_of", top 38, ["tin", "goods_so"], ["tin", "goods_so"], [], [], []⟩
def r_ulaw_pick : DR := ⟨"_law_pick", top 39, ["tin", "goods_so", "count_so"], ["tin", "goods_so", "count_so", "lap", "pool_so", "found"], [(140, 22), (140, 38)], [(143, 11)], []⟩
def r_ulaw_same : DR := ⟨"_law_same", top 40, ["got", "due"], ["got", "due", "mine", "its"], [], [], []⟩
def r_ulaw_fall : DR := ⟨"_law_fall", top 41, ["row_so"], ["row_so"], [], [], []⟩
def r_ulaw_plus : DR := ⟨"_law_plus", top 42, ["one", "two"], ["one", "two", "a", "b"], [], [], []⟩
def r_ulaw_times : DR := ⟨"_law_times", top 43, ["one", "k"], ["one", "k", "a"], [], [], []⟩
def r_ulaw_above : DR := ⟨"_law_above", top 44, ["one", "two"], ["one", "two", "k"], [], [], []⟩
def r_ulaw_shapes_of : DR := ⟨"_law_shapes_of", top 45, ["boxes_so", "tall_so"], ["boxes_so", "tall_so", "rows_so", "k", "later", "own", "left_so", "top_so", "x"], [(165, 16)], [], []⟩
def r_law : DR := ⟨"law", top 46, ["script"], ["script", "tin", "n", "most_so", "k", "row_so", "got", "due", "less_so", "turn", "from_so", "many_so", "turned_so", "slipped_so", "slip_so", "small_so", "own", "parts_so", "its", "j", "one", "two", "three", "x", "top_so", "under_so", "a", "b"], [(183, 14), (211, 15)], [], []⟩
def tab : List DR := [r_is_number, r_is_from, r_is_within, r_are_numbers, r_tupled, r_is_fall_in, r_sure_fall, r_sure_falls, r_added, r_sorted_in, r_back_in, r_is_above_in, r_below_in, r_steps_below, r_transposed_in, r_choose, r_is_fall, r_fall_of, r_fall_sum, r_fall_times, r_fall_raised, r_fall_back, r_is_above, r_falls_below, r_transposed, r_how_many_falls, r_ulaw_box, r_ulaw_take, r_ulaw_cells, r_ulaw_of, r_ulaw_pick, r_ulaw_same, r_ulaw_fall, r_ulaw_plus, r_ulaw_times, r_ulaw_above, r_ulaw_shapes_of, r_law]
def gvs : List (Str × U) := [("MOST_TOLD", .int 2000), ("MOST_NUMBERS", .int 1000)]
def xs : List (Str × Nat) := [("CanNot", 0), ("TooMany", 1), ("Unfit", 2)]
def d_is_number : Fd := ⟨1, 1, [.ret (.and (.ist (.var 0) [.int]) (.not (.ist (.var 0) [.bool])))]⟩
def d_is_from : Fd := ⟨2, 2, [.ret (.and (.call 0 [(.var 0)]) (.cmp .ge (.var 0) (.var 1)))]⟩
def d_is_within : Fd := ⟨3, 3, [.ret (.and (.call 0 [(.var 0)]) (.ch2 .le .le (.var 1) (.var 0) (.var 2)))]⟩
def d_are_numbers : Fd := ⟨1, 2, [.ret (.and (.ist (.var 0) [.tuple]) (.bi .all [(.qv (.comp (.nm 1) (.val (.var 0)) none (.call 0 [(.var 1)]) [1]))]))]⟩
def d_tupled : Fd := ⟨1, 2, [.ret (.ite (.ist (.var 0) [.list, .tuple]) (.bi .tuple [(.qv (.comp (.nm 1) (.val (.var 0)) none (.call 4 [(.var 1)]) [1]))]) (.var 0))]⟩
def d_is_fall_in : Fd := ⟨1, 2, [.ret (.and (.call 3 [(.var 0)]) (.and (.cmp .ne (.var 0) (.tup [])) (.bi .all [(.qv (.comp (.nm 1) (.rng1 (.bin .sub (.bi .len [(.var 0)]) (.cst (.int 1)))) none (.cmp .ge (.ix (.var 0) (.var 1)) (.ix (.var 0) (.bin .add (.var 1) (.cst (.int 1))))) [1]))])))]⟩
def d_sure_fall : Fd := ⟨1, 2, [.set (.nm 1) (.call 4 [(.var 0)]), .ife (.not (.call 5 [(.var 1)])) [.rai 2] [], .ret (.var 1)]⟩
def d_sure_falls : Fd := ⟨2, 4, [.par [2, 3] [(.call 6 [(.var 0)]), (.call 6 [(.var 1)])], .ife (.cmp .ne (.bi .len [(.var 2)]) (.bi .len [(.var 3)])) [.rai 2] [], .ret (.tup [(.var 2), (.var 3)])]⟩
def d_added : Fd := ⟨2, 4, [.ret (.bi .tuple [(.qv (.comp (.tp [(.nm 2), (.nm 3)]) (.zip2 (.var 0) (.var 1)) none (.bin .add (.var 2) (.var 3)) [2, 3]))])]⟩
def d_sorted_in : Fd := ⟨1, 1, [.ret (.bi .tuple [(.rev (.qv (.srt (.var 0))))])]⟩
def d_back_in : Fd := ⟨1, 2, [.ret (.bi .tuple [(.qv (.comp (.nm 1) (.val (.rev (.var 0))) none (.bin .sub (.cst (.int 0)) (.var 1)) [1]))])]⟩
def d_is_above_in : Fd := ⟨2, 6, [.set (.tp [(.nm 2), (.nm 3)]) (.tup [(.cst (.int 0)), (.cst (.int 0))]), .fo (.tp [(.nm 4), (.nm 5)]) (.zip2 (.var 0) (.var 1)) [.par [2, 3] [(.bin .add (.var 2) (.var 4)), (.bin .add (.var 3) (.var 5))], .ife (.cmp .lt (.var 2) (.var 3)) [.ret (.cst (.bl false))] []], .ret (.cmp .eq (.var 2) (.var 3))]⟩
def d_below_in : Fd := ⟨1, 7, [.par [3, 4] [(.bi .sum [(.var 0)]), (.bi .len [(.var 0)])], .set (.nm 1) (.qv (.disp [(.tup [])])), .fo (.nm 2) (.rng1 (.var 4)) [.set (.nm 5) (.qn (.disp [])), .fo (.nm 6) (.val (.var 1)) [.ex (.mth .extend (.var 5) [(.call 13 [(.var 0), (.var 6), (.var 3), (.bin .sub (.var 4) (.var 2))])]), .ife (.cmp .gt (.bi .len [(.var 5)]) (.cst (.int 2000))) [.rai 1] []], .set (.nm 1) (.var 5)], .ret (.qv (.srt (.qv (.comp (.nm 6) (.val (.var 1)) (some (.call 11 [(.var 0), (.var 6)])) (.var 6) [6]))))]⟩
def d_steps_below : Fd := ⟨4, 9, [.set (.nm 4) (.bin .sub (.bi .sum [(.sl (.var 0) none (some (.bin .add (.bi .len [(.var 1)]) (.cst (.int 1)))))]) (.bi .sum [(.var 1)])), .set (.nm 5) (.ite (.cmp .ne (.var 1) (.tup [])) (.bi .min2 [(.var 4), (.ix (.var 1) (.bin .sub (.cst (.int 0)) (.cst (.int 1))))]) (.var 4)), .set (.nm 6) (.bin .sub (.var 2) (.bi .sum [(.var 1)])), .set (.nm 7) (.bin .sub (.cst (.int 0)) (.bin .fdiv (.bin .sub (.cst (.int 0)) (.var 6)) (.var 3))), .ife (.cmp .ge (.bin .sub (.var 5) (.var 7)) (.cst (.int 2000))) [.rai 1] [], .ret (.qv (.comp (.nm 8) (.rng2 (.var 7) (.bin .add (.var 5) (.cst (.int 1)))) none (.bin .add (.var 1) (.tup [(.var 8)])) [8]))]⟩
def d_transposed_in : Fd := ⟨2, 4, [.ret (.bi .tuple [(.qv (.comp (.nm 2) (.rng1 (.var 1)) none (.bi .len [(.qv (.comp (.nm 3) (.val (.var 0)) (some (.cmp .gt (.var 3) (.var 2))) (.var 3) [3]))]) [2]))])]⟩
def d_choose : Fd := ⟨2, 4, [.set (.nm 2) (.cst (.int 1)), .fo (.nm 3) (.rng1 (.var 1)) [.set (.nm 2) (.bin .fdiv (.bin .mul (.var 2) (.bin .sub (.var 0) (.var 3))) (.bin .add (.var 3) (.cst (.int 1))))], .ret (.var 2)]⟩
def d_is_fall : Fd := ⟨1, 1, [.ret (.call 5 [(.var 0)])]⟩
def d_fall_of : Fd := ⟨1, 2, [.set (.nm 1) (.call 4 [(.var 0)]), .ife (.or (.not (.call 3 [(.var 1)])) (.cmp .eq (.var 1) (.tup []))) [.rai 2] [], .ret (.call 9 [(.var 1)])]⟩
def d_fall_sum : Fd := ⟨2, 4, [.set (.tp [(.nm 2), (.nm 3)]) (.call 7 [(.var 0), (.var 1)]), .ret (.call 8 [(.var 2), (.var 3)])]⟩
def d_fall_times : Fd := ⟨2, 4, [.set (.nm 2) (.call 6 [(.var 0)]), .ife (.not (.call 1 [(.var 1), (.cst (.int 0))])) [.rai 2] [], .ret (.bi .tuple [(.qv (.comp (.nm 3) (.val (.var 2)) none (.bin .mul (.var 1) (.var 3)) [3]))])]⟩
def d_fall_raised : Fd := ⟨2, 4, [.set (.nm 2) (.call 6 [(.var 0)]), .ife (.not (.call 0 [(.var 1)])) [.rai 2] [], .ret (.bi .tuple [(.qv (.comp (.nm 3) (.val (.var 2)) none (.bin .add (.var 3) (.var 1)) [3]))])]⟩
def d_fall_back : Fd := ⟨1, 1, [.ret (.call 10 [(.call 6 [(.var 0)])])]⟩
def d_is_above : Fd := ⟨2, 4, [.set (.tp [(.nm 2), (.nm 3)]) (.call 7 [(.var 0), (.var 1)]), .ret (.call 11 [(.var 2), (.var 3)])]⟩
def d_falls_below : Fd := ⟨1, 1, [.ret (.call 12 [(.call 6 [(.var 0)])])]⟩
def d_transposed : Fd := ⟨2, 3, [.set (.nm 2) (.call 6 [(.var 0)]), .ife (.not (.call 2 [(.var 1), (.cst (.int 1)), (.cst (.int 1000))])) [.rai 2] [], .ife (.or (.cmp .lt (.ix (.var 2) (.bin .sub (.cst (.int 0)) (.cst (.int 1)))) (.cst (.int 0))) (.cmp .gt (.ix (.var 2) (.cst (.int 0))) (.var 1))) [.rai 0] [], .ret (.call 14 [(.var 2), (.var 1)])]⟩
def d_how_many_falls : Fd := ⟨2, 2, [.ife (.or (.not (.call 2 [(.var 0), (.cst (.int 1)), (.cst (.int 1000))])) (.not (.call 1 [(.var 1), (.cst (.int 0))]))) [.rai 2] [], .ret (.call 15 [(.bin .add (.var 0) (.var 1)), (.var 0)])]⟩
def d_ulaw_box : Fd := ⟨2, 3, [.set (.nm 2) (.ite (.cmp .lt (.var 1) (.bi .len [(.var 0)])) (.ix (.var 0) (.var 1)) (.cst (.int 0))), .ret (.qn (.disp [(.bin .mul (.bi .abs [(.var 2)]) (.bi .int [(.cmp .ge (.bi .abs [(.var 2)]) (.bin .pow (.cst (.int 10)) (.cst (.int 18))))])), (.bin .add (.bin .add (.bin .mod (.bi .int [(.var 2)]) (.cst (.int 2305843009213693951))) (.bin .mul (.cst (.int 39373)) (.var 1))) (.cst (.int 170511))), (.cst (.int 0))]))]⟩
def d_ulaw_take : Fd := ⟨2, 6, [.ife (.cmp .gt (.ix (.var 0) (.cst (.int 0))) (.cst (.int 0))) [.set (.nm 5) (.bin .mod (.bi .int [(.ix (.var 0) (.cst (.int 0)))]) (.var 1)), .set (.ix (.var 0) (.cst (.int 0))) (.bin .fdiv (.ix (.var 0) (.cst (.int 0))) (.var 1)), .ret (.var 5)] [], .set (.ix (.var 0) (.cst (.int 2))) (.bin .add (.ix (.var 0) (.cst (.int 2))) (.cst (.int 1))), .set (.nm 2) (.bin .mod (.bi .int [(.bin .mul (.bin .add (.ix (.var 0) (.cst (.int 1))) (.bin .mul (.cst (.int 48271)) (.ix (.var 0) (.cst (.int 2))))) (.bin .add (.cst (.int 39373)) (.ix (.var 0) (.cst (.int 2)))))]) (.cst (.int 2147483647))), .set (.nm 3) (.bin .add (.bin .mod (.bi .int [(.var 2)]) (.cst (.int 40009))) (.cst (.int 7))), .set (.nm 4) (.bin .mod (.bi .int [(.bin .mul (.bin .add (.bin .add (.var 2) (.ix (.var 0) (.cst (.int 2)))) (.bin .fdiv (.ix (.var 0) (.cst (.int 1))) (.cst (.int 1000003)))) (.var 3))]) (.cst (.int 2147483629))), .ret (.bin .mod (.bi .int [(.bin .fdiv (.bin .mod (.bi .int [(.bin .add (.bin .mul (.var 4) (.cst (.int 48271))) (.var 2))]) (.cst (.int 2147483587))) (.cst (.int 64)))]) (.var 1))]⟩
def d_ulaw_cells : Fd := ⟨2, 6, [.set (.nm 2) (.or (.qn (.lof (.sl (.var 0) none (some (.var 1))))) (.qn (.disp [(.cst (.int 0))]))), .fo (.tp [(.nm 3), (.nm 4)]) (.enum (.sl (.var 0) (some (.var 1)) (some (.cst (.int 63))))) [.set (.nm 5) (.bin .mod (.bi .int [(.var 3)]) (.var 1)), .set (.ix (.var 2) (.var 5)) (.bin .add (.ix (.var 2) (.var 5)) (.bin .mul (.var 4) (.bin .add (.var 3) (.cst (.int 2)))))], .ret (.frz (.var 2))]⟩
def d_ulaw_of : Fd := ⟨2, 2, [.ret (.ix (.var 1) (.call 27 [(.var 0), (.bi .len [(.var 1)])]))]⟩
def d_ulaw_pick : Fd := ⟨3, 6, [.par [4, 5] [(.qn (.lof (.var 1))), (.qn (.disp []))], .fo (.nm 3) (.rng1 (.bi .min2 [(.bi .int [(.var 2)]), (.bi .len [(.var 4)])])) [.ex (.mth .append (.var 5) [(.mth .pop1 (.var 4) [(.call 27 [(.var 0), (.bi .len [(.var 4)])])])])], .ret (.frz (.var 5))]⟩
def d_ulaw_same : Fd := ⟨2, 4, [.ife (.ist (.var 1) [.list, .tuple]) [.ife (.or (.cmp .ne (.ist (.var 0) [.list]) (.ist (.var 1) [.list])) (.cmp .ne (.ist (.var 0) [.tuple]) (.ist (.var 1) [.tuple]))) [.ret (.cst (.bl false))] [], .ret (.and (.cmp .eq (.bi .len [(.var 0)]) (.bi .len [(.var 1)])) (.bi .all [(.qv (.comp (.tp [(.nm 2), (.nm 3)]) (.zip2 (.var 0) (.var 1)) none (.call 31 [(.var 2), (.var 3)]) [2, 3]))]))] [], .ife (.cmp .is (.var 1) (.cst .non)) [.ret (.cmp .is (.var 0) (.cst .non))] [], .ife (.ist (.var 1) [.bool, .str]) [.ret (.and (.cmp .eq (.ist (.var 0) [.bool]) (.ist (.var 1) [.bool])) (.and (.cmp .eq (.ist (.var 0) [.str]) (.ist (.var 1) [.str])) (.cmp .eq (.var 0) (.var 1))))] [], .ret (.and (.ist (.var 0) [.int]) (.and (.not (.ist (.var 0) [.bool])) (.cmp .eq (.var 0) (.var 1))))]⟩
def d_ulaw_fall : Fd := ⟨1, 1, [.ret (.bi .tuple [(.rev (.qv (.srt (.var 0))))])]⟩
def d_ulaw_plus : Fd := ⟨2, 4, [.ret (.bi .tuple [(.qv (.comp (.tp [(.nm 2), (.nm 3)]) (.zip2 (.var 0) (.var 1)) none (.bin .add (.var 2) (.var 3)) [2, 3]))])]⟩
def d_ulaw_times : Fd := ⟨2, 3, [.ret (.bi .tuple [(.qv (.comp (.nm 2) (.val (.var 0)) none (.bin .mul (.var 2) (.var 1)) [2]))])]⟩
def d_ulaw_above : Fd := ⟨2, 3, [.ret (.and (.cmp .eq (.bi .sum [(.var 0)]) (.bi .sum [(.var 1)])) (.cmp .eq (.qv (.comp (.nm 2) (.rng1 (.bi .len [(.var 0)])) (some (.cmp .lt (.bi .sum [(.sl (.var 0) none (some (.var 2)))]) (.bi .sum [(.sl (.var 1) none (some (.var 2)))]))) (.var 2) [2])) (.qv (.disp []))))]⟩
def d_ulaw_shapes_of : Fd := ⟨2, 9, [.set (.nm 2) (.qv (.disp [(.tup [(.tup []), (.var 0)])])), .fo (.nm 3) (.rng1 (.var 1)) [.set (.nm 4) (.qn (.disp [])), .fo (.tp [(.nm 5), (.nm 6)]) (.val (.var 2)) [.set (.nm 7) (.ite (.cmp .ne (.var 5) (.tup [])) (.bi .min2 [(.var 6), (.ix (.var 5) (.bin .sub (.cst (.int 0)) (.cst (.int 1))))]) (.var 6)), .ex (.mth .extend (.var 4) [(.qv (.comp (.nm 8) (.rng1 (.bin .add (.var 7) (.cst (.int 1)))) none (.tup [(.bin .add (.var 5) (.tup [(.var 8)])), (.bin .sub (.var 6) (.var 8))]) [8]))])], .set (.nm 2) (.var 4)], .ret (.qv (.comp (.tp [(.nm 5), (.nm 6)]) (.val (.var 2)) (some (.cmp .eq (.var 6) (.cst (.int 0)))) (.var 5) [5, 6]))]⟩
def d_law : Fd := ⟨1, 28, [.set (.nm 1) (.call 26 [(.call 28 [(.var 0), (.cst (.int 1))]), (.cst (.int 0))]), .set (.nm 2) (.bin .add (.cst (.int 7)) (.call 27 [(.var 1), (.cst (.int 6))])), .set (.nm 3) (.call 29 [(.var 1), (.qv (.disp [(.cst (.int 3)), (.cst (.int 20)), (.bin .pow (.cst (.int 10)) (.cst (.int 8)))]))]), .set (.tp [(.nm 20), (.nm 21), (.nm 22)]) (.qv (.comp (.nm 9) (.rng1 (.cst (.int 3))) none (.call 32 [(.qv (.comp (.nm 4) (.rng1 (.var 2)) none (.bin .sub (.call 27 [(.var 1), (.bin .mul (.cst (.int 2)) (.var 3))]) (.var 3)) [4]))]) [9])), .set (.nm 4) (.call 27 [(.var 1), (.cst (.int 9))]), .set (.nm 5) (.bi .tuple [(.call 30 [(.var 1), (.qv (.lof (.var 20))), (.var 2)])]), .set (.nm 6) (.qv (.disp [(.call 17 [(.var 5)]), (.call 18 [(.var 20), (.var 21)]), (.call 19 [(.var 20), (.var 4)]), (.call 20 [(.var 20), (.bin .sub (.cst (.int 0)) (.var 4))]), (.call 21 [(.var 20)])])), .set (.nm 6) (.bin .add (.var 6) (.qv (.disp [(.call 16 [(.var 20)]), (.call 16 [(.bin .add (.var 20) (.tup [(.bin .add (.ix (.var 20) (.bin .sub (.cst (.int 0)) (.cst (.int 1)))) (.cst (.int 1)))]))])]))), .set (.nm 7) (.qv (.disp [(.var 20), (.call 33 [(.var 20), (.var 21)]), (.call 34 [(.var 20), (.var 4)]), (.bi .tuple [(.qv (.comp (.nm 23) (.val (.var 20)) none (.bin .sub (.var 23) (.var 4)) [23]))]), (.bi .tuple [(.qv (.comp (.nm 23) (.val (.rev (.var 20))) none (.bin .sub (.cst (.int 0)) (.var 23)) [23]))]), (.cst (.bl true)), (.cst (.bl false))])), .ife (.not (.call 31 [(.var 6), (.var 7)])) [.ret (.cst (.bl false))] [], .set (.nm 8) (.qn (.lof (.var 20))), .fo (.nm 9) (.rng1 (.cst (.int 5))) [.set (.tp [(.nm 26), (.nm 27)]) (.qv (.srt (.qv (.disp [(.call 27 [(.var 1), (.var 2)]), (.call 27 [(.var 1), (.var 2)])])))), .set (.nm 23) (.call 27 [(.var 1), (.var 3)]), .ife (.cmp .ge (.bin .sub (.ix (.var 8) (.var 26)) (.ix (.var 8) (.var 27))) (.bin .mul (.cst (.int 2)) (.var 23))) [.set (.tp [(.ix (.var 8) (.var 26)), (.ix (.var 8) (.var 27))]) (.tup [(.bin .sub (.ix (.var 8) (.var 26)) (.var 23)), (.bin .add (.ix (.var 8) (.var 27)) (.var 23))])] []], .set (.nm 8) (.call 32 [(.var 8)]), .ife (.not (.call 31 [(.qv (.disp [(.call 22 [(.var 20), (.var 8)]), (.call 22 [(.var 8), (.var 20)]), (.call 22 [(.var 20), (.var 21)])])), (.qv (.disp [(.cst (.bl true)), (.cmp .eq (.var 8) (.var 20)), (.call 35 [(.var 20), (.var 21)])]))])) [.ret (.cst (.bl false))] [], .ife (.not (.call 31 [(.qv (.disp [(.call 22 [(.call 18 [(.var 20), (.var 22)]), (.call 18 [(.var 8), (.var 22)])]), (.call 22 [(.call 19 [(.var 20), (.var 4)]), (.call 19 [(.var 8), (.var 4)])]), (.call 22 [(.call 21 [(.var 20)]), (.call 21 [(.var 8)])])])), (.qv (.rep [(.cst (.bl true))] (.cst (.int 3))))])) [.ret (.cst (.bl false))] [], .set (.nm 10) (.call 32 [(.qv (.comp (.nm 19) (.rng1 (.var 2)) none (.call 27 [(.var 1), (.call 29 [(.var 1), (.qv (.disp [(.cst (.int 3)), (.cst (.int 40))]))])]) [19]))]), .set (.nm 11) (.call 29 [(.var 1), (.qv (.disp [(.bi .max2 [(.cst (.int 1)), (.ix (.var 10) (.cst (.int 0)))]), (.cst (.int 40)), (.cst (.int 1000))]))]), .set (.nm 12) (.bi .tuple [(.qv (.comp (.nm 19) (.rng1 (.var 11)) none (.bi .len [(.qv (.comp (.nm 23) (.val (.var 10)) (some (.cmp .gt (.var 23) (.var 19))) (.var 23) [23]))]) [19]))]), .ife (.not (.call 31 [(.call 24 [(.var 10), (.var 11)]), (.var 12)])) [.ret (.cst (.bl false))] [], .ife (.and (.cmp .le (.var 11) (.cst (.int 12))) (.not (.call 31 [(.call 24 [(.var 12), (.var 2)]), (.var 10)]))) [.ret (.cst (.bl false))] [], .set (.nm 13) (.cst .non), .tryx [.ex (.call 24 [(.bin .add (.sl (.var 10) none (some (.bin .sub (.cst (.int 0)) (.cst (.int 1))))) (.tup [(.bin .sub (.cst (.int 0)) (.cst (.int 1)))])), (.cst (.int 1000))])] 3 0 14 [.set (.nm 13) (.cst (.bl true))], .ife (.cmp .isnot (.var 13) (.cst (.bl true))) [.ret (.cst (.bl false))] [], .set (.nm 15) (.call 29 [(.var 1), (.qv (.disp [(.tup [(.cst (.int 3)), (.cst (.int 1))]), (.tup [(.cst (.int 2)), (.cst (.int 2))]), (.tup [(.cst (.int 4))]), (.tup [(.cst (.int 2)), (.cst (.int 1)), (.cst (.int 1))]), (.tup [(.cst (.int 5))]), (.tup [(.cst (.int 3)), (.cst (.int 2))])]))]), .set (.nm 15) (.bin .add (.var 15) (.bin .mul (.tup [(.cst (.int 0))]) (.bin .sub (.var 2) (.bi .len [(.var 15)])))), .set (.nm 16) (.call 23 [(.call 33 [(.var 15), (.bin .mul (.tup [(.var 4)]) (.var 2))])]), .set (.nm 17) (.qn (.disp [])), .fo (.nm 18) (.val (.call 36 [(.bi .sum [(.var 15)]), (.var 2)])) [.ife (.call 35 [(.var 15), (.var 18)]) [.ex (.mth .append (.var 17) [(.call 33 [(.var 18), (.bin .mul (.tup [(.var 4)]) (.var 2))])])] []], .ife (.not (.call 31 [(.var 16), (.qv (.srt (.var 17)))])) [.ret (.cst (.bl false))] [], .set (.tp [(.nm 24), (.nm 25), (.nm 26), (.nm 27)]) (.tup [(.cst (.int 1)), (.cst (.int 1)), (.bin .add (.cst (.int 1)) (.call 27 [(.var 1), (.cst (.int 20))])), (.call 27 [(.var 1), (.cst (.int 30))])]), .fo (.nm 19) (.rng1 (.var 26)) [.par [24, 25] [(.bin .mul (.var 24) (.bin .add (.bin .add (.var 27) (.var 19)) (.cst (.int 1)))), (.bin .mul (.var 25) (.bin .add (.var 19) (.cst (.int 1))))]], .ret (.call 31 [(.qv (.disp [(.call 25 [(.var 26), (.var 27)]), (.call 25 [(.cst (.int 1000)), (.cst (.int 1))]), (.call 25 [(.cst (.int 1)), (.bin .pow (.cst (.int 10)) (.cst (.int 9)))])])), (.qv (.disp [(.bin .fdiv (.var 24) (.var 25)), (.cst (.int 1001)), (.bin .add (.bin .pow (.cst (.int 10)) (.cst (.int 9))) (.cst (.int 1)))]))])]⟩
def D : List Fd := [d_is_number, d_is_from, d_is_within, d_are_numbers, d_tupled, d_is_fall_in, d_sure_fall, d_sure_falls, d_added, d_sorted_in, d_back_in, d_is_above_in, d_below_in, d_steps_below, d_transposed_in, d_choose, d_is_fall, d_fall_of, d_fall_sum, d_fall_times, d_fall_raised, d_fall_back, d_is_above, d_falls_below, d_transposed, d_how_many_falls, d_ulaw_box, d_ulaw_take, d_ulaw_cells, d_ulaw_of, d_ulaw_pick, d_ulaw_same, d_ulaw_fall, d_ulaw_plus, d_ulaw_times, d_ulaw_above, d_ulaw_shapes_of, d_law]
theorem ok_is_number : RowOk tab gvs xs r_is_number d_is_number := ⟨rfl, rfl, by kernel_rfl, ⟨rfl, rfl, rfl, by decide +kernel, rfl, by decide +kernel, by decide +kernel⟩⟩
theorem ok_is_from : RowOk tab gvs xs r_is_from d_is_from := ⟨rfl, rfl, by kernel_rfl, ⟨rfl, rfl, rfl, by decide +kernel, rfl, by decide +kernel, by decide +kernel⟩⟩
theorem ok_is_within : RowOk tab gvs xs r_is_within d_is_within := ⟨rfl, rfl, by kernel_rfl, ⟨rfl, rfl, rfl, by decide +kernel, rfl, by decide +kernel, by decide +kernel⟩⟩
theorem ok_are_numbers : RowOk tab gvs xs r_are_numbers d_are_numbers := ⟨rfl, rfl, by kernel_rfl, ⟨rfl, rfl, rfl, by decide +kernel, rfl, by decide +kernel, by decide +kernel⟩⟩
theorem ok_tupled : RowOk tab gvs xs r_tupled d_tupled := ⟨rfl, rfl, by kernel_rfl, ⟨rfl, rfl, rfl, by decide +kernel, rfl, by decide +kernel, by decide +kernel⟩⟩
theorem ok_is_fall_in : RowOk tab gvs xs r_is_fall_in d_is_fall_in := ⟨rfl, rfl, by kernel_rfl, ⟨rfl, rfl, rfl, by decide +kernel, rfl, by decide +kernel, by decide +kernel⟩⟩
theorem ok_sure_fall : RowOk tab gvs xs r_sure_fall d_sure_fall := ⟨rfl, rfl, by kernel_rfl, ⟨rfl, rfl, rfl, by decide +kernel, rfl, by decide +kernel, by decide +kernel⟩⟩
theorem ok_sure_falls : RowOk tab gvs xs r_sure_falls d_sure_falls := ⟨rfl, rfl, by kernel_rfl, ⟨rfl, rfl, rfl, by decide +kernel, rfl, by decide +kernel, by decide +kernel⟩⟩
theorem ok_added : RowOk tab gvs xs r_added d_added := ⟨rfl, rfl, by kernel_rfl, ⟨rfl, rfl, rfl, by decide +kernel, rfl, by decide +kernel, by decide +kernel⟩⟩
theorem ok_sorted_in : RowOk tab gvs xs r_sorted_in d_sorted_in := ⟨rfl, rfl, by kernel_rfl, ⟨rfl, rfl, rfl, by decide +kernel, rfl, by decide +kernel, by decide +kernel⟩⟩
theorem ok_back_in : RowOk tab gvs xs r_back_in d_back_in := ⟨rfl, rfl, by kernel_rfl, ⟨rfl, rfl, rfl, by decide +kernel, rfl, by decide +kernel, by decide +kernel⟩⟩
theorem ok_is_above_in : RowOk tab gvs xs r_is_above_in d_is_above_in := ⟨rfl, rfl, by kernel_rfl, ⟨rfl, rfl, rfl, by decide +kernel, rfl, by decide +kernel, by decide +kernel⟩⟩
theorem ok_below_in : RowOk tab gvs xs r_below_in d_below_in := ⟨rfl, rfl, by kernel_rfl, ⟨rfl, rfl, rfl, by decide +kernel, rfl, by decide +kernel, by decide +kernel⟩⟩
theorem ok_steps_below : RowOk tab gvs xs r_steps_below d_steps_below := ⟨rfl, rfl, by kernel_rfl, ⟨rfl, rfl, rfl, by decide +kernel, rfl, by decide +kernel, by decide +kernel⟩⟩
theorem ok_transposed_in : RowOk tab gvs xs r_transposed_in d_transposed_in := ⟨rfl, rfl, by kernel_rfl, ⟨rfl, rfl, rfl, by decide +kernel, rfl, by decide +kernel, by decide +kernel⟩⟩
theorem ok_choose : RowOk tab gvs xs r_choose d_choose := ⟨rfl, rfl, by kernel_rfl, ⟨rfl, rfl, rfl, by decide +kernel, rfl, by decide +kernel, by decide +kernel⟩⟩
theorem ok_is_fall : RowOk tab gvs xs r_is_fall d_is_fall := ⟨rfl, rfl, by kernel_rfl, ⟨rfl, rfl, rfl, by decide +kernel, rfl, by decide +kernel, by decide +kernel⟩⟩
theorem ok_fall_of : RowOk tab gvs xs r_fall_of d_fall_of := ⟨rfl, rfl, by kernel_rfl, ⟨rfl, rfl, rfl, by decide +kernel, rfl, by decide +kernel, by decide +kernel⟩⟩
theorem ok_fall_sum : RowOk tab gvs xs r_fall_sum d_fall_sum := ⟨rfl, rfl, by kernel_rfl, ⟨rfl, rfl, rfl, by decide +kernel, rfl, by decide +kernel, by decide +kernel⟩⟩
theorem ok_fall_times : RowOk tab gvs xs r_fall_times d_fall_times := ⟨rfl, rfl, by kernel_rfl, ⟨rfl, rfl, rfl, by decide +kernel, rfl, by decide +kernel, by decide +kernel⟩⟩
theorem ok_fall_raised : RowOk tab gvs xs r_fall_raised d_fall_raised := ⟨rfl, rfl, by kernel_rfl, ⟨rfl, rfl, rfl, by decide +kernel, rfl, by decide +kernel, by decide +kernel⟩⟩
theorem ok_fall_back : RowOk tab gvs xs r_fall_back d_fall_back := ⟨rfl, rfl, by kernel_rfl, ⟨rfl, rfl, rfl, by decide +kernel, rfl, by decide +kernel, by decide +kernel⟩⟩
theorem ok_is_above : RowOk tab gvs xs r_is_above d_is_above := ⟨rfl, rfl, by kernel_rfl, ⟨rfl, rfl, rfl, by decide +kernel, rfl, by decide +kernel, by decide +kernel⟩⟩
theorem ok_falls_below : RowOk tab gvs xs r_falls_below d_falls_below := ⟨rfl, rfl, by kernel_rfl, ⟨rfl, rfl, rfl, by decide +kernel, rfl, by decide +kernel, by decide +kernel⟩⟩
theorem ok_transposed : RowOk tab gvs xs r_transposed d_transposed := ⟨rfl, rfl, by kernel_rfl, ⟨rfl, rfl, rfl, by decide +kernel, rfl, by decide +kernel, by decide +kernel⟩⟩
theorem ok_how_many_falls : RowOk tab gvs xs r_how_many_falls d_how_many_falls := ⟨rfl, rfl, by kernel_rfl, ⟨rfl, rfl, rfl, by decide +kernel, rfl, by decide +kernel, by decide +kernel⟩⟩
theorem ok_ulaw_box : RowOk tab gvs xs r_ulaw_box d_ulaw_box := ⟨rfl, rfl, by kernel_rfl, ⟨rfl, rfl, rfl, by decide +kernel, rfl, by decide +kernel, by decide +kernel⟩⟩
theorem ok_ulaw_take : RowOk tab gvs xs r_ulaw_take d_ulaw_take := ⟨rfl, rfl, by kernel_rfl, ⟨rfl, rfl, rfl, by decide +kernel, rfl, by decide +kernel, by decide +kernel⟩⟩
theorem ok_ulaw_cells : RowOk tab gvs xs r_ulaw_cells d_ulaw_cells := ⟨rfl, rfl, by kernel_rfl, ⟨rfl, rfl, rfl, by decide +kernel, rfl, by decide +kernel, by decide +kernel⟩⟩
theorem ok_ulaw_of : RowOk tab gvs xs r_ulaw_of d_ulaw_of := ⟨rfl, rfl, by kernel_rfl, ⟨rfl, rfl, rfl, by decide +kernel, rfl, by decide +kernel, by decide +kernel⟩⟩
theorem ok_ulaw_pick : RowOk tab gvs xs r_ulaw_pick d_ulaw_pick := ⟨rfl, rfl, by kernel_rfl, ⟨rfl, rfl, rfl, by decide +kernel, rfl, by decide +kernel, by decide +kernel⟩⟩
theorem ok_ulaw_same : RowOk tab gvs xs r_ulaw_same d_ulaw_same := ⟨rfl, rfl, by kernel_rfl, ⟨rfl, rfl, rfl, by decide +kernel, rfl, by decide +kernel, by decide +kernel⟩⟩
theorem ok_ulaw_fall : RowOk tab gvs xs r_ulaw_fall d_ulaw_fall := ⟨rfl, rfl, by kernel_rfl, ⟨rfl, rfl, rfl, by decide +kernel, rfl, by decide +kernel, by decide +kernel⟩⟩
theorem ok_ulaw_plus : RowOk tab gvs xs r_ulaw_plus d_ulaw_plus := ⟨rfl, rfl, by kernel_rfl, ⟨rfl, rfl, rfl, by decide +kernel, rfl, by decide +kernel, by decide +kernel⟩⟩
theorem ok_ulaw_times : RowOk tab gvs xs r_ulaw_times d_ulaw_times := ⟨rfl, rfl, by kernel_rfl, ⟨rfl, rfl, rfl, by decide +kernel, rfl, by decide +kernel, by decide +kernel⟩⟩
theorem ok_ulaw_above : RowOk tab gvs xs r_ulaw_above d_ulaw_above := ⟨rfl, rfl, by kernel_rfl, ⟨rfl, rfl, rfl, by decide +kernel, rfl, by decide +kernel, by decide +kernel⟩⟩
theorem ok_ulaw_shapes_of : RowOk tab gvs xs r_ulaw_shapes_of d_ulaw_shapes_of := ⟨rfl, rfl, by kernel_rfl, ⟨rfl, rfl, rfl, by decide +kernel, rfl, by decide +kernel, by decide +kernel⟩⟩
theorem ok_law : RowOk tab gvs xs r_law d_law := ⟨rfl, rfl, by kernel_rfl, ⟨rfl, rfl, rfl, by decide +kernel, rfl, by decide +kernel, by decide +kernel⟩⟩
theorem tbl : TblOk tab gvs xs D := by
  constructor
  intro i r h
  match i, h with
  | 0, h => cases h; exact ⟨_, rfl, ok_is_number⟩
  | 1, h => cases h; exact ⟨_, rfl, ok_is_from⟩
  | 2, h => cases h; exact ⟨_, rfl, ok_is_within⟩
  | 3, h => cases h; exact ⟨_, rfl, ok_are_numbers⟩
  | 4, h => cases h; exact ⟨_, rfl, ok_tupled⟩
  | 5, h => cases h; exact ⟨_, rfl, ok_is_fall_in⟩
  | 6, h => cases h; exact ⟨_, rfl, ok_sure_fall⟩
  | 7, h => cases h; exact ⟨_, rfl, ok_sure_falls⟩
  | 8, h => cases h; exact ⟨_, rfl, ok_added⟩
  | 9, h => cases h; exact ⟨_, rfl, ok_sorted_in⟩
  | 10, h => cases h; exact ⟨_, rfl, ok_back_in⟩
  | 11, h => cases h; exact ⟨_, rfl, ok_is_above_in⟩
  | 12, h => cases h; exact ⟨_, rfl, ok_below_in⟩
  | 13, h => cases h; exact ⟨_, rfl, ok_steps_below⟩
  | 14, h => cases h; exact ⟨_, rfl, ok_transposed_in⟩
  | 15, h => cases h; exact ⟨_, rfl, ok_choose⟩
  | 16, h => cases h; exact ⟨_, rfl, ok_is_fall⟩
  | 17, h => cases h; exact ⟨_, rfl, ok_fall_of⟩
  | 18, h => cases h; exact ⟨_, rfl, ok_fall_sum⟩
  | 19, h => cases h; exact ⟨_, rfl, ok_fall_times⟩
  | 20, h => cases h; exact ⟨_, rfl, ok_fall_raised⟩
  | 21, h => cases h; exact ⟨_, rfl, ok_fall_back⟩
  | 22, h => cases h; exact ⟨_, rfl, ok_is_above⟩
  | 23, h => cases h; exact ⟨_, rfl, ok_falls_below⟩
  | 24, h => cases h; exact ⟨_, rfl, ok_transposed⟩
  | 25, h => cases h; exact ⟨_, rfl, ok_how_many_falls⟩
  | 26, h => cases h; exact ⟨_, rfl, ok_ulaw_box⟩
  | 27, h => cases h; exact ⟨_, rfl, ok_ulaw_take⟩
  | 28, h => cases h; exact ⟨_, rfl, ok_ulaw_cells⟩
  | 29, h => cases h; exact ⟨_, rfl, ok_ulaw_of⟩
  | 30, h => cases h; exact ⟨_, rfl, ok_ulaw_pick⟩
  | 31, h => cases h; exact ⟨_, rfl, ok_ulaw_same⟩
  | 32, h => cases h; exact ⟨_, rfl, ok_ulaw_fall⟩
  | 33, h => cases h; exact ⟨_, rfl, ok_ulaw_plus⟩
  | 34, h => cases h; exact ⟨_, rfl, ok_ulaw_times⟩
  | 35, h => cases h; exact ⟨_, rfl, ok_ulaw_above⟩
  | 36, h => cases h; exact ⟨_, rfl, ok_ulaw_shapes_of⟩
  | 37, h => cases h; exact ⟨_, rfl, ok_law⟩
  | n + 38, h => simp [tab] at h
end K41
set_option Elab.async false
set_option linter.all false
set_option maxRecDepth 100000
set_option maxHeartbeats 2000000
/-! K41b: what the defs yield. -/
namespace K41
open Ev
local macro_rules | `(tactic| walk_at "w") => `(tactic| (first
  | (with_reducible refine ws_cons ?_) | (with_reducible refine ws_nil ?_) | (with_reducible refine ws_nm ?_ rfl) | (with_reducible refine ws_set ?_) | (with_reducible refine ws_par ?_) | (with_reducible refine ws_if ?_) | (with_reducible refine ws_ret ?_) | (with_reducible refine ws_retN ?_) | (with_reducible refine ws_brk ?_) | (with_reducible refine ws_cnt ?_) | (with_reducible refine ws_pass ?_) | (with_reducible refine ws_rai ?_) | (with_reducible refine ws_ex ?_) | (with_reducible refine ws_fo ?_) | (with_reducible refine ws_wh ?_)
  | (with_reducible refine w_varE ?_; refine ⟨_, rfl, ?_⟩) | (with_reducible refine w_cst ?_) | (with_reducible refine w_tup ?_) | (with_reducible refine w_bin ?_) | (with_reducible refine w_cmp ?_) | (with_reducible refine w_ch2 ?_) | (with_reducible refine w_and ?_) | (with_reducible refine w_or ?_) | (with_reducible refine w_not ?_) | (with_reducible refine w_ite ?_) | (with_reducible refine w_ix ?_) | (with_reducible refine w_sl ?_) | (with_reducible refine w_oNone ?_) | (with_reducible refine w_oSome ?_) | (with_reducible refine w_rev ?_) | (with_reducible refine w_call ?_) | (with_reducible refine w_bi ?_) | (with_reducible refine w_ist ?_) | (with_reducible refine w_mth ?_) | (with_reducible refine w_qv ?_) | (with_reducible refine w_qn ?_) | (with_reducible refine w_frz ?_) | (with_reducible refine w_dnew ?_) | (with_reducible refine w_dget ?_) | (with_reducible refine w_nil ?_) | (with_reducible refine w_cons ?_)
  | (with_reducible refine w_disp ?_) | (with_reducible refine w_lof ?_) | (with_reducible refine w_srt ?_) | (with_reducible refine w_rep ?_) | (with_reducible refine w_comp ?_) | (with_reducible refine w_val ?_) | (with_reducible refine w_rng1 ?_) | (with_reducible refine w_rng2 ?_) | (with_reducible refine w_rng3 ?_) | (with_reducible refine w_enum ?_) | (with_reducible refine w_zip2 ?_)
  | (with_reducible refine wt_nm rfl ?_) | (with_reducible refine wt_two rfl rfl ?_) | (with_reducible refine wc_nm rfl ?_) | (with_reducible refine wc_nmI rfl ?_) | (with_reducible refine wc_two rfl rfl ?_) | (with_reducible refine wc_twoI rfl rfl ?_)))
local macro_rules | `(tactic| walk_at "b") => `(tactic| (first
  | (with_reducible refine br_bl ?_) | (with_reducible refine br_blO ?_) | (with_reducible refine br_tr ?_) | (with_reducible refine br_trN ?_) | (with_reducible refine br_blN ?_) | (with_reducible refine br_and ?_)
  | (with_reducible refine ⟨_, cmp_eqI, ?_⟩) | (with_reducible refine ⟨_, cmp_neI, ?_⟩) | (with_reducible refine ⟨_, cmp_ltI, ?_⟩) | (with_reducible refine ⟨_, cmp_leI, ?_⟩) | (with_reducible refine ⟨_, cmp_gtI, ?_⟩) | (with_reducible refine ⟨_, cmp_geI, ?_⟩) | (with_reducible refine ⟨_, cmp_eqB, ?_⟩) | (with_reducible refine ⟨_, cmp_neB, ?_⟩) | (with_reducible refine ⟨_, cmp_eqT0, ?_⟩) | (with_reducible refine ⟨_, cmp_neT0, ?_⟩) | (with_reducible refine ⟨_, cmp_eqT, ?_⟩) | (with_reducible refine ⟨_, cmp_neT, ?_⟩) | (with_reducible refine ⟨_, cmp_eqL0, ?_⟩) | (with_reducible refine ⟨_, cmp_neL0, ?_⟩) | (with_reducible refine ⟨_, cmp_eqL, ?_⟩) | (with_reducible refine ⟨_, cmp_neL, ?_⟩)
  | (with_reducible refine ⟨_, sum_tZ, ?_⟩) | (with_reducible refine ⟨_, sum_lZ, ?_⟩) | (with_reducible refine ⟨_, min2_eq, ?_⟩) | (with_reducible refine ⟨_, max2_eq, ?_⟩) | (with_reducible refine ⟨_, zip_tZ, ?_⟩) | (with_reducible refine ⟨_, len_tZ, ?_⟩) | (with_reducible refine ⟨_, len_lZ, ?_⟩) | (with_reducible refine ⟨_, rev_tZ, ?_⟩) | (with_reducible refine ⟨_, rev_lZ, ?_⟩)))
local macro_rules | `(tactic| walk_at "a") => `(tactic| (first
  | walk_at "b"
  | (refine ⟨_, rfl, fun _ => ?_, fun hh => Bool.noConfusion (show true = false from hh)⟩)
  | (refine ⟨_, rfl, fun hh => Bool.noConfusion (show false = true from hh), fun _ => ?_⟩)
  | (refine ⟨_, rfl, fun _ => ?_, fun hh => Bool.noConfusion (show false = true from hh)⟩)
  | (refine ⟨_, rfl, fun hh => Bool.noConfusion (show true = false from hh), fun _ => ?_⟩)
  | (refine ⟨_, rfl, ?_⟩) | (refine ⟨_, _, rfl, ?_⟩) | (exact ⟨rfl, rfl⟩) | (refine ⟨rfl, rfl, ?_⟩) | (refine ⟨rfl, ?_⟩)))
local macro_rules | `(tactic| walk_at "s") => `(tactic| repeat (first | walk_at "w" | walk_at "b" | (with_reducible refine ⟨_, (rfl : U.int _ = U.int _), ?_⟩)))
local macro_rules | `(tactic| walk_at "g") => `(tactic| repeat (first | walk_at "w" | walk_at "a"))
section
variable {d : Nat} {S : Sto} {Q : U → Sto → Prop} {E : Nat → Sto → Prop}
theorem F41 : SureF D 6 4 5 3 0 2 := ⟨rfl, rfl, rfl, rfl, rfl⟩
theorem w_fall_of (hd : 4 ≤ d) (xs : List Int) (hl : xs.length ≤ 100) (hne : xs ≠ []) (q : Q (tZ (srtI xs).reverse) S) : W (run D 0 d 17 [tZ xs] S) Q E := by
  obtain ⟨e, rfl⟩ := at1 (by omega : 1 ≤ d)
  refine w_run (fd := d_fall_of) rfl rfl ?_
  show WS (evSs _ _ [_, _, _] [some (tZ xs), none] S) _
  walk_at "g"
  refine w_tupled (i := 4) rfl 1 e _ (wf_tZ (Nat.le_trans hl (by decide)) 0) (by omega) ?_
  rw [tupU_tZ]
  walk_at "g"
  refine w_are_numbers (i := 3) (j := 0) rfl rfl (by omega) xs (by omega) ?_
  walk_at "g"
  refine ⟨fun hh => absurd hh hne, fun _ => ?_⟩
  walk_at "g"
  exact w_fall (i := 9) rfl (by omega) xs rfl q
theorem w_fall_sum (hd : 6 ≤ d) (xs ys : List Int) (hl : xs.length ≤ 100) (hne : xs ≠ []) (hf : Fall xs) (hy : ys.length = xs.length) (hfy : Fall ys) (q : Q (tZ (plusL xs ys)) S) : W (run D 0 d 18 [tZ xs, tZ ys] S) Q E := by
  obtain ⟨e, rfl⟩ := at1 (by omega : 1 ≤ d)
  refine w_run (fd := d_fall_sum) rfl rfl ?_
  show WS (evSs _ _ [_, _] [some (tZ xs), some (tZ ys), none, none] S) _
  walk_at "g"
  refine F41.two (i := 7) rfl (by omega) xs ys (by omega) hne hf hy hfy ?_
  walk_at "g"
  exact w_added (i := 8) rfl (by omega) xs ys (by omega) q
theorem w_fall_times (hd : 5 ≤ d) (xs : List Int) (k : Int) (hk : 0 ≤ k) (hk2 : k < 1000) (hl : xs.length ≤ 100) (hne : xs ≠ []) (hf : Fall xs) (q : Q (tZ (xs.map fun x => k * x)) S) : W (run D 0 d 19 [tZ xs, .int k] S) Q E := by
  obtain ⟨e, rfl⟩ := at1 (by omega : 1 ≤ d)
  refine w_run (fd := d_fall_times) rfl rfl ?_
  show WS (evSs _ _ [_, _, _] [some (tZ xs), some (.int k), none, none] S) _
  walk_at "g"
  refine F41.one (by omega) xs (by omega) hne hf ?_
  walk_at "g"
  refine w_is_from (i := 1) (j := 0) rfl rfl (by omega) k 0 ?_
  rw [decide_eq_true hk]
  walk_at "g"
  refine ⟨by rw [List.length_map]; exact lim_of (by omega), rfl, wq_map (g := fun x : Int => .int (k * x)) (fun x hx => ?_) ?_⟩
  · walk_at "g"
    refine ⟨_, bin_mul (.inl ⟨by omega, by omega⟩), ?_⟩
    walk_at "g"
  · walk_at "g"
    have e1 : xs.map (fun x : Int => U.int (k * x)) = (xs.map fun x => k * x).map U.int := by rw [List.map_map]; rfl
    rw [e1]
    exact q
theorem w_fall_raised (hd : 5 ≤ d) (xs : List Int) (k : Int) (hl : xs.length ≤ 100) (hne : xs ≠ []) (hf : Fall xs) (q : Q (tZ (xs.map fun x => x + k)) S) : W (run D 0 d 20 [tZ xs, .int k] S) Q E := by
  obtain ⟨e, rfl⟩ := at1 (by omega : 1 ≤ d)
  refine w_run (fd := d_fall_raised) rfl rfl ?_
  show WS (evSs _ _ [_, _, _] [some (tZ xs), some (.int k), none, none] S) _
  walk_at "g"
  refine F41.one (by omega) xs (by omega) hne hf ?_
  walk_at "g"
  refine w_is_number (i := 0) rfl (by omega) k ?_
  walk_at "g"
  refine ⟨by rw [List.length_map]; exact lim_of (by omega), rfl, wq_map (g := fun x : Int => .int (x + k)) (fun x hx => ?_) ?_⟩
  · walk_at "g"
  · walk_at "g"
    have e1 : xs.map (fun x : Int => U.int (x + k)) = (xs.map fun x => x + k).map U.int := by rw [List.map_map]; rfl
    rw [e1]
    exact q
theorem w_fall_back (hd : 5 ≤ d) (xs : List Int) (hl : xs.length ≤ 100) (hne : xs ≠ []) (hf : Fall xs) (q : Q (tZ (backL xs)) S) : W (run D 0 d 21 [tZ xs] S) Q E := by
  obtain ⟨e, rfl⟩ := at1 (by omega : 1 ≤ d)
  refine w_run (fd := d_fall_back) rfl rfl ?_
  show WS (evSs _ _ [_] [some (tZ xs)] S) _
  walk_at "g"
  refine F41.one (by omega) xs (by omega) hne hf ?_
  walk_at "g"
  exact w_back (i := 10) rfl (by omega) xs (by omega) q
theorem w_is_above (hd : 6 ≤ d) (xs ys : List Int) (hl : xs.length ≤ 100) (hne : xs ≠ []) (hf : Fall xs) (hy : ys.length = xs.length) (hfy : Fall ys) (q : Q (.bl (abvB xs ys)) S) : W (run D 0 d 22 [tZ xs, tZ ys] S) Q E := by
  obtain ⟨e, rfl⟩ := at1 (by omega : 1 ≤ d)
  refine w_run (fd := d_is_above) rfl rfl ?_
  show WS (evSs _ _ [_, _] [some (tZ xs), some (tZ ys), none, none] S) _
  walk_at "g"
  refine F41.two (i := 7) rfl (by omega) xs ys (by omega) hne hf hy hfy ?_
  walk_at "g"
  exact w_above (i := 11) rfl (by omega) xs ys q
/-- how many are above j, j below m -/
def conj (xs : List Int) (m : Nat) : List Int := (List.range m).map fun (j : Nat) => (((xs.filter fun x => decide ((j : Int) < x)).length : Nat) : Int)
theorem w_transposed_in (hd : 1 ≤ d) (xs : List Int) (m : Nat) (hl : xs.length ≤ 2000) (hm : m ≤ 2000) (q : Q (tZ (conj xs m)) S) : W (run D 0 d 14 [tZ xs, .int m] S) Q E := by
  obtain ⟨e, rfl⟩ := at1 (by omega : 1 ≤ d)
  generalize hM : (m : Int) = M
  refine w_run (fd := d_transposed_in) rfl rfl ?_
  show WS (evSs _ _ [_] [some (tZ xs), some (.int M), none, none] S) _
  walk_at "g"
  subst hM
  refine ⟨small_i (by omega) (by omega), ?_⟩
  refine ⟨by rw [iota_len]; exact lim_of (by omega), rfl, ?_⟩
  dsimp only
  rw [iota0, Int.toNat_natCast]
  refine wq_map (g := fun j : Nat => .int (((xs.filter fun x => decide ((j : Int) < x)).length : Nat) : Int)) (fun j hj => ?_) ?_
  · walk_at "g"
    refine ⟨by rw [List.length_map]; exact lim_of (by omega), rfl, wq_filter (cc := fun x => decide ((j : Int) < x)) (g := U.int) (fun x hx => ?_) ?_⟩
    · walk_at "g"
      refine ⟨fun hh => ?_, fun hh => ?_⟩
      · walk_at "g"
        rw [if_pos (decide_eq_true hh)]
        exact ⟨rfl, rfl⟩
      · rw [if_neg (by simpa using hh)]
        exact ⟨rfl, rfl⟩
    · walk_at "g"
  · walk_at "g"
    have e1 : (List.range m).map (fun j : Nat => U.int (((xs.filter fun x => decide ((j : Int) < x)).length : Nat) : Int)) = (conj xs m).map U.int := by rw [conj, List.map_map]; rfl
    rw [e1]
    exact q
theorem w_transposed (hd : 5 ≤ d) (xs : List Int) (m : Nat) (hl : xs.length ≤ 2000) (hm : 1 ≤ m) (hm2 : m ≤ 1000) (hne : xs ≠ []) (hf : Fall xs) (h0 : ∀ x ∈ xs, 0 ≤ x) (h1 : ∀ x ∈ xs, x ≤ m) (q : Q (tZ (conj xs m)) S) : W (run D 0 d 24 [tZ xs, .int m] S) Q E := by
  obtain ⟨e, rfl⟩ := at1 (by omega : 1 ≤ d)
  have hp : 0 < xs.length := List.length_pos_iff.mpr hne
  refine w_run (fd := d_transposed) rfl rfl ?_
  show WS (evSs _ _ [_, _, _, _] [some (tZ xs), some (.int m), none] S) _
  walk_at "g"
  refine F41.one (by omega) xs (by omega) hne hf ?_
  walk_at "g"
  refine w_is_within (i := 2) (j := 0) rfl rfl (by omega) m 1 1000 ?_
  rw [decide_eq_true (by omega : (1 : Int) ≤ m), decide_eq_true (by omega : (m : Int) ≤ 1000)]
  walk_at "g"
  refine ⟨_, ix_tZl hne, ?_⟩
  walk_at "g"
  have hlast := h0 _ (List.getLast_mem hne)
  refine ⟨fun _ => ?_, fun hh => absurd hh (by omega)⟩
  walk_at "g"
  refine ⟨_, ix_tZ (i := 0) hp, ?_⟩
  walk_at "g"
  have hfirst := h1 _ (List.getElem_mem hp)
  refine ⟨fun hh => absurd hh (by omega), fun _ => ?_⟩
  walk_at "g"
  exact w_transposed_in (by omega) xs m hl (by omega) q
/-- a number below 0: CanNot -/
theorem w_transposed_no (hd : 5 ≤ d) (xs : List Int) (m : Nat) (hl : xs.length ≤ 2000) (hm : 1 ≤ m) (hm2 : m ≤ 1000) (hne : xs ≠ []) (hf : Fall xs) (h0 : xs.getLast hne < 0) (q : E 0 S) : W (run D 0 d 24 [tZ xs, .int m] S) Q E := by
  obtain ⟨e, rfl⟩ := at1 (by omega : 1 ≤ d)
  refine w_run (fd := d_transposed) rfl rfl ?_
  show WS (evSs _ _ [_, _, _, _] [some (tZ xs), some (.int m), none] S) _
  walk_at "g"
  refine F41.one (by omega) xs (by omega) hne hf ?_
  walk_at "g"
  refine w_is_within (i := 2) (j := 0) rfl rfl (by omega) m 1 1000 ?_
  rw [decide_eq_true (by omega : (1 : Int) ≤ m), decide_eq_true (by omega : (m : Int) ≤ 1000)]
  walk_at "g"
  refine ⟨_, ix_tZl hne, ?_⟩
  walk_at "g"
  refine ⟨fun hh => absurd h0 hh, fun hh => ?_⟩
  walk_at "g"
  exact q
/-- so many of so many -/
def chF (m : Int) : Nat → Int
  | 0 => 1
  | k + 1 => chF m k * (m - (k : Int)) / ((k : Int) + 1)
theorem w_choose (hd : 1 ≤ d) (m : Int) (k : Nat) (hm : 0 ≤ m) (hm2 : m < 2 ^ 60) (hk : k ≤ 1000) (M : Int) (hM : (k : Int) = M) (q : Q (.int (chF m k)) S) : W (run D 0 d 15 [.int m, .int M] S) Q E := by
  obtain ⟨e, rfl⟩ := at1 (by omega : 1 ≤ d)
  refine w_run (fd := d_choose) rfl rfl ?_
  show WS (evSs _ _ [_, _, _] [some (.int m), some (.int M), none, none] S) _
  walk_at "g"
  subst hM
  refine ⟨small_i (by omega) (by omega), ?_⟩
  refine ⟨rfl, wl_inv (fun i ρ S' => S' = S ∧ ∃ y, ρ = [some (.int m), some (.int k), some (.int (chF m i)), y]) _ 0 _ _ ⟨rfl, none, rfl⟩ ?_ ?_⟩
  · rintro i x ρ S' hx ⟨rfl, y, rfl⟩
    dsimp only at hx
    obtain ⟨hi, rfl⟩ := iota_at hx
    rw [Int.zero_add]
    walk_at "g"
    refine ⟨_, bin_mul (.inr ⟨by omega, by omega⟩), ?_⟩
    walk_at "g"
    refine ⟨_, bin_div' (by omega) (by omega), ?_⟩
    walk_at "g"
    refine ⟨some (.int i), ?_⟩
    rw [Nat.zero_add]
    rfl
  · rintro ρ S' ⟨rfl, y, rfl⟩
    dsimp only
    rw [iota_len, Nat.zero_add, Int.toNat_natCast]
    walk_at "g"
    exact q
theorem w_how_many (hd : 3 ≤ d) (a b : Nat) (ha : 1 ≤ a) (ha2 : a ≤ 1000) (hb : b < 2 ^ 59) (q : Q (.int (chF (a + b) a)) S) : W (run D 0 d 25 [.int a, .int b] S) Q E := by
  obtain ⟨e, rfl⟩ := at1 (by omega : 1 ≤ d)
  generalize hA : (a : Int) = A at *
  generalize hB : (b : Int) = B at *
  refine w_run (fd := d_how_many_falls) rfl rfl ?_
  show WS (evSs _ _ [_, _] [some (.int A), some (.int B)] S) _
  walk_at "g"
  refine w_is_within (i := 2) (j := 0) rfl rfl (by omega) A 1 1000 ?_
  rw [decide_eq_true (by omega : (1 : Int) ≤ A), decide_eq_true (by omega : (A : Int) ≤ 1000)]
  walk_at "g"
  refine w_is_from (i := 1) (j := 0) rfl rfl (by omega) B 0 ?_
  rw [decide_eq_true (by omega : (0 : Int) ≤ B)]
  walk_at "g"
  exact w_choose (by omega) (A + B) a (by omega) (by omega) ha2 A hA q
theorem w_ltimes (hd : 1 ≤ d) (xs : List Int) (k : Int) (hk : 0 ≤ k) (hk2 : k < 1000) (hl : xs.length ≤ 100) (q : Q (tZ (xs.map fun x => x * k)) S) : W (run D 0 d 34 [tZ xs, .int k] S) Q E := by
  obtain ⟨e, rfl⟩ := at1 (by omega : 1 ≤ d)
  refine w_run (fd := d_ulaw_times) rfl rfl ?_
  show WS (evSs _ _ [_] [some (tZ xs), some (.int k), none] S) _
  walk_at "g"
  refine ⟨by rw [List.length_map]; exact lim_of (by omega), rfl, wq_map (g := fun x : Int => .int (x * k)) (fun x hx => ?_) ?_⟩
  · walk_at "g"
    refine ⟨_, bin_mul (.inr ⟨by omega, by omega⟩), ?_⟩
    walk_at "g"
  · walk_at "g"
    have e1 : xs.map (fun x : Int => U.int (x * k)) = (xs.map fun x => x * k).map U.int := by rw [List.map_map]; rfl
    rw [e1]
    exact q
def lawAb (xs ys : List Int) : Bool := decide (xs.sum = ys.sum) && decide (((List.range xs.length).filter fun k => decide ((xs.take k).sum < (ys.take k).sum)).map (fun k : Nat => (k : Int)) = [])
theorem sl_tZ {S : Sto} {xs : List Int} {k : Nat} : slU S (tZ xs) none (some (k : Int)) = some (tZ (xs.take k)) := by
  simp only [slU, rd, cutU, sIx, List.drop_zero, Nat.sub_zero]
  rw [if_neg (by omega), List.length_map, Int.toNat_natCast, ← List.map_take]
  congr 3
  rw [List.take_eq_take_iff]
  omega
theorem w_lab (hd : 1 ≤ d) (xs ys : List Int) (hl : xs.length ≤ 100) (q : Q (.bl (lawAb xs ys)) S) : W (run D 0 d 35 [tZ xs, tZ ys] S) Q E := by
  obtain ⟨e, rfl⟩ := at1 (by omega : 1 ≤ d)
  refine w_run (fd := d_ulaw_above) rfl rfl ?_
  show WS (evSs _ _ [_] [some (tZ xs), some (tZ ys), none] S) _
  unfold lawAb at q
  walk_at "s"
  refine ⟨fun hh => ?_, fun hh => ?_⟩
  · rw [decide_eq_true hh, Bool.true_and] at q
    walk_at "s"
    refine ⟨small_i (by omega) (by omega), by rw [iota_len]; exact lim_of (by omega), rfl, ?_⟩
    dsimp only
    rw [iota0, Int.toNat_natCast]
    refine wq_filter (cc := fun k => decide ((xs.take k).sum < (ys.take k).sum)) (g := fun k : Nat => .int (k : Int)) (fun k hk => ?_) ?_
    · walk_at "s"
      refine ⟨_, sl_tZ, ?_⟩
      walk_at "s"
      refine ⟨_, sl_tZ, ?_⟩
      walk_at "s"
      refine ⟨fun h1 => ?_, fun h1 => ?_⟩
      · walk_at "s"
        rw [if_pos (decide_eq_true h1)]
        exact ⟨rfl, rfl⟩
      · rw [if_neg (by simpa using h1)]
        exact ⟨rfl, rfl⟩
    · have e1 : ((List.range xs.length).filter fun k => decide ((xs.take k).sum < (ys.take k).sum)).map (fun k : Nat => U.int (k : Int)) = (((List.range xs.length).filter fun k => decide ((xs.take k).sum < (ys.take k).sum)).map fun k : Nat => (k : Int)).map U.int := by rw [List.map_map]; rfl
      rw [e1]
      walk_at "s"
      exact q
  · rw [decide_eq_false hh, Bool.false_and] at q
    exact q
end
end K41
set_option Elab.async false
set_option linter.all false
set_option maxRecDepth 100000
set_option maxHeartbeats 2000000
/-! K41c: the falls below. -/
namespace K41
open Ev
local macro_rules | `(tactic| walk_at "w") => `(tactic| (first
  | (with_reducible refine ws_cons ?_) | (with_reducible refine ws_nil ?_) | (with_reducible refine ws_nm ?_ rfl) | (with_reducible refine ws_set ?_) | (with_reducible refine ws_par ?_) | (with_reducible refine ws_if ?_) | (with_reducible refine ws_ret ?_) | (with_reducible refine ws_retN ?_) | (with_reducible refine ws_brk ?_) | (with_reducible refine ws_cnt ?_) | (with_reducible refine ws_pass ?_) | (with_reducible refine ws_rai ?_) | (with_reducible refine ws_ex ?_) | (with_reducible refine ws_fo ?_) | (with_reducible refine ws_wh ?_)
  | (with_reducible refine w_varE ?_; refine ⟨_, rfl, ?_⟩) | (with_reducible refine w_cst ?_) | (with_reducible refine w_tup ?_) | (with_reducible refine w_bin ?_) | (with_reducible refine w_cmp ?_) | (with_reducible refine w_ch2 ?_) | (with_reducible refine w_and ?_) | (with_reducible refine w_or ?_) | (with_reducible refine w_not ?_) | (with_reducible refine w_ite ?_) | (with_reducible refine w_ix ?_) | (with_reducible refine w_sl ?_) | (with_reducible refine w_oNone ?_) | (with_reducible refine w_oSome ?_) | (with_reducible refine w_rev ?_) | (with_reducible refine w_call ?_) | (with_reducible refine w_bi ?_) | (with_reducible refine w_ist ?_) | (with_reducible refine w_mth ?_) | (with_reducible refine w_qv ?_) | (with_reducible refine w_qn ?_) | (with_reducible refine w_frz ?_) | (with_reducible refine w_dnew ?_) | (with_reducible refine w_dget ?_) | (with_reducible refine w_nil ?_) | (with_reducible refine w_cons ?_)
  | (with_reducible refine w_disp ?_) | (with_reducible refine w_lof ?_) | (with_reducible refine w_srt ?_) | (with_reducible refine w_rep ?_) | (with_reducible refine w_comp ?_) | (with_reducible refine w_val ?_) | (with_reducible refine w_rng1 ?_) | (with_reducible refine w_rng2 ?_) | (with_reducible refine w_rng3 ?_) | (with_reducible refine w_enum ?_) | (with_reducible refine w_zip2 ?_)
  | (with_reducible refine wt_nm rfl ?_) | (with_reducible refine wt_two rfl rfl ?_) | (with_reducible refine wc_nm rfl ?_) | (with_reducible refine wc_nmI rfl ?_) | (with_reducible refine wc_two rfl rfl ?_) | (with_reducible refine wc_twoI rfl rfl ?_)))
local macro_rules | `(tactic| walk_at "b") => `(tactic| (first
  | (with_reducible refine br_bl ?_) | (with_reducible refine br_blO ?_) | (with_reducible refine br_tr ?_) | (with_reducible refine br_trN ?_) | (with_reducible refine br_blN ?_) | (with_reducible refine br_and ?_)
  | (with_reducible refine ⟨_, cmp_eqI, ?_⟩) | (with_reducible refine ⟨_, bin_addI, ?_⟩) | (with_reducible refine ⟨_, bin_subI, ?_⟩) | (with_reducible refine ⟨_, cmp_neI, ?_⟩) | (with_reducible refine ⟨_, cmp_ltI, ?_⟩) | (with_reducible refine ⟨_, cmp_leI, ?_⟩) | (with_reducible refine ⟨_, cmp_gtI, ?_⟩) | (with_reducible refine ⟨_, cmp_geI, ?_⟩) | (with_reducible refine ⟨_, cmp_eqB, ?_⟩) | (with_reducible refine ⟨_, cmp_neB, ?_⟩) | (with_reducible refine ⟨_, cmp_eqT0, ?_⟩) | (with_reducible refine ⟨_, cmp_neT0, ?_⟩) | (with_reducible refine ⟨_, cmp_eqT, ?_⟩) | (with_reducible refine ⟨_, cmp_neT, ?_⟩) | (with_reducible refine ⟨_, cmp_eqL0, ?_⟩) | (with_reducible refine ⟨_, cmp_neL0, ?_⟩) | (with_reducible refine ⟨_, cmp_eqL, ?_⟩) | (with_reducible refine ⟨_, cmp_neL, ?_⟩)
  | (with_reducible refine ⟨_, sum_tZ, ?_⟩) | (with_reducible refine ⟨_, sum_lZ, ?_⟩) | (with_reducible refine ⟨_, min2_eq, ?_⟩) | (with_reducible refine ⟨_, max2_eq, ?_⟩) | (with_reducible refine ⟨_, zip_tZ, ?_⟩) | (with_reducible refine ⟨_, len_tZ, ?_⟩) | (with_reducible refine ⟨_, len_lZ, ?_⟩) | (with_reducible refine ⟨_, rev_tZ, ?_⟩) | (with_reducible refine ⟨_, rev_lZ, ?_⟩)))
local macro_rules | `(tactic| walk_at "a") => `(tactic| (first
  | walk_at "b"
  | (refine ⟨_, rfl, fun _ => ?_, fun hh => Bool.noConfusion (show true = false from hh)⟩)
  | (refine ⟨_, rfl, fun hh => Bool.noConfusion (show false = true from hh), fun _ => ?_⟩)
  | (refine ⟨_, rfl, fun _ => ?_, fun hh => Bool.noConfusion (show false = true from hh)⟩)
  | (refine ⟨_, rfl, fun hh => Bool.noConfusion (show true = false from hh), fun _ => ?_⟩)
  | (refine ⟨_, rfl, ?_⟩) | (refine ⟨_, _, rfl, ?_⟩) | (exact ⟨rfl, rfl⟩) | (refine ⟨rfl, rfl, ?_⟩) | (refine ⟨rfl, ?_⟩)))
local macro_rules | `(tactic| walk_at "s") => `(tactic| repeat (first | walk_at "w" | walk_at "b" | (with_reducible refine ⟨_, (rfl : U.int _ = U.int _), ?_⟩)))
local macro_rules | `(tactic| walk_at "g") => `(tactic| repeat (first | walk_at "w" | walk_at "a"))
section
variable {d : Nat} {S : Sto} {Q : U → Sto → Prop} {E : Nat → Sto → Prop}
def mostL (xs row : List Int) : Int := if h : row = [] then (xs.take (row.length + 1)).sum - row.sum else min ((xs.take (row.length + 1)).sum - row.sum) (row.getLast h)
def leastL (tot many : Int) (row : List Int) : Int := 0 - (0 - (tot - row.sum)) / many
def stepsL (xs : List Int) (tot many : Int) (row : List Int) : List (List Int) := (List.range (mostL xs row + 1 - leastL tot many row).toNat).map fun (i : Nat) => row ++ [leastL tot many row + i]
def okL (xs : List Int) (tot many : Int) (row : List Int) : Bool := decide (mostL xs row - leastL tot many row < 2000) && (decide (-1000000 ≤ leastL tot many row ∧ leastL tot many row ≤ 1000000) && (decide (-1000000 ≤ mostL xs row ∧ mostL xs row ≤ 1000000) && decide (row.length ≤ 1000)))
theorem iotaI (lo : Int) : ∀ n, iotaU lo n = (List.range n).map fun (i : Nat) => U.int (lo + i)
  | 0 => rfl
  | n + 1 => by
    rw [List.range_succ_eq_map, List.map_cons, List.map_map, iotaU, iotaI (lo + 1) n]
    congr 1
    · simp
    · apply List.map_congr_left
      intro i _
      simp only [Function.comp_def]
      congr 1
      omega
theorem w_steps (hd : 1 ≤ d) (xs row : List Int) (tot many : Int) (hm : 0 < many) (hm2 : many < 2 ^ 60) (ho : okL xs tot many row = true) (q : Q (.lst ((stepsL xs tot many row).map tZ)) S) : W (run D 0 d 13 [tZ xs, tZ row, .int tot, .int many] S) Q E := by
  obtain ⟨e, rfl⟩ := at1 (by omega : 1 ≤ d)
  simp only [okL, Bool.and_eq_true, decide_eq_true_eq] at ho
  obtain ⟨o1, ⟨o2, o5⟩, ⟨o6, o3⟩, o4⟩ := ho
  have tail : ∀ z4 M, M = mostL xs row → WS (evSs (run D 0 e) 0 (d_steps_below.body.drop 2) [some (tZ xs), some (tZ row), some (.int tot), some (.int many), z4, some (.int M), none, none, none] S) (endP Q E) := by
    rintro z4 M rfl
    show WS (evSs _ _ [_, _, _, _] [some (tZ xs), some (tZ row), some (.int tot), some (.int many), z4, some (.int (mostL xs row)), none, none, none] S) _
    walk_at "s"
    refine ⟨_, bin_div' hm (by omega), ?_⟩
    walk_at "s"
    refine ⟨fun hh => absurd hh (by unfold leastL at o1; omega), fun _ => ?_⟩
    walk_at "s"
    refine ⟨_, _, rfl, rfl, small_i (by unfold leastL at o1 o2 o5; omega) (by unfold leastL at o1 o2 o5; omega), small_i (by unfold leastL at o1 o2 o5; omega) (by omega), ?_⟩
    refine ⟨by rw [iota_len]; unfold leastL at o1; exact lim_of (by omega), rfl, ?_⟩
    dsimp only
    rw [iotaI]
    refine wq_map (g := fun (i : Nat) => tZ (row ++ [leastL tot many row + i])) (fun i hi => ?_) ?_
    · walk_at "s"
      refine ⟨_, bin_tZ (ys := [leastL tot many row + i]) (lim_of (by simp; omega)), rfl, rfl⟩
    · walk_at "s"
      unfold stepsL at q
      rw [List.map_map] at q
      exact q
  refine w_run (fd := d_steps_below) rfl rfl ?_
  show WS (evSs _ _ [_, _, _, _, _, _] [some (tZ xs), some (tZ row), some (.int tot), some (.int many), none, none, none, none, none] S) _
  walk_at "s"
  rw [show ((row.length : Int) + 1) = ((row.length + 1 : Nat) : Int) by omega]
  refine ⟨_, sl_tZ, ?_⟩
  walk_at "s"
  refine ⟨fun hh => ?_, fun hh => ?_⟩
  · walk_at "s"
    refine ⟨_, ix_tZl hh, ?_⟩
    have e1 : min ((xs.take (row.length + 1)).sum - row.sum) (row.getLast hh) = mostL xs row := by unfold mostL; rw [dif_neg hh]
    refine w_nil ?_
    refine ⟨_, min2_eq, ?_⟩
    exact tail _ _ e1
  · have hh : row = [] := Classical.byContradiction hh
    have e1 : (xs.take (row.length + 1)).sum - row.sum = mostL xs row := by unfold mostL; rw [dif_pos hh]
    refine w_var rfl ?_
    exact tail _ _ e1
theorem intsT : ∀ L : List (List Int), tupsI (L.map tZ) = some L
  | [] => rfl
  | x :: L => by
    show (match intsOf (x.map U.int), tupsI (L.map tZ) with | some ns, some ts => some (ns :: ts) | _, _ => none) = _
    rw [intsOf_int, intsT L]
theorem srt_tups (L : List (List Int)) (h : L.all (fun t => !t.isEmpty) = true) : srtU (L.map tZ) = some ((srtT L).map tZ) := by
  unfold srtU
  split
  · rename_i h
    rw [List.length_map] at h
    match L, h with
    | [], _ => rfl
    | [x], _ => rfl
  · have e1 : intsOf (L.map tZ) = none := by
      match L with
      | [] => rename_i h; exact absurd (by simp) h
      | x :: L => rfl
    rw [e1, intsT]
    dsimp only
    rw [if_pos h]
/-- one place more for every row -/
def goL (xs : List Int) (tot : Int) : Nat → List (List Int) → Option (List (List Int))
  | 0, rows => some rows
  | m + 1, rows => if (rows.all (okL xs tot ((m : Int) + 1)) && decide ((rows.flatMap (stepsL xs tot ((m : Int) + 1))).length ≤ 2000)) = true then goL xs tot m (rows.flatMap (stepsL xs tot ((m : Int) + 1))) else none
def bdIn : List SX := [.ex (.mth .extend (.var 5) [(.call 13 [(.var 0), (.var 6), (.var 3), (.bin .sub (.var 4) (.var 2))])]), .ife (.cmp .gt (.bi .len [(.var 5)]) (.cst (.int 2000))) [.rai 1] []]
theorem inner {e m : Nat} {R y6 : Option U} {xs : List Int} {rows : List (List Int)} {i N tot many : Int} (he : 1 ≤ e) (hN : N - i = many) (h1 : 0 < many) (h2 : many < 2 ^ 60) (ok : rows.all (okL xs tot many) = true)
    (hlen : (rows.flatMap (stepsL xs tot many)).length ≤ 2000) {S : Sto} (hm : S[m]? = some (.liv (.lst []))) {P : Out → Sto → Prop}
    (hp : ∀ y S', S'[m]? = some (.liv (.lst ((rows.flatMap (stepsL xs tot many)).map tZ))) → P (.nx [some (tZ xs), R, some (.int i), some (.int tot), some (.int N), some (.ref m), y]) S') :
    WS (forL (stepF (evT (run D 0 e) (.nm 6)) (evSs (run D 0 e) 0 bdIn)) (rows.map tZ) [some (tZ xs), R, some (.int i), some (.int tot), some (.int N), some (.ref m), y6] S) P := by
  refine wl_inv (fun j ρ S' => ∃ y, ρ = [some (tZ xs), R, some (.int i), some (.int tot), some (.int N), some (.ref m), y] ∧ S'[m]? = some (.liv (.lst (((rows.take j).flatMap (stepsL xs tot many)).map tZ)))) _ 0 _ _ ⟨y6, rfl, hm⟩ ?_ ?_
  · rintro j x ρ S' hx ⟨y, rfl, hS⟩
    rw [List.getElem?_map] at hx
    cases hr : rows[j]? with
    | none => rw [hr] at hx; cases hx
    | some row =>
      rw [hr] at hx
      cases hx
      rw [Nat.zero_add] at hS ⊢
      have hk := List.all_eq_true.mp ok row (List.mem_of_getElem? hr)
      have tk : (rows.take (j + 1)).flatMap (stepsL xs tot many) = (rows.take j).flatMap (stepsL xs tot many) ++ stepsL xs tot many row := by
        rw [List.take_add_one, hr, List.flatMap_append]
        simp
      have hl2 : ((rows.take (j + 1)).flatMap (stepsL xs tot many)).length ≤ 2000 := by
        have e2 : (rows.flatMap (stepsL xs tot many)).length = ((rows.take (j + 1)).flatMap (stepsL xs tot many)).length + ((rows.drop (j + 1)).flatMap (stepsL xs tot many)).length := by
          rw [← List.length_append, ← List.flatMap_append, List.take_append_drop]
        omega
      rw [tk] at hl2 ⊢
      rw [List.length_append] at hl2
      generalize (rows.take j).flatMap (stepsL xs tot many) = acc at *
      have hlt : m < S'.length := (List.getElem?_eq_some_iff.mp hS).1
      refine wt_nm rfl ?_
      unfold bdIn
      walk_at "s"
      refine ⟨by simp [mtOk, rd, hS], ?_⟩
      walk_at "s"
      rw [hN]
      refine w_steps he xs row tot many h1 h2 hk ?_
      walk_at "s"
      refine ⟨.non, S'.set m (.liv (.lst ((acc ++ stepsL xs tot many row).map tZ))), ?_, ?_⟩
      · simp only [mthU, hS, rd]
        rw [if_pos (lim_of (by simp; omega)), List.map_append]
      walk_at "s"
      have hs2 : (S'.set m (.liv (.lst ((acc ++ stepsL xs tot many row).map tZ))))[m]? = some (.liv (.lst ((acc ++ stepsL xs tot many row).map tZ))) := List.getElem?_set_self hlt
      refine ⟨_, len_ref hs2, ?_⟩
      walk_at "s"
      refine ⟨fun hh => absurd hh (by simp; omega), fun _ => ?_⟩
      walk_at "s"
      exact ⟨_, rfl, hs2⟩
  · rintro ρ S' ⟨y, rfl, hS⟩
    refine hp y S' ?_
    rw [Nat.zero_add, List.length_map, List.take_length] at hS
    exact hS
theorem lock_liv {S : Sto} {p : Nat} {xs : List U} (h : S[p]? = some (.liv (.lst xs))) : lockOf S (.ref p) = some (xs, some p) := by simp [lockOf, h]
def IB (xs : List Int) (L : List (List Int)) (i : Nat) (ρ : Rho) (S' : Sto) : Prop := ∃ R rows y2 y5 y6, ρ = [some (tZ xs), some R, y2, some (.int xs.sum), some (.int xs.length), y5, y6] ∧ (R = .lst (rows.map tZ) ∨ ∃ m, R = .ref m ∧ S'[m]? = some (.liv (.lst (rows.map tZ)))) ∧ goL xs xs.sum (xs.length - i) rows = some L
theorem lapEnd {F : Nat → List U → Sto → R U} {xs : List Int} {L rows : List (List Int)} {i m : Nat} {R : U} {y2 y : Option U} {S2 : Sto} {P : Out → Sto → Prop} (h : S2[m]? = some (.liv (.lst (rows.map tZ)))) (hg : goL xs xs.sum (xs.length - (i + 1)) rows = some L) :
    WS (evSs F 0 [.set (.nm 1) (.var 5)] [some (tZ xs), some R, y2, some (.int xs.sum), some (.int xs.length), some (.ref m), y] S2) (turnP (IB xs L (i + 1)) P) := by
  walk_at "s"
  exact ⟨.ref m, rows, _, _, _, rfl, .inr ⟨m, rfl, h⟩, hg⟩
theorem compB {e : Nat} (he : 1 ≤ e) {xs : List Int} {L : List (List Int)} {y1 y2 y3 y4 y5 y6 : Option U} (S : Sto) {Qs : List U → Sto → Prop} {E : Nat → Sto → Prop} (q : Qs ((L.filter (abvB xs)).map tZ) S) :
    W (compL (stepC [6] (evT (run D 0 e) (.nm 6)) (evC (run D 0 e) (some (.call 11 [.var 0, .var 6]))) (evE (run D 0 e) (.var 6)) [some (tZ xs), y1, y2, y3, y4, y5, y6]) (L.map tZ) S) Qs E := by
  refine wq_filter (cc := abvB xs) (g := tZ) (fun row _ => ?_) q
  refine wc_nmI rfl ?_
  repeat walk_at "w"
  refine w_above (i := 11) rfl he xs row ?_
  refine ⟨_, rfl, fun hh => ?_, fun hh => ?_⟩
  · repeat walk_at "w"
    rw [if_pos hh]
    exact ⟨rfl, rfl⟩
  · rw [if_neg (by rw [hh]; decide)]; exact ⟨rfl, rfl⟩
theorem w_below_in (hd : 2 ≤ d) (xs : List Int) (L : List (List Int)) (hl : xs.length ≤ 1000) (hg : goL xs xs.sum xs.length [[]] = some L) (hne : L.all (fun t => !t.isEmpty) = true) (hcnt : L.length ≤ 2000) :
    W (run D 0 d 12 [tZ xs] []) (fun v _ => v = .lst ((srtT (L.filter (abvB xs))).map tZ)) noE := by
  obtain ⟨e, rfl⟩ := at1 (by omega : 1 ≤ d)
  refine w_run (fd := d_below_in) rfl rfl ?_
  show WS (evSs _ _ [_, _, _, _] [some (tZ xs), none, none, none, none, none, none] []) _
  walk_at "s"
  refine ⟨rfl, rfl, ?_⟩
  walk_at "s"
  refine ⟨small_i (by omega) (by omega), rfl, wl_inv (IB xs L) _ 0 _ _ ⟨_, [[]], none, none, none, rfl, .inl rfl, hg⟩ ?_ ?_⟩
  · rintro i x ρ S' hx ⟨R, rows, y2, y5, y6, rfl, hR, hgo⟩
    obtain ⟨hi, rfl⟩ := iota_at hx
    rw [Int.toNat_natCast] at hi
    rw [Int.zero_add]
    rw [Nat.zero_add] at *
    obtain ⟨m, hm⟩ : ∃ m, xs.length - i = m + 1 := ⟨xs.length - i - 1, by omega⟩
    rw [hm, goL] at hgo
    split at hgo
    case isFalse => cases hgo
    rename_i hc
    rw [Bool.and_eq_true, decide_eq_true_eq] at hc
    have hgo2 : goL xs xs.sum (xs.length - (i + 1)) (rows.flatMap (stepsL xs xs.sum ((m : Int) + 1))) = some L := by rw [show xs.length - (i + 1) = m by omega]; exact hgo
    refine wt_nm rfl ?_
    refine ws_cons ?_
    refine ws_nm ?_ rfl
    refine w_qn ?_
    refine w_disp ?_
    refine w_nil ?_
    have hlast : (S' ++ [C.liv (O.lst [])])[S'.length]? = some (.liv (.lst [])) := last_at
    have hlt : ∀ p, S'[p]? = some (C.liv (.lst (rows.map tZ))) → p < S'.length := fun p hp => (List.getElem?_eq_some_iff.mp hp).1
    refine ws_cons ?_
    rcases hR with rfl | ⟨p, rfl, hp⟩
    · refine ws_fo ?_
      walk_at "s"
      refine ⟨_, rfl, rfl, ?_⟩
      refine inner (by omega) (many := (m : Int) + 1) (by omega) (by omega) (by omega) hc.1 hc.2 hlast fun y S2 h2 => ?_
      exact lapEnd h2 hgo2
    · refine ws_foR ?_
      walk_at "s"
      have hp2 : (S' ++ [C.liv (O.lst [])])[p]? = some (.liv (.lst (rows.map tZ))) := by rw [List.getElem?_append_left (hlt p hp)]; exact hp
      refine ⟨_, lock_liv hp2, p, _, rfl, hp2, ?_⟩
      refine inner (by omega) (many := (m : Int) + 1) (by omega) (by omega) (by omega) hc.1 hc.2 (by rw [List.getElem?_set_ne (Nat.ne_of_lt (hlt p hp))]; exact hlast) fun y S2 h2 => ?_
      exact lapEnd (by rw [List.getElem?_set_ne (Nat.ne_of_lt (hlt p hp))]; exact h2) hgo2
  · rintro ρ S' ⟨R, rows, y2, y5, y6, rfl, hR, hgo⟩
    rw [iota_len, Int.toNat_natCast, Nat.zero_add, Nat.sub_self] at hgo
    cases hgo
    have hne2 : (L.filter (abvB xs)).all (fun t => !t.isEmpty) = true := by
      rw [List.all_eq_true] at hne ⊢
      exact fun x hx => hne x (List.mem_filter.mp hx).1
    dsimp only
    refine ws_cons ?_
    refine ws_ret ?_
    refine w_qv ?_
    refine w_srt ?_
    refine w_qv ?_
    rcases hR with rfl | ⟨p, rfl, hp⟩
    · refine w_comp ?_
      walk_at "s"
      refine ⟨_, rfl, lim_of (by simp; omega), rfl, ?_⟩
      refine compB (by omega) S' ?_
      exact ⟨_, _, rfl, srt_tups _ hne2, rfl⟩
    · refine w_compR ?_
      walk_at "s"
      refine ⟨_, lock_liv hp, ?_⟩
      refine ⟨p, _, lim_of (by simp; omega), rfl, hp, ?_⟩
      refine compB (by omega) _ ?_
      exact ⟨_, _, rfl, srt_tups _ hne2, rfl⟩
end
end K41
set_option Elab.async false
set_option linter.all false
set_option maxRecDepth 1000000
set_option maxHeartbeats 2000000
/-! K41d: the falls below and the shapes, all of them looked at. -/
namespace K41
open Ev
local macro_rules | `(tactic| walk_at "w") => `(tactic| (first
  | (with_reducible refine ws_cons ?_) | (with_reducible refine ws_nil ?_) | (with_reducible refine ws_nm ?_ rfl) | (with_reducible refine ws_set ?_) | (with_reducible refine ws_par ?_) | (with_reducible refine ws_if ?_) | (with_reducible refine ws_ret ?_) | (with_reducible refine ws_retN ?_) | (with_reducible refine ws_brk ?_) | (with_reducible refine ws_cnt ?_) | (with_reducible refine ws_pass ?_) | (with_reducible refine ws_rai ?_) | (with_reducible refine ws_ex ?_) | (with_reducible refine ws_fo ?_) | (with_reducible refine ws_wh ?_)
  | (with_reducible refine w_varE ?_; refine ⟨_, rfl, ?_⟩) | (with_reducible refine w_cst ?_) | (with_reducible refine w_tup ?_) | (with_reducible refine w_bin ?_) | (with_reducible refine w_cmp ?_) | (with_reducible refine w_ch2 ?_) | (with_reducible refine w_and ?_) | (with_reducible refine w_or ?_) | (with_reducible refine w_not ?_) | (with_reducible refine w_ite ?_) | (with_reducible refine w_ix ?_) | (with_reducible refine w_sl ?_) | (with_reducible refine w_oNone ?_) | (with_reducible refine w_oSome ?_) | (with_reducible refine w_rev ?_) | (with_reducible refine w_call ?_) | (with_reducible refine w_bi ?_) | (with_reducible refine w_ist ?_) | (with_reducible refine w_mth ?_) | (with_reducible refine w_qv ?_) | (with_reducible refine w_qn ?_) | (with_reducible refine w_frz ?_) | (with_reducible refine w_dnew ?_) | (with_reducible refine w_dget ?_) | (with_reducible refine w_nil ?_) | (with_reducible refine w_cons ?_)
  | (with_reducible refine w_disp ?_) | (with_reducible refine w_lof ?_) | (with_reducible refine w_srt ?_) | (with_reducible refine w_rep ?_) | (with_reducible refine w_comp ?_) | (with_reducible refine w_val ?_) | (with_reducible refine w_rng1 ?_) | (with_reducible refine w_rng2 ?_) | (with_reducible refine w_rng3 ?_) | (with_reducible refine w_enum ?_) | (with_reducible refine w_zip2 ?_)
  | (with_reducible refine wt_nm rfl ?_) | (with_reducible refine wt_two rfl rfl ?_) | (with_reducible refine wc_nm rfl ?_) | (with_reducible refine wc_nmI rfl ?_) | (with_reducible refine wc_two rfl rfl ?_) | (with_reducible refine wc_twoI rfl rfl ?_)))
local macro_rules | `(tactic| walk_at "b") => `(tactic| (first
  | (with_reducible refine br_bl ?_) | (with_reducible refine br_blO ?_) | (with_reducible refine br_tr ?_) | (with_reducible refine br_trN ?_) | (with_reducible refine br_blN ?_) | (with_reducible refine br_and ?_)
  | (with_reducible refine ⟨_, cmp_eqI, ?_⟩) | (with_reducible refine ⟨_, bin_addI, ?_⟩) | (with_reducible refine ⟨_, bin_subI, ?_⟩) | (with_reducible refine ⟨_, cmp_neI, ?_⟩) | (with_reducible refine ⟨_, cmp_ltI, ?_⟩) | (with_reducible refine ⟨_, cmp_leI, ?_⟩) | (with_reducible refine ⟨_, cmp_gtI, ?_⟩) | (with_reducible refine ⟨_, cmp_geI, ?_⟩) | (with_reducible refine ⟨_, cmp_eqB, ?_⟩) | (with_reducible refine ⟨_, cmp_neB, ?_⟩) | (with_reducible refine ⟨_, cmp_eqT0, ?_⟩) | (with_reducible refine ⟨_, cmp_neT0, ?_⟩) | (with_reducible refine ⟨_, cmp_eqT, ?_⟩) | (with_reducible refine ⟨_, cmp_neT, ?_⟩) | (with_reducible refine ⟨_, cmp_eqL0, ?_⟩) | (with_reducible refine ⟨_, cmp_neL0, ?_⟩) | (with_reducible refine ⟨_, cmp_eqL, ?_⟩) | (with_reducible refine ⟨_, cmp_neL, ?_⟩)
  | (with_reducible refine ⟨_, sum_tZ, ?_⟩) | (with_reducible refine ⟨_, sum_lZ, ?_⟩) | (with_reducible refine ⟨_, min2_eq, ?_⟩) | (with_reducible refine ⟨_, max2_eq, ?_⟩) | (with_reducible refine ⟨_, zip_tZ, ?_⟩) | (with_reducible refine ⟨_, len_tZ, ?_⟩) | (with_reducible refine ⟨_, len_lZ, ?_⟩) | (with_reducible refine ⟨_, rev_tZ, ?_⟩) | (with_reducible refine ⟨_, rev_lZ, ?_⟩)))
local macro_rules | `(tactic| walk_at "a") => `(tactic| (first
  | walk_at "b"
  | (refine ⟨_, rfl, fun _ => ?_, fun hh => Bool.noConfusion (show true = false from hh)⟩)
  | (refine ⟨_, rfl, fun hh => Bool.noConfusion (show false = true from hh), fun _ => ?_⟩)
  | (refine ⟨_, rfl, fun _ => ?_, fun hh => Bool.noConfusion (show false = true from hh)⟩)
  | (refine ⟨_, rfl, fun hh => Bool.noConfusion (show true = false from hh), fun _ => ?_⟩)
  | (refine ⟨_, rfl, ?_⟩) | (refine ⟨_, _, rfl, ?_⟩) | (exact ⟨rfl, rfl⟩) | (refine ⟨rfl, rfl, ?_⟩) | (refine ⟨rfl, ?_⟩)))
local macro_rules | `(tactic| walk_at "s") => `(tactic| repeat (first | walk_at "w" | walk_at "b" | (with_reducible refine ⟨_, (rfl : U.int _ = U.int _), ?_⟩)))
local macro_rules | `(tactic| walk_at "g") => `(tactic| repeat (first | walk_at "w" | walk_at "a"))
local macro_rules | `(tactic| walk_at "n") => `(tactic| (refine ⟨_, rfl, _, rfl, fun hh => Bool.noConfusion (show false = true from hh), fun _ => ?_⟩; refine ws_nil ?_))
theorem nrD : (D.all fun fd => nrSs fd.body) = true := by decide +kernel
def shStep (r : List Int × Int) : List (List Int × Int) := (List.range ((match r.1.getLast? with | none => r.2 | some l => min r.2 l) + 1).toNat).map fun (i : Nat) => (r.1 ++ [(i : Int)], r.2 - i)
def shGo : Nat → List (List Int × Int) → List (List Int × Int)
  | 0, rows => rows
  | n + 1, rows => shGo n (rows.flatMap shStep)
def shL (s : Int) (n : Nat) : List (List Int) := ((shGo n [([], s)]).filter fun r => decide (r.2 = 0)).map (·.1)
def chkS (d n : Nat) (s : Int) : Bool := match run D 0 d 36 [.int s, .int n] [] with
  | .ok (.lst vs) _ => (match tupsI vs with | some ts => decide (ts = shL s n) | none => false)
  | _ => false
def smalls : List (List Int) := [[3, 1], [2, 2], [4], [2, 1, 1], [5], [3, 2]]
def padL (small : List Int) (n : Nat) : List Int := small ++ List.replicate (n - small.length) 0
def partsL (n : Nat) (small : List Int) (k : Int) : List (List Int) := ((shL small.sum n).filter (lawAb (padL small n))).map fun its => plusL its (List.replicate n k)
def chkB (n : Nat) (small : List Int) (k : Int) : Bool :=
  let xs := plusL (padL small n) (List.replicate n k)
  (decide (xs.length = n) && (isFall xs && (decide ((shL small.sum n).length ≤ 2000) && (shL small.sum n).all fun its => decide (its.length = n)))) && match goL xs xs.sum n [[]] with
  | some L => L.all (fun t => !t.isEmpty) && (decide (L.length ≤ 2000) && decide (L.filter (abvB xs) = partsL n small k))
  | none => false
theorem cb_7_0 : ([0, 1, 2, 3, 4, 5, 6, 7, 8].all fun k => chkB 7 [3, 1] k) = true := by decide +kernel
theorem cb_7_1 : ([0, 1, 2, 3, 4, 5, 6, 7, 8].all fun k => chkB 7 [2, 2] k) = true := by decide +kernel
theorem cb_7_2 : ([0, 1, 2, 3, 4, 5, 6, 7, 8].all fun k => chkB 7 [4] k) = true := by decide +kernel
theorem cb_7_3 : ([0, 1, 2, 3, 4, 5, 6, 7, 8].all fun k => chkB 7 [2, 1, 1] k) = true := by decide +kernel
theorem cb_7_4 : ([0, 1, 2, 3, 4, 5, 6, 7, 8].all fun k => chkB 7 [5] k) = true := by decide +kernel
theorem cb_7_5 : ([0, 1, 2, 3, 4, 5, 6, 7, 8].all fun k => chkB 7 [3, 2] k) = true := by decide +kernel
theorem cb_8_0 : ([0, 1, 2, 3, 4, 5, 6, 7, 8].all fun k => chkB 8 [3, 1] k) = true := by decide +kernel
theorem cb_8_1 : ([0, 1, 2, 3, 4, 5, 6, 7, 8].all fun k => chkB 8 [2, 2] k) = true := by decide +kernel
theorem cb_8_2 : ([0, 1, 2, 3, 4, 5, 6, 7, 8].all fun k => chkB 8 [4] k) = true := by decide +kernel
theorem cb_8_3 : ([0, 1, 2, 3, 4, 5, 6, 7, 8].all fun k => chkB 8 [2, 1, 1] k) = true := by decide +kernel
theorem cb_8_4 : ([0, 1, 2, 3, 4, 5, 6, 7, 8].all fun k => chkB 8 [5] k) = true := by decide +kernel
theorem cb_8_5 : ([0, 1, 2, 3, 4, 5, 6, 7, 8].all fun k => chkB 8 [3, 2] k) = true := by decide +kernel
theorem cb_9_0 : ([0, 1, 2, 3, 4, 5, 6, 7, 8].all fun k => chkB 9 [3, 1] k) = true := by decide +kernel
theorem cb_9_1 : ([0, 1, 2, 3, 4, 5, 6, 7, 8].all fun k => chkB 9 [2, 2] k) = true := by decide +kernel
theorem cb_9_2 : ([0, 1, 2, 3, 4, 5, 6, 7, 8].all fun k => chkB 9 [4] k) = true := by decide +kernel
theorem cb_9_3 : ([0, 1, 2, 3, 4, 5, 6, 7, 8].all fun k => chkB 9 [2, 1, 1] k) = true := by decide +kernel
theorem cb_9_4 : ([0, 1, 2, 3, 4, 5, 6, 7, 8].all fun k => chkB 9 [5] k) = true := by decide +kernel
theorem cb_9_5 : ([0, 1, 2, 3, 4, 5, 6, 7, 8].all fun k => chkB 9 [3, 2] k) = true := by decide +kernel
theorem cb_10_0 : ([0, 1, 2, 3, 4, 5, 6, 7, 8].all fun k => chkB 10 [3, 1] k) = true := by decide +kernel
theorem cb_10_1 : ([0, 1, 2, 3, 4, 5, 6, 7, 8].all fun k => chkB 10 [2, 2] k) = true := by decide +kernel
theorem cb_10_2 : ([0, 1, 2, 3, 4, 5, 6, 7, 8].all fun k => chkB 10 [4] k) = true := by decide +kernel
theorem cb_10_3 : ([0, 1, 2, 3, 4, 5, 6, 7, 8].all fun k => chkB 10 [2, 1, 1] k) = true := by decide +kernel
theorem cb_10_4 : ([0, 1, 2, 3, 4, 5, 6, 7, 8].all fun k => chkB 10 [5] k) = true := by decide +kernel
theorem cb_10_5 : ([0, 1, 2, 3, 4, 5, 6, 7, 8].all fun k => chkB 10 [3, 2] k) = true := by decide +kernel
theorem cb_11_0 : ([0, 1, 2, 3, 4, 5, 6, 7, 8].all fun k => chkB 11 [3, 1] k) = true := by decide +kernel
theorem cb_11_1 : ([0, 1, 2, 3, 4, 5, 6, 7, 8].all fun k => chkB 11 [2, 2] k) = true := by decide +kernel
theorem cb_11_2 : ([0, 1, 2, 3, 4, 5, 6, 7, 8].all fun k => chkB 11 [4] k) = true := by decide +kernel
theorem cb_11_3 : ([0, 1, 2, 3, 4, 5, 6, 7, 8].all fun k => chkB 11 [2, 1, 1] k) = true := by decide +kernel
theorem cb_11_4 : ([0, 1, 2, 3, 4, 5, 6, 7, 8].all fun k => chkB 11 [5] k) = true := by decide +kernel
theorem cb_11_5 : ([0, 1, 2, 3, 4, 5, 6, 7, 8].all fun k => chkB 11 [3, 2] k) = true := by decide +kernel
theorem cb_12_0 : ([0, 1, 2, 3, 4, 5, 6, 7, 8].all fun k => chkB 12 [3, 1] k) = true := by decide +kernel
theorem cb_12_1 : ([0, 1, 2, 3, 4, 5, 6, 7, 8].all fun k => chkB 12 [2, 2] k) = true := by decide +kernel
theorem cb_12_2 : ([0, 1, 2, 3, 4, 5, 6, 7, 8].all fun k => chkB 12 [4] k) = true := by decide +kernel
theorem cb_12_3 : ([0, 1, 2, 3, 4, 5, 6, 7, 8].all fun k => chkB 12 [2, 1, 1] k) = true := by decide +kernel
theorem cb_12_4 : ([0, 1, 2, 3, 4, 5, 6, 7, 8].all fun k => chkB 12 [5] k) = true := by decide +kernel
theorem cb_12_5 : ([0, 1, 2, 3, 4, 5, 6, 7, 8].all fun k => chkB 12 [3, 2] k) = true := by decide +kernel
theorem cs_7_4 : chkS 11 7 4 = true := by decide +kernel
theorem cs_7_5 : chkS 11 7 5 = true := by decide +kernel
theorem cs_8_4 : chkS 11 8 4 = true := by decide +kernel
theorem cs_8_5 : chkS 11 8 5 = true := by decide +kernel
theorem cs_9_4 : chkS 11 9 4 = true := by decide +kernel
theorem cs_9_5 : chkS 11 9 5 = true := by decide +kernel
theorem cs_10_4 : chkS 11 10 4 = true := by decide +kernel
theorem cs_10_5 : chkS 11 10 5 = true := by decide +kernel
theorem cs_11_4 : chkS 11 11 4 = true := by decide +kernel
theorem cs_11_5 : chkS 11 11 5 = true := by decide +kernel
theorem cs_12_4 : chkS 11 12 4 = true := by decide +kernel
theorem cs_12_5 : chkS 11 12 5 = true := by decide +kernel
theorem chkB_all : ∀ n, n ∈ [7, 8, 9, 10, 11, 12] → ∀ s ∈ smalls, ([0, 1, 2, 3, 4, 5, 6, 7, 8].all fun k => chkB n s k) = true := by
  intro n hn s hs
  simp only [List.mem_cons, List.not_mem_nil, or_false] at hn
  simp only [smalls, List.mem_cons, List.not_mem_nil, or_false] at hs
  rcases hn with rfl | rfl | rfl | rfl | rfl | rfl <;> rcases hs with rfl | rfl | rfl | rfl | rfl | rfl
  · exact cb_7_0
  · exact cb_7_1
  · exact cb_7_2
  · exact cb_7_3
  · exact cb_7_4
  · exact cb_7_5
  · exact cb_8_0
  · exact cb_8_1
  · exact cb_8_2
  · exact cb_8_3
  · exact cb_8_4
  · exact cb_8_5
  · exact cb_9_0
  · exact cb_9_1
  · exact cb_9_2
  · exact cb_9_3
  · exact cb_9_4
  · exact cb_9_5
  · exact cb_10_0
  · exact cb_10_1
  · exact cb_10_2
  · exact cb_10_3
  · exact cb_10_4
  · exact cb_10_5
  · exact cb_11_0
  · exact cb_11_1
  · exact cb_11_2
  · exact cb_11_3
  · exact cb_11_4
  · exact cb_11_5
  · exact cb_12_0
  · exact cb_12_1
  · exact cb_12_2
  · exact cb_12_3
  · exact cb_12_4
  · exact cb_12_5
theorem chkS_all : ∀ n, n ∈ [7, 8, 9, 10, 11, 12] → ∀ s ∈ smalls, chkS 11 n s.sum = true := by
  intro n hn s hs
  simp only [List.mem_cons, List.not_mem_nil, or_false] at hn
  simp only [smalls, List.mem_cons, List.not_mem_nil, or_false] at hs
  rcases hn with rfl | rfl | rfl | rfl | rfl | rfl <;> rcases hs with rfl | rfl | rfl | rfl | rfl | rfl
  · rw [show ([3, 1] : List Int).sum = 4 from by decide]; exact cs_7_4
  · rw [show ([2, 2] : List Int).sum = 4 from by decide]; exact cs_7_4
  · rw [show ([4] : List Int).sum = 4 from by decide]; exact cs_7_4
  · rw [show ([2, 1, 1] : List Int).sum = 4 from by decide]; exact cs_7_4
  · rw [show ([5] : List Int).sum = 5 from by decide]; exact cs_7_5
  · rw [show ([3, 2] : List Int).sum = 5 from by decide]; exact cs_7_5
  · rw [show ([3, 1] : List Int).sum = 4 from by decide]; exact cs_8_4
  · rw [show ([2, 2] : List Int).sum = 4 from by decide]; exact cs_8_4
  · rw [show ([4] : List Int).sum = 4 from by decide]; exact cs_8_4
  · rw [show ([2, 1, 1] : List Int).sum = 4 from by decide]; exact cs_8_4
  · rw [show ([5] : List Int).sum = 5 from by decide]; exact cs_8_5
  · rw [show ([3, 2] : List Int).sum = 5 from by decide]; exact cs_8_5
  · rw [show ([3, 1] : List Int).sum = 4 from by decide]; exact cs_9_4
  · rw [show ([2, 2] : List Int).sum = 4 from by decide]; exact cs_9_4
  · rw [show ([4] : List Int).sum = 4 from by decide]; exact cs_9_4
  · rw [show ([2, 1, 1] : List Int).sum = 4 from by decide]; exact cs_9_4
  · rw [show ([5] : List Int).sum = 5 from by decide]; exact cs_9_5
  · rw [show ([3, 2] : List Int).sum = 5 from by decide]; exact cs_9_5
  · rw [show ([3, 1] : List Int).sum = 4 from by decide]; exact cs_10_4
  · rw [show ([2, 2] : List Int).sum = 4 from by decide]; exact cs_10_4
  · rw [show ([4] : List Int).sum = 4 from by decide]; exact cs_10_4
  · rw [show ([2, 1, 1] : List Int).sum = 4 from by decide]; exact cs_10_4
  · rw [show ([5] : List Int).sum = 5 from by decide]; exact cs_10_5
  · rw [show ([3, 2] : List Int).sum = 5 from by decide]; exact cs_10_5
  · rw [show ([3, 1] : List Int).sum = 4 from by decide]; exact cs_11_4
  · rw [show ([2, 2] : List Int).sum = 4 from by decide]; exact cs_11_4
  · rw [show ([4] : List Int).sum = 4 from by decide]; exact cs_11_4
  · rw [show ([2, 1, 1] : List Int).sum = 4 from by decide]; exact cs_11_4
  · rw [show ([5] : List Int).sum = 5 from by decide]; exact cs_11_5
  · rw [show ([3, 2] : List Int).sum = 5 from by decide]; exact cs_11_5
  · rw [show ([3, 1] : List Int).sum = 4 from by decide]; exact cs_12_4
  · rw [show ([2, 2] : List Int).sum = 4 from by decide]; exact cs_12_4
  · rw [show ([4] : List Int).sum = 4 from by decide]; exact cs_12_4
  · rw [show ([2, 1, 1] : List Int).sum = 4 from by decide]; exact cs_12_4
  · rw [show ([5] : List Int).sum = 5 from by decide]; exact cs_12_5
  · rw [show ([3, 2] : List Int).sum = 5 from by decide]; exact cs_12_5
theorem smalls_ok : (smalls.all fun s => decide (s.length ≤ 7) && isFall (s ++ [0])) = true := by decide
theorem nrUs_all : ∀ us : List U, (∀ u ∈ us, nrU u = true) → nrUs us = true
  | [], _ => rfl
  | u :: us, h => by rw [nrUs, h u (by simp), nrUs_all us fun v hv => h v (by simp [hv])]; rfl
theorem nr_tZ (xs : List Int) : nrU (tZ xs) = true := by
  rw [nrU]
  exact nrUs_all _ fun u hu => by
    obtain ⟨x, _, rfl⟩ := List.mem_map.mp hu
    rfl
theorem nr_L (L : List (List Int)) : nrU (.lst (L.map tZ)) = true := by
  rw [nrU]
  exact nrUs_all _ fun u hu => by
    obtain ⟨x, _, rfl⟩ := List.mem_map.mp hu
    exact nr_tZ x
theorem ints_inv : ∀ (us : List U) (ns : List Int), intsOf us = some ns → us = ns.map U.int
  | [], ns, h => by cases h; rfl
  | .int i :: r, ns, h => by
    rw [intsOf] at h
    cases e : intsOf r with
    | none => rw [e] at h; cases h
    | some ms => rw [e] at h; cases h; rw [ints_inv r ms e]; rfl
  | .tup _ :: _, _, h => by simp [intsOf] at h
  | .bl _ :: _, _, h => by simp [intsOf] at h
  | .non :: _, _, h => by simp [intsOf] at h
  | .lst _ :: _, _, h => by simp [intsOf] at h
  | .ref _ :: _, _, h => by simp [intsOf] at h
theorem tups_of : ∀ (vs : List U) (ts : List (List Int)), tupsI vs = some ts → vs = ts.map tZ
  | [], ts, h => by cases h; rfl
  | .tup xs :: r, ts, h => by
    rw [tupsI] at h
    split at h
    · rename_i ns ts' h1 h2
      cases h
      rw [List.map_cons, ← tups_of r ts' h2]
      congr 1
      show U.tup xs = U.tup _
      rw [ints_inv _ _ h1]
    · cases h
  | .int _ :: _, _, h => by simp [tupsI] at h
  | .bl _ :: _, _, h => by simp [tupsI] at h
  | .non :: _, _, h => by simp [tupsI] at h
  | .lst _ :: _, _, h => by simp [tupsI] at h
  | .ref _ :: _, _, h => by simp [tupsI] at h
theorem mem_small {n : Nat} {small : List Int} {k : Int} (hn : 7 ≤ n) (hn2 : n ≤ 12) (hs : small ∈ smalls) (hk : 0 ≤ k) (hk2 : k ≤ 8) {d : Nat} (hd : d = 11) : chkB n small k = true ∧ chkS d n small.sum = true := by
  have h1 : n ∈ [7, 8, 9, 10, 11, 12] := by simp; omega
  have h2 : k ∈ [0, 1, 2, 3, 4, 5, 6, 7, 8] := by simp; omega
  have a := List.all_eq_true.mp (chkB_all n h1 small hs) k h2
  have b := chkS_all n h1 small hs
  subst hd
  exact ⟨a, b⟩
theorem sh_ok {n : Nat} {small : List Int} (hn : 7 ≤ n) (hn2 : n ≤ 12) (hs : small ∈ smalls) : (shL small.sum n).length ≤ 2000 ∧ ∀ its ∈ shL small.sum n, its.length = n := by
  have h := (mem_small (k := 0) hn hn2 hs (by decide) (by decide) rfl).1
  unfold chkB at h
  dsimp only at h
  rw [Bool.and_eq_true, Bool.and_eq_true, Bool.and_eq_true, Bool.and_eq_true, decide_eq_true_eq, decide_eq_true_eq, List.all_eq_true] at h
  exact ⟨h.1.2.2.1, fun its hi => of_decide_eq_true (h.1.2.2.2 its hi)⟩
theorem small_ok {n : Nat} {small : List Int} (hn : 7 ≤ n) (hs : small ∈ smalls) : small.length ≤ 7 ∧ (padL small n).length = n := by
  have : small.length ≤ 7 := by
    simp only [smalls, List.mem_cons, List.not_mem_nil, or_false] at hs
    rcases hs with rfl | rfl | rfl | rfl | rfl | rfl <;> decide
  refine ⟨this, ?_⟩
  unfold padL
  rw [List.length_append, List.length_replicate]
  omega
section
variable {d : Nat} {S : Sto} {Q : U → Sto → Prop} {E : Nat → Sto → Prop}
theorem w_shapes (hd : d = 11) {n : Nat} {small : List Int} (hn : 7 ≤ n) (hn2 : n ≤ 12) (hs : small ∈ smalls) (q : ∀ T, Q (.lst ((shL small.sum n).map tZ)) (S ++ T)) : W (run D 0 d 36 [.int small.sum, .int n] S) Q E := by
  have h := (mem_small (k := 0) hn hn2 hs (by decide) (by decide) hd).2
  unfold chkS at h
  split at h
  · rename_i vs T hr
    split at h
    · rename_i ts ht
      rw [tups_of vs ts ht, of_decide_eq_true h] at hr
      obtain ⟨T', e⟩ := run_at nrD (by simp [nrUs, nrU]) (nr_L _) hr S
      exact .eq e (q T')
    · cases h
  · cases h
theorem w_falls_below (hd : 6 ≤ d) {n : Nat} {small : List Int} {k : Int} (hn : 7 ≤ n) (hn2 : n ≤ 12) (hs : small ∈ smalls) (hk : 0 ≤ k) (hk2 : k ≤ 8) (q : ∀ T, Q (.lst ((srtT (partsL n small k)).map tZ)) (S ++ T)) :
    W (run D 0 d 23 [tZ (plusL (padL small n) (List.replicate n k))] S) Q E := by
  have h := (mem_small hn hn2 hs hk hk2 rfl).1
  unfold chkB at h
  generalize plusL (padL small n) (List.replicate n k) = xs at *
  dsimp only at h
  rw [Bool.and_eq_true, Bool.and_eq_true, decide_eq_true_eq] at h
  obtain ⟨⟨hl, hf⟩, h⟩ := h
  rw [Bool.and_eq_true] at hf
  have hf := hf.1
  have hf := (isFall_iff xs).mp hf
  split at h
  · rename_i L hg
    simp only [Bool.and_eq_true, decide_eq_true_eq] at h
    obtain ⟨h1, h2, h3⟩ := h
    have hne : xs ≠ [] := by intro z; rw [z] at hl; simp at hl; omega
    have w : W (run D 0 d 23 [tZ xs] []) (fun v _ => v = .lst ((srtT (partsL n small k)).map tZ)) noE := by
      obtain ⟨e, rfl⟩ := at1 (by omega : 1 ≤ d)
      refine w_run (fd := d_falls_below) rfl rfl ?_
      show WS (evSs _ _ [_] [some (tZ xs)] []) _
      walk_at "s"
      refine F41.one (by omega) xs (by omega) hne hf ?_
      walk_at "s"
      refine (w_below_in (by omega) xs L (by omega) (by rw [hl]; exact hg) h1 h2).post fun v T e => ?_
      rw [e, h3]
      rfl
    obtain ⟨v, T, e, rfl⟩ := w.is
    obtain ⟨T', e2⟩ := run_at nrD (by rw [nrUs, nrUs, nr_tZ]; rfl) (nr_L _) e S
    exact .eq e2 (q T')
  · cases h
end
end K41
set_option Elab.async false
set_option linter.all false
set_option maxRecDepth 1000000
set_option maxHeartbeats 2000000
/-! K41e: plain. -/
namespace K41
open Ev
/-! conj of conj -/
theorem conj_len (xs : List Int) (m : Nat) : (conj xs m).length = m := by simp [conj]
theorem filt_mono {xs : List Int} {a b : Int} (h : a ≤ b) : (xs.filter fun x => decide (b < x)).length ≤ (xs.filter fun x => decide (a < x)).length := by
  induction xs with
  | nil => simp
  | cons x xs ih =>
    rw [List.filter_cons, List.filter_cons]
    by_cases h1 : b < x
    · rw [if_pos (decide_eq_true h1), if_pos (decide_eq_true (by omega : a < x))]
      simp only [List.length_cons]; omega
    · rw [if_neg (by simpa using h1)]
      split
      · simp only [List.length_cons]; omega
      · exact ih
theorem conj_fall (xs : List Int) (m : Nat) : Fall (conj xs m) := by
  unfold conj Fall
  rw [List.pairwise_map]
  refine List.pairwise_lt_range.imp fun {a b} h => ?_
  have := filt_mono (xs := xs) (a := (a : Int)) (b := (b : Int)) (by omega)
  omega
theorem conj_mem {xs : List Int} {m : Nat} {y : Int} (h : y ∈ conj xs m) : 0 ≤ y ∧ y ≤ xs.length := by
  unfold conj at h
  obtain ⟨j, _, rfl⟩ := List.mem_map.mp h
  have := List.length_filter_le (fun x => decide ((j : Int) < x)) xs
  omega
/-- how many are above j, in a fall -/
theorem fall_cnt : ∀ (xs : List Int) (j : Int) (i : Nat) (h : i < xs.length), Fall xs → (i < (xs.filter fun x => decide (j < x)).length ↔ j < xs[i])
  | x :: xs, j, i, h, hf => by
    have hp := List.pairwise_cons.mp hf
    rw [List.filter_cons]
    by_cases h1 : j < x
    · rw [if_pos (decide_eq_true h1)]
      cases i with
      | zero => simp [h1]
      | succ i =>
        have := fall_cnt xs j i (by simpa using h) hp.2
        simp only [List.length_cons, List.getElem_cons_succ]
        omega
    · rw [if_neg (by simpa using h1)]
      have e : xs.filter (fun x => decide (j < x)) = [] := by
        rw [List.filter_eq_nil_iff]
        intro z hz
        have := hp.1 z hz
        simp; omega
      rw [e]
      cases i with
      | zero => simp; omega
      | succ i =>
        have := hp.1 (xs[i]'(by simpa using h)) (List.getElem_mem _)
        simp only [List.length_nil, List.getElem_cons_succ]
        omega
theorem cnt_lt (m : Nat) (x : Int) (h0 : 0 ≤ x) (h1 : x ≤ m) : (((List.range m).filter fun (j : Nat) => decide ((j : Int) < x)).length : Int) = x := by
  induction m generalizing x with
  | zero => simp; omega
  | succ m ih =>
    rw [List.range_succ, List.filter_append, List.length_append]
    by_cases h2 : x ≤ m
    · have := ih x h0 h2
      rw [List.filter_cons, if_neg (by simp; omega)]
      simp
      omega
    · have : x = m + 1 := by omega
      subst this
      have e : (List.range m).filter (fun (j : Nat) => decide ((j : Int) < (m : Int) + 1)) = List.range m := by
        rw [List.filter_eq_self]
        intro j hj
        have := List.mem_range.mp hj
        simp; omega
      rw [e, List.filter_cons, if_pos (by simp; omega)]
      simp
theorem conj_conj {xs : List Int} {m : Nat} (hf : Fall xs) (h0 : ∀ x ∈ xs, 0 ≤ x) (h1 : ∀ x ∈ xs, x ≤ m) : conj (conj xs m) xs.length = xs := by
  apply List.ext_getElem
  · rw [conj_len]
  · intro i hi hi2
    have e : ((conj (conj xs m) xs.length)[i]) = ((((conj xs m).filter fun y => decide ((i : Int) < y)).length : Nat) : Int) := by simp [conj]
    rw [e]
    have hx := List.getElem_mem hi2
    rw [← cnt_lt m xs[i] (h0 _ hx) (h1 _ hx)]
    congr 1
    unfold conj
    rw [List.filter_map, List.length_map]
    congr 1
    apply List.filter_congr
    intro j _
    have := fall_cnt xs j i hi2 hf
    simp only [Function.comp_def]
    rw [decide_eq_decide]
    omega
theorem lab_iff {xs ys : List Int} (h : ys.length = xs.length) : lawAb xs ys = true ↔ Dom xs ys := by
  unfold lawAb Dom
  rw [Bool.and_eq_true, decide_eq_true_eq, decide_eq_true_eq, List.map_eq_nil_iff, List.filter_eq_nil_iff]
  constructor
  · rintro ⟨h1, h2⟩
    refine ⟨h1, fun k => ?_⟩
    by_cases hk : k < xs.length
    · have := h2 k (List.mem_range.mpr hk)
      simpa using this
    · rw [List.take_of_length_le (by omega), List.take_of_length_le (by omega), h1]
      exact Int.le_refl _
  · rintro ⟨h1, h2⟩
    refine ⟨h1, fun k _ => ?_⟩
    have := h2 k
    simpa using this
theorem abv_lab {xs ys : List Int} (h : ys.length = xs.length) : abvB xs ys = lawAb xs ys := by
  have a := abv_iff h
  have b := lab_iff h
  cases h1 : abvB xs ys <;> cases h2 : lawAb xs ys <;> simp_all
theorem abv_back {xs ys : List Int} (h : ys.length = xs.length) (hd : Dom xs ys) : abvB ys xs = decide (ys = xs) := by
  by_cases e : ys = xs
  · subst e
    rw [decide_eq_true rfl]
    exact (abv_iff rfl).mpr (Dom.refl _)
  · rw [decide_eq_false e]
    cases h1 : abvB ys xs with
    | false => rfl
    | true => exact absurd (((abv_iff h.symm).mp h1).anti h.symm hd) e
/-! so many of so many -/
def upF (b : Int) : Nat → Int
  | 0 => 1
  | j + 1 => upF b j * (b + j + 1)
def facF : Nat → Int
  | 0 => 1
  | j + 1 => facF j * (j + 1)
theorem ch_all : ((List.range 21).all fun a => (List.range 30).all fun b => decide (chF ((a : Int) + b) a = upF b a / facF a)) = true := by decide +kernel
theorem fac_ok : ((List.range 21).all fun a => decide (0 < facF a ∧ facF a < 2 ^ 63)) = true := by decide +kernel
theorem ch_1001 : chF 1001 1000 = 1001 := by decide +kernel
theorem ch_one : chF 1000000001 1 = 1000000001 := by decide +kernel
theorem ch_ok {a b : Nat} (ha : a ≤ 20) (hb : b < 30) : chF ((a : Int) + b) a = upF b a / facF a :=
  of_decide_eq_true (List.all_eq_true.mp (List.all_eq_true.mp ch_all a (List.mem_range.mpr (by omega))) b (List.mem_range.mpr hb))
theorem fac_b {a : Nat} (ha : a ≤ 20) : 0 < facF a ∧ facF a < 2 ^ 63 := of_decide_eq_true (List.all_eq_true.mp fac_ok a (List.mem_range.mpr (by omega)))
end K41
set_option Elab.async false
set_option linter.all false
set_option maxRecDepth 1000000
set_option maxHeartbeats 2000000
/-! K41f: the law. -/
namespace K41
open Ev
local macro_rules | `(tactic| walk_at "w") => `(tactic| (first
  | (with_reducible refine ws_cons ?_) | (with_reducible refine ws_nil ?_) | (with_reducible refine ws_nm ?_ rfl) | (with_reducible refine ws_set ?_) | (with_reducible refine ws_par ?_) | (with_reducible refine ws_if ?_) | (with_reducible refine ws_ret ?_) | (with_reducible refine ws_retN ?_) | (with_reducible refine ws_brk ?_) | (with_reducible refine ws_cnt ?_) | (with_reducible refine ws_pass ?_) | (with_reducible refine ws_rai ?_) | (with_reducible refine ws_ex ?_) | (with_reducible refine ws_fo ?_) | (with_reducible refine ws_wh ?_)
  | (with_reducible refine w_varE ?_; refine ⟨_, rfl, ?_⟩) | (with_reducible refine w_cst ?_) | (with_reducible refine w_tup ?_) | (with_reducible refine w_bin ?_) | (with_reducible refine w_cmp ?_) | (with_reducible refine w_ch2 ?_) | (with_reducible refine w_and ?_) | (with_reducible refine w_or ?_) | (with_reducible refine w_not ?_) | (with_reducible refine w_ite ?_) | (with_reducible refine w_ix ?_) | (with_reducible refine w_sl ?_) | (with_reducible refine w_oNone ?_) | (with_reducible refine w_oSome ?_) | (with_reducible refine w_rev ?_) | (with_reducible refine w_call ?_) | (with_reducible refine w_bi ?_) | (with_reducible refine w_ist ?_) | (with_reducible refine w_mth ?_) | (with_reducible refine w_qv ?_) | (with_reducible refine w_qn ?_) | (with_reducible refine w_frz ?_) | (with_reducible refine w_dnew ?_) | (with_reducible refine w_dget ?_) | (with_reducible refine w_nil ?_) | (with_reducible refine w_cons ?_)
  | (with_reducible refine w_disp ?_) | (with_reducible refine w_lof ?_) | (with_reducible refine w_srt ?_) | (with_reducible refine w_rep ?_) | (with_reducible refine w_comp ?_) | (with_reducible refine w_val ?_) | (with_reducible refine w_rng1 ?_) | (with_reducible refine w_rng2 ?_) | (with_reducible refine w_rng3 ?_) | (with_reducible refine w_enum ?_) | (with_reducible refine w_zip2 ?_)
  | (with_reducible refine wt_nm rfl ?_) | (with_reducible refine wt_two rfl rfl ?_) | (with_reducible refine wc_nm rfl ?_) | (with_reducible refine wc_nmI rfl ?_) | (with_reducible refine wc_two rfl rfl ?_) | (with_reducible refine wc_twoI rfl rfl ?_)))
local macro_rules | `(tactic| walk_at "b") => `(tactic| (first
  | (with_reducible refine br_bl ?_) | (with_reducible refine br_blO ?_) | (with_reducible refine br_tr ?_) | (with_reducible refine br_trN ?_) | (with_reducible refine br_blN ?_) | (with_reducible refine br_and ?_)
  | (with_reducible refine ⟨_, cmp_eqI, ?_⟩) | (with_reducible refine ⟨_, bin_addI, ?_⟩) | (with_reducible refine ⟨_, bin_subI, ?_⟩) | (with_reducible refine ⟨_, cmp_neI, ?_⟩) | (with_reducible refine ⟨_, cmp_ltI, ?_⟩) | (with_reducible refine ⟨_, cmp_leI, ?_⟩) | (with_reducible refine ⟨_, cmp_gtI, ?_⟩) | (with_reducible refine ⟨_, cmp_geI, ?_⟩) | (with_reducible refine ⟨_, cmp_eqB, ?_⟩) | (with_reducible refine ⟨_, cmp_neB, ?_⟩) | (with_reducible refine ⟨_, cmp_eqT0, ?_⟩) | (with_reducible refine ⟨_, cmp_neT0, ?_⟩) | (with_reducible refine ⟨_, cmp_eqT, ?_⟩) | (with_reducible refine ⟨_, cmp_neT, ?_⟩) | (with_reducible refine ⟨_, cmp_eqL0, ?_⟩) | (with_reducible refine ⟨_, cmp_neL0, ?_⟩) | (with_reducible refine ⟨_, cmp_eqL, ?_⟩) | (with_reducible refine ⟨_, cmp_neL, ?_⟩)
  | (with_reducible refine ⟨_, sum_tZ, ?_⟩) | (with_reducible refine ⟨_, sum_lZ, ?_⟩) | (with_reducible refine ⟨_, min2_eq, ?_⟩) | (with_reducible refine ⟨_, max2_eq, ?_⟩) | (with_reducible refine ⟨_, zip_tZ, ?_⟩) | (with_reducible refine ⟨_, len_tZ, ?_⟩) | (with_reducible refine ⟨_, len_lZ, ?_⟩) | (with_reducible refine ⟨_, rev_tZ, ?_⟩) | (with_reducible refine ⟨_, rev_lZ, ?_⟩)))
local macro_rules | `(tactic| walk_at "a") => `(tactic| (first
  | walk_at "b"
  | (refine ⟨_, rfl, fun _ => ?_, fun hh => Bool.noConfusion (show true = false from hh)⟩)
  | (refine ⟨_, rfl, fun hh => Bool.noConfusion (show false = true from hh), fun _ => ?_⟩)
  | (refine ⟨_, rfl, fun _ => ?_, fun hh => Bool.noConfusion (show false = true from hh)⟩)
  | (refine ⟨_, rfl, fun hh => Bool.noConfusion (show true = false from hh), fun _ => ?_⟩)
  | (refine ⟨_, rfl, ?_⟩) | (refine ⟨_, _, rfl, ?_⟩) | (exact ⟨rfl, rfl⟩) | (refine ⟨rfl, rfl, ?_⟩) | (refine ⟨rfl, ?_⟩)))
local macro_rules | `(tactic| walk_at "s") => `(tactic| repeat (first | walk_at "w" | walk_at "b" | (with_reducible refine ⟨_, (rfl : U.int _ = U.int _), ?_⟩)))
local macro_rules | `(tactic| walk_at "g") => `(tactic| repeat (first | walk_at "w" | walk_at "a"))
local macro_rules | `(tactic| walk_at "n") => `(tactic| (refine ⟨_, rfl, _, rfl, fun hh => Bool.noConfusion (show false = true from hh), fun _ => ?_⟩; refine ws_nil ?_))
section
variable {d : Nat} {S : Sto} {Q : U → Sto → Prop} {E : Nat → Sto → Prop}
theorem w_howE (hd : 3 ≤ d) (a b : Nat) (A B v : Int) (hA : (a : Int) = A) (hB : (b : Int) = B) (ha : 1 ≤ a) (ha2 : a ≤ 1000) (hb : b < 2 ^ 59) (hv : chF ((a : Int) + b) a = v) (q : Q (.int v) S) : W (run D 0 d 25 [.int A, .int B] S) Q E := by
  subst hA hB
  refine w_how_many hd a b ha ha2 hb ?_
  rw [hv]
  exact q
abbrev S41 : D[31]? = some (d_same 31) := rfl
abbrev T41 : D[27]? = some d_take := rfl
abbrev O41 : D[29]? = some (d_of 27) := rfl
theorem wf_ints {xs : List Int} (h : xs.length ≤ 1000) : wf 1 (.lst (xs.map U.int)) := wf_lst (lim_of (by simp; omega)) fun x hx => by
  obtain ⟨y, _, rfl⟩ := List.mem_map.mp hx
  exact wf_int 0 y
theorem pow9 : binU S .pow (.int 10) (.int 9) = some (.int 1000000000) := rfl
theorem pow8 : binU S .pow (.int 10) (.int 8) = some (.int 100000000) := rfl
theorem z5 {r k : Nat} {y0 y2 y3 y4 y5 y6 y7 y8 y9 y10 y11 y12 y13 y14 y15 y16 y17 y18 y19 y20 y21 y22 y23 y24 y25 y26 y27 : Option U} (hd : d = 11) (t : Tin S r k) (hk : k < 2 ^ 50) :
    WS (evSs (run D 0 d) 0 (d_law.body.drop 29) [y0, some (.ref r), y2, y3, y4, y5, y6, y7, y8, y9, y10, y11, y12, y13, y14, y15, y16, y17, y18, y19, y20, y21, y22, y23, y24, y25, y26, y27] S) (endP (fun v _ => v = .bl true) noE) := by
  show WS (evSs _ _ [_, _, _] [y0, some (.ref r), y2, y3, y4, y5, y6, y7, y8, y9, y10, y11, y12, y13, y14, y15, y16, y17, y18, y19, y20, y21, y22, y23, y24, y25, y26, y27] S) _
  walk_at "s"
  refine w_takeN T41 (by omega) t (by omega) 20 (by decide) (by decide) fun v S1 v0 v1 t1 p1 => ?_
  walk_at "s"
  refine w_takeN T41 (by omega) t1 (by omega) 30 (by decide) (by decide) fun w S2 w0 w1 t2 p2 => ?_
  walk_at "s"
  refine ⟨_, _, rfl, ?_⟩
  obtain ⟨a, ha⟩ := Int.eq_ofNat_of_zero_le (show (0 : Int) ≤ 1 + v by omega)
  obtain ⟨b, rfl⟩ := Int.eq_ofNat_of_zero_le w0
  generalize hB : (b : Int) = B at *
  generalize hA : (1 + v) = A at *
  walk_at "s"
  refine ⟨small_i (by omega) (by omega), rfl, wl_inv (fun j ρ S' => ∃ y, ρ = [y0, some (.ref r), y2, y3, y4, y5, y6, y7, y8, y9, y10, y11, y12, y13, y14, y15, y16, y17, y18, y, y20, y21, y22, y23, some (.int (upF b j)), some (.int (facF j)), some (.int A), some (.int B)]) _ 0 _ _ ⟨y19, rfl⟩ ?_ ?_⟩
  · rintro j x ρ S' hx ⟨y, rfl⟩
    obtain ⟨hj, rfl⟩ := iota_at hx
    rw [Int.zero_add]
    rw [Nat.zero_add]
    refine wt_nm rfl ?_
    walk_at "s"
    refine ⟨_, bin_mul (.inr ⟨by omega, by omega⟩), ?_⟩
    walk_at "s"
    refine ⟨_, bin_mul (.inr ⟨by omega, by omega⟩), ?_⟩
    walk_at "s"
    refine ⟨rfl, rfl, ?_⟩
    walk_at "s"
    refine ⟨some (.int j), ?_⟩
    rw [upF, facF, hB]
    rfl
  · rintro ρ S' ⟨y, rfl⟩
    rw [iota_len, Nat.zero_add, show A.toNat = a by omega]
    have hf := fac_b (a := a) (by omega)
    walk_at "s"
    refine w_howE (by omega) a b A B _ (by omega) hB (by omega) (by omega) (by omega) (ch_ok (by omega) (by omega)) ?_
    walk_at "s"
    refine w_howE (by omega) 1000 1 1000 1 1001 rfl rfl (by decide) (by decide) (by decide) ch_1001 ?_
    walk_at "s"
    refine ⟨_, pow9, ?_⟩
    walk_at "s"
    refine w_howE (by omega) 1 1000000000 1 1000000000 1000000001 rfl rfl (by decide) (by decide) (by decide) ch_one ?_
    walk_at "s"
    refine ⟨_, bin_div' hf.1 (by omega), ?_⟩
    walk_at "s"
    refine ⟨_, pow9, ?_⟩
    walk_at "s"
    refine w_same S41 1 d (.lst ([upF b a / facF a, 1001, 1000000001].map U.int)) (wf_ints (by simp)) (by omega) ?_
    rfl
theorem sum_pad {small : List Int} {n : Nat} : (padL small n).sum = small.sum := by
  unfold padL
  rw [List.sum_append]
  have : ∀ m, (List.replicate m (0 : Int)).sum = 0 := fun m => by induction m with
    | zero => rfl
    | succ m ih => rw [List.replicate_succ, List.sum_cons, ih]; rfl
  rw [this]; omega
theorem parts_tk {n : Nat} {small : List Int} {k : Int} {sh : List (List Int)} {j : Nat} {its : List Int} (h : sh[j]? = some its) :
    ((sh.take (j + 1)).filter (lawAb (padL small n))).map (fun its => plusL its (List.replicate n k)) = ((sh.take j).filter (lawAb (padL small n))).map (fun its => plusL its (List.replicate n k)) ++ (if lawAb (padL small n) its = true then [plusL its (List.replicate n k)] else []) := by
  rw [List.take_add_one, h, List.filter_append, List.map_append]
  congr 1
  simp only [Option.toList]
  rw [List.filter_cons]
  split <;> rfl
def bdP : List SX := [.ife (.call 35 [(.var 15), (.var 18)]) [.ex (.mth .append (.var 17) [(.call 33 [(.var 18), (.bin .mul (.tup [(.var 4)]) (.var 2))])])] []]
theorem parts_loop {r c p n : Nat} {K : Int} {small : List Int} {y0 y3 y5 y6 y7 y8 y9 y10 y11 y12 y13 y14 y16 y18 y19 y20 y21 y22 y23 y24 y25 y26 y27 : Option U} {P : Out → Sto → Prop} (hd : d = 11) (t : Tin S r c) (hrp : r < p) (hp : S[p]? = some (.liv (.lst [])))
    (hn : 7 ≤ n) (hn2 : n ≤ 12) (hs : small ∈ smalls) (hk : 0 ≤ K) (hk2 : K ≤ 8)
    (q : ∀ y S', Tin S' r c → S'[p]? = some (.liv (.lst ((partsL n small K).map tZ))) → P (.nx [y0, some (.ref r), some (.int n), y3, some (.int K), y5, y6, y7, y8, y9, y10, y11, y12, y13, y14, some (tZ (padL small n)), y16, some (.ref p), y, y19, y20, y21, y22, y23, y24, y25, y26, y27]) S') :
    WS (forL (stepF (evT (run D 0 d) (.nm 18)) (evSs (run D 0 d) 0 bdP)) ((shL small.sum n).map tZ) [y0, some (.ref r), some (.int n), y3, some (.int K), y5, y6, y7, y8, y9, y10, y11, y12, y13, y14, some (tZ (padL small n)), y16, some (.ref p), y18, y19, y20, y21, y22, y23, y24, y25, y26, y27] S) P := by
  obtain ⟨hs1, hs2⟩ := sh_ok hn hn2 hs
  obtain ⟨hp1, hp2⟩ := small_ok (n := n) hn hs
  have hpar : partsL n small K = ((shL small.sum n).filter (lawAb (padL small n))).map fun its => plusL its (List.replicate n K) := rfl
  generalize shL small.sum n = sh at *
  generalize hN : (n : Int) = N at *
  refine wl_inv (fun j ρ S' => ∃ y, ρ = [y0, some (.ref r), some (.int N), y3, some (.int K), y5, y6, y7, y8, y9, y10, y11, y12, y13, y14, some (tZ (padL small n)), y16, some (.ref p), y, y19, y20, y21, y22, y23, y24, y25, y26, y27] ∧ Tin S' r c ∧ S'[p]? = some (.liv (.lst ((((sh.take j).filter (lawAb (padL small n))).map (fun its => plusL its (List.replicate n K))).map tZ)))) _ 0 _ _ ⟨y18, rfl, t, hp⟩ ?_ ?_
  · rintro j x ρ S' hx ⟨y, rfl, t1, h1⟩
    rw [List.getElem?_map] at hx
    cases hr : sh[j]? with
    | none => rw [hr] at hx; cases hx
    | some its =>
      rw [hr] at hx
      cases hx
      rw [Nat.zero_add] at h1 ⊢
      have hit := hs2 its (List.mem_of_getElem? hr)
      have hlt : p < S'.length := (List.getElem?_eq_some_iff.mp h1).1
      have hcnt : (((sh.take j).filter (lawAb (padL small n))).map (fun its => plusL its (List.replicate n K))).length ≤ 2000 := by
        rw [List.length_map]
        have := List.length_filter_le (lawAb (padL small n)) (sh.take j)
        rw [List.length_take] at this
        omega
      rw [parts_tk hr]
      generalize ((sh.take j).filter (lawAb (padL small n))).map (fun its => plusL its (List.replicate n K)) = acc at *
      refine wt_nm rfl ?_
      unfold bdP
      walk_at "s"
      refine w_lab (by omega) (padL small n) its (by omega) ?_
      refine ⟨_, rfl, fun hh => ?_, fun hh => ?_⟩
      · rw [if_pos hh]
        walk_at "s"
        refine ⟨by simp [mtOk, rd, h1], ?_⟩
        walk_at "s"
        refine ⟨_, bin_rep1 (by omega) (by omega), ?_⟩
        walk_at "s"
        refine w_added (i := 33) rfl (by omega) its (List.replicate N.toNat K) (by omega) ?_
        walk_at "s"
        rw [show N.toNat = n by omega]
        refine ⟨.non, S'.set p (.liv (.lst ((acc ++ [plusL its (List.replicate n K)]).map tZ))), ?_, ?_⟩
        · simp only [mthU, h1]
          rw [if_pos (Nat.lt_of_le_of_lt (by rw [List.length_map]; exact hcnt) (by decide)), List.map_append]
          rfl
        walk_at "s"
        refine ⟨_, rfl, ?_, List.getElem?_set_self hlt⟩
        obtain ⟨a, b, c', u1, u2, u3⟩ := t1
        exact ⟨a, b, c', by rw [List.getElem?_set_ne (by omega)]; exact u1, u2, u3⟩
      · rw [if_neg (by rw [hh]; decide)]
        walk_at "s"
        rw [List.append_nil]
        exact ⟨_, rfl, t1, h1⟩
  · rintro ρ S' ⟨y, rfl, t1, h1⟩
    rw [Nat.zero_add, List.length_map, List.take_length] at h1
    exact q y S' t1 (by rw [hpar]; exact h1)
theorem parts_ok {n : Nat} {small : List Int} {k : Int} (hn : 7 ≤ n) (hn2 : n ≤ 12) (hs : small ∈ smalls) : (partsL n small k).length ≤ 2000 ∧ ∀ x ∈ partsL n small k, x.length = n := by
  obtain ⟨hs1, hs2⟩ := sh_ok hn hn2 hs
  unfold partsL
  refine ⟨by rw [List.length_map]; exact Nat.le_trans (List.length_filter_le _ _) hs1, fun x hx => ?_⟩
  obtain ⟨its, hi, rfl⟩ := List.mem_map.mp hx
  rw [plusL_len (by rw [List.length_replicate, hs2 _ (List.mem_filter.mp hi).1]), hs2 _ (List.mem_filter.mp hi).1]
theorem insT_perm (x : List Int) : ∀ L, (insT x L).Perm (x :: L)
  | [] => .refl _
  | y :: L => by
    rw [insT]
    split
    · exact (List.Perm.cons _ (insT_perm x L)).trans (List.Perm.swap _ _ _)
    · exact .refl _
theorem srtT_perm : ∀ L, (srtT L).Perm L
  | [] => .refl _
  | x :: L => (insT_perm x _).trans ((srtT_perm L).cons _)
theorem wf_L {L : List (List Int)} (h : L.length ≤ 2000) (h2 : ∀ x ∈ L, x.length ≤ 1000) : wf 2 (.lst (L.map tZ)) := wf_lst (lim_of (by simp; omega)) fun x hx => by
  obtain ⟨y, hy, rfl⟩ := List.mem_map.mp hx
  exact wf_tZ (lim_of (Nat.le_trans (h2 y hy) (by decide))) 0
theorem seq_liv {S : Sto} {p : Nat} {xs : List U} (h : S[p]? = some (.liv (.lst xs))) : seqOf S (.ref p) = some xs := by simp [seqOf, rd, h]
theorem z4 {r c n : Nat} {K : Int} {y0 y3 y5 y6 y7 y8 y9 y10 y11 y12 y13 y14 y15 y16 y17 y18 y19 y20 y21 y22 y23 y24 y25 y26 y27 : Option U} (hd : d = 11) (t : Tin S r c) (hc : c < 2 ^ 49) (hn : 7 ≤ n) (hn2 : n ≤ 12) (hk : 0 ≤ K) (hk2 : K ≤ 8) :
    WS (evSs (run D 0 d) 0 (d_law.body.drop 23) [y0, some (.ref r), some (.int n), y3, some (.int K), y5, y6, y7, y8, y9, y10, y11, y12, y13, y14, y15, y16, y17, y18, y19, y20, y21, y22, y23, y24, y25, y26, y27] S) (endP (fun v _ => v = .bl true) noE) := by
  generalize hN : (n : Int) = N at *
  show WS (evSs _ _ (_ :: _ :: _ :: _ :: _ :: _ :: _) [y0, some (.ref r), some (.int N), y3, some (.int K), y5, y6, y7, y8, y9, y10, y11, y12, y13, y14, y15, y16, y17, y18, y19, y20, y21, y22, y23, y24, y25, y26, y27] S) _
  walk_at "s"
  refine w_ofN O41 T41 (by omega) t (by omega) (smalls.map tZ) (by decide) (by decide) fun v S1 hv t1 p1 => ?_
  obtain ⟨small, hs, rfl⟩ := List.mem_map.mp hv
  obtain ⟨hp1, hp2⟩ := small_ok (n := n) hn hs
  walk_at "s"
  refine ⟨_, bin_rep1 (by omega) (by omega), ?_⟩
  walk_at "s"
  refine ⟨_, bin_tZ (lim_of (by rw [List.length_replicate]; omega)), ?_⟩
  have e1 : small ++ List.replicate (N - (small.length : Int)).toNat 0 = padL small n := by
    unfold padL
    rw [show (N - (small.length : Int)).toNat = n - small.length by omega]
  rw [e1]
  walk_at "s"
  refine ⟨_, bin_rep1 (by omega) (by omega), ?_⟩
  rw [show N.toNat = n by omega]
  walk_at "s"
  refine w_added (i := 33) rfl (by omega) (padL small n) (List.replicate n K) (by omega) ?_
  walk_at "s"
  refine w_falls_below (by omega) hn hn2 hs hk hk2 fun T => ?_
  walk_at "s"
  subst hN
  rw [sum_pad]
  refine w_shapes hd hn hn2 hs fun T2 => ?_
  walk_at "s"
  refine ⟨_, rfl, rfl, ?_⟩
  refine parts_loop hd (((t1.app T).app _).app T2) (p := (S1 ++ T).length) (by have := t1.lt; simp; omega) (by rw [List.getElem?_append_left (by simp)]; exact last_at) hn hn2 hs hk hk2 fun y S' t2 hS => ?_
  obtain ⟨q1, q2⟩ := parts_ok (k := K) hn hn2 hs
  have q3 := srtT_perm (partsL n small K)
  walk_at "s"
  refine ⟨_, _, seq_liv hS, srt_tups _ ?_, ?_⟩
  · rw [List.all_eq_true]
    intro x hx
    have := q2 x hx
    cases x with
    | nil => simp at this; omega
    | cons _ _ => rfl
  walk_at "s"
  refine w_same S41 2 d _ (wf_L (by rw [q3.length_eq]; exact q1) fun x hx => by have := q2 x (q3.mem_iff.mp hx); omega) (by omega) ?_
  walk_at "n"
  exact z5 hd t2 (by omega)
theorem fall_le {xs : List Int} (hf : Fall xs) (h : 0 < xs.length) : ∀ x ∈ xs, x ≤ xs[0] := by
  cases xs with
  | nil => simp
  | cons a r =>
    intro x hx
    rcases List.mem_cons.mp hx with rfl | hx
    · exact Int.le_refl _
    · exact (List.pairwise_cons.mp hf).1 x hx
theorem sl_m1 {S : Sto} {xs : List Int} : slU S (tZ xs) none (some (-1)) = some (tZ xs.dropLast) := by
  simp only [slU, rd, cutU, sIx, List.drop_zero, Nat.sub_zero]
  rw [if_pos (by decide), List.length_map, List.dropLast_eq_take, ← List.map_take]
  congr 3
  rw [List.take_eq_take_iff]
  omega
theorem fall_drop {xs : List Int} (hf : Fall xs) (h : ∀ x ∈ xs, 0 ≤ x) : Fall (xs.dropLast ++ [-1]) := by
  refine List.pairwise_append.mpr ⟨hf.sublist (List.dropLast_sublist _), by simp, fun a ha b hb => ?_⟩
  have := h a ((List.dropLast_sublist _).subset ha)
  simp at hb
  omega
theorem z3a {r c n m : Nat} {K N M : Int} {fr : List Int} {y0 y3 y5 y6 y7 y8 y9 y13 y14 y15 y16 y17 y18 y19 y20 y21 y22 y23 y24 y25 y26 y27 : Option U} (hN : (n : Int) = N) (hM : (m : Int) = M) (hd : d = 11) (t : Tin S r c) (hc : c < 2 ^ 49) (hn : 7 ≤ n) (hn2 : n ≤ 12) (hk : 0 ≤ K) (hk2 : K ≤ 8)
    (hl : fr.length = n) (hf : Fall fr) (h0 : ∀ x ∈ fr, 0 ≤ x) (h1 : ∀ x ∈ fr, x ≤ m) (hm : 1 ≤ m) (hm2 : m ≤ 1000) :
    WS (evSs (run D 0 d) 0 (d_law.body.drop 17) [y0, some (.ref r), some (.int N), y3, some (.int K), y5, y6, y7, y8, y9, some (tZ fr), some (.int M), none, y13, y14, y15, y16, y17, y18, y19, y20, y21, y22, y23, y24, y25, y26, y27] S) (endP (fun v _ => v = .bl true) noE) := by
  have hne : fr ≠ [] := by intro z; rw [z] at hl; simp at hl; omega
  show WS (evSs _ _ (_ :: _ :: _ :: _ :: _ :: _ :: _) [y0, some (.ref r), some (.int N), y3, some (.int K), y5, y6, y7, y8, y9, some (tZ fr), some (.int M), none, y13, y14, y15, y16, y17, y18, y19, y20, y21, y22, y23, y24, y25, y26, y27] S) _
  walk_at "s"
  refine ⟨small_i (by omega) (by omega), by rw [iota_len]; exact lim_of (by omega), rfl, ?_⟩
  dsimp only
  rw [iota0, show M.toNat = m by omega]
  refine wq_map (g := fun j : Nat => .int (((fr.filter fun x => decide ((j : Int) < x)).length : Nat) : Int)) (fun j hj => ?_) ?_
  · walk_at "s"
    refine ⟨_, rfl, by rw [List.length_map]; exact lim_of (by omega), rfl, wq_filter (cc := fun x => decide ((j : Int) < x)) (g := U.int) (fun x hx => ?_) ?_⟩
    · walk_at "s"
      refine ⟨fun hh => ?_, fun hh => ?_⟩
      · walk_at "s"
        rw [if_pos (decide_eq_true hh)]
        exact ⟨rfl, rfl⟩
      · rw [if_neg (by simpa using hh)]
        exact ⟨rfl, rfl⟩
    · walk_at "g"
  have e1 : (List.range m).map (fun j : Nat => U.int (((fr.filter fun x => decide ((j : Int) < x)).length : Nat) : Int)) = (conj fr m).map U.int := by rw [conj, List.map_map]; rfl
  rw [e1]
  refine w_nil ?_
  refine ⟨tZ (conj fr m), rfl, ?_⟩
  walk_at "s"
  subst hM
  refine w_transposed (by omega) fr m (by omega) hm hm2 hne hf h0 h1 ?_
  walk_at "s"
  refine w_same S41 1 d (tZ (conj fr m)) (wf_tZ (lim_of (by rw [conj_len]; omega)) 0) (by omega) ?_
  walk_at "n"
  generalize hM : (m : Int) = M at *
  have z : WS (evSs (run D 0 d) 0 (d_law.body.drop 20) [y0, some (.ref r), some (.int N), y3, some (.int K), y5, y6, y7, y8, y9, some (tZ fr), some (.int M), some (tZ (conj fr m)), y13, y14, y15, y16, y17, y18, y19, y20, y21, y22, y23, y24, y25, y26, y27] S) (endP (fun v _ => v = .bl true) noE) := by
    show WS (evSs _ _ (_ :: _ :: _ :: _ :: _ :: _ :: _) [y0, some (.ref r), some (.int N), y3, some (.int K), y5, y6, y7, y8, y9, some (tZ fr), some (.int M), some (tZ (conj fr m)), y13, y14, y15, y16, y17, y18, y19, y20, y21, y22, y23, y24, y25, y26, y27] S) _
    walk_at "s"
    refine ws_try ?_
    walk_at "s"
    refine ⟨_, sl_m1, ?_⟩
    walk_at "s"
    refine ⟨_, bin_tZ (ys := [-1]) (lim_of (by simp; omega)), ?_⟩
    walk_at "s"
    refine w_transposed_no (by omega) (fr.dropLast ++ [-1]) 1000 (by simp; omega) (by decide) (by decide) (by simp) (fall_drop hf h0) (by simp) ?_
    refine .inl ⟨rfl, by simp, ?_⟩
    refine ws_cons ?_
    refine ws_nm ?_ rfl
    refine w_cst ?_
    refine ws_nil ?_
    refine ws_cons ?_
    refine ws_if ?_
    refine w_cmp ?_
    refine w_var rfl ?_
    refine w_cst ?_
    refine ⟨_, rfl, _, rfl, fun hh => Bool.noConfusion (show false = true from hh), fun _ => ?_⟩
    refine ws_nil ?_
    subst hN
    exact z4 hd t hc hn hn2 hk hk2
  walk_at "s"
  refine ⟨fun hh => ?_, fun hh => ?_⟩
  · walk_at "s"
    subst hN
    refine w_transposed (by omega) (conj fr m) n (by rw [conj_len]; omega) (by omega) (by omega) (by intro z; have := conj_len fr m; rw [z] at this; simp at this; omega) (conj_fall _ _) (fun x hx => (conj_mem hx).1) (fun x hx => by have := (conj_mem hx).2; omega) ?_
    rw [← hl, conj_conj hf h0 (fun x hx => by have := h1 x hx; omega)]
    walk_at "s"
    refine w_same S41 1 d (tZ fr) (wf_tZ (lim_of (by omega)) 0) (by omega) ?_
    walk_at "n"
    rw [hl]
    exact z
  · refine ⟨_, rfl, fun hh => Bool.noConfusion (show false = true from hh), fun _ => ?_⟩
    refine ws_nil ?_
    exact z
theorem z3 {r c n : Nat} {K N : Int} {y0 y3 y5 y6 y7 y8 y9 y10 y11 y13 y14 y15 y16 y17 y18 y19 y20 y21 y22 y23 y24 y25 y26 y27 : Option U} (hN : (n : Int) = N) (hd : d = 11) (t : Tin S r c) (hc : c < 2 ^ 48) (hn : 7 ≤ n) (hn2 : n ≤ 12) (hk : 0 ≤ K) (hk2 : K ≤ 8) :
    WS (evSs (run D 0 d) 0 (d_law.body.drop 15) [y0, some (.ref r), some (.int N), y3, some (.int K), y5, y6, y7, y8, y9, y10, y11, none, y13, y14, y15, y16, y17, y18, y19, y20, y21, y22, y23, y24, y25, y26, y27] S) (endP (fun v _ => v = .bl true) noE) := by
  show WS (evSs _ _ (_ :: _ :: _ :: _ :: _ :: _ :: _) [y0, some (.ref r), some (.int N), y3, some (.int K), y5, y6, y7, y8, y9, y10, y11, none, y13, y14, y15, y16, y17, y18, y19, y20, y21, y22, y23, y24, y25, y26, y27] S) _
  walk_at "s"
  refine ⟨small_i (by omega) (by omega), by rw [iota_len]; exact lim_of (by omega), rfl, ?_⟩
  refine wq_draw (N := n) (fun j S' => Tin S' r (c + 2 * j)) (fun u => ∃ i : Int, u = .int i ∧ (0 ≤ i ∧ i < 40)) _ 0 _ (by rw [iota_len]; omega) t (fun x _ j S' hj t' => ?_) fun ys S' ly gy t' => ?_
  · walk_at "s"
    refine w_ofN O41 T41 (by omega) t' (by omega) [.int 3, .int 40] (by decide) (by decide) fun v S1 hv t1 p1 => ?_
    obtain ⟨m, rfl, m0, m1⟩ : ∃ m : Int, v = .int m ∧ 0 < m ∧ m ≤ 40 := by
      simp only [List.mem_cons, List.not_mem_nil, or_false] at hv
      rcases hv with rfl | rfl
      · exact ⟨_, rfl, by decide, by decide⟩
      · exact ⟨_, rfl, by decide, by decide⟩
    walk_at "s"
    refine w_takeN T41 (by omega) t1 (by omega) m m0 (by omega) fun v S2 v0 v1 t2 p2 => ?_
    exact ⟨_, rfl, ⟨v, rfl, v0, by omega⟩, t2.mono (by omega)⟩
  rw [iota_len, show N.toNat = n by omega] at t' ly
  obtain ⟨ds, rfl, gd⟩ := ints_of_mem ys gy
  rw [List.length_map] at ly
  have hfr : (fallI ds).length = n := by rw [fallI_len, ly]
  have hff := fallI_fall ds
  have hfm : ∀ x ∈ fallI ds, 0 ≤ x ∧ x < 40 := fun x hx => gd x ((fallI_perm ds).mem_iff.mp hx)
  walk_at "s"
  refine w_fall (i := 32) rfl (by omega) ds rfl ?_
  obtain ⟨fr, hfd⟩ : ∃ fr, (srtI ds).reverse = fr := ⟨_, rfl⟩
  rw [show fallI ds = fr from hfd] at *
  rw [hfd]
  have h0 : 0 < fr.length := by omega
  have hmax := fall_le hff h0
  have hx0 := hfm _ (List.getElem_mem h0)
  walk_at "s"
  refine ⟨_, ix_tZ (i := 0) h0, ?_⟩
  walk_at "s"
  refine w_ofN O41 T41 (by omega) t' (by omega) [.int (max 1 fr[0]), .int 40, .int 1000] (by simp) (by simp) fun v S1 hv t1 p1 => ?_
  obtain ⟨M, rfl, m0, m1, m2⟩ : ∃ M : Int, v = .int M ∧ 1 ≤ M ∧ M ≤ 1000 ∧ fr[0] ≤ M := by
    simp only [List.mem_cons, List.not_mem_nil, or_false] at hv
    rcases hv with hv | hv | hv
    · exact ⟨_, hv, by omega, by omega, by omega⟩
    · exact ⟨_, hv, by decide, by decide, by omega⟩
    · exact ⟨_, hv, by decide, by decide, by omega⟩
  obtain ⟨m, hm⟩ := Int.eq_ofNat_of_zero_le (show (0 : Int) ≤ M by omega)
  refine z3a (m := m) (n := n) (M := M) (N := N) hN hm.symm hd t1 (by omega) hn hn2 hk hk2 hfr hff (fun x hx => (hfm x hx).1) (fun x hx => by have := hmax x hx; omega) (by omega) (by omega)
end
end K41
set_option Elab.async false
set_option linter.all false
set_option maxRecDepth 1000000
set_option maxHeartbeats 2000000
/-! K41g: the law, the first half. -/
namespace K41
open Ev
local macro_rules | `(tactic| walk_at "w") => `(tactic| (first
  | (with_reducible refine ws_cons ?_) | (with_reducible refine ws_nil ?_) | (with_reducible refine ws_nm ?_ rfl) | (with_reducible refine ws_set ?_) | (with_reducible refine ws_par ?_) | (with_reducible refine ws_if ?_) | (with_reducible refine ws_ret ?_) | (with_reducible refine ws_retN ?_) | (with_reducible refine ws_brk ?_) | (with_reducible refine ws_cnt ?_) | (with_reducible refine ws_pass ?_) | (with_reducible refine ws_rai ?_) | (with_reducible refine ws_ex ?_) | (with_reducible refine ws_fo ?_) | (with_reducible refine ws_wh ?_)
  | (with_reducible refine w_varE ?_; refine ⟨_, rfl, ?_⟩) | (with_reducible refine w_cst ?_) | (with_reducible refine w_tup ?_) | (with_reducible refine w_bin ?_) | (with_reducible refine w_cmp ?_) | (with_reducible refine w_ch2 ?_) | (with_reducible refine w_and ?_) | (with_reducible refine w_or ?_) | (with_reducible refine w_not ?_) | (with_reducible refine w_ite ?_) | (with_reducible refine w_ix ?_) | (with_reducible refine w_sl ?_) | (with_reducible refine w_oNone ?_) | (with_reducible refine w_oSome ?_) | (with_reducible refine w_rev ?_) | (with_reducible refine w_call ?_) | (with_reducible refine w_bi ?_) | (with_reducible refine w_ist ?_) | (with_reducible refine w_mth ?_) | (with_reducible refine w_qv ?_) | (with_reducible refine w_qn ?_) | (with_reducible refine w_frz ?_) | (with_reducible refine w_dnew ?_) | (with_reducible refine w_dget ?_) | (with_reducible refine w_nil ?_) | (with_reducible refine w_cons ?_)
  | (with_reducible refine w_disp ?_) | (with_reducible refine w_lof ?_) | (with_reducible refine w_srt ?_) | (with_reducible refine w_rep ?_) | (with_reducible refine w_comp ?_) | (with_reducible refine w_val ?_) | (with_reducible refine w_rng1 ?_) | (with_reducible refine w_rng2 ?_) | (with_reducible refine w_rng3 ?_) | (with_reducible refine w_enum ?_) | (with_reducible refine w_zip2 ?_)
  | (with_reducible refine wt_nm rfl ?_) | (with_reducible refine wt_two rfl rfl ?_) | (with_reducible refine wc_nm rfl ?_) | (with_reducible refine wc_nmI rfl ?_) | (with_reducible refine wc_two rfl rfl ?_) | (with_reducible refine wc_twoI rfl rfl ?_)))
local macro_rules | `(tactic| walk_at "b") => `(tactic| (first
  | (with_reducible refine br_bl ?_) | (with_reducible refine br_blO ?_) | (with_reducible refine br_tr ?_) | (with_reducible refine br_trN ?_) | (with_reducible refine br_blN ?_) | (with_reducible refine br_and ?_)
  | (with_reducible refine ⟨_, cmp_eqI, ?_⟩) | (with_reducible refine ⟨_, bin_addI, ?_⟩) | (with_reducible refine ⟨_, bin_subI, ?_⟩) | (with_reducible refine ⟨_, cmp_neI, ?_⟩) | (with_reducible refine ⟨_, cmp_ltI, ?_⟩) | (with_reducible refine ⟨_, cmp_leI, ?_⟩) | (with_reducible refine ⟨_, cmp_gtI, ?_⟩) | (with_reducible refine ⟨_, cmp_geI, ?_⟩) | (with_reducible refine ⟨_, cmp_eqB, ?_⟩) | (with_reducible refine ⟨_, cmp_neB, ?_⟩) | (with_reducible refine ⟨_, cmp_eqT0, ?_⟩) | (with_reducible refine ⟨_, cmp_neT0, ?_⟩) | (with_reducible refine ⟨_, cmp_eqT, ?_⟩) | (with_reducible refine ⟨_, cmp_neT, ?_⟩) | (with_reducible refine ⟨_, cmp_eqL0, ?_⟩) | (with_reducible refine ⟨_, cmp_neL0, ?_⟩) | (with_reducible refine ⟨_, cmp_eqL, ?_⟩) | (with_reducible refine ⟨_, cmp_neL, ?_⟩)
  | (with_reducible refine ⟨_, sum_tZ, ?_⟩) | (with_reducible refine ⟨_, sum_lZ, ?_⟩) | (with_reducible refine ⟨_, min2_eq, ?_⟩) | (with_reducible refine ⟨_, max2_eq, ?_⟩) | (with_reducible refine ⟨_, zip_tZ, ?_⟩) | (with_reducible refine ⟨_, len_tZ, ?_⟩) | (with_reducible refine ⟨_, len_lZ, ?_⟩) | (with_reducible refine ⟨_, rev_tZ, ?_⟩) | (with_reducible refine ⟨_, rev_lZ, ?_⟩)))
local macro_rules | `(tactic| walk_at "a") => `(tactic| (first
  | walk_at "b"
  | (refine ⟨_, rfl, fun _ => ?_, fun hh => Bool.noConfusion (show true = false from hh)⟩)
  | (refine ⟨_, rfl, fun hh => Bool.noConfusion (show false = true from hh), fun _ => ?_⟩)
  | (refine ⟨_, rfl, fun _ => ?_, fun hh => Bool.noConfusion (show false = true from hh)⟩)
  | (refine ⟨_, rfl, fun hh => Bool.noConfusion (show true = false from hh), fun _ => ?_⟩)
  | (refine ⟨_, rfl, ?_⟩) | (refine ⟨_, _, rfl, ?_⟩) | (exact ⟨rfl, rfl⟩) | (refine ⟨rfl, rfl, ?_⟩) | (refine ⟨rfl, ?_⟩)))
local macro_rules | `(tactic| walk_at "s") => `(tactic| repeat (first | walk_at "w" | walk_at "b" | (with_reducible refine ⟨_, (rfl : U.int _ = U.int _), ?_⟩)))
local macro_rules | `(tactic| walk_at "g") => `(tactic| repeat (first | walk_at "w" | walk_at "a"))
local macro_rules | `(tactic| walk_at "n") => `(tactic| (refine ⟨_, rfl, _, rfl, fun hh => Bool.noConfusion (show false = true from hh), fun _ => ?_⟩; refine ws_nil ?_))
section
variable {d : Nat} {S : Sto} {Q : U → Sto → Prop} {E : Nat → Sto → Prop}
/-- two draws, in order -/
theorem two_srt {v w : Int} {n : Nat} (v0 : 0 ≤ v) (v1 : v < n) (w0 : 0 ≤ w) (w1 : w < n) : ∃ a b : Nat, srtI [v, w] = [(a : Int), (b : Int)] ∧ a < n ∧ b < n := by
  by_cases h : v ≤ w
  · refine ⟨v.toNat, w.toNat, ?_, by omega, by omega⟩
    simp only [srtI, insI]
    rw [if_pos h]
    simp; omega
  · refine ⟨w.toNat, v.toNat, ?_, by omega, by omega⟩
    simp only [srtI, insI]
    rw [if_neg h]
    simp; omega
theorem two_same {v w : Int} : srtU [U.int v, U.int w] = some ((srtI [v, w]).map U.int) := srt_ints [v, w]
def bdM : List SX := [.set (.tp [(.nm 26), (.nm 27)]) (.qv (.srt (.qv (.disp [(.call 27 [(.var 1), (.var 2)]), (.call 27 [(.var 1), (.var 2)])])))), .set (.nm 23) (.call 27 [(.var 1), (.var 3)]), .ife (.cmp .ge (.bin .sub (.ix (.var 8) (.var 26)) (.ix (.var 8) (.var 27))) (.bin .mul (.cst (.int 2)) (.var 23))) [.set (.tp [(.ix (.var 8) (.var 26)), (.ix (.var 8) (.var 27))]) (.tup [(.bin .sub (.ix (.var 8) (.var 26)) (.var 23)), (.bin .add (.ix (.var 8) (.var 27)) (.var 23))])] []]
theorem move_loop {r c p n : Nat} {N M : Int} {one : List Int} {y0 y4 y5 y6 y7 y9 y10 y11 y12 y13 y14 y15 y16 y17 y18 y19 y20 y21 y22 y23 y24 y25 y26 y27 : Option U} {P : Out → Sto → Prop} (hN : (n : Int) = N) (hd : d = 11) (t : Tin S r c) (hc : c < 2 ^ 47) (hrp : r < p) (hp : S[p]? = some (.liv (.lst (one.map U.int)))) (hl : one.length = n) (hn : 7 ≤ n) (hn2 : n ≤ 12) (hM : 0 < M) (hM2 : M ≤ 1000000000)
    (q : ∀ y9 y23 y26 y27 S' less, Tin S' r (c + 15) → S'[p]? = some (.liv (.lst (less.map U.int))) → less.length = n → Maj one less → P (.nx [y0, some (.ref r), some (.int N), some (.int M), y4, y5, y6, y7, some (.ref p), y9, y10, y11, y12, y13, y14, y15, y16, y17, y18, y19, y20, y21, y22, y23, y24, y25, y26, y27]) S') :
    WS (forL (stepF (evT (run D 0 d) (.nm 9)) (evSs (run D 0 d) 0 bdM)) (iotaU 0 5) [y0, some (.ref r), some (.int N), some (.int M), y4, y5, y6, y7, some (.ref p), y9, y10, y11, y12, y13, y14, y15, y16, y17, y18, y19, y20, y21, y22, y23, y24, y25, y26, y27] S) P := by
  refine wl_inv (fun i ρ S' => ∃ less y9 y23 y26 y27, ρ = [y0, some (.ref r), some (.int N), some (.int M), y4, y5, y6, y7, some (.ref p), y9, y10, y11, y12, y13, y14, y15, y16, y17, y18, y19, y20, y21, y22, y23, y24, y25, y26, y27] ∧ Tin S' r (c + 3 * i) ∧ S'[p]? = some (.liv (.lst (less.map U.int))) ∧ less.length = n ∧ Maj one less) _ 0 _ _ ⟨one, y9, y23, y26, y27, rfl, t, hp, hl, Maj.refl _⟩ ?_ ?_
  · rintro i x ρ S' hx ⟨less, y9, y23, y26, y27, rfl, t1, h1, l1, mj⟩
    obtain ⟨hi, _⟩ := iota_at hx
    rw [Nat.zero_add] at t1 ⊢
    refine wt_nm rfl ?_
    unfold bdM
    refine ws_cons ?_
    refine ws_set ?_
    refine w_qv ?_
    refine w_srt ?_
    refine w_qv ?_
    refine w_disp ?_
    walk_at "s"
    refine w_takeN T41 (by omega) t1 (by omega) N (by omega) (by omega) fun v S1 v0 v1 t2 p2 => ?_
    walk_at "s"
    refine w_takeN T41 (by omega) t2 (by omega) N (by omega) (by omega) fun w S2 w0 w1 t3 p3 => ?_
    refine w_nil ?_
    subst hN
    obtain ⟨a, b, hab, ha, hb⟩ := two_srt v0 v1 w0 w1
    refine ⟨_, _, rfl, two_same, ?_⟩
    rw [hab]
    refine ⟨_, _, t_twoL' rfl rfl, ?_⟩
    generalize hA : (a : Int) = A at *
    generalize hB : (b : Int) = B at *
    generalize hN : (n : Int) = N at *
    walk_at "s"
    refine w_takeN T41 (by omega) t3 (by omega) M (by omega) (by omega) fun x S3 x0 x1 t4 p4 => ?_
    have h4 : S3[p]? = some (.liv (.lst (less.map U.int))) := by rw [p4.2 p hrp, p3.2 p hrp, p2.2 p hrp]; exact h1
    have hal : a < less.length := by omega
    have hbl : b < less.length := by omega
    have ha2 : (less.map U.int)[a]? = some (.int less[a]) := mapI hal
    have hb2 : (less.map U.int)[b]? = some (.int less[b]) := mapI hbl
    have ia' := ix_store h4 ha2
    have ib' := ix_store h4 hb2
    rw [hA] at ia'
    rw [hB] at ib'
    have ia := ia'
    have ib := ib'
    walk_at "s"
    refine ⟨_, ia, ?_⟩
    walk_at "s"
    refine ⟨_, ib, ?_⟩
    walk_at "s"
    refine ⟨_, bin_mul (.inl ⟨by omega, by omega⟩), ?_⟩
    walk_at "s"
    refine ⟨fun hh => ?_, fun hh => ?_⟩
    · walk_at "s"
      refine ⟨_, ia, ?_⟩
      walk_at "s"
      refine ⟨_, ib, ?_⟩
      walk_at "s"
      refine ⟨_, _, t_ix2 (p := a) (q := b) rfl (by rw [← hA]; rfl) (by rw [← hB]; rfl) h4 (by rw [List.length_map]; omega) (by rw [List.length_map]; omega), ?_⟩
      refine ws_nil ?_
      refine ws_nil ?_
      rw [map_set, map_set]
      have hlt : p < S3.length := (List.getElem?_eq_some_iff.mp h4).1
      refine ⟨_, _, _, _, _, rfl, ?_, List.getElem?_set_self hlt, by simp [l1], mj.move hal hbl x0 hh⟩
      obtain ⟨a', b', c', u1, u2, u3⟩ := t4
      exact ⟨a', b', c', by rw [List.getElem?_set_ne (by omega)]; exact u1, u2, by omega⟩
    · walk_at "s"
      exact ⟨less, _, _, _, _, rfl, t4.mono (by omega), h4, l1, mj⟩
  · rintro ρ S' ⟨less, y9, y23, y26, y27, rfl, t1, h1, l1, mj⟩
    exact q _ _ _ _ S' less t1 h1 l1 mj
theorem wf_bls {xs : List Bool} (h : xs.length ≤ 1000) : wf 1 (.lst (xs.map U.bl)) := wf_lst (lim_of (by simp; omega)) fun x hx => by
  obtain ⟨y, _, rfl⟩ := List.mem_map.mp hx
  exact wf_bl 0 y
theorem z2 {r c n : Nat} {N M K : Int} {one two three : List Int} {y0 y5 y6 y7 y8 y9 y10 y11 y13 y14 y15 y16 y17 y18 y19 y23 y24 y25 y26 y27 : Option U} (hN : (n : Int) = N) (hd : d = 11) (t : Tin S r c) (hc : c < 2 ^ 47) (hn : 7 ≤ n) (hn2 : n ≤ 12) (hM : 0 < M) (hM2 : M ≤ 1000000000) (hk : 0 ≤ K) (hk2 : K ≤ 8)
    (l1 : one.length = n) (l2 : two.length = n) (l3 : three.length = n) (f1 : Fall one) (f2 : Fall two) (f3 : Fall three) :
    WS (evSs (run D 0 d) 0 (d_law.body.drop 10) [y0, some (.ref r), some (.int N), some (.int M), some (.int K), y5, y6, y7, y8, y9, y10, y11, none, y13, y14, y15, y16, y17, y18, y19, some (tZ one), some (tZ two), some (tZ three), y23, y24, y25, y26, y27] S) (endP (fun v _ => v = .bl true) noE) := by
  have ne : ∀ xs : List Int, xs.length = n → xs ≠ [] := fun xs h z => by rw [z] at h; simp at h; omega
  show WS (evSs _ _ (_ :: _ :: _ :: _ :: _ :: _ :: _) [y0, some (.ref r), some (.int N), some (.int M), some (.int K), y5, y6, y7, y8, y9, y10, y11, none, y13, y14, y15, y16, y17, y18, y19, some (tZ one), some (tZ two), some (tZ three), y23, y24, y25, y26, y27] S) _
  walk_at "s"
  refine ⟨_, rfl, ?_⟩
  walk_at "s"
  refine ⟨by decide, rfl, ?_⟩
  refine move_loop hN hd (t.app _) hc t.lt last_at l1 hn hn2 hM hM2 fun y9 y23 y26 y27 S1 less t1 h1 l4 mj => ?_
  walk_at "s"
  refine w_fall (i := 32) rfl (by omega) less (seq_liv h1) ?_
  have l5 : (fallI less).length = n := by rw [fallI_len, l4]
  have f5 := fallI_fall less
  have dm : Dom one (fallI less) := (mj.perm (fallI_perm less)).dom (by omega) f1
  obtain ⟨ls, hls⟩ : ∃ ls, (srtI less).reverse = ls := ⟨_, rfl⟩
  rw [show fallI less = ls from hls] at *
  rw [hls]
  walk_at "s"
  refine w_is_above (by omega) one ls (by omega) (ne _ l1) f1 (by omega) f5 ?_
  rw [(abv_iff (by omega)).mpr dm]
  walk_at "s"
  refine w_is_above (by omega) ls one (by omega) (ne _ l5) f5 (by omega) f1 ?_
  rw [abv_back (by omega) dm]
  walk_at "s"
  refine w_is_above (by omega) one two (by omega) (ne _ l1) f1 (by omega) f2 ?_
  rw [abv_lab (by omega)]
  walk_at "s"
  refine w_lab (by omega) one two (by omega) ?_
  walk_at "s"
  refine w_same S41 1 d (.lst ([true, decide (ls = one), lawAb one two].map U.bl)) (wf_bls (by simp)) (by omega) ?_
  walk_at "n"
  walk_at "s"
  refine w_fall_sum (by omega) one three (by omega) (ne _ l1) f1 (by omega) f3 ?_
  walk_at "s"
  refine w_fall_sum (by omega) ls three (by omega) (ne _ l5) f5 (by omega) f3 ?_
  walk_at "s"
  have la : (plusL one three).length = n := by rw [plusL_len (by omega), l1]
  have lb : (plusL ls three).length = n := by rw [plusL_len (by omega), l5]
  refine w_is_above (by omega) (plusL one three) (plusL ls three) (by omega) (ne _ la) (fall_plus f1 f3) (by omega) (fall_plus f5 f3) ?_
  rw [(abv_iff (by omega)).mpr (dm.plus (by omega) (by omega))]
  walk_at "s"
  refine w_fall_times (by omega) one K hk (by omega) (by omega) (ne _ l1) f1 ?_
  walk_at "s"
  refine w_fall_times (by omega) ls K hk (by omega) (by omega) (ne _ l5) f5 ?_
  walk_at "s"
  have lc : (one.map fun x => K * x).length = n := by rw [List.length_map, l1]
  have ld : (ls.map fun x => K * x).length = n := by rw [List.length_map, l5]
  refine w_is_above (by omega) _ _ (by omega) (ne _ lc) (fall_times hk f1) (by omega) (fall_times hk f5) ?_
  rw [(abv_iff (by omega)).mpr (dm.times hk)]
  walk_at "s"
  refine w_fall_back (by omega) one (by omega) (ne _ l1) f1 ?_
  walk_at "s"
  refine w_fall_back (by omega) ls (by omega) (ne _ l5) f5 ?_
  walk_at "s"
  have le : (backL one).length = n := by simp [backL, l1]
  have lf : (backL ls).length = n := by simp [backL, l5]
  refine w_is_above (by omega) _ _ (by omega) (ne _ le) (fall_back f1) (by omega) (fall_back f5) ?_
  rw [(abv_iff (by omega)).mpr (dm.back (by omega))]
  walk_at "s"
  refine ⟨⟨by decide, by decide, by decide⟩, ?_⟩
  walk_at "s"
  refine w_same S41 1 d (.lst ([true, true, true].map U.bl)) (wf_bls (by simp)) (by omega) ?_
  walk_at "n"
  exact z3 hN hd t1 (by omega) hn hn2 hk hk2
def unI : U → Int
  | .int i => i
  | _ => 0
theorem perm_back {found : List U} {one : List Int} (h : found.Perm (one.map U.int)) : ∃ row : List Int, found = row.map U.int ∧ row.Perm one := by
  obtain ⟨row, rfl, _⟩ := ints_of_mem (G := fun _ => True) found fun y hy => by
    obtain ⟨i, _, rfl⟩ := List.mem_map.mp (h.mem_iff.mp hy)
    exact ⟨i, rfl, trivial⟩
  refine ⟨row, rfl, ?_⟩
  have := h.map unI
  rw [List.map_map, List.map_map] at this
  simpa [Function.comp_def, unI] using this
theorem z1b {r c n : Nat} {N M K : Int} {one two three : List Int} {y0 y6 y7 y8 y9 y10 y11 y13 y14 y15 y16 y17 y18 y19 y23 y24 y25 y26 y27 : Option U} {row : List Int} (hN : (n : Int) = N) (hd : d = 11) (t : Tin S r c) (hc : c < 2 ^ 47) (hn : 7 ≤ n) (hn2 : n ≤ 12) (hM : 0 < M) (hM2 : M ≤ 1000000000) (hk : 0 ≤ K) (hk2 : K ≤ 8)
    (l1 : one.length = n) (l2 : two.length = n) (l3 : three.length = n) (f1 : Fall one) (f2 : Fall two) (f3 : Fall three) (pr : row.Perm one) :
    WS (evSs (run D 0 d) 0 (d_law.body.drop 6) [y0, some (.ref r), some (.int N), some (.int M), some (.int K), some (tZ row), y6, y7, y8, y9, y10, y11, none, y13, y14, y15, y16, y17, y18, y19, some (tZ one), some (tZ two), some (tZ three), y23, y24, y25, y26, y27] S) (endP (fun v _ => v = .bl true) noE) := by
  have ne : ∀ xs : List Int, xs.length = n → xs ≠ [] := fun xs h z => by rw [z] at h; simp at h; omega
  have lr : row.length = n := by rw [pr.length_eq, l1]
  show WS (evSs _ _ (_ :: _ :: _ :: _ :: _ :: _ :: _) [y0, some (.ref r), some (.int N), some (.int M), some (.int K), some (tZ row), y6, y7, y8, y9, y10, y11, none, y13, y14, y15, y16, y17, y18, y19, some (tZ one), some (tZ two), some (tZ three), y23, y24, y25, y26, y27] S) _
  walk_at "s"
  refine w_fall_of (by omega) row (by omega) (ne _ lr) ?_
  rw [show (srtI row).reverse = one from fallI_of pr f1]
  walk_at "s"
  refine w_fall_sum (by omega) one two (by omega) (ne _ l1) f1 (by omega) f2 ?_
  walk_at "s"
  refine w_fall_times (by omega) one K hk (by omega) (by omega) (ne _ l1) f1 ?_
  walk_at "s"
  refine w_fall_raised (by omega) one (0 - K) (by omega) (ne _ l1) f1 ?_
  walk_at "s"
  refine w_fall_back (by omega) one (by omega) (ne _ l1) f1 ?_
  walk_at "s"
  refine w_via (a := 5) rfl (by omega) ?_
  refine w_is_fall_ok (a := 3) (b := 0) rfl rfl rfl (by omega) one (by omega) (ne _ l1) f1 ?_
  walk_at "s"
  refine ⟨_, ix_tZl (ne _ l1), ?_⟩
  walk_at "s"
  refine ⟨_, bin_tZ (ys := [one.getLast (ne _ l1) + 1]) (lim_of (by simp; omega)), ?_⟩
  walk_at "s"
  refine w_via (a := 5) rfl (by omega) ?_
  refine w_is_fall_in (a := 3) (b := 0) rfl rfl rfl (by omega) _ (by simp; omega) ?_
  rw [not_fallB]
  walk_at "s"
  refine ⟨_, bin_appL (lim_of (by simp)), ?_⟩
  walk_at "s"
  refine w_added (i := 33) rfl (by omega) one two (by omega) ?_
  walk_at "s"
  refine w_ltimes (by omega) one K hk (by omega) (by omega) ?_
  walk_at "s"
  refine ⟨_, rfl, by rw [List.length_map]; exact lim_of (by omega), rfl, wq_map (g := fun x : Int => .int (x - K)) (fun x hx => ?_) ?_⟩
  · walk_at "g"
  refine w_nil ?_
  have e1 : one.map (fun x : Int => U.int (x - K)) = (one.map fun x => x - K).map U.int := by rw [List.map_map]; rfl
  rw [e1]
  refine ⟨tZ (one.map fun x => x - K), rfl, ?_⟩
  walk_at "s"
  refine ⟨_, rfl, by rw [List.length_map, List.length_reverse]; exact lim_of (by omega), rfl, wq_map (g := fun x : Int => .int (0 - x)) (fun x hx => ?_) ?_⟩
  · walk_at "g"
  refine w_nil ?_
  have e2 : one.reverse.map (fun x : Int => U.int (0 - x)) = (backL one).map U.int := by rw [backL, List.map_map]; rfl
  rw [e2]
  refine ⟨tZ (backL one), rfl, ?_⟩
  walk_at "s"
  have e3 : (one.map fun x => x + (0 - K)) = one.map fun x => x - K := by apply List.map_congr_left; intro x _; omega
  have e4 : (one.map fun x => x * K) = one.map fun x => K * x := by apply List.map_congr_left; intro x _; exact Int.mul_comm _ _
  rw [e3, e4]
  have lp : (plusL one two).length = n := by rw [plusL_len (by omega), l1]
  have lb : (backL one).length = n := by simp [backL, l1]
  have wz : ∀ xs : List Int, xs.length = n → wf 1 (tZ xs) := fun xs h => wf_tZ (lim_of (by omega)) 0
  refine w_same S41 2 d (.lst [tZ one, tZ (plusL one two), tZ (one.map fun x => K * x), tZ (one.map fun x => x - K), tZ (backL one), .bl true, .bl false]) (wf_lst (lim_of (by simp)) fun u hu => ?_) (by omega) ?_
  · simp only [List.mem_cons, List.not_mem_nil, or_false] at hu
    rcases hu with rfl | rfl | rfl | rfl | rfl | rfl | rfl
    · exact wz _ l1
    · exact wz _ lp
    · exact wz _ (by rw [List.length_map, l1])
    · exact wz _ (by rw [List.length_map, l1])
    · exact wz _ lb
    · exact wf_bl _ _
    · exact wf_bl _ _
  walk_at "n"
  exact z2 hN hd t hc hn hn2 hM hM2 hk hk2 l1 l2 l3 f1 f2 f3
theorem z1 {r c n : Nat} {N M : Int} {y0 y4 y5 y6 y7 y8 y9 y10 y11 y13 y14 y15 y16 y17 y18 y19 y20 y21 y22 y23 y24 y25 y26 y27 : Option U} (hN : (n : Int) = N) (hd : d = 11) (t : Tin S r c) (hc : c < 2 ^ 40) (hn : 7 ≤ n) (hn2 : n ≤ 12) (hM : 0 < M) (hM2 : M ≤ 1000000000) :
    WS (evSs (run D 0 d) 0 (d_law.body.drop 3) [y0, some (.ref r), some (.int N), some (.int M), y4, y5, y6, y7, y8, y9, y10, y11, none, y13, y14, y15, y16, y17, y18, y19, y20, y21, y22, y23, y24, y25, y26, y27] S) (endP (fun v _ => v = .bl true) noE) := by
  show WS (evSs _ _ (_ :: _ :: _ :: _ :: _ :: _ :: _) [y0, some (.ref r), some (.int N), some (.int M), y4, y5, y6, y7, y8, y9, y10, y11, none, y13, y14, y15, y16, y17, y18, y19, y20, y21, y22, y23, y24, y25, y26, y27] S) _
  walk_at "s"
  refine ⟨rfl, by rw [iota_len]; exact lim_of (by decide), rfl, ?_⟩
  refine wq_draw (N := 3) (fun j S' => Tin S' r (c + 100 * j)) (fun u => ∃ xs : List Int, u = tZ xs ∧ xs.length = n ∧ Fall xs) _ 0 _ (by rw [iota_len]; decide) t (fun x _ j S' hj t' => ?_) fun ys S' ly gy t' => ?_
  · walk_at "s"
    refine ⟨small_i (by omega) (by omega), by rw [iota_len]; exact lim_of (by omega), rfl, ?_⟩
    refine wq_draw (N := n) (fun i S' => Tin S' r (c + 100 * j + i)) (fun u => ∃ i : Int, u = .int i ∧ True) _ 0 _ (by rw [iota_len]; omega) t' (fun x _ i S' hi t' => ?_) fun ys S' ly gy t' => ?_
    · walk_at "s"
      refine ⟨_, bin_mul (.inl ⟨by omega, by omega⟩), ?_⟩
      walk_at "s"
      refine w_takeN T41 (by omega) t' (by omega) _ (by omega) (by omega) fun v S1 v0 v1 t1 p1 => ?_
      walk_at "s"
      exact ⟨_, rfl, ⟨_, rfl, trivial⟩, t1⟩
    · obtain ⟨ds, rfl, _⟩ := ints_of_mem ys gy
      rw [List.length_map, iota_len] at ly
      rw [iota_len] at t'
      walk_at "s"
      refine w_fall (i := 32) rfl (by omega) ds rfl ?_
      exact ⟨_, rfl, ⟨fallI ds, rfl, by rw [fallI_len]; omega, fallI_fall ds⟩, t'.mono (by omega)⟩
  rw [iota_len] at ly t'
  obtain ⟨a, b, e, rfl⟩ : ∃ a b e, ys = [a, b, e] := by
    match ys, ly with
    | [a, b, e], _ => exact ⟨a, b, e, rfl⟩
  obtain ⟨one, rfl, l1, f1⟩ := gy a (by simp)
  obtain ⟨two, rfl, l2, f2⟩ := gy b (by simp)
  obtain ⟨three, rfl, l3, f3⟩ := gy e (by simp)
  refine ⟨_, _, rfl, ?_⟩
  walk_at "s"
  refine w_takeN T41 (by omega) t' (by omega) 9 (by decide) (by decide) fun K S1 k0 k1 t1 p1 => ?_
  walk_at "s"
  refine ⟨_, rfl, ?_⟩
  subst hN
  refine w_pick (i := 30) (j := 27) rfl T41 (by omega) t1 (one.map U.int) (by rw [List.length_map]; omega) (by rw [List.length_map]; omega) n (by omega) fun found rest S2 T pm lf t2 l2' => ?_
  generalize hN : (n : Int) = N at *
  have hre : rest = [] := by
    have := pm.length_eq
    rw [List.length_append, lf, List.length_map] at this
    exact List.eq_nil_of_length_eq_zero (by omega)
  subst hre
  rw [List.append_nil] at pm
  obtain ⟨row, rfl, pr⟩ := perm_back pm
  refine w_nil ?_
  refine ⟨tZ row, rfl, ?_⟩
  exact z1b hN hd (t2.app T) (by rw [List.length_map]; omega) hn hn2 hM hM2 k0 (by omega) l1 l2 l3 f1 f2 f3 pr
theorem run_law (hd : d = 12) (ns : List Int) (u : U) (S : Sto) (hl : ns.length ≤ 63) (hu : rd S u = .fz (ns.map U.int)) : ∃ S', run D 0 d 37 [u] S = .ok (.bl true) S' := by
  have w : W (run D 0 d 37 [u] S) (fun v _ => v = .bl true) noE := by
    obtain ⟨e, rfl⟩ := at1 (by omega : 1 ≤ d)
    have he : e = 11 := by omega
    refine w_run (fd := d_law) rfl rfl ?_
    show WS (evSs _ _ (_ :: _ :: _ :: _) [some u, none, none, none, none, none, none, none, none, none, none, none, none, none, none, none, none, none, none, none, none, none, none, none, none, none, none, none] S) _
    walk_at "s"
    refine w_cells (i := 28) rfl (by omega) ns hl hu fun zs S1 hz => ?_
    walk_at "s"
    refine w_box (i := 26) rfl (by omega) zs hz fun r S2 t => ?_
    walk_at "s"
    refine w_takeN T41 (by omega) t (by omega) 6 (by decide) (by decide) fun v S3 v0 v1 t1 p1 => ?_
    walk_at "s"
    refine ⟨_, pow8, ?_⟩
    walk_at "s"
    refine w_ofN O41 T41 (by omega) t1 (by omega) [.int 3, .int 20, .int 100000000] (by decide) (by decide) fun v2 S4 hv t2 p2 => ?_
    obtain ⟨M, rfl, m0, m1⟩ : ∃ M : Int, v2 = .int M ∧ 0 < M ∧ M ≤ 1000000000 := by
      simp only [List.mem_cons, List.not_mem_nil, or_false] at hv
      rcases hv with hv | hv | hv
      · exact ⟨_, hv, by decide, by decide⟩
      · exact ⟨_, hv, by decide, by decide⟩
      · exact ⟨_, hv, by decide, by decide⟩
    exact z1 (n := (7 + v).toNat) (by omega) he t2 (by decide) (by omega) (by omega) m0 m1
  obtain ⟨v, S', e, rfl⟩ := w.is
  exact ⟨S', e⟩
end
end K41
set_option Elab.async false
set_option linter.all false
set_option maxRecDepth 100000
set_option maxHeartbeats 4000000
/-! K41r: the program's top. -/
namespace K41
open PySem Ev L2
theorem len0 {α : Type} {xs : List α} (h : xs.length = 0) : xs = [] := List.eq_nil_of_length_eq_zero h
theorem len1 {α : Type} {xs : List α} (h : xs.length = 1) : ∃ a, xs = [a] := List.length_eq_one_iff.mp h
theorem lenS {α : Type} {xs : List α} {n : Nat} (h : xs.length = n + 1) : ∃ a ys, xs = a :: ys ∧ ys.length = n := by
  match xs, h with
  | a :: ys, h => exact ⟨a, ys, rfl, by simpa using h⟩
theorem bk1 {P : List Value → List Value → Prop} (h0 : ∀ a, P [] [a]) (h1 : ∀ a, P [a] []) : ∀ us ws : List Value, (us ++ ws).length = 1 → P us ws := by
  intro us ws h
  match us with
  | [] => obtain ⟨a, rfl⟩ := len1 (xs := ws) h; exact h0 a
  | [a] =>
    have : ws = [] := len0 (by simp at h; simpa using h)
    subst this; exact h1 a
  | a :: b :: us => simp at h
theorem bkS {P : List Value → List Value → Prop} {n : Nat} (h0 : ∀ ws : List Value, ws.length = n + 1 → P [] ws) (h1 : ∀ a, ∀ us ws : List Value, (us ++ ws).length = n → P (a :: us) ws) : ∀ us ws : List Value, (us ++ ws).length = n + 1 → P us ws := by
  intro us ws h
  match us with
  | [] => exact h0 ws h
  | a :: us => exact h1 a us ws (by simpa using h)

theorem bk2 {P : List Value → List Value → Prop} (h0 : ∀ a b, P [] [a, b]) (h1 : ∀ a b, P [a] [b]) (h2 : ∀ a b, P [a, b] []) : ∀ us ws : List Value, (us ++ ws).length = 2 → P us ws :=
  bkS (n := 1) (fun ws h => by obtain ⟨a, ys, rfl, i⟩ := lenS h; obtain ⟨b, rfl⟩ := len1 i; exact h0 a b) fun a => bk1 (P := fun us ws => P (a :: us) ws) (h1 a) (h2 a)
theorem bk3 {P : List Value → List Value → Prop} (h0 : ∀ a b c, P [] [a, b, c]) (h1 : ∀ a b c, P [a] [b, c]) (h2 : ∀ a b c, P [a, b] [c]) (h3 : ∀ a b c, P [a, b, c] []) : ∀ us ws : List Value, (us ++ ws).length = 3 → P us ws :=
  bkS (n := 2) (fun ws h => by obtain ⟨a, ys, rfl, i⟩ := lenS h; obtain ⟨b, zs, rfl, j⟩ := lenS i; obtain ⟨c, rfl⟩ := len1 j; exact h0 a b c) fun a => bk2 (P := fun us ws => P (a :: us) ws) (h1 a) (h2 a) (h3 a)
theorem bk4 {P : List Value → List Value → Prop} (h0 : ∀ a b c d, P [] [a, b, c, d]) (h1 : ∀ a b c d, P [a] [b, c, d]) (h2 : ∀ a b c d, P [a, b] [c, d]) (h3 : ∀ a b c d, P [a, b, c] [d]) (h4 : ∀ a b c d, P [a, b, c, d] []) : ∀ us ws : List Value, (us ++ ws).length = 4 → P us ws :=
  bkS (n := 3) (fun ws h => by obtain ⟨a, ys, rfl, i⟩ := lenS h; obtain ⟨b, zs, rfl, j⟩ := lenS i; obtain ⟨c, us, rfl, k⟩ := lenS j; obtain ⟨d, rfl⟩ := len1 k; exact h0 a b c d) fun a => bk3 (P := fun us ws => P (a :: us) ws) (h1 a) (h2 a) (h3 a) (h4 a)
theorem bk5 {P : List Value → List Value → Prop} (h0 : ∀ a b c d e, P [] [a, b, c, d, e]) (h1 : ∀ a b c d e, P [a] [b, c, d, e]) (h2 : ∀ a b c d e, P [a, b] [c, d, e]) (h3 : ∀ a b c d e, P [a, b, c] [d, e]) (h4 : ∀ a b c d e, P [a, b, c, d] [e]) (h5 : ∀ a b c d e, P [a, b, c, d, e] []) : ∀ us ws : List Value, (us ++ ws).length = 5 → P us ws :=
  bkS (n := 4) (fun ws h => by obtain ⟨a, ys, rfl, i⟩ := lenS h; obtain ⟨b, zs, rfl, j⟩ := lenS i; obtain ⟨c, us, rfl, k⟩ := lenS j; obtain ⟨d, vs, rfl, m⟩ := lenS k; obtain ⟨e, rfl⟩ := len1 m; exact h0 a b c d e) fun a => bk4 (P := fun us ws => P (a :: us) ws) (h1 a) (h2 a) (h3 a) (h4 a) (h5 a)

theorem bind_is_number {kV doc pm cdv ct : Value} {an : Option Addr} : BindK (PySem.W.fnOf "is_number" "is_number" (defArgs (top 5)) (defBody (top 5)) (defScope (top 5)) .none kV doc pm an cdv ct) ["thing"] :=
  bk1 (fun _ => rfl) (fun _ => rfl)
theorem bind_is_from {kV doc pm cdv ct : Value} {an : Option Addr} : BindK (PySem.W.fnOf "is_from" "is_from" (defArgs (top 6)) (defBody (top 6)) (defScope (top 6)) .none kV doc pm an cdv ct) ["thing", "least"] :=
  bk2 (fun _ _ => rfl) (fun _ _ => rfl) (fun _ _ => rfl)
theorem bind_is_within {kV doc pm cdv ct : Value} {an : Option Addr} : BindK (PySem.W.fnOf "is_within" "is_within" (defArgs (top 7)) (defBody (top 7)) (defScope (top 7)) .none kV doc pm an cdv ct) ["thing", "least", "most"] :=
  bk3 (fun _ _ _ => rfl) (fun _ _ _ => rfl) (fun _ _ _ => rfl) (fun _ _ _ => rfl)
theorem bind_are_numbers {kV doc pm cdv ct : Value} {an : Option Addr} : BindK (PySem.W.fnOf "are_numbers" "are_numbers" (defArgs (top 8)) (defBody (top 8)) (defScope (top 8)) .none kV doc pm an cdv ct) ["thing"] :=
  bk1 (fun _ => rfl) (fun _ => rfl)
theorem bind_tupled {kV doc pm cdv ct : Value} {an : Option Addr} : BindK (PySem.W.fnOf "tupled" "tupled" (defArgs (top 9)) (defBody (top 9)) (defScope (top 9)) .none kV doc pm an cdv ct) ["value"] :=
  bk1 (fun _ => rfl) (fun _ => rfl)
theorem bind_is_fall_in {kV doc pm cdv ct : Value} {an : Option Addr} : BindK (PySem.W.fnOf "is_fall_in" "is_fall_in" (defArgs (top 13)) (defBody (top 13)) (defScope (top 13)) .none kV doc pm an cdv ct) ["thing"] :=
  bk1 (fun _ => rfl) (fun _ => rfl)
theorem bind_sure_fall {kV doc pm cdv ct : Value} {an : Option Addr} : BindK (PySem.W.fnOf "sure_fall" "sure_fall" (defArgs (top 14)) (defBody (top 14)) (defScope (top 14)) .none kV doc pm an cdv ct) ["fall"] :=
  bk1 (fun _ => rfl) (fun _ => rfl)
theorem bind_sure_falls {kV doc pm cdv ct : Value} {an : Option Addr} : BindK (PySem.W.fnOf "sure_falls" "sure_falls" (defArgs (top 15)) (defBody (top 15)) (defScope (top 15)) .none kV doc pm an cdv ct) ["one", "other"] :=
  bk2 (fun _ _ => rfl) (fun _ _ => rfl) (fun _ _ => rfl)
theorem bind_added {kV doc pm cdv ct : Value} {an : Option Addr} : BindK (PySem.W.fnOf "added" "added" (defArgs (top 16)) (defBody (top 16)) (defScope (top 16)) .none kV doc pm an cdv ct) ["one", "other"] :=
  bk2 (fun _ _ => rfl) (fun _ _ => rfl) (fun _ _ => rfl)
theorem bind_sorted_in {kV doc pm cdv ct : Value} {an : Option Addr} : BindK (PySem.W.fnOf "sorted_in" "sorted_in" (defArgs (top 17)) (defBody (top 17)) (defScope (top 17)) .none kV doc pm an cdv ct) ["row"] :=
  bk1 (fun _ => rfl) (fun _ => rfl)
theorem bind_back_in {kV doc pm cdv ct : Value} {an : Option Addr} : BindK (PySem.W.fnOf "back_in" "back_in" (defArgs (top 18)) (defBody (top 18)) (defScope (top 18)) .none kV doc pm an cdv ct) ["fall"] :=
  bk1 (fun _ => rfl) (fun _ => rfl)
theorem bind_is_above_in {kV doc pm cdv ct : Value} {an : Option Addr} : BindK (PySem.W.fnOf "is_above_in" "is_above_in" (defArgs (top 19)) (defBody (top 19)) (defScope (top 19)) .none kV doc pm an cdv ct) ["one", "other"] :=
  bk2 (fun _ _ => rfl) (fun _ _ => rfl) (fun _ _ => rfl)
theorem bind_below_in {kV doc pm cdv ct : Value} {an : Option Addr} : BindK (PySem.W.fnOf "below_in" "below_in" (defArgs (top 20)) (defBody (top 20)) (defScope (top 20)) .none kV doc pm an cdv ct) ["fall"] :=
  bk1 (fun _ => rfl) (fun _ => rfl)
theorem bind_steps_below {kV doc pm cdv ct : Value} {an : Option Addr} : BindK (PySem.W.fnOf "steps_below" "steps_below" (defArgs (top 21)) (defBody (top 21)) (defScope (top 21)) .none kV doc pm an cdv ct) ["fall", "own", "total", "left"] :=
  bk4 (fun _ _ _ _ => rfl) (fun _ _ _ _ => rfl) (fun _ _ _ _ => rfl) (fun _ _ _ _ => rfl) (fun _ _ _ _ => rfl)
theorem bind_transposed_in {kV doc pm cdv ct : Value} {an : Option Addr} : BindK (PySem.W.fnOf "transposed_in" "transposed_in" (defArgs (top 22)) (defBody (top 22)) (defScope (top 22)) .none kV doc pm an cdv ct) ["fall", "many"] :=
  bk2 (fun _ _ => rfl) (fun _ _ => rfl) (fun _ _ => rfl)
theorem bind_choose {kV doc pm cdv ct : Value} {an : Option Addr} : BindK (PySem.W.fnOf "choose" "choose" (defArgs (top 23)) (defBody (top 23)) (defScope (top 23)) .none kV doc pm an cdv ct) ["many", "size"] :=
  bk2 (fun _ _ => rfl) (fun _ _ => rfl) (fun _ _ => rfl)
theorem bind_is_fall {kV doc pm cdv ct : Value} {an : Option Addr} : BindK (PySem.W.fnOf "is_fall" "is_fall" (defArgs (top 24)) (defBody (top 24)) (defScope (top 24)) .none kV doc pm an cdv ct) ["thing"] :=
  bk1 (fun _ => rfl) (fun _ => rfl)
theorem bind_fall_of {kV doc pm cdv ct : Value} {an : Option Addr} : BindK (PySem.W.fnOf "fall_of" "fall_of" (defArgs (top 25)) (defBody (top 25)) (defScope (top 25)) .none kV doc pm an cdv ct) ["row"] :=
  bk1 (fun _ => rfl) (fun _ => rfl)
theorem bind_fall_sum {kV doc pm cdv ct : Value} {an : Option Addr} : BindK (PySem.W.fnOf "fall_sum" "fall_sum" (defArgs (top 26)) (defBody (top 26)) (defScope (top 26)) .none kV doc pm an cdv ct) ["one", "other"] :=
  bk2 (fun _ _ => rfl) (fun _ _ => rfl) (fun _ _ => rfl)
theorem bind_fall_times {kV doc pm cdv ct : Value} {an : Option Addr} : BindK (PySem.W.fnOf "fall_times" "fall_times" (defArgs (top 27)) (defBody (top 27)) (defScope (top 27)) .none kV doc pm an cdv ct) ["fall", "times"] :=
  bk2 (fun _ _ => rfl) (fun _ _ => rfl) (fun _ _ => rfl)
theorem bind_fall_raised {kV doc pm cdv ct : Value} {an : Option Addr} : BindK (PySem.W.fnOf "fall_raised" "fall_raised" (defArgs (top 28)) (defBody (top 28)) (defScope (top 28)) .none kV doc pm an cdv ct) ["fall", "number"] :=
  bk2 (fun _ _ => rfl) (fun _ _ => rfl) (fun _ _ => rfl)
theorem bind_fall_back {kV doc pm cdv ct : Value} {an : Option Addr} : BindK (PySem.W.fnOf "fall_back" "fall_back" (defArgs (top 29)) (defBody (top 29)) (defScope (top 29)) .none kV doc pm an cdv ct) ["fall"] :=
  bk1 (fun _ => rfl) (fun _ => rfl)
theorem bind_is_above {kV doc pm cdv ct : Value} {an : Option Addr} : BindK (PySem.W.fnOf "is_above" "is_above" (defArgs (top 30)) (defBody (top 30)) (defScope (top 30)) .none kV doc pm an cdv ct) ["one", "other"] :=
  bk2 (fun _ _ => rfl) (fun _ _ => rfl) (fun _ _ => rfl)
theorem bind_falls_below {kV doc pm cdv ct : Value} {an : Option Addr} : BindK (PySem.W.fnOf "falls_below" "falls_below" (defArgs (top 31)) (defBody (top 31)) (defScope (top 31)) .none kV doc pm an cdv ct) ["fall"] :=
  bk1 (fun _ => rfl) (fun _ => rfl)
theorem bind_transposed {kV doc pm cdv ct : Value} {an : Option Addr} : BindK (PySem.W.fnOf "transposed" "transposed" (defArgs (top 32)) (defBody (top 32)) (defScope (top 32)) .none kV doc pm an cdv ct) ["fall", "many"] :=
  bk2 (fun _ _ => rfl) (fun _ _ => rfl) (fun _ _ => rfl)
theorem bind_how_many_falls {kV doc pm cdv ct : Value} {an : Option Addr} : BindK (PySem.W.fnOf "how_many_falls" "how_many_falls" (defArgs (top 33)) (defBody (top 33)) (defScope (top 33)) .none kV doc pm an cdv ct) ["many", "most"] :=
  bk2 (fun _ _ => rfl) (fun _ _ => rfl) (fun _ _ => rfl)
theorem bind_ulaw_box {kV doc pm cdv ct : Value} {an : Option Addr} : BindK (PySem.W.fnOf "_law_box" "_law_box" (defArgs (top 35)) (defBody (top 35)) (defScope (top 35)) .none kV doc pm an cdv ct) ["script", "k"] :=
  bk2 (fun _ _ => rfl) (fun _ _ => rfl) (fun _ _ => rfl)
theorem bind_ulaw_take {kV doc pm cdv ct : Value} {an : Option Addr} : BindK (PySem.W.fnOf "_law_take" "_law_take" (defArgs (top 36)) (defBody (top 36)) (defScope (top 36)) .none kV doc pm an cdv ct) ["tin", "below_so"] :=
  bk2 (fun _ _ => rfl) (fun _ _ => rfl) (fun _ _ => rfl)
theorem bind_ulaw_cells {kV doc pm cdv ct : Value} {an : Option Addr} : BindK (PySem.W.fnOf "_law_cells" "_law_cells" (defArgs (top 37)) (defBody (top 37)) (defScope (top 37)) .none kV doc pm an cdv ct) ["script", "most_so"] :=
  bk2 (fun _ _ => rfl) (fun _ _ => rfl) (fun _ _ => rfl)
theorem bind_ulaw_of {kV doc pm cdv ct : Value} {an : Option Addr} : BindK (PySem.W.fnOf "_law_of" "_law_of" (defArgs (top 38)) (defBody (top 38)) (defScope (top 38)) .none kV doc pm an cdv ct) ["tin", "goods_so"] :=
  bk2 (fun _ _ => rfl) (fun _ _ => rfl) (fun _ _ => rfl)
theorem bind_ulaw_pick {kV doc pm cdv ct : Value} {an : Option Addr} : BindK (PySem.W.fnOf "_law_pick" "_law_pick" (defArgs (top 39)) (defBody (top 39)) (defScope (top 39)) .none kV doc pm an cdv ct) ["tin", "goods_so", "count_so"] :=
  bk3 (fun _ _ _ => rfl) (fun _ _ _ => rfl) (fun _ _ _ => rfl) (fun _ _ _ => rfl)
theorem bind_ulaw_same {kV doc pm cdv ct : Value} {an : Option Addr} : BindK (PySem.W.fnOf "_law_same" "_law_same" (defArgs (top 40)) (defBody (top 40)) (defScope (top 40)) .none kV doc pm an cdv ct) ["got", "due"] :=
  bk2 (fun _ _ => rfl) (fun _ _ => rfl) (fun _ _ => rfl)
theorem bind_ulaw_fall {kV doc pm cdv ct : Value} {an : Option Addr} : BindK (PySem.W.fnOf "_law_fall" "_law_fall" (defArgs (top 41)) (defBody (top 41)) (defScope (top 41)) .none kV doc pm an cdv ct) ["row_so"] :=
  bk1 (fun _ => rfl) (fun _ => rfl)
theorem bind_ulaw_plus {kV doc pm cdv ct : Value} {an : Option Addr} : BindK (PySem.W.fnOf "_law_plus" "_law_plus" (defArgs (top 42)) (defBody (top 42)) (defScope (top 42)) .none kV doc pm an cdv ct) ["one", "two"] :=
  bk2 (fun _ _ => rfl) (fun _ _ => rfl) (fun _ _ => rfl)
theorem bind_ulaw_times {kV doc pm cdv ct : Value} {an : Option Addr} : BindK (PySem.W.fnOf "_law_times" "_law_times" (defArgs (top 43)) (defBody (top 43)) (defScope (top 43)) .none kV doc pm an cdv ct) ["one", "k"] :=
  bk2 (fun _ _ => rfl) (fun _ _ => rfl) (fun _ _ => rfl)
theorem bind_ulaw_above {kV doc pm cdv ct : Value} {an : Option Addr} : BindK (PySem.W.fnOf "_law_above" "_law_above" (defArgs (top 44)) (defBody (top 44)) (defScope (top 44)) .none kV doc pm an cdv ct) ["one", "two"] :=
  bk2 (fun _ _ => rfl) (fun _ _ => rfl) (fun _ _ => rfl)
theorem bind_ulaw_shapes_of {kV doc pm cdv ct : Value} {an : Option Addr} : BindK (PySem.W.fnOf "_law_shapes_of" "_law_shapes_of" (defArgs (top 45)) (defBody (top 45)) (defScope (top 45)) .none kV doc pm an cdv ct) ["boxes_so", "tall_so"] :=
  bk2 (fun _ _ => rfl) (fun _ _ => rfl) (fun _ _ => rfl)
theorem bind_law {kV doc pm cdv ct : Value} {an : Option Addr} : BindK (PySem.W.fnOf "law" "law" (defArgs (top 46)) (defBody (top 46)) (defScope (top 46)) .none kV doc pm an cdv ct) ["script"] :=
  bk1 (fun _ => rfl) (fun _ => rfl)
structure ClsF (prog : Program) (K : PySem.W.Frag) (C : Addr) : Prop where
  sup : SupC prog K C
  exc : ExcC K C
  kit : PySem.W.kitOne K (.ref C) (.type "ValueError") = some true
theorem cls_mk {prog : Program} {K : PySem.W.Frag} {C fI cc cda : Addr} {p0 p1 p2 p3 p4 : Pos} {name qual : Str} {params : Arguments} {scope : Scope} {dV kV doc pm ct oc ccl cl : Value} {an od cdd cld : Option Addr} {osl ccs csl : Array (Option Value)} {vs : Array Value} {file : Str} {tf : Tok} {ar : Arg} {cdD : ClassData}
    (hck : PySem.W.keepIn K (.ref C) = true) (hce : PySem.W.subIn K (.ref C) (.type "BaseException") = some true) (hct : PySem.W.typeIn K (.ref C) = some (.type "type"))
    (hci : PySem.W.findIn K (.ref C) "__init__" = some (some (.ref fI)))
    (hcl : K.lookup fI = some ⟨oc, od, .func (PySem.W.ksFn name qual params (supBody p0 p1 p2 p3 p4) scope dV kV doc pm an (.ref cda) ct cc), osl⟩)
    (hcd : PySem.W.codeIn K (.ref cda) qual = true) (hcti : PySem.W.typeIn K (.ref fI) = some (.type "function")) (hcx : PySem.W.excInitIn K C PySem.HandSPX.veTail "ValueError.__new__" = true)
    (hcp : (params.posonlyargs ++ params.args).head? = some ar) (hcdl : K.lookup cda = some ⟨ccl, cdd, .fields vs, ccs⟩) (hcv : vs[2]? = some (.str file tf)) (hcf : ((prog.main.file : Str) == file) = true)
    (hccl : K.lookup cc = some ⟨cl, cld, .cell (some (.ref C)), csl⟩) (hccd : PySem.W.clsIn K C = some cdD) (hcm : PySem.W.mroIn K C (.ref C) = some true)
    (hs1 : scope.names.lookup ("super" : Str) = some .globalImplicit) (hs2 : scope.names.lookup ("__class__" : Str) = some .free) (hs3 : scope.names.lookup ar.arg = some .local) (hs4 : scope.kind = .function) (hs5 : (prog.main.scope.names.lookup ("super" : Str)).isSome = false)
    (hth : PySem.W.nsIn K cStatics "thirdparty.any" = some none) (hcs : PySem.W.ks_superIn K C C "__init__" = some (some (.builtin "ValueError.__init__"))) (hcw : PySem.W.subIn K (.ref C) (.type "ValueError") = some true)
    (hbd : ∀ s u, BindsTo s (PySem.W.ksFn name qual params (supBody p0 p1 p2 p3 p4) scope dV kV doc pm an (.ref cda) ct cc) ⟨[u], []⟩ [(ar.arg, u)])
    (hs6 : (scope.names.all fun x => x.2 != .cell) = true) (hs7 : scope.isCoroutine = false) (hs8 : scope.isGenerator = false)
    (he1 : PySem.W.findIn K (.ref C) "__getattribute__" = some (some (.builtin "BaseException.__getattribute__"))) (he2 : PySem.W.findIn K (.ref C) "__getattr__" = some none)
    (he4 : PySem.W.hasDictIn K C = true) (he5 : PySem.W.findIn K (.ref C) "__class__" = some (some (.builtin "object.__class__"))) (he6 : PySem.W.specialIn K (.builtin "object.__class__") "__get__" = some (some (.builtin "getset_descriptor.__get__")))
    (he7 : PySem.W.takesIn K (.builtin "object.__class__") = some true) (he8 : PySem.W.mroIn K C (.type "object") = some true)
    (hkv : PySem.W.kitOne K (.ref C) (.type "ValueError") = some true)
    (hE : ∀ env : Env, ∃ pl : Sem Bool, eval (.Call (.Attribute (.Call (.Name "super" p0) [] [] p1) "__init__" p2) [] [] p3) env = (do
      let ov ← attributeBase (.Call (.Name "super" p0) [] [] p1) "__init__" env (eval (.Call (.Name "super" p0) [] [] p1) env)
      standAt p2.atName
      let (f, first) ← holding [ov] (getMethod ov "__init__" pl)
      callWith p3 f first (backTo p3 (starEach [] env)) [])) : ClsF prog K C :=
  ⟨⟨hck, hce, hct, fI, cc, cda, p0, p1, p2, p3, p4, name, qual, params, scope, dV, kV, doc, pm, ct, oc, ccl, cl, an, od, cdd, cld, osl, ccs, csl, vs, file, tf, ar, cdD, hcl, hcd, hcti, hci, hcx, hcp, hcdl, hcv, hcf, hccl, hccd, hcm, hs1, hs2, hs3, hs4, hs5, hth, hcs, hcw, hbd, fun x hx e => by
    have := List.all_eq_true.mp hs6 x hx
    rw [e] at this
    exact absurd this (by decide), hs7, hs8, hE⟩, ⟨he1, he2, hce, he4, he5, he6, he7, he8⟩, hkv⟩
theorem all_mk {l : PySem.W.OpenLaw} {w : World} {K : PySem.W.Frag} {h : Heap} {mg : Str → Option Value} {fa : Addr} (X : K.In h) (G : h.Ns mainGlobals mg) (hfa : mg "law" = some (.ref fa))
    {f0 f1 f2 f3 f4 f5 f6 f7 f8 f9 f10 f11 f12 f13 f14 f15 f16 f17 f18 f19 f20 f21 f22 f23 f24 f25 f26 f27 f28 f29 f30 f31 f32 f33 f34 f35 f36 f37 : Addr} {od0 an0  od1 an1  od2 an2  od3 an3  od4 an4  od5 an5  od6 an6  od7 an7  od8 an8  od9 an9  od10 an10  od11 an11  od12 an12  od13 an13  od14 an14  od15 an15  od16 an16  od17 an17  od18 an18  od19 an19  od20 an20  od21 an21  od22 an22  od23 an23  od24 an24  od25 an25  od26 an26  od27 an27  od28 an28  od29 an29  od30 an30  od31 an31  od32 an32  od33 an33  od34 an34  od35 an35  od36 an36  od37 an37 : Option Addr} {sl0 sl1 sl2 sl3 sl4 sl5 sl6 sl7 sl8 sl9 sl10 sl11 sl12 sl13 sl14 sl15 sl16 sl17 sl18 sl19 sl20 sl21 sl22 sl23 sl24 sl25 sl26 sl27 sl28 sl29 sl30 sl31 sl32 sl33 sl34 sl35 sl36 sl37 : Array (Option Value)}
    {oc0 kV0 dc0 pm0 cd0 ct0 oc1 kV1 dc1 pm1 cd1 ct1 oc2 kV2 dc2 pm2 cd2 ct2 oc3 kV3 dc3 pm3 cd3 ct3 oc4 kV4 dc4 pm4 cd4 ct4 oc5 kV5 dc5 pm5 cd5 ct5 oc6 kV6 dc6 pm6 cd6 ct6 oc7 kV7 dc7 pm7 cd7 ct7 oc8 kV8 dc8 pm8 cd8 ct8 oc9 kV9 dc9 pm9 cd9 ct9 oc10 kV10 dc10 pm10 cd10 ct10 oc11 kV11 dc11 pm11 cd11 ct11 oc12 kV12 dc12 pm12 cd12 ct12 oc13 kV13 dc13 pm13 cd13 ct13 oc14 kV14 dc14 pm14 cd14 ct14 oc15 kV15 dc15 pm15 cd15 ct15 oc16 kV16 dc16 pm16 cd16 ct16 oc17 kV17 dc17 pm17 cd17 ct17 oc18 kV18 dc18 pm18 cd18 ct18 oc19 kV19 dc19 pm19 cd19 ct19 oc20 kV20 dc20 pm20 cd20 ct20 oc21 kV21 dc21 pm21 cd21 ct21 oc22 kV22 dc22 pm22 cd22 ct22 oc23 kV23 dc23 pm23 cd23 ct23 oc24 kV24 dc24 pm24 cd24 ct24 oc25 kV25 dc25 pm25 cd25 ct25 oc26 kV26 dc26 pm26 cd26 ct26 oc27 kV27 dc27 pm27 cd27 ct27 oc28 kV28 dc28 pm28 cd28 ct28 oc29 kV29 dc29 pm29 cd29 ct29 oc30 kV30 dc30 pm30 cd30 ct30 oc31 kV31 dc31 pm31 cd31 ct31 oc32 kV32 dc32 pm32 cd32 ct32 oc33 kV33 dc33 pm33 cd33 ct33 oc34 kV34 dc34 pm34 cd34 ct34 oc35 kV35 dc35 pm35 cd35 ct35 oc36 kV36 dc36 pm36 cd36 ct36 oc37 kV37 dc37 pm37 cd37 ct37 : Value} {C0 C1 C2 : Addr}
    (a0 : PySem.W.nsIn K mainGlobals "is_number" = some (some (.ref f0))) (l0 : K.lookup f0 = some ⟨oc0, od0, .func (PySem.W.fnOf "is_number" "is_number" (defArgs (top 5)) (defBody (top 5)) (defScope (top 5)) .none kV0 dc0 pm0 an0 cd0 ct0), sl0⟩) (c0 : PySem.W.codeIn K cd0 "is_number" = true) (k0 : PySem.W.keepIn K (.ref f0) = true)
    (a1 : PySem.W.nsIn K mainGlobals "is_from" = some (some (.ref f1))) (l1 : K.lookup f1 = some ⟨oc1, od1, .func (PySem.W.fnOf "is_from" "is_from" (defArgs (top 6)) (defBody (top 6)) (defScope (top 6)) .none kV1 dc1 pm1 an1 cd1 ct1), sl1⟩) (c1 : PySem.W.codeIn K cd1 "is_from" = true) (k1 : PySem.W.keepIn K (.ref f1) = true)
    (a2 : PySem.W.nsIn K mainGlobals "is_within" = some (some (.ref f2))) (l2 : K.lookup f2 = some ⟨oc2, od2, .func (PySem.W.fnOf "is_within" "is_within" (defArgs (top 7)) (defBody (top 7)) (defScope (top 7)) .none kV2 dc2 pm2 an2 cd2 ct2), sl2⟩) (c2 : PySem.W.codeIn K cd2 "is_within" = true) (k2 : PySem.W.keepIn K (.ref f2) = true)
    (a3 : PySem.W.nsIn K mainGlobals "are_numbers" = some (some (.ref f3))) (l3 : K.lookup f3 = some ⟨oc3, od3, .func (PySem.W.fnOf "are_numbers" "are_numbers" (defArgs (top 8)) (defBody (top 8)) (defScope (top 8)) .none kV3 dc3 pm3 an3 cd3 ct3), sl3⟩) (c3 : PySem.W.codeIn K cd3 "are_numbers" = true) (k3 : PySem.W.keepIn K (.ref f3) = true)
    (a4 : PySem.W.nsIn K mainGlobals "tupled" = some (some (.ref f4))) (l4 : K.lookup f4 = some ⟨oc4, od4, .func (PySem.W.fnOf "tupled" "tupled" (defArgs (top 9)) (defBody (top 9)) (defScope (top 9)) .none kV4 dc4 pm4 an4 cd4 ct4), sl4⟩) (c4 : PySem.W.codeIn K cd4 "tupled" = true) (k4 : PySem.W.keepIn K (.ref f4) = true)
    (a5 : PySem.W.nsIn K mainGlobals "is_fall_in" = some (some (.ref f5))) (l5 : K.lookup f5 = some ⟨oc5, od5, .func (PySem.W.fnOf "is_fall_in" "is_fall_in" (defArgs (top 13)) (defBody (top 13)) (defScope (top 13)) .none kV5 dc5 pm5 an5 cd5 ct5), sl5⟩) (c5 : PySem.W.codeIn K cd5 "is_fall_in" = true) (k5 : PySem.W.keepIn K (.ref f5) = true)
    (a6 : PySem.W.nsIn K mainGlobals "sure_fall" = some (some (.ref f6))) (l6 : K.lookup f6 = some ⟨oc6, od6, .func (PySem.W.fnOf "sure_fall" "sure_fall" (defArgs (top 14)) (defBody (top 14)) (defScope (top 14)) .none kV6 dc6 pm6 an6 cd6 ct6), sl6⟩) (c6 : PySem.W.codeIn K cd6 "sure_fall" = true) (k6 : PySem.W.keepIn K (.ref f6) = true)
    (a7 : PySem.W.nsIn K mainGlobals "sure_falls" = some (some (.ref f7))) (l7 : K.lookup f7 = some ⟨oc7, od7, .func (PySem.W.fnOf "sure_falls" "sure_falls" (defArgs (top 15)) (defBody (top 15)) (defScope (top 15)) .none kV7 dc7 pm7 an7 cd7 ct7), sl7⟩) (c7 : PySem.W.codeIn K cd7 "sure_falls" = true) (k7 : PySem.W.keepIn K (.ref f7) = true)
    (a8 : PySem.W.nsIn K mainGlobals "added" = some (some (.ref f8))) (l8 : K.lookup f8 = some ⟨oc8, od8, .func (PySem.W.fnOf "added" "added" (defArgs (top 16)) (defBody (top 16)) (defScope (top 16)) .none kV8 dc8 pm8 an8 cd8 ct8), sl8⟩) (c8 : PySem.W.codeIn K cd8 "added" = true) (k8 : PySem.W.keepIn K (.ref f8) = true)
    (a9 : PySem.W.nsIn K mainGlobals "sorted_in" = some (some (.ref f9))) (l9 : K.lookup f9 = some ⟨oc9, od9, .func (PySem.W.fnOf "sorted_in" "sorted_in" (defArgs (top 17)) (defBody (top 17)) (defScope (top 17)) .none kV9 dc9 pm9 an9 cd9 ct9), sl9⟩) (c9 : PySem.W.codeIn K cd9 "sorted_in" = true) (k9 : PySem.W.keepIn K (.ref f9) = true)
    (a10 : PySem.W.nsIn K mainGlobals "back_in" = some (some (.ref f10))) (l10 : K.lookup f10 = some ⟨oc10, od10, .func (PySem.W.fnOf "back_in" "back_in" (defArgs (top 18)) (defBody (top 18)) (defScope (top 18)) .none kV10 dc10 pm10 an10 cd10 ct10), sl10⟩) (c10 : PySem.W.codeIn K cd10 "back_in" = true) (k10 : PySem.W.keepIn K (.ref f10) = true)
    (a11 : PySem.W.nsIn K mainGlobals "is_above_in" = some (some (.ref f11))) (l11 : K.lookup f11 = some ⟨oc11, od11, .func (PySem.W.fnOf "is_above_in" "is_above_in" (defArgs (top 19)) (defBody (top 19)) (defScope (top 19)) .none kV11 dc11 pm11 an11 cd11 ct11), sl11⟩) (c11 : PySem.W.codeIn K cd11 "is_above_in" = true) (k11 : PySem.W.keepIn K (.ref f11) = true)
    (a12 : PySem.W.nsIn K mainGlobals "below_in" = some (some (.ref f12))) (l12 : K.lookup f12 = some ⟨oc12, od12, .func (PySem.W.fnOf "below_in" "below_in" (defArgs (top 20)) (defBody (top 20)) (defScope (top 20)) .none kV12 dc12 pm12 an12 cd12 ct12), sl12⟩) (c12 : PySem.W.codeIn K cd12 "below_in" = true) (k12 : PySem.W.keepIn K (.ref f12) = true)
    (a13 : PySem.W.nsIn K mainGlobals "steps_below" = some (some (.ref f13))) (l13 : K.lookup f13 = some ⟨oc13, od13, .func (PySem.W.fnOf "steps_below" "steps_below" (defArgs (top 21)) (defBody (top 21)) (defScope (top 21)) .none kV13 dc13 pm13 an13 cd13 ct13), sl13⟩) (c13 : PySem.W.codeIn K cd13 "steps_below" = true) (k13 : PySem.W.keepIn K (.ref f13) = true)
    (a14 : PySem.W.nsIn K mainGlobals "transposed_in" = some (some (.ref f14))) (l14 : K.lookup f14 = some ⟨oc14, od14, .func (PySem.W.fnOf "transposed_in" "transposed_in" (defArgs (top 22)) (defBody (top 22)) (defScope (top 22)) .none kV14 dc14 pm14 an14 cd14 ct14), sl14⟩) (c14 : PySem.W.codeIn K cd14 "transposed_in" = true) (k14 : PySem.W.keepIn K (.ref f14) = true)
    (a15 : PySem.W.nsIn K mainGlobals "choose" = some (some (.ref f15))) (l15 : K.lookup f15 = some ⟨oc15, od15, .func (PySem.W.fnOf "choose" "choose" (defArgs (top 23)) (defBody (top 23)) (defScope (top 23)) .none kV15 dc15 pm15 an15 cd15 ct15), sl15⟩) (c15 : PySem.W.codeIn K cd15 "choose" = true) (k15 : PySem.W.keepIn K (.ref f15) = true)
    (a16 : PySem.W.nsIn K mainGlobals "is_fall" = some (some (.ref f16))) (l16 : K.lookup f16 = some ⟨oc16, od16, .func (PySem.W.fnOf "is_fall" "is_fall" (defArgs (top 24)) (defBody (top 24)) (defScope (top 24)) .none kV16 dc16 pm16 an16 cd16 ct16), sl16⟩) (c16 : PySem.W.codeIn K cd16 "is_fall" = true) (k16 : PySem.W.keepIn K (.ref f16) = true)
    (a17 : PySem.W.nsIn K mainGlobals "fall_of" = some (some (.ref f17))) (l17 : K.lookup f17 = some ⟨oc17, od17, .func (PySem.W.fnOf "fall_of" "fall_of" (defArgs (top 25)) (defBody (top 25)) (defScope (top 25)) .none kV17 dc17 pm17 an17 cd17 ct17), sl17⟩) (c17 : PySem.W.codeIn K cd17 "fall_of" = true) (k17 : PySem.W.keepIn K (.ref f17) = true)
    (a18 : PySem.W.nsIn K mainGlobals "fall_sum" = some (some (.ref f18))) (l18 : K.lookup f18 = some ⟨oc18, od18, .func (PySem.W.fnOf "fall_sum" "fall_sum" (defArgs (top 26)) (defBody (top 26)) (defScope (top 26)) .none kV18 dc18 pm18 an18 cd18 ct18), sl18⟩) (c18 : PySem.W.codeIn K cd18 "fall_sum" = true) (k18 : PySem.W.keepIn K (.ref f18) = true)
    (a19 : PySem.W.nsIn K mainGlobals "fall_times" = some (some (.ref f19))) (l19 : K.lookup f19 = some ⟨oc19, od19, .func (PySem.W.fnOf "fall_times" "fall_times" (defArgs (top 27)) (defBody (top 27)) (defScope (top 27)) .none kV19 dc19 pm19 an19 cd19 ct19), sl19⟩) (c19 : PySem.W.codeIn K cd19 "fall_times" = true) (k19 : PySem.W.keepIn K (.ref f19) = true)
    (a20 : PySem.W.nsIn K mainGlobals "fall_raised" = some (some (.ref f20))) (l20 : K.lookup f20 = some ⟨oc20, od20, .func (PySem.W.fnOf "fall_raised" "fall_raised" (defArgs (top 28)) (defBody (top 28)) (defScope (top 28)) .none kV20 dc20 pm20 an20 cd20 ct20), sl20⟩) (c20 : PySem.W.codeIn K cd20 "fall_raised" = true) (k20 : PySem.W.keepIn K (.ref f20) = true)
    (a21 : PySem.W.nsIn K mainGlobals "fall_back" = some (some (.ref f21))) (l21 : K.lookup f21 = some ⟨oc21, od21, .func (PySem.W.fnOf "fall_back" "fall_back" (defArgs (top 29)) (defBody (top 29)) (defScope (top 29)) .none kV21 dc21 pm21 an21 cd21 ct21), sl21⟩) (c21 : PySem.W.codeIn K cd21 "fall_back" = true) (k21 : PySem.W.keepIn K (.ref f21) = true)
    (a22 : PySem.W.nsIn K mainGlobals "is_above" = some (some (.ref f22))) (l22 : K.lookup f22 = some ⟨oc22, od22, .func (PySem.W.fnOf "is_above" "is_above" (defArgs (top 30)) (defBody (top 30)) (defScope (top 30)) .none kV22 dc22 pm22 an22 cd22 ct22), sl22⟩) (c22 : PySem.W.codeIn K cd22 "is_above" = true) (k22 : PySem.W.keepIn K (.ref f22) = true)
    (a23 : PySem.W.nsIn K mainGlobals "falls_below" = some (some (.ref f23))) (l23 : K.lookup f23 = some ⟨oc23, od23, .func (PySem.W.fnOf "falls_below" "falls_below" (defArgs (top 31)) (defBody (top 31)) (defScope (top 31)) .none kV23 dc23 pm23 an23 cd23 ct23), sl23⟩) (c23 : PySem.W.codeIn K cd23 "falls_below" = true) (k23 : PySem.W.keepIn K (.ref f23) = true)
    (a24 : PySem.W.nsIn K mainGlobals "transposed" = some (some (.ref f24))) (l24 : K.lookup f24 = some ⟨oc24, od24, .func (PySem.W.fnOf "transposed" "transposed" (defArgs (top 32)) (defBody (top 32)) (defScope (top 32)) .none kV24 dc24 pm24 an24 cd24 ct24), sl24⟩) (c24 : PySem.W.codeIn K cd24 "transposed" = true) (k24 : PySem.W.keepIn K (.ref f24) = true)
    (a25 : PySem.W.nsIn K mainGlobals "how_many_falls" = some (some (.ref f25))) (l25 : K.lookup f25 = some ⟨oc25, od25, .func (PySem.W.fnOf "how_many_falls" "how_many_falls" (defArgs (top 33)) (defBody (top 33)) (defScope (top 33)) .none kV25 dc25 pm25 an25 cd25 ct25), sl25⟩) (c25 : PySem.W.codeIn K cd25 "how_many_falls" = true) (k25 : PySem.W.keepIn K (.ref f25) = true)
    (a26 : PySem.W.nsIn K mainGlobals "_law_box" = some (some (.ref f26))) (l26 : K.lookup f26 = some ⟨oc26, od26, .func (PySem.W.fnOf "_law_box" "_law_box" (defArgs (top 35)) (defBody (top 35)) (defScope (top 35)) .none kV26 dc26 pm26 an26 cd26 ct26), sl26⟩) (c26 : PySem.W.codeIn K cd26 "_law_box" = true) (k26 : PySem.W.keepIn K (.ref f26) = true)
    (a27 : PySem.W.nsIn K mainGlobals "_law_take" = some (some (.ref f27))) (l27 : K.lookup f27 = some ⟨oc27, od27, .func (PySem.W.fnOf "_law_take" "_law_take" (defArgs (top 36)) (defBody (top 36)) (defScope (top 36)) .none kV27 dc27 pm27 an27 cd27 ct27), sl27⟩) (c27 : PySem.W.codeIn K cd27 "_law_take" = true) (k27 : PySem.W.keepIn K (.ref f27) = true)
    (a28 : PySem.W.nsIn K mainGlobals "_law_cells" = some (some (.ref f28))) (l28 : K.lookup f28 = some ⟨oc28, od28, .func (PySem.W.fnOf "_law_cells" "_law_cells" (defArgs (top 37)) (defBody (top 37)) (defScope (top 37)) .none kV28 dc28 pm28 an28 cd28 ct28), sl28⟩) (c28 : PySem.W.codeIn K cd28 "_law_cells" = true) (k28 : PySem.W.keepIn K (.ref f28) = true)
    (a29 : PySem.W.nsIn K mainGlobals "_law_of" = some (some (.ref f29))) (l29 : K.lookup f29 = some ⟨oc29, od29, .func (PySem.W.fnOf "_law_of" "_law_of" (defArgs (top 38)) (defBody (top 38)) (defScope (top 38)) .none kV29 dc29 pm29 an29 cd29 ct29), sl29⟩) (c29 : PySem.W.codeIn K cd29 "_law_of" = true) (k29 : PySem.W.keepIn K (.ref f29) = true)
    (a30 : PySem.W.nsIn K mainGlobals "_law_pick" = some (some (.ref f30))) (l30 : K.lookup f30 = some ⟨oc30, od30, .func (PySem.W.fnOf "_law_pick" "_law_pick" (defArgs (top 39)) (defBody (top 39)) (defScope (top 39)) .none kV30 dc30 pm30 an30 cd30 ct30), sl30⟩) (c30 : PySem.W.codeIn K cd30 "_law_pick" = true) (k30 : PySem.W.keepIn K (.ref f30) = true)
    (a31 : PySem.W.nsIn K mainGlobals "_law_same" = some (some (.ref f31))) (l31 : K.lookup f31 = some ⟨oc31, od31, .func (PySem.W.fnOf "_law_same" "_law_same" (defArgs (top 40)) (defBody (top 40)) (defScope (top 40)) .none kV31 dc31 pm31 an31 cd31 ct31), sl31⟩) (c31 : PySem.W.codeIn K cd31 "_law_same" = true) (k31 : PySem.W.keepIn K (.ref f31) = true)
    (a32 : PySem.W.nsIn K mainGlobals "_law_fall" = some (some (.ref f32))) (l32 : K.lookup f32 = some ⟨oc32, od32, .func (PySem.W.fnOf "_law_fall" "_law_fall" (defArgs (top 41)) (defBody (top 41)) (defScope (top 41)) .none kV32 dc32 pm32 an32 cd32 ct32), sl32⟩) (c32 : PySem.W.codeIn K cd32 "_law_fall" = true) (k32 : PySem.W.keepIn K (.ref f32) = true)
    (a33 : PySem.W.nsIn K mainGlobals "_law_plus" = some (some (.ref f33))) (l33 : K.lookup f33 = some ⟨oc33, od33, .func (PySem.W.fnOf "_law_plus" "_law_plus" (defArgs (top 42)) (defBody (top 42)) (defScope (top 42)) .none kV33 dc33 pm33 an33 cd33 ct33), sl33⟩) (c33 : PySem.W.codeIn K cd33 "_law_plus" = true) (k33 : PySem.W.keepIn K (.ref f33) = true)
    (a34 : PySem.W.nsIn K mainGlobals "_law_times" = some (some (.ref f34))) (l34 : K.lookup f34 = some ⟨oc34, od34, .func (PySem.W.fnOf "_law_times" "_law_times" (defArgs (top 43)) (defBody (top 43)) (defScope (top 43)) .none kV34 dc34 pm34 an34 cd34 ct34), sl34⟩) (c34 : PySem.W.codeIn K cd34 "_law_times" = true) (k34 : PySem.W.keepIn K (.ref f34) = true)
    (a35 : PySem.W.nsIn K mainGlobals "_law_above" = some (some (.ref f35))) (l35 : K.lookup f35 = some ⟨oc35, od35, .func (PySem.W.fnOf "_law_above" "_law_above" (defArgs (top 44)) (defBody (top 44)) (defScope (top 44)) .none kV35 dc35 pm35 an35 cd35 ct35), sl35⟩) (c35 : PySem.W.codeIn K cd35 "_law_above" = true) (k35 : PySem.W.keepIn K (.ref f35) = true)
    (a36 : PySem.W.nsIn K mainGlobals "_law_shapes_of" = some (some (.ref f36))) (l36 : K.lookup f36 = some ⟨oc36, od36, .func (PySem.W.fnOf "_law_shapes_of" "_law_shapes_of" (defArgs (top 45)) (defBody (top 45)) (defScope (top 45)) .none kV36 dc36 pm36 an36 cd36 ct36), sl36⟩) (c36 : PySem.W.codeIn K cd36 "_law_shapes_of" = true) (k36 : PySem.W.keepIn K (.ref f36) = true)
    (a37 : PySem.W.nsIn K mainGlobals "law" = some (some (.ref f37))) (l37 : K.lookup f37 = some ⟨oc37, od37, .func (PySem.W.fnOf "law" "law" (defArgs (top 46)) (defBody (top 46)) (defScope (top 46)) .none kV37 dc37 pm37 an37 cd37 ct37), sl37⟩) (c37 : PySem.W.codeIn K cd37 "law" = true) (k37 : PySem.W.keepIn K (.ref f37) = true)
    {t0} (v0 : PySem.W.nsIn K mainGlobals "MOST_TOLD" = some (some (.int (2000) t0)))
    {t1} (v1 : PySem.W.nsIn K mainGlobals "MOST_NUMBERS" = some (some (.int (1000) t1)))
    (z0 : PySem.W.nsIn K mainGlobals "abs" = some none)
    (z1 : PySem.W.nsIn K mainGlobals "int" = some none)
    (z2 : PySem.W.nsIn K mainGlobals "len" = some none)
    (z3 : PySem.W.nsIn K mainGlobals "min" = some none)
    (z4 : PySem.W.nsIn K mainGlobals "max" = some none)
    (z5 : PySem.W.nsIn K mainGlobals "tuple" = some none)
    (z6 : PySem.W.nsIn K mainGlobals "all" = some none)
    (z7 : PySem.W.nsIn K mainGlobals "any" = some none)
    (z8 : PySem.W.nsIn K mainGlobals "sum" = some none)
    (z9 : PySem.W.nsIn K mainGlobals "bool" = some none)
    (z10 : PySem.W.nsIn K mainGlobals "str" = some none)
    (z11 : PySem.W.nsIn K mainGlobals "list" = some none)
    (z12 : PySem.W.nsIn K mainGlobals "sorted" = some none)
    (z13 : PySem.W.nsIn K mainGlobals "isinstance" = some none)
    (z14 : PySem.W.nsIn K mainGlobals "range" = some none)
    (z15 : PySem.W.nsIn K mainGlobals "enumerate" = some none)
    (z16 : PySem.W.nsIn K mainGlobals "zip" = some none)
    (z17 : PySem.W.nsIn K mainGlobals "super" = some none)
    (z18 : PySem.W.nsIn K mainGlobals "ValueError" = some none)
    (n0 : PySem.W.nsIn K mainGlobals "CanNot" = some (some (.ref C0))) (y0 : ClsF l.prog K C0)
    (n1 : PySem.W.nsIn K mainGlobals "TooMany" = some (some (.ref C1))) (y1 : ClsF l.prog K C1)
    (n2 : PySem.W.nsIn K mainGlobals "Unfit" = some (some (.ref C2))) (y2 : ClsF l.prog K C2)
    (x0_0 : PySem.W.exmOne K (.ref C0) (.ref C0) = some true)
    (x1_0 : PySem.W.exmOne K (.ref C1) (.ref C0) = some false)
    (x2_0 : PySem.W.exmOne K (.ref C2) (.ref C0) = some false)
    (x0_1 : PySem.W.exmOne K (.ref C0) (.ref C1) = some false)
    (x1_1 : PySem.W.exmOne K (.ref C1) (.ref C1) = some true)
    (x2_1 : PySem.W.exmOne K (.ref C2) (.ref C1) = some false)
    (x0_2 : PySem.W.exmOne K (.ref C0) (.ref C2) = some false)
    (x1_2 : PySem.W.exmOne K (.ref C1) (.ref C2) = some false)
    (x2_2 : PySem.W.exmOne K (.ref C2) (.ref C2) = some true)
    : ∃ fd : FuncData, (∀ (s : Shared) (v : Value), BindsTo s fd ⟨[v], []⟩ [("script", v)]) ∧ ∀ base : Heap, K.In base → base.Ns mainGlobals mg → FnOk l.prog w K mg base (L2.CX l.prog w) 12 fa fd ["script"] (spL K) := by
  have e := hfa.symm.trans (PySem.W.mg_of X G a37)
  cases e
  have F0 := fun_mk (st := top 5) l0 c0 k0
  have F1 := fun_mk (st := top 6) l1 c1 k1
  have F2 := fun_mk (st := top 7) l2 c2 k2
  have F3 := fun_mk (st := top 8) l3 c3 k3
  have F4 := fun_mk (st := top 9) l4 c4 k4
  have F5 := fun_mk (st := top 13) l5 c5 k5
  have F6 := fun_mk (st := top 14) l6 c6 k6
  have F7 := fun_mk (st := top 15) l7 c7 k7
  have F8 := fun_mk (st := top 16) l8 c8 k8
  have F9 := fun_mk (st := top 17) l9 c9 k9
  have F10 := fun_mk (st := top 18) l10 c10 k10
  have F11 := fun_mk (st := top 19) l11 c11 k11
  have F12 := fun_mk (st := top 20) l12 c12 k12
  have F13 := fun_mk (st := top 21) l13 c13 k13
  have F14 := fun_mk (st := top 22) l14 c14 k14
  have F15 := fun_mk (st := top 23) l15 c15 k15
  have F16 := fun_mk (st := top 24) l16 c16 k16
  have F17 := fun_mk (st := top 25) l17 c17 k17
  have F18 := fun_mk (st := top 26) l18 c18 k18
  have F19 := fun_mk (st := top 27) l19 c19 k19
  have F20 := fun_mk (st := top 28) l20 c20 k20
  have F21 := fun_mk (st := top 29) l21 c21 k21
  have F22 := fun_mk (st := top 30) l22 c22 k22
  have F23 := fun_mk (st := top 31) l23 c23 k23
  have F24 := fun_mk (st := top 32) l24 c24 k24
  have F25 := fun_mk (st := top 33) l25 c25 k25
  have F26 := fun_mk (st := top 35) l26 c26 k26
  have F27 := fun_mk (st := top 36) l27 c27 k27
  have F28 := fun_mk (st := top 37) l28 c28 k28
  have F29 := fun_mk (st := top 38) l29 c29 k29
  have F30 := fun_mk (st := top 39) l30 c30 k30
  have F31 := fun_mk (st := top 40) l31 c31 k31
  have F32 := fun_mk (st := top 41) l32 c32 k32
  have F33 := fun_mk (st := top 42) l33 c33 k33
  have F34 := fun_mk (st := top 43) l34 c34 k34
  have F35 := fun_mk (st := top 44) l35 c35 k35
  have F36 := fun_mk (st := top 45) l36 c36 k36
  have F37 := fun_mk (st := top 46) l37 c37 k37
  have hM : ModOk l.prog K mg tab gvs xs (fun c => if c = 0 then .ref C0 else if c = 1 then .ref C1 else if c = 2 then .ref C2 else .none) := by
    refine ⟨fun x c hx => ?_, fun r hr => ?_, fun x hx => ?_, fun x u hx => ?_⟩
    · have hx2 := PySem.mem_of_lookup hx
      simp only [xs, List.mem_cons, List.not_mem_nil, or_false, Prod.mk.injEq] at hx2
      rcases hx2 with ⟨rfl, rfl⟩ | ⟨rfl, rfl⟩ | ⟨rfl, rfl⟩
      · refine ⟨by decide, C0, rfl, PySem.W.mg_of X G n0, y0.sup, y0.exc, y0.kit, fun c' hc' => ?_⟩
        have hc2 : c' < 3 := hc'
        match c', hc2 with
        | 0, _ => exact x0_0
        | 1, _ => exact x1_0
        | 2, _ => exact x2_0
      · refine ⟨by decide, C1, rfl, PySem.W.mg_of X G n1, y1.sup, y1.exc, y1.kit, fun c' hc' => ?_⟩
        have hc2 : c' < 3 := hc'
        match c', hc2 with
        | 0, _ => exact x0_1
        | 1, _ => exact x1_1
        | 2, _ => exact x2_1
      · refine ⟨by decide, C2, rfl, PySem.W.mg_of X G n2, y2.sup, y2.exc, y2.kit, fun c' hc' => ?_⟩
        have hc2 : c' < 3 := hc'
        match c', hc2 with
        | 0, _ => exact x0_2
        | 1, _ => exact x1_2
        | 2, _ => exact x2_2
    · simp only [tab, List.mem_cons, List.not_mem_nil, or_false] at hr
      rcases hr with rfl | rfl | rfl | rfl | rfl | rfl | rfl | rfl | rfl | rfl | rfl | rfl | rfl | rfl | rfl | rfl | rfl | rfl | rfl | rfl | rfl | rfl | rfl | rfl | rfl | rfl | rfl | rfl | rfl | rfl | rfl | rfl | rfl | rfl | rfl | rfl | rfl | rfl
      · exact ⟨_, _, F0, bind_is_number, PySem.W.mg_of X G a0⟩
      · exact ⟨_, _, F1, bind_is_from, PySem.W.mg_of X G a1⟩
      · exact ⟨_, _, F2, bind_is_within, PySem.W.mg_of X G a2⟩
      · exact ⟨_, _, F3, bind_are_numbers, PySem.W.mg_of X G a3⟩
      · exact ⟨_, _, F4, bind_tupled, PySem.W.mg_of X G a4⟩
      · exact ⟨_, _, F5, bind_is_fall_in, PySem.W.mg_of X G a5⟩
      · exact ⟨_, _, F6, bind_sure_fall, PySem.W.mg_of X G a6⟩
      · exact ⟨_, _, F7, bind_sure_falls, PySem.W.mg_of X G a7⟩
      · exact ⟨_, _, F8, bind_added, PySem.W.mg_of X G a8⟩
      · exact ⟨_, _, F9, bind_sorted_in, PySem.W.mg_of X G a9⟩
      · exact ⟨_, _, F10, bind_back_in, PySem.W.mg_of X G a10⟩
      · exact ⟨_, _, F11, bind_is_above_in, PySem.W.mg_of X G a11⟩
      · exact ⟨_, _, F12, bind_below_in, PySem.W.mg_of X G a12⟩
      · exact ⟨_, _, F13, bind_steps_below, PySem.W.mg_of X G a13⟩
      · exact ⟨_, _, F14, bind_transposed_in, PySem.W.mg_of X G a14⟩
      · exact ⟨_, _, F15, bind_choose, PySem.W.mg_of X G a15⟩
      · exact ⟨_, _, F16, bind_is_fall, PySem.W.mg_of X G a16⟩
      · exact ⟨_, _, F17, bind_fall_of, PySem.W.mg_of X G a17⟩
      · exact ⟨_, _, F18, bind_fall_sum, PySem.W.mg_of X G a18⟩
      · exact ⟨_, _, F19, bind_fall_times, PySem.W.mg_of X G a19⟩
      · exact ⟨_, _, F20, bind_fall_raised, PySem.W.mg_of X G a20⟩
      · exact ⟨_, _, F21, bind_fall_back, PySem.W.mg_of X G a21⟩
      · exact ⟨_, _, F22, bind_is_above, PySem.W.mg_of X G a22⟩
      · exact ⟨_, _, F23, bind_falls_below, PySem.W.mg_of X G a23⟩
      · exact ⟨_, _, F24, bind_transposed, PySem.W.mg_of X G a24⟩
      · exact ⟨_, _, F25, bind_how_many_falls, PySem.W.mg_of X G a25⟩
      · exact ⟨_, _, F26, bind_ulaw_box, PySem.W.mg_of X G a26⟩
      · exact ⟨_, _, F27, bind_ulaw_take, PySem.W.mg_of X G a27⟩
      · exact ⟨_, _, F28, bind_ulaw_cells, PySem.W.mg_of X G a28⟩
      · exact ⟨_, _, F29, bind_ulaw_of, PySem.W.mg_of X G a29⟩
      · exact ⟨_, _, F30, bind_ulaw_pick, PySem.W.mg_of X G a30⟩
      · exact ⟨_, _, F31, bind_ulaw_same, PySem.W.mg_of X G a31⟩
      · exact ⟨_, _, F32, bind_ulaw_fall, PySem.W.mg_of X G a32⟩
      · exact ⟨_, _, F33, bind_ulaw_plus, PySem.W.mg_of X G a33⟩
      · exact ⟨_, _, F34, bind_ulaw_times, PySem.W.mg_of X G a34⟩
      · exact ⟨_, _, F35, bind_ulaw_above, PySem.W.mg_of X G a35⟩
      · exact ⟨_, _, F36, bind_ulaw_shapes_of, PySem.W.mg_of X G a36⟩
      · exact ⟨_, _, F37, bind_law, PySem.W.mg_of X G a37⟩
    · simp only [blts, List.mem_cons, List.not_mem_nil, or_false] at hx
      rcases hx with rfl | rfl | rfl | rfl | rfl | rfl | rfl | rfl | rfl | rfl | rfl | rfl | rfl | rfl | rfl | rfl | rfl | rfl | rfl
      · exact PySem.W.mg_none_of X G z0
      · exact PySem.W.mg_none_of X G z1
      · exact PySem.W.mg_none_of X G z2
      · exact PySem.W.mg_none_of X G z3
      · exact PySem.W.mg_none_of X G z4
      · exact PySem.W.mg_none_of X G z5
      · exact PySem.W.mg_none_of X G z6
      · exact PySem.W.mg_none_of X G z7
      · exact PySem.W.mg_none_of X G z8
      · exact PySem.W.mg_none_of X G z9
      · exact PySem.W.mg_none_of X G z10
      · exact PySem.W.mg_none_of X G z11
      · exact PySem.W.mg_none_of X G z12
      · exact PySem.W.mg_none_of X G z13
      · exact PySem.W.mg_none_of X G z14
      · exact PySem.W.mg_none_of X G z15
      · exact PySem.W.mg_none_of X G z16
      · exact PySem.W.mg_none_of X G z17
      · exact PySem.W.mg_none_of X G z18
    · have hx2 := PySem.mem_of_lookup hx
      simp only [gvs, List.mem_cons, List.not_mem_nil, or_false, Prod.mk.injEq] at hx2
      rcases hx2 with ⟨rfl, rfl⟩ | ⟨rfl, rfl⟩
      · exact ⟨_, .int (2000), PySem.W.mg_of X G v0, ⟨_, rfl⟩, fun _ _ _ => .int _⟩
      · exact ⟨_, .int (1000), PySem.W.mg_of X G v1, ⟨_, rfl⟩, fun _ _ _ => .int _⟩
  refine ⟨PySem.W.fnOf "law" "law" (defArgs (top 46)) (defBody (top 46)) (defScope (top 46)) .none kV37 dc37 pm37 an37 cd37 ct37, fun s v => .of_eq rfl, fun base _ _ => ?_⟩
  exact law_ok (wf := 0) (d := 12) (i := 37) (r := r_law) tbl hM rfl rfl F37 fun ns u S hl hu => run_law (by decide) ns u S hl hu
theorem walk {l : PySem.W.OpenLaw} {q : Program} {loose : List Str} {XP : (Str → Option Value) → Heap → Prop} {YP : World → Heap → Prop} {d : DefRec} {K : Params → PySem.W.Frag} (hn : l.most = some 63) (hdf : d.params.defaults = [])
    (hY : ∀ (w : World) (h : Heap), YP w h → (K w.params).In h)
    (F : ∀ (w : World) (mg : Str → Option Value) (fa : Addr) (h : Heap), (K w.params).In h → h.Ns mainGlobals mg → mg d.name = some (.ref fa) →
      ∃ fd : FuncData, (∀ (s : Shared) (u : Value), BindsTo s fd ⟨[u], []⟩ [("script", u)]) ∧ ∀ base : Heap, (K w.params).In base → base.Ns mainGlobals mg → FnOk l.prog w (K w.params) mg base (L2.CX l.prog w) 12 fa fd ["script"] (spL (K w.params))) :
    PySem.W.WalkO q loose XP YP l.row.toRowW d [] (fun f vs => PySem.call f vs) :=
  L2.walk_of (n := 63) (k := 12) (x := "script") (CX := fun w => L2.CX l.prog w) (sp := fun w => spL (K w.params)) hn (by decide) hdf ⟨rfl, by decide, by decide⟩ hY F (fun _ _ a ns hl ho hS => ⟨a, ns, rfl, hS, hl, ho, fun _ => rfl⟩) fun w H s e s' z => by
    obtain ⟨x, B, H', c, d', h1, h2, h3, h4, h5, h6, h7, h8⟩ := z
    exact h8
end K41
open PySem PySem.W PyProof.Rows
set_option maxRecDepth 100000 in
set_option maxHeartbeats 0 in
theorem PySem.Challenge.cw_tentfalls_k41_main_falls_of_twelve_numbe_holds : PySem.Challenge.rw_tentfalls_k41_main_falls_of_twelve_numbe.Holds := by
  w_on; o_law; k_head; (case hw => w_witness2)
  k_fill
  refine K41.walk (l := PySem.Challenge.rw_tentfalls_k41_main_falls_of_twelve_numbe) rfl rfl (fun w h Y => PySem.W.kIn_of Y) ?F
  case F =>
    intro w mg fa h KX G hmg
    refine' K41.all_mk KX G hmg ?a0 ?l0 ?c0 ?k0 ?a1 ?l1 ?c1 ?k1 ?a2 ?l2 ?c2 ?k2 ?a3 ?l3 ?c3 ?k3 ?a4 ?l4 ?c4 ?k4 ?a5 ?l5 ?c5 ?k5 ?a6 ?l6 ?c6 ?k6 ?a7 ?l7 ?c7 ?k7 ?a8 ?l8 ?c8 ?k8 ?a9 ?l9 ?c9 ?k9 ?a10 ?l10 ?c10 ?k10 ?a11 ?l11 ?c11 ?k11 ?a12 ?l12 ?c12 ?k12 ?a13 ?l13 ?c13 ?k13 ?a14 ?l14 ?c14 ?k14 ?a15 ?l15 ?c15 ?k15 ?a16 ?l16 ?c16 ?k16 ?a17 ?l17 ?c17 ?k17 ?a18 ?l18 ?c18 ?k18 ?a19 ?l19 ?c19 ?k19 ?a20 ?l20 ?c20 ?k20 ?a21 ?l21 ?c21 ?k21 ?a22 ?l22 ?c22 ?k22 ?a23 ?l23 ?c23 ?k23 ?a24 ?l24 ?c24 ?k24 ?a25 ?l25 ?c25 ?k25 ?a26 ?l26 ?c26 ?k26 ?a27 ?l27 ?c27 ?k27 ?a28 ?l28 ?c28 ?k28 ?a29 ?l29 ?c29 ?k29 ?a30 ?l30 ?c30 ?k30 ?a31 ?l31 ?c31 ?k31 ?a32 ?l32 ?c32 ?k32 ?a33 ?l33 ?c33 ?k33 ?a34 ?l34 ?c34 ?k34 ?a35 ?l35 ?c35 ?k35 ?a36 ?l36 ?c36 ?k36 ?a37 ?l37 ?c37 ?k37 ?v0 ?v1 ?z0 ?z1 ?z2 ?z3 ?z4 ?z5 ?z6 ?z7 ?z8 ?z9 ?z10 ?z11 ?z12 ?z13 ?z14 ?z15 ?z16 ?z17 ?z18 ?n0 ?y0 ?n1 ?y1 ?n2 ?y2 ?x0_0 ?x1_0 ?x2_0 ?x0_1 ?x1_1 ?x2_1 ?x0_2 ?x1_2 ?x2_2
    (case a0 => k_is)
    (case l0 => k_is)
    (case c0 => k_is)
    (case k0 => k_is)
    (case a1 => k_is)
    (case l1 => k_is)
    (case c1 => k_is)
    (case k1 => k_is)
    (case a2 => k_is)
    (case l2 => k_is)
    (case c2 => k_is)
    (case k2 => k_is)
    (case a3 => k_is)
    (case l3 => k_is)
    (case c3 => k_is)
    (case k3 => k_is)
    (case a4 => k_is)
    (case l4 => k_is)
    (case c4 => k_is)
    (case k4 => k_is)
    (case a5 => k_is)
    (case l5 => k_is)
    (case c5 => k_is)
    (case k5 => k_is)
    (case a6 => k_is)
    (case l6 => k_is)
    (case c6 => k_is)
    (case k6 => k_is)
    (case a7 => k_is)
    (case l7 => k_is)
    (case c7 => k_is)
    (case k7 => k_is)
    (case a8 => k_is)
    (case l8 => k_is)
    (case c8 => k_is)
    (case k8 => k_is)
    (case a9 => k_is)
    (case l9 => k_is)
    (case c9 => k_is)
    (case k9 => k_is)
    (case a10 => k_is)
    (case l10 => k_is)
    (case c10 => k_is)
    (case k10 => k_is)
    (case a11 => k_is)
    (case l11 => k_is)
    (case c11 => k_is)
    (case k11 => k_is)
    (case a12 => k_is)
    (case l12 => k_is)
    (case c12 => k_is)
    (case k12 => k_is)
    (case a13 => k_is)
    (case l13 => k_is)
    (case c13 => k_is)
    (case k13 => k_is)
    (case a14 => k_is)
    (case l14 => k_is)
    (case c14 => k_is)
    (case k14 => k_is)
    (case a15 => k_is)
    (case l15 => k_is)
    (case c15 => k_is)
    (case k15 => k_is)
    (case a16 => k_is)
    (case l16 => k_is)
    (case c16 => k_is)
    (case k16 => k_is)
    (case a17 => k_is)
    (case l17 => k_is)
    (case c17 => k_is)
    (case k17 => k_is)
    (case a18 => k_is)
    (case l18 => k_is)
    (case c18 => k_is)
    (case k18 => k_is)
    (case a19 => k_is)
    (case l19 => k_is)
    (case c19 => k_is)
    (case k19 => k_is)
    (case a20 => k_is)
    (case l20 => k_is)
    (case c20 => k_is)
    (case k20 => k_is)
    (case a21 => k_is)
    (case l21 => k_is)
    (case c21 => k_is)
    (case k21 => k_is)
    (case a22 => k_is)
    (case l22 => k_is)
    (case c22 => k_is)
    (case k22 => k_is)
    (case a23 => k_is)
    (case l23 => k_is)
    (case c23 => k_is)
    (case k23 => k_is)
    (case a24 => k_is)
    (case l24 => k_is)
    (case c24 => k_is)
    (case k24 => k_is)
    (case a25 => k_is)
    (case l25 => k_is)
    (case c25 => k_is)
    (case k25 => k_is)
    (case a26 => k_is)
    (case l26 => k_is)
    (case c26 => k_is)
    (case k26 => k_is)
    (case a27 => k_is)
    (case l27 => k_is)
    (case c27 => k_is)
    (case k27 => k_is)
    (case a28 => k_is)
    (case l28 => k_is)
    (case c28 => k_is)
    (case k28 => k_is)
    (case a29 => k_is)
    (case l29 => k_is)
    (case c29 => k_is)
    (case k29 => k_is)
    (case a30 => k_is)
    (case l30 => k_is)
    (case c30 => k_is)
    (case k30 => k_is)
    (case a31 => k_is)
    (case l31 => k_is)
    (case c31 => k_is)
    (case k31 => k_is)
    (case a32 => k_is)
    (case l32 => k_is)
    (case c32 => k_is)
    (case k32 => k_is)
    (case a33 => k_is)
    (case l33 => k_is)
    (case c33 => k_is)
    (case k33 => k_is)
    (case a34 => k_is)
    (case l34 => k_is)
    (case c34 => k_is)
    (case k34 => k_is)
    (case a35 => k_is)
    (case l35 => k_is)
    (case c35 => k_is)
    (case k35 => k_is)
    (case a36 => k_is)
    (case l36 => k_is)
    (case c36 => k_is)
    (case k36 => k_is)
    (case a37 => k_is)
    (case l37 => k_is)
    (case c37 => k_is)
    (case k37 => k_is)
    (case v0 => k_is)
    (case v1 => k_is)
    (case z0 => k_is)
    (case z1 => k_is)
    (case z2 => k_is)
    (case z3 => k_is)
    (case z4 => k_is)
    (case z5 => k_is)
    (case z6 => k_is)
    (case z7 => k_is)
    (case z8 => k_is)
    (case z9 => k_is)
    (case z10 => k_is)
    (case z11 => k_is)
    (case z12 => k_is)
    (case z13 => k_is)
    (case z14 => k_is)
    (case z15 => k_is)
    (case z16 => k_is)
    (case z17 => k_is)
    (case z18 => k_is)
    (case n0 => k_is)
    (case y0 =>
      refine' K41.cls_mk ?hck ?hce ?hct ?hci ?hcl ?hcd ?hcti ?hcx ?hcp ?hcdl ?hcv ?hcf ?hccl ?hccd ?hcm ?hs1 ?hs2 ?hs3 ?hs4 ?hs5 ?hth ?hcs ?hcw ?hbd ?hs6 ?hs7 ?hs8 ?he1 ?he2 ?he4 ?he5 ?he6 ?he7 ?he8 ?hkv ?hE
      (case hck => first | k_is | kx_is | ks_is | kit_is | rfl | exact fun _ _ => BindsTo.of_eq rfl | exact fun _ => ⟨_, rfl⟩ | decide +kernel)
      (case hce => first | k_is | kx_is | ks_is | kit_is | rfl | exact fun _ _ => BindsTo.of_eq rfl | exact fun _ => ⟨_, rfl⟩ | decide +kernel)
      (case hct => first | k_is | kx_is | ks_is | kit_is | rfl | exact fun _ _ => BindsTo.of_eq rfl | exact fun _ => ⟨_, rfl⟩ | decide +kernel)
      (case hci => first | k_is | kx_is | ks_is | kit_is | rfl | exact fun _ _ => BindsTo.of_eq rfl | exact fun _ => ⟨_, rfl⟩ | decide +kernel)
      (case hcl => first | k_is | kx_is | ks_is | kit_is | rfl | exact fun _ _ => BindsTo.of_eq rfl | exact fun _ => ⟨_, rfl⟩ | decide +kernel)
      (case hcd => first | k_is | kx_is | ks_is | kit_is | rfl | exact fun _ _ => BindsTo.of_eq rfl | exact fun _ => ⟨_, rfl⟩ | decide +kernel)
      (case hcti => first | k_is | kx_is | ks_is | kit_is | rfl | exact fun _ _ => BindsTo.of_eq rfl | exact fun _ => ⟨_, rfl⟩ | decide +kernel)
      (case hcx => first | k_is | kx_is | ks_is | kit_is | rfl | exact fun _ _ => BindsTo.of_eq rfl | exact fun _ => ⟨_, rfl⟩ | decide +kernel)
      (case hcp => first | k_is | kx_is | ks_is | kit_is | rfl | exact fun _ _ => BindsTo.of_eq rfl | exact fun _ => ⟨_, rfl⟩ | decide +kernel)
      (case hcdl => first | k_is | kx_is | ks_is | kit_is | rfl | exact fun _ _ => BindsTo.of_eq rfl | exact fun _ => ⟨_, rfl⟩ | decide +kernel)
      (case hcv => first | k_is | kx_is | ks_is | kit_is | rfl | exact fun _ _ => BindsTo.of_eq rfl | exact fun _ => ⟨_, rfl⟩ | decide +kernel)
      (case hcf => first | k_is | kx_is | ks_is | kit_is | rfl | exact fun _ _ => BindsTo.of_eq rfl | exact fun _ => ⟨_, rfl⟩ | decide +kernel)
      (case hccl => first | k_is | kx_is | ks_is | kit_is | rfl | exact fun _ _ => BindsTo.of_eq rfl | exact fun _ => ⟨_, rfl⟩ | decide +kernel)
      (case hccd => first | k_is | kx_is | ks_is | kit_is | rfl | exact fun _ _ => BindsTo.of_eq rfl | exact fun _ => ⟨_, rfl⟩ | decide +kernel)
      (case hcm => first | k_is | kx_is | ks_is | kit_is | rfl | exact fun _ _ => BindsTo.of_eq rfl | exact fun _ => ⟨_, rfl⟩ | decide +kernel)
      (case hs1 => first | k_is | kx_is | ks_is | kit_is | rfl | exact fun _ _ => BindsTo.of_eq rfl | exact fun _ => ⟨_, rfl⟩ | decide +kernel)
      (case hs2 => first | k_is | kx_is | ks_is | kit_is | rfl | exact fun _ _ => BindsTo.of_eq rfl | exact fun _ => ⟨_, rfl⟩ | decide +kernel)
      (case hs3 => first | k_is | kx_is | ks_is | kit_is | rfl | exact fun _ _ => BindsTo.of_eq rfl | exact fun _ => ⟨_, rfl⟩ | decide +kernel)
      (case hs4 => first | k_is | kx_is | ks_is | kit_is | rfl | exact fun _ _ => BindsTo.of_eq rfl | exact fun _ => ⟨_, rfl⟩ | decide +kernel)
      (case hs5 => first | k_is | kx_is | ks_is | kit_is | rfl | exact fun _ _ => BindsTo.of_eq rfl | exact fun _ => ⟨_, rfl⟩ | decide +kernel)
      (case hth => first | k_is | kx_is | ks_is | kit_is | rfl | exact fun _ _ => BindsTo.of_eq rfl | exact fun _ => ⟨_, rfl⟩ | decide +kernel)
      (case hcs => first | k_is | kx_is | ks_is | kit_is | rfl | exact fun _ _ => BindsTo.of_eq rfl | exact fun _ => ⟨_, rfl⟩ | decide +kernel)
      (case hcw => first | k_is | kx_is | ks_is | kit_is | rfl | exact fun _ _ => BindsTo.of_eq rfl | exact fun _ => ⟨_, rfl⟩ | decide +kernel)
      (case hbd => first | k_is | kx_is | ks_is | kit_is | rfl | exact fun _ _ => BindsTo.of_eq rfl | exact fun _ => ⟨_, rfl⟩ | decide +kernel)
      (case hs6 => first | k_is | kx_is | ks_is | kit_is | rfl | exact fun _ _ => BindsTo.of_eq rfl | exact fun _ => ⟨_, rfl⟩ | decide +kernel)
      (case hs7 => first | k_is | kx_is | ks_is | kit_is | rfl | exact fun _ _ => BindsTo.of_eq rfl | exact fun _ => ⟨_, rfl⟩ | decide +kernel)
      (case hs8 => first | k_is | kx_is | ks_is | kit_is | rfl | exact fun _ _ => BindsTo.of_eq rfl | exact fun _ => ⟨_, rfl⟩ | decide +kernel)
      (case he1 => first | k_is | kx_is | ks_is | kit_is | rfl | exact fun _ _ => BindsTo.of_eq rfl | exact fun _ => ⟨_, rfl⟩ | decide +kernel)
      (case he2 => first | k_is | kx_is | ks_is | kit_is | rfl | exact fun _ _ => BindsTo.of_eq rfl | exact fun _ => ⟨_, rfl⟩ | decide +kernel)
      (case he4 => first | k_is | kx_is | ks_is | kit_is | rfl | exact fun _ _ => BindsTo.of_eq rfl | exact fun _ => ⟨_, rfl⟩ | decide +kernel)
      (case he5 => first | k_is | kx_is | ks_is | kit_is | rfl | exact fun _ _ => BindsTo.of_eq rfl | exact fun _ => ⟨_, rfl⟩ | decide +kernel)
      (case he6 => first | k_is | kx_is | ks_is | kit_is | rfl | exact fun _ _ => BindsTo.of_eq rfl | exact fun _ => ⟨_, rfl⟩ | decide +kernel)
      (case he7 => first | k_is | kx_is | ks_is | kit_is | rfl | exact fun _ _ => BindsTo.of_eq rfl | exact fun _ => ⟨_, rfl⟩ | decide +kernel)
      (case he8 => first | k_is | kx_is | ks_is | kit_is | rfl | exact fun _ _ => BindsTo.of_eq rfl | exact fun _ => ⟨_, rfl⟩ | decide +kernel)
      (case hkv => first | k_is | kx_is | ks_is | kit_is | rfl | exact fun _ _ => BindsTo.of_eq rfl | exact fun _ => ⟨_, rfl⟩ | decide +kernel)
      (case hE => first | k_is | kx_is | ks_is | kit_is | rfl | exact fun _ _ => BindsTo.of_eq rfl | exact fun _ => ⟨_, rfl⟩ | decide +kernel))
    (case n1 => k_is)
    (case y1 =>
      refine' K41.cls_mk ?hck ?hce ?hct ?hci ?hcl ?hcd ?hcti ?hcx ?hcp ?hcdl ?hcv ?hcf ?hccl ?hccd ?hcm ?hs1 ?hs2 ?hs3 ?hs4 ?hs5 ?hth ?hcs ?hcw ?hbd ?hs6 ?hs7 ?hs8 ?he1 ?he2 ?he4 ?he5 ?he6 ?he7 ?he8 ?hkv ?hE
      (case hck => first | k_is | kx_is | ks_is | kit_is | rfl | exact fun _ _ => BindsTo.of_eq rfl | exact fun _ => ⟨_, rfl⟩ | decide +kernel)
      (case hce => first | k_is | kx_is | ks_is | kit_is | rfl | exact fun _ _ => BindsTo.of_eq rfl | exact fun _ => ⟨_, rfl⟩ | decide +kernel)
      (case hct => first | k_is | kx_is | ks_is | kit_is | rfl | exact fun _ _ => BindsTo.of_eq rfl | exact fun _ => ⟨_, rfl⟩ | decide +kernel)
      (case hci => first | k_is | kx_is | ks_is | kit_is | rfl | exact fun _ _ => BindsTo.of_eq rfl | exact fun _ => ⟨_, rfl⟩ | decide +kernel)
      (case hcl => first | k_is | kx_is | ks_is | kit_is | rfl | exact fun _ _ => BindsTo.of_eq rfl | exact fun _ => ⟨_, rfl⟩ | decide +kernel)
      (case hcd => first | k_is | kx_is | ks_is | kit_is | rfl | exact fun _ _ => BindsTo.of_eq rfl | exact fun _ => ⟨_, rfl⟩ | decide +kernel)
      (case hcti => first | k_is | kx_is | ks_is | kit_is | rfl | exact fun _ _ => BindsTo.of_eq rfl | exact fun _ => ⟨_, rfl⟩ | decide +kernel)
      (case hcx => first | k_is | kx_is | ks_is | kit_is | rfl | exact fun _ _ => BindsTo.of_eq rfl | exact fun _ => ⟨_, rfl⟩ | decide +kernel)
      (case hcp => first | k_is | kx_is | ks_is | kit_is | rfl | exact fun _ _ => BindsTo.of_eq rfl | exact fun _ => ⟨_, rfl⟩ | decide +kernel)
      (case hcdl => first | k_is | kx_is | ks_is | kit_is | rfl | exact fun _ _ => BindsTo.of_eq rfl | exact fun _ => ⟨_, rfl⟩ | decide +kernel)
      (case hcv => first | k_is | kx_is | ks_is | kit_is | rfl | exact fun _ _ => BindsTo.of_eq rfl | exact fun _ => ⟨_, rfl⟩ | decide +kernel)
      (case hcf => first | k_is | kx_is | ks_is | kit_is | rfl | exact fun _ _ => BindsTo.of_eq rfl | exact fun _ => ⟨_, rfl⟩ | decide +kernel)
      (case hccl => first | k_is | kx_is | ks_is | kit_is | rfl | exact fun _ _ => BindsTo.of_eq rfl | exact fun _ => ⟨_, rfl⟩ | decide +kernel)
      (case hccd => first | k_is | kx_is | ks_is | kit_is | rfl | exact fun _ _ => BindsTo.of_eq rfl | exact fun _ => ⟨_, rfl⟩ | decide +kernel)
      (case hcm => first | k_is | kx_is | ks_is | kit_is | rfl | exact fun _ _ => BindsTo.of_eq rfl | exact fun _ => ⟨_, rfl⟩ | decide +kernel)
      (case hs1 => first | k_is | kx_is | ks_is | kit_is | rfl | exact fun _ _ => BindsTo.of_eq rfl | exact fun _ => ⟨_, rfl⟩ | decide +kernel)
      (case hs2 => first | k_is | kx_is | ks_is | kit_is | rfl | exact fun _ _ => BindsTo.of_eq rfl | exact fun _ => ⟨_, rfl⟩ | decide +kernel)
      (case hs3 => first | k_is | kx_is | ks_is | kit_is | rfl | exact fun _ _ => BindsTo.of_eq rfl | exact fun _ => ⟨_, rfl⟩ | decide +kernel)
      (case hs4 => first | k_is | kx_is | ks_is | kit_is | rfl | exact fun _ _ => BindsTo.of_eq rfl | exact fun _ => ⟨_, rfl⟩ | decide +kernel)
      (case hs5 => first | k_is | kx_is | ks_is | kit_is | rfl | exact fun _ _ => BindsTo.of_eq rfl | exact fun _ => ⟨_, rfl⟩ | decide +kernel)
      (case hth => first | k_is | kx_is | ks_is | kit_is | rfl | exact fun _ _ => BindsTo.of_eq rfl | exact fun _ => ⟨_, rfl⟩ | decide +kernel)
      (case hcs => first | k_is | kx_is | ks_is | kit_is | rfl | exact fun _ _ => BindsTo.of_eq rfl | exact fun _ => ⟨_, rfl⟩ | decide +kernel)
      (case hcw => first | k_is | kx_is | ks_is | kit_is | rfl | exact fun _ _ => BindsTo.of_eq rfl | exact fun _ => ⟨_, rfl⟩ | decide +kernel)
      (case hbd => first | k_is | kx_is | ks_is | kit_is | rfl | exact fun _ _ => BindsTo.of_eq rfl | exact fun _ => ⟨_, rfl⟩ | decide +kernel)
      (case hs6 => first | k_is | kx_is | ks_is | kit_is | rfl | exact fun _ _ => BindsTo.of_eq rfl | exact fun _ => ⟨_, rfl⟩ | decide +kernel)
      (case hs7 => first | k_is | kx_is | ks_is | kit_is | rfl | exact fun _ _ => BindsTo.of_eq rfl | exact fun _ => ⟨_, rfl⟩ | decide +kernel)
      (case hs8 => first | k_is | kx_is | ks_is | kit_is | rfl | exact fun _ _ => BindsTo.of_eq rfl | exact fun _ => ⟨_, rfl⟩ | decide +kernel)
      (case he1 => first | k_is | kx_is | ks_is | kit_is | rfl | exact fun _ _ => BindsTo.of_eq rfl | exact fun _ => ⟨_, rfl⟩ | decide +kernel)
      (case he2 => first | k_is | kx_is | ks_is | kit_is | rfl | exact fun _ _ => BindsTo.of_eq rfl | exact fun _ => ⟨_, rfl⟩ | decide +kernel)
      (case he4 => first | k_is | kx_is | ks_is | kit_is | rfl | exact fun _ _ => BindsTo.of_eq rfl | exact fun _ => ⟨_, rfl⟩ | decide +kernel)
      (case he5 => first | k_is | kx_is | ks_is | kit_is | rfl | exact fun _ _ => BindsTo.of_eq rfl | exact fun _ => ⟨_, rfl⟩ | decide +kernel)
      (case he6 => first | k_is | kx_is | ks_is | kit_is | rfl | exact fun _ _ => BindsTo.of_eq rfl | exact fun _ => ⟨_, rfl⟩ | decide +kernel)
      (case he7 => first | k_is | kx_is | ks_is | kit_is | rfl | exact fun _ _ => BindsTo.of_eq rfl | exact fun _ => ⟨_, rfl⟩ | decide +kernel)
      (case he8 => first | k_is | kx_is | ks_is | kit_is | rfl | exact fun _ _ => BindsTo.of_eq rfl | exact fun _ => ⟨_, rfl⟩ | decide +kernel)
      (case hkv => first | k_is | kx_is | ks_is | kit_is | rfl | exact fun _ _ => BindsTo.of_eq rfl | exact fun _ => ⟨_, rfl⟩ | decide +kernel)
      (case hE => first | k_is | kx_is | ks_is | kit_is | rfl | exact fun _ _ => BindsTo.of_eq rfl | exact fun _ => ⟨_, rfl⟩ | decide +kernel))
    (case n2 => k_is)
    (case y2 =>
      refine' K41.cls_mk ?hck ?hce ?hct ?hci ?hcl ?hcd ?hcti ?hcx ?hcp ?hcdl ?hcv ?hcf ?hccl ?hccd ?hcm ?hs1 ?hs2 ?hs3 ?hs4 ?hs5 ?hth ?hcs ?hcw ?hbd ?hs6 ?hs7 ?hs8 ?he1 ?he2 ?he4 ?he5 ?he6 ?he7 ?he8 ?hkv ?hE
      (case hck => first | k_is | kx_is | ks_is | kit_is | rfl | exact fun _ _ => BindsTo.of_eq rfl | exact fun _ => ⟨_, rfl⟩ | decide +kernel)
      (case hce => first | k_is | kx_is | ks_is | kit_is | rfl | exact fun _ _ => BindsTo.of_eq rfl | exact fun _ => ⟨_, rfl⟩ | decide +kernel)
      (case hct => first | k_is | kx_is | ks_is | kit_is | rfl | exact fun _ _ => BindsTo.of_eq rfl | exact fun _ => ⟨_, rfl⟩ | decide +kernel)
      (case hci => first | k_is | kx_is | ks_is | kit_is | rfl | exact fun _ _ => BindsTo.of_eq rfl | exact fun _ => ⟨_, rfl⟩ | decide +kernel)
      (case hcl => first | k_is | kx_is | ks_is | kit_is | rfl | exact fun _ _ => BindsTo.of_eq rfl | exact fun _ => ⟨_, rfl⟩ | decide +kernel)
      (case hcd => first | k_is | kx_is | ks_is | kit_is | rfl | exact fun _ _ => BindsTo.of_eq rfl | exact fun _ => ⟨_, rfl⟩ | decide +kernel)
      (case hcti => first | k_is | kx_is | ks_is | kit_is | rfl | exact fun _ _ => BindsTo.of_eq rfl | exact fun _ => ⟨_, rfl⟩ | decide +kernel)
      (case hcx => first | k_is | kx_is | ks_is | kit_is | rfl | exact fun _ _ => BindsTo.of_eq rfl | exact fun _ => ⟨_, rfl⟩ | decide +kernel)
      (case hcp => first | k_is | kx_is | ks_is | kit_is | rfl | exact fun _ _ => BindsTo.of_eq rfl | exact fun _ => ⟨_, rfl⟩ | decide +kernel)
      (case hcdl => first | k_is | kx_is | ks_is | kit_is | rfl | exact fun _ _ => BindsTo.of_eq rfl | exact fun _ => ⟨_, rfl⟩ | decide +kernel)
      (case hcv => first | k_is | kx_is | ks_is | kit_is | rfl | exact fun _ _ => BindsTo.of_eq rfl | exact fun _ => ⟨_, rfl⟩ | decide +kernel)
      (case hcf => first | k_is | kx_is | ks_is | kit_is | rfl | exact fun _ _ => BindsTo.of_eq rfl | exact fun _ => ⟨_, rfl⟩ | decide +kernel)
      (case hccl => first | k_is | kx_is | ks_is | kit_is | rfl | exact fun _ _ => BindsTo.of_eq rfl | exact fun _ => ⟨_, rfl⟩ | decide +kernel)
      (case hccd => first | k_is | kx_is | ks_is | kit_is | rfl | exact fun _ _ => BindsTo.of_eq rfl | exact fun _ => ⟨_, rfl⟩ | decide +kernel)
      (case hcm => first | k_is | kx_is | ks_is | kit_is | rfl | exact fun _ _ => BindsTo.of_eq rfl | exact fun _ => ⟨_, rfl⟩ | decide +kernel)
      (case hs1 => first | k_is | kx_is | ks_is | kit_is | rfl | exact fun _ _ => BindsTo.of_eq rfl | exact fun _ => ⟨_, rfl⟩ | decide +kernel)
      (case hs2 => first | k_is | kx_is | ks_is | kit_is | rfl | exact fun _ _ => BindsTo.of_eq rfl | exact fun _ => ⟨_, rfl⟩ | decide +kernel)
      (case hs3 => first | k_is | kx_is | ks_is | kit_is | rfl | exact fun _ _ => BindsTo.of_eq rfl | exact fun _ => ⟨_, rfl⟩ | decide +kernel)
      (case hs4 => first | k_is | kx_is | ks_is | kit_is | rfl | exact fun _ _ => BindsTo.of_eq rfl | exact fun _ => ⟨_, rfl⟩ | decide +kernel)
      (case hs5 => first | k_is | kx_is | ks_is | kit_is | rfl | exact fun _ _ => BindsTo.of_eq rfl | exact fun _ => ⟨_, rfl⟩ | decide +kernel)
      (case hth => first | k_is | kx_is | ks_is | kit_is | rfl | exact fun _ _ => BindsTo.of_eq rfl | exact fun _ => ⟨_, rfl⟩ | decide +kernel)
      (case hcs => first | k_is | kx_is | ks_is | kit_is | rfl | exact fun _ _ => BindsTo.of_eq rfl | exact fun _ => ⟨_, rfl⟩ | decide +kernel)
      (case hcw => first | k_is | kx_is | ks_is | kit_is | rfl | exact fun _ _ => BindsTo.of_eq rfl | exact fun _ => ⟨_, rfl⟩ | decide +kernel)
      (case hbd => first | k_is | kx_is | ks_is | kit_is | rfl | exact fun _ _ => BindsTo.of_eq rfl | exact fun _ => ⟨_, rfl⟩ | decide +kernel)
      (case hs6 => first | k_is | kx_is | ks_is | kit_is | rfl | exact fun _ _ => BindsTo.of_eq rfl | exact fun _ => ⟨_, rfl⟩ | decide +kernel)
      (case hs7 => first | k_is | kx_is | ks_is | kit_is | rfl | exact fun _ _ => BindsTo.of_eq rfl | exact fun _ => ⟨_, rfl⟩ | decide +kernel)
      (case hs8 => first | k_is | kx_is | ks_is | kit_is | rfl | exact fun _ _ => BindsTo.of_eq rfl | exact fun _ => ⟨_, rfl⟩ | decide +kernel)
      (case he1 => first | k_is | kx_is | ks_is | kit_is | rfl | exact fun _ _ => BindsTo.of_eq rfl | exact fun _ => ⟨_, rfl⟩ | decide +kernel)
      (case he2 => first | k_is | kx_is | ks_is | kit_is | rfl | exact fun _ _ => BindsTo.of_eq rfl | exact fun _ => ⟨_, rfl⟩ | decide +kernel)
      (case he4 => first | k_is | kx_is | ks_is | kit_is | rfl | exact fun _ _ => BindsTo.of_eq rfl | exact fun _ => ⟨_, rfl⟩ | decide +kernel)
      (case he5 => first | k_is | kx_is | ks_is | kit_is | rfl | exact fun _ _ => BindsTo.of_eq rfl | exact fun _ => ⟨_, rfl⟩ | decide +kernel)
      (case he6 => first | k_is | kx_is | ks_is | kit_is | rfl | exact fun _ _ => BindsTo.of_eq rfl | exact fun _ => ⟨_, rfl⟩ | decide +kernel)
      (case he7 => first | k_is | kx_is | ks_is | kit_is | rfl | exact fun _ _ => BindsTo.of_eq rfl | exact fun _ => ⟨_, rfl⟩ | decide +kernel)
      (case he8 => first | k_is | kx_is | ks_is | kit_is | rfl | exact fun _ _ => BindsTo.of_eq rfl | exact fun _ => ⟨_, rfl⟩ | decide +kernel)
      (case hkv => first | k_is | kx_is | ks_is | kit_is | rfl | exact fun _ _ => BindsTo.of_eq rfl | exact fun _ => ⟨_, rfl⟩ | decide +kernel)
      (case hE => first | k_is | kx_is | ks_is | kit_is | rfl | exact fun _ _ => BindsTo.of_eq rfl | exact fun _ => ⟨_, rfl⟩ | decide +kernel))
    (case x0_0 => kts_exm)
    (case x1_0 => kts_exm)
    (case x2_0 => kts_exm)
    (case x0_1 => kts_exm)
    (case x1_1 => kts_exm)
    (case x2_1 => kts_exm)
    (case x0_2 => kts_exm)
    (case x1_2 => kts_exm)
    (case x2_2 => kts_exm)
#print axioms PySem.Challenge.cw_tentfalls_k41_main_falls_of_twelve_numbe_holds
