import PyProof.Rows.All
import Wide.All
import OpenK.AllK
import Wide.FinOn
import HandS.ForMost
import HandS.ForExc
import HandS.Style
import HandS.IsInst
import HandS.TupAny
import HandS.Deep
import HandS.Zip
import HandS.Conv
import HandS.Defaults
import HandS.HeadHook2
import KE.KDictZip
import KE.GoesMore
import HandS.DictComp
import HandS.DictTup
import HandS.Small
import HandS.Head0
import HandS.Head1
import HandS.Head2
import HandS.HeadEnd
import HandS.MakeKwOnly
import PySem.Challenge.RW_platecolumns_k09_whole_filling_uses_fewe
set_option Elab.async false
section
set_option linter.all false
set_option maxRecDepth 100000
namespace PL
open PySem

theorem nrfl {α : Type} {a b : α} (h : a = b) : a = b := h
inductive D where
  | non | bl (b : Bool) | int (i : Int) | str (s : Str)
  | tup (xs : List D) | lst (xs : List D)
  | dI (ks : List Int) (vs : List D)
  | dT (ks : List (List Int)) (vs : List D)
  | ref (n : Nat)
  | scr (ns : List Int)
  deriving Inhabited

/-- how a value is held: anything that stays; a new list or dict that nobody else holds; one that a name holds -/
inductive Kd | fz | fr | bo
  deriving DecidableEq, Inhabited
/-- a name's slot -/
inductive Sl | no | fz (d : D) | ow (d : D)
  deriving Inhabited
/-- the lists that are shared and changed -/
abbrev MS := List (List D)
inductive Ex | own (c : Nat) | pay (c : Nat) (i : Int)
  deriving DecidableEq, Inhabited
inductive R (α : Type) | ok (a : α) (M : MS) | exc (e : Ex) (M : MS) | stuck
abbrev RV := D × Kd
def R.bind {α β : Type} : R α → (α → MS → R β) → R β
  | .ok a M, f => f a M
  | .exc e M, _ => .exc e M
  | .stuck, _ => .stuck
@[simp] theorem R.bind_ok {α β : Type} (a : α) (M : MS) (f : α → MS → R β) : (R.ok a M).bind f = f a M := nrfl rfl
@[simp] theorem R.bind_exc {α β : Type} (e : Ex) (M : MS) (f : α → MS → R β) : (R.exc e M).bind f = .exc e M := nrfl rfl
@[simp] theorem R.bind_stuck {α β : Type} (f : α → MS → R β) : (R.stuck : R α).bind f = .stuck := nrfl rfl
def R.of {α : Type} (o : Option α) (M : MS) : R α := match o with | some a => .ok a M | none => .stuck
@[simp] theorem R.of_some {α : Type} (a : α) (M : MS) : R.of (some a) M = .ok a M := nrfl rfl
@[simp] theorem R.of_none {α : Type} (M : MS) : (R.of none M : R α) = .stuck := nrfl rfl
/-- where nothing may be raised -/
def R.nox {α : Type} : R α → R α
  | .ok a M => .ok a M
  | _ => .stuck
@[simp] theorem R.nox_ok {α : Type} (a : α) (M : MS) : (R.ok a M).nox = .ok a M := nrfl rfl
@[simp] theorem R.nox_stuck {α : Type} : (R.stuck : R α).nox = .stuck := nrfl rfl
/-- a statement's end -/
inductive Out | next (ds : List Sl) (M : MS) | ret (v : RV) (M : MS) | brk (ds : List Sl) (M : MS) | cont (ds : List Sl) (M : MS) | exc (e : Ex) (ds : List Sl) (M : MS) | stuck
def R.then {α : Type} (ds : List Sl) : R α → (α → MS → Out) → Out
  | .ok a M, f => f a M
  | .exc e M, _ => .exc e ds M
  | .stuck, _ => .stuck
@[simp] theorem R.then_ok {α : Type} (ds : List Sl) (a : α) (M : MS) (f : α → MS → Out) : (R.ok a M).then ds f = f a M := nrfl rfl
@[simp] theorem R.then_exc {α : Type} (ds : List Sl) (e : Ex) (M : MS) (f : α → MS → Out) : (R.exc e M).then ds f = .exc e ds M := nrfl rfl
@[simp] theorem R.then_stuck {α : Type} (ds : List Sl) (f : α → MS → Out) : (R.stuck : R α).then ds f = .stuck := nrfl rfl
def Out.andThen : Out → (List Sl → MS → Out) → Out
  | .next ds M, f => f ds M
  | o, _ => o
@[simp] theorem Out.andThen_next (ds : List Sl) (M : MS) (f : List Sl → MS → Out) : (Out.next ds M).andThen f = f ds M := nrfl rfl
@[simp] theorem Out.andThen_ret (v : RV) (M : MS) (f : List Sl → MS → Out) : (Out.ret v M).andThen f = .ret v M := nrfl rfl
@[simp] theorem Out.andThen_brk (ds : List Sl) (M : MS) (f : List Sl → MS → Out) : (Out.brk ds M).andThen f = .brk ds M := nrfl rfl
@[simp] theorem Out.andThen_cont (ds : List Sl) (M : MS) (f : List Sl → MS → Out) : (Out.cont ds M).andThen f = .cont ds M := nrfl rfl
@[simp] theorem Out.andThen_exc (e : Ex) (ds : List Sl) (M : MS) (f : List Sl → MS → Out) : (Out.exc e ds M).andThen f = .exc e ds M := nrfl rfl
@[simp] theorem Out.andThen_stuck (f : List Sl → MS → Out) : Out.stuck.andThen f = .stuck := nrfl rfl

/-- the longest list or text here -/
def LIM : Nat := 1000000
/-- no deeper than n, nothing but plain data in it -/
def D.dep : Nat → D → Bool
  | _, .non => true
  | _, .bl _ => true
  | _, .int _ => true
  | _, .str s => s.cps.all (· < 0x110000)
  | n + 1, .tup xs => xs.all (D.dep n)
  | n + 1, .lst xs => xs.all (D.dep n)
  | _, _ => false
mutual
/-- Python's == of such data -/
def D.eq : D → D → Bool
  | .non, .non => true
  | .bl a, .bl b => a == b
  | .bl a, .int b => (if a then (1 : Int) else 0) == b
  | .int a, .bl b => a == (if b then (1 : Int) else 0)
  | .int a, .int b => a == b
  | .str a, .str b => a == b
  | .tup xs, .tup ys => D.eqL xs ys
  | .lst xs, .lst ys => D.eqL xs ys
  | _, _ => false
def D.eqL : List D → List D → Bool
  | [], [] => true
  | x :: xs, y :: ys => D.eq x y && D.eqL xs ys
  | _, _ => false
end
mutual
/-- the shared lists put in -/
def D.der (M : MS) : D → D
  | .tup xs => .tup (D.derL M xs)
  | .lst xs => .lst (D.derL M xs)
  | .ref n => .lst (M.getD n [])
  | d => d
def D.derL (M : MS) : List D → List D
  | [] => []
  | x :: xs => D.der M x :: D.derL M xs
end
def DEP : Nat := 12
def oEq (M : MS) (a b : D) : Option Bool :=
  if D.dep DEP a && D.dep DEP b then some (D.eq a b)
  else none
/-- a list's or a tuple's items -/
def items? (M : MS) : D → Option (List D)
  | .lst xs => some xs
  | .tup xs => some xs
  | .ref n => M[n]?
  | .scr ns => some (ns.map D.int)
  | _ => none
def flatD : D → Bool
  | .int _ => true | .str _ => true | .non => true | .bl _ => true | _ => false
def oAdd (a b : D) : Option RV := match a, b with
  | .int i, .int j => some (.int (i + j), .fz)
  | .str x, .str y => if x.length + y.length ≤ LIM then some (.str (x ++ y), .fz) else none
  | .tup xs, .tup ys => if xs.length + ys.length ≤ LIM then some (.tup (xs ++ ys), .fz) else none
  | .lst xs, .lst ys => if xs.length + ys.length ≤ LIM then some (.lst (xs ++ ys), .fr) else none
  | _, _ => none
def oSub (a b : D) : Option RV := match a, b with
  | .int i, .int j => some (.int (i - j), .fz)
  | _, _ => none
def B64 : Int := 18446744073709551616
def oMul (a b : D) : Option RV := match a, b with
  | .int i, .int j => if (decide (-B64 < i) && decide (i < B64)) || (decide (-B64 < j) && decide (j < B64)) then some (.int (i * j), .fz) else none
  | .lst xs, .int k => if decide (-B64 < k + k) && decide (k + k < B64) && decide (xs.length * k.toNat ≤ LIM) then some (.lst (List.replicate k.toNat xs).flatten, .fr) else none
  | _, _ => none
def oFdiv (a b : D) : Option RV := match a, b with
  | .int i, .int j => if decide (j ≠ 0) && decide (j.natAbs < 1073741824) then some (.int (i.fdiv j), .fz) else none
  | _, _ => none
def oMod (a b : D) : Option RV := match a, b with
  | .int i, .int j => if j ≠ 0 then some (.int (i.fmod j), .fz) else none
  | _, _ => none
def oPow (a b : D) : Option RV := match a, b with
  | .int i, .int j => if decide (0 ≤ j) && decide (j ≤ 1000000) && decide (i.natAbs < 18446744073709551616) then some (.int (i ^ j.toNat), .fz) else none
  | _, _ => none
inductive BOp | add | sub | mul | fdiv | mod | pow
  deriving DecidableEq
def oBin : BOp → D → D → Option RV
  | .add => oAdd | .sub => oSub | .mul => oMul | .fdiv => oFdiv | .mod => oMod | .pow => oPow
inductive COp | lt | le | gt | ge | eq | ne | is | isnot | mem | nmem
  deriving DecidableEq
/-- a in b, b a list or a tuple, or both texts of which a is one sign -/
def oMem (M : MS) (a b : D) : Option Bool :=
  match b with
  | .lst ys => if D.dep 4 a && D.dep 5 (.lst ys) then some (ys.any fun y => D.eq y a) else none
  | .tup ys => if flatD a && ys.all flatD then some (ys.any fun y => D.eq y a) else none
  | .str y => match a with
    | .str x => if x.cps.size = 1 then some (y.cps.toList.contains (x.cps.getD 0 0)) else none
    | _ => none
  | _ => none
def oCmp (M : MS) : COp → D → D → Option Bool
  | .lt, .int i, .int j => some (decide (i < j))
  | .le, .int i, .int j => some (decide (i ≤ j))
  | .gt, .int i, .int j => some (decide (j < i))
  | .ge, .int i, .int j => some (decide (j ≤ i))
  | .eq, a, b => oEq M a b
  | .ne, a, b => (oEq M a b).map (!·)
  | .is, .non, .non => some true
  | .is, .bl a, .bl b => some (a == b)
  | .is, _, .non => some false
  | .isnot, .non, .non => some false
  | .isnot, .bl a, .bl b => some (!(a == b))
  | .isnot, _, .non => some true
  | .mem, a, b => oMem M a b
  | .nmem, a, b => (oMem M a b).map (!·)
  | _, _, _ => none
abbrev ixD (n : Nat) (i : Int) : Option Nat := L2.ixN n i
abbrev atD {α : Type} (xs : List α) (i : Int) : Option α := L2.atI xs i
def ints? : List D → Option (List Int)
  | [] => some []
  | .int i :: r => (ints? r).map (i :: ·)
  | _ => none
def bls? : List D → Option (List Bool)
  | [] => some []
  | .bl b :: r => (bls? r).map (b :: ·)
  | _ => none
def strs? : List D → Option (List Str)
  | [] => some []
  | .str b :: r => (strs? r).map (b :: ·)
  | _ => none
def getI : List Int → List D → Int → Option D
  | k :: ks, v :: vs, j => if k = j then some v else getI ks vs j
  | _, _, _ => none
def getT : List (List Int) → List D → List Int → Option D
  | k :: ks, v :: vs, j => if k = j then some v else getT ks vs j
  | _, _, _ => none
/-- a dict's item put: in its place, or at the end -/
def putD {κ : Type} [DecidableEq κ] (ks : List κ) (vs : List D) (k : κ) (x : D) : List κ × List D :=
  if k ∈ ks then (ks, (ks.zip vs).map fun p => if p.1 = k then x else p.2) else (ks ++ [k], vs ++ [x])
abbrev putI : List Int → List D → Int → D → List Int × List D := putD
abbrev putT : List (List Int) → List D → List Int → D → List (List Int) × List D := putD
/-- a[i] -/
def oIdx (M : MS) (a i : D) : Option D := match a, i with
  | .tup xs, .int i => atD xs i
  | .lst xs, .int i => atD xs i
  | .scr ns, .int i => (atD ns i).map D.int
  | .ref n, .int i => M[n]?.bind fun xs => atD xs i
  | .str s, .int i => if s.length ≤ LIM then (atD s.cps.toList i).map fun c => .str ⟨#[c]⟩ else none
  | .dI ks vs, .int i => getI ks vs i
  | .dT ks vs, .tup xs => (ints? xs).bind fun k => getT ks vs k
  | _, _ => none
def cutL {α : Type} (xs : List α) (lo hi : Option Int) : List α := (xs.drop (HT.sIx xs.length 0 lo)).take (HT.sIx xs.length xs.length hi - HT.sIx xs.length 0 lo)
def oSlc (M : MS) (a : D) (lo hi : Option Int) : Option RV := match a with
  | .tup xs => some (.tup (cutL xs lo hi), .fz)
  | .lst xs => some (.lst (cutL xs lo hi), .fr)
  | _ => none
def truth? : D → Option Bool
  | .bl b => some b
  | .non => some false
  | .int i => some (i != 0)
  | .str s => if s.length ≤ LIM then some (s.length != 0) else none
  | .lst xs => some (!xs.isEmpty)
  | .tup xs => some (!xs.isEmpty)
  | _ => none
inductive Ty | int | bool | str | tuple | list
  deriving DecidableEq
def isTy : D → Ty → Option Bool
  | .non, _ => some false
  | .bl _, t => some (t == .bool || t == .int)
  | .int _, t => some (t == .int)
  | .str _, t => some (t == .str)
  | .tup _, t => some (t == .tuple)
  | .lst _, t => some (t == .list)
  | .ref _, t => some (t == .list)
  | _, _ => none
def anyTy : D → List Ty → Option Bool
  | d, [] => some false
  | d, t :: ts => match isTy d t, anyTy d ts with
    | some a, some b => some (a || b)
    | _, _ => none
def maxL : List Int → Int
  | [] => 0
  | [x] => x
  | x :: r => max x (maxL r)
def minL : List Int → Int
  | [] => 0
  | [x] => x
  | x :: r => min x (minL r)
/-- put into an ascending list -/
def insI (x : Int) : List Int → List Int
  | [] => [x]
  | y :: r => if x < y then x :: y :: r else if x = y then y :: r else y :: insI x r
def sset (l : List Int) : List Int := l.foldr insI []
inductive BI | len | int | str | abs | max | min | sum | any | all | sorted | sortedSet | list | tuple | bool | isi (ts : List Ty)
def asInt : D → Option Int
  | .int i => some i
  | _ => none
def asLst : D → Option (List D)
  | .lst xs => some xs
  | _ => none
def lenD (M : MS) : D → Option Nat
  | .str s => if s.length ≤ LIM then some s.length else none
  | a => (items? M a).map List.length
def toInt : D → Option Int
  | .int i => some i
  | .bl b => some (if b then 1 else 0)
  | .str s => if s.length ≤ 640 then PySem.intText? s else none
  | _ => none
def toBool : D → Option Bool
  | .int i => some (i != 0)
  | .bl b => some b
  | _ => none
def seqOf : D → Option (List D)
  | .lst xs => some xs
  | .tup xs => some xs
  | _ => none
def oBi1 (M : MS) (b : BI) (a : D) : Option RV := match b with
  | .len => (lenD M a).map fun (n : Nat) => (.int (n : Int), .fz)
  | .int => (toInt a).map fun n => (.int n, .fz)
  | .bool => (toBool a).map fun n => (.bl n, .fz)
  | .str => (asInt a).bind fun i => if i.natAbs.log2 < 1920 then some (.str (toString i), .fz) else none
  | .abs => (asInt a).map fun i => (.int (if i < 0 then -i else i), .fz)
  | .max => ((asLst a).bind ints?).bind fun l => if l = [] then none else some (.int (maxL l), .fz)
  | .min => ((asLst a).bind ints?).bind fun l => if l = [] then none else some (.int (minL l), .fz)
  | .sum => ((asLst a).bind ints?).map fun l => (.int l.sum, .fz)
  | .any => ((asLst a).bind bls?).map fun l => (.bl (l.any id), .fz)
  | .all => ((asLst a).bind bls?).map fun l => (.bl (l.all id), .fz)
  | .list => (items? M a).map fun xs => (.lst xs, .fr)
  | .tuple => (seqOf a).map fun xs => (.tup xs, .fz)
  | .isi ts => (anyTy a ts).map fun b => (.bl b, .fz)
  | _ => none
def oBi2 (b : BI) (x y : D) : Option RV := match b with
  | .max => (asInt x).bind fun i => (asInt y).map fun j => (.int (if j > i then j else i), .fz)
  | .min => (asInt x).bind fun i => (asInt y).map fun j => (.int (if j < i then j else i), .fz)
  | _ => none
def oBi (M : MS) (b : BI) : List RV → Option RV
  | [a] => oBi1 M b a.1
  | [x, y] => oBi2 b x.1 y.1
  | _ => none
inductive MI | index | get | split | join | items | values
def idxOf (a : D) : List D → Nat → Option Nat
  | [], _ => none
  | x :: r, n => if D.eq x a then some n else idxOf a r (n + 1)
def oMeth (M : MS) (m : MI) (x : D) : List RV → Option RV
  | [a] => match m with
    | .index => (asLst x).bind fun xs => if flatD a.1 && xs.all flatD then (idxOf a.1 xs 0).map fun (n : Nat) => (.int (n : Int), .fz) else none
    | .split => (match x, a.1 with
      | .str s, .str b => if b.length ≠ 0 && s.length ≤ LIM then some (.lst ((PySem.Txt.split s b).map D.str), .fr) else none
      | _, _ => none)
    | .join => (match x with
      | .str s => ((asLst a.1).bind strs?).bind fun ys => if (PySem.Txt.join s ys).length ≤ LIM && decide (ys.length ≤ LIM) then some (.str (PySem.Txt.join s ys), .fz) else none
      | _ => none)
    | _ => none
  | [a, d] => match m with
    | .get => (match x, a.1, d.2 with
      | .dI ks vs, .int i, .fz => some ((getI ks vs i).getD d.1, .fz)
      | _, _, _ => none)
    | _ => none
  | _ => none

inductive TGt | nm (i : Nat) | tp (ts : TGt) | nil | cons (t r : TGt)
/-- what a for walks: any items; range(a), range(a, b), range(a, b, -1); enumerate(a); zip(a, b); a.items(); a.values() -/
inductive IK | seq | rng1 | rng2 | rng3 | enm | zip | items | values
  deriving DecidableEq
inductive CE where
  | var (i : Nat)
  | lit (d : D)
  | glob (x : String) (d : D)
  | bin (op : BOp) (a b : CE)
  | neg (a : CE)
  | cmp (op : COp) (a b : CE)
  | chain (o1 o2 : COp) (a b c : CE)
  | and (es : CE) | or (es : CE) | not (a : CE)
  | ife (c a b : CE)
  | tup (es : CE) | lst (es : CE)
  | idx (a i : CE)
  | slc (a lo hi : CE)
  | call (f : Nat) (es : CE)
  | callK (f : Nat) (es : CE) (kw : CE)
  | callD (f : Nat) (es : CE) (d : D)
  | bi (b : BI) (es : CE)
  | mt (m : MI) (o : CE) (es : CE)
  | lz (a b : CE)
  | lc (own : List Nat) (tg : TGt) (ik : IK) (its : CE) (cond : CE) (elt : CE)
  | dcI (own : List Nat) (i : Nat) (tv : TGt) (its : CE) (val : CE)
  | dc2 (own own1 : List Nat) (t1 : TGt) (i1 : CE) (t2 : TGt) (i2 : CE) (cond : CE) (key val : CE)
  | dct0
  | dcti0
  | dct1 (k v : CE)
  | fstr (ps : CE)
  | cell (e : CE)
  | fzE (e : CE)
  | none | anil | acons (e r : CE)

def wipeD (own : List Nat) (ds : List Sl) : List Sl := own.foldr (fun i ds => ds.set i .no) ds
mutual
def bindT : TGt → D → List Sl → Option (List Sl)
  | .nm i, d, ds => some (ds.set i (.fz d))
  | .tp ts, .tup xs, ds => bindTs ts xs ds
  | _, _, _ => none
def bindTs : TGt → List D → List Sl → Option (List Sl)
  | .nil, [], ds => some ds
  | .cons t r, x :: xs, ds => (bindT t x ds).bind fun ds1 => bindTs r xs ds1
  | _, _, _ => none
end
def lcL (bnd : D → Option (List Sl)) (cond : List Sl → MS → R Bool) (elt : List Sl → MS → R RV) : List D → MS → R (List D)
  | [], M => .ok [] M
  | x :: xs, M => match bnd x with
    | none => .stuck
    | some ds => (cond ds M).nox.bind fun b M1 => if b then
        (elt ds M1).nox.bind fun v M2 => if v.2 = .bo then .stuck else (lcL bnd cond elt xs M2).bind fun r M3 => .ok (v.1 :: r) M3
      else lcL bnd cond elt xs M1
def keyT : D → Option (List Int)
  | .tup xs => ints? xs
  | _ => none
/-- {key: val for key, .. in items} -/
def dcIL (bnd : D → Option (List Sl)) (val : List Sl → MS → R RV) : List (List Int) → List D → List (List Int) × List D → MS → R (List (List Int) × List D)
  | k :: ks, v :: vs, acc, M => match bnd v with
    | none => .stuck
    | some ds => (val ds M).nox.bind fun x M1 => if x.2 = .bo then .stuck else dcIL bnd val ks vs (putT acc.1 acc.2 k x.1) M1
  | _, _, acc, M => .ok acc M
/-- a clause's items: key and value, where the test says so -/
def dcKL (bnd : D → Option (List Sl)) (cond : List Sl → MS → R Bool) (key val : List Sl → MS → R RV) : List D → List (List Int) × List D → MS → R (List (List Int) × List D)
  | [], acc, M => .ok acc M
  | x :: xs, acc, M => match bnd x with
    | none => .stuck
    | some ds => (cond ds M).nox.bind fun b M1 => if b then
        (key ds M1).nox.bind fun k M2 => match k.2, keyT k.1 with
          | .fz, some kk => (val ds M2).nox.bind fun v M3 => if v.2 = .bo then .stuck else dcKL bnd cond key val xs (putT acc.1 acc.2 kk v.1) M3
          | _, _ => .stuck
      else dcKL bnd cond key val xs acc M1
/-- the clause around it -/
def dcOL (bnd : D → Option (List Sl)) (it2 : List Sl → MS → R (List D)) (inn : List Sl → List D → List (List Int) × List D → MS → R (List (List Int) × List D)) : List D → List (List Int) × List D → MS → R (List (List Int) × List D)
  | [], acc, M => .ok acc M
  | x :: xs, acc, M => match bnd x with
    | none => .stuck
    | some ds => (it2 ds M).nox.bind fun ys M1 => (inn ds ys acc M1).nox.bind fun acc2 M2 => dcOL bnd it2 inn xs acc2 M2
def rngL (lo hi : Int) : List D := (List.range (hi - lo).toNat).map fun (i : Nat) => D.int (lo + i)
def rngDn (lo hi : Int) : List D := (List.range (lo - hi).toNat).map fun (i : Nat) => D.int (lo - i)
def inB (i : Int) : Bool := decide (-4611686018427387904 ≤ i) && decide (i < 4611686018427387904)
def enumL (xs : List D) : List D := xs.zipIdx.map fun p => .tup [.int (p.2 : Nat), p.1]
def zipL (xs ys : List D) : List D := (xs.zip ys).map fun p => .tup [p.1, p.2]
def itemsT (ks : List (List Int)) (vs : List D) : List D := (ks.zip vs).map fun p => .tup [.tup (p.1.map D.int), p.2]
/-- the items that a for walks -/
def oIter : IK → List RV → Option (List D)
  | .seq, [(.lst xs, k)] => some xs
  | .seq, [(.tup xs, _)] => some xs
  | .seq, [(.str s, _)] => some (s.cps.toList.map fun c => .str ⟨#[c]⟩)
  | .rng1, [(.int i, _)] => if inB i then some (rngL 0 i) else none
  | .rng2, [(.int i, _), (.int j, _)] => if inB i && inB j then some (rngL i j) else none
  | .rng3, [(.int i, _), (.int j, _), (.int c, _)] => if inB i && inB j && c == -1 then some (rngDn i j) else none
  | .enm, [(.lst xs, _)] => some (enumL xs)
  | .enm, [(.tup xs, _)] => some (enumL xs)
  | .zip, [(.lst xs, _), (.lst ys, _)] => some (zipL xs ys)
  | .zip, [(.tup xs, _), (.tup ys, _)] => some (zipL xs ys)
  | .items, [(.dT ks vs, .fr)] => some (itemsT ks vs)
  | .values, [(.dT ks vs, .fr)] => some vs
  | _, _ => none
abbrev Fn := List D → MS → R RV
def R.data (r : R RV) : R D := r.bind fun v M => if v.2 = .bo then .stuck else .ok v.1 M

def toOp : D → Option (Option Int)
  | .int i => some (some i)
  | .non => some none
  | _ => none
/-- texts and ints in an f-string -/
def oFmt : D → Option Str
  | .str s => some s
  | .int i => if i.natAbs.log2 < 1920 then some (toString i) else none
  | _ => none
def oFstr : List D → Option Str
  | [] => some ⟨#[]⟩
  | d :: r => match oFmt d, oFstr r with
    | some a, some b => some (a ++ b)
    | _, _ => none

/-- what a core term means: as a value, as a test, as items, as a part of a slice, as the rest of an and / or (value, test) -/
structure Sm where
  e : List Sl → MS → R RV
  t : List Sl → MS → R Bool
  a : List Sl → MS → R (List RV)
  p : List Sl → MS → R (Option Int)
  ne : List Sl → MS → R RV
  oe : List Sl → MS → R RV
  nt : List Sl → MS → R Bool
  ot : List Sl → MS → R Bool
  nil : Bool
def asT (f : List Sl → MS → R RV) : List Sl → MS → R Bool := fun ds M => (f ds M).bind fun x M1 => R.of (truth? x.1) M1
def asP (f : List Sl → MS → R RV) : List Sl → MS → R (Option Int) := fun ds M => (f ds M).bind fun x M1 => match x.1 with
  | .int i => .ok (some i) M1
  | _ => .stuck
def nope {α : Type} : List Sl → MS → R α := fun _ _ => .stuck
def Sm.of (f : List Sl → MS → R RV) : Sm := ⟨f, asT f, nope, asP f, nope, nope, nope, nope, false⟩
def Sm.ofT (f : List Sl → MS → R RV) (t : List Sl → MS → R Bool) : Sm := ⟨f, t, nope, nope, nope, nope, nope, nope, false⟩
def anyBo (vs : List RV) : Bool := vs.any fun v => v.2 == .bo
def kBin (op : BOp) (f g : List Sl → MS → R RV) : List Sl → MS → R RV := fun ds M => (f ds M).bind fun x M1 => (g ds M1).bind fun y M2 => R.of (oBin op x.1 y.1) M2
def kNeg (f : List Sl → MS → R RV) : List Sl → MS → R RV := fun ds M => (f ds M).bind fun x M1 => match x.1 with
  | .int i => .ok (.int (-i), .fz) M1
  | _ => .stuck
def kCmp (op : COp) (f g : List Sl → MS → R RV) : List Sl → MS → R RV := fun ds M => (f ds M).bind fun x M1 => (g ds M1).bind fun y M2 => R.of ((oCmp M2 op x.1 y.1).map fun c => (.bl c, .fz)) M2
def kChain (o1 o2 : COp) (f g h : List Sl → MS → R RV) : List Sl → MS → R RV := fun ds M => (f ds M).bind fun x M1 => (g ds M1).bind fun y M2 => match oCmp M2 o1 x.1 y.1 with
  | some true => (h ds M2).bind fun z M3 => R.of ((oCmp M3 o2 y.1 z.1).map fun c => (.bl c, .fz)) M3
  | some false => .ok (.bl false, .fz) M2
  | none => .stuck
def kNot (f : List Sl → MS → R RV) : List Sl → MS → R RV := fun ds M => (f ds M).bind fun x M1 => match x.1 with
  | .bl b => .ok (.bl (!b), .fz) M1
  | _ => .stuck
def kIte (c : List Sl → MS → R Bool) (f g : List Sl → MS → R RV) : List Sl → MS → R RV := fun ds M => (c ds M).bind fun k M1 => if k then f ds M1 else g ds M1
def kTup (f : List Sl → MS → R (List RV)) : List Sl → MS → R RV := fun ds M => (f ds M).bind fun vs M1 => if anyBo vs || decide (LIM < vs.length) then .stuck else .ok (.tup (vs.map (·.1)), .fz) M1
def kLst (f : List Sl → MS → R (List RV)) : List Sl → MS → R RV := fun ds M => (f ds M).bind fun vs M1 => if anyBo vs || decide (LIM < vs.length) then .stuck else .ok (.lst (vs.map (·.1)), .fr) M1
def kIdx (f g : List Sl → MS → R RV) : List Sl → MS → R RV := fun ds M => (f ds M).bind fun x M1 => (g ds M1).bind fun y M2 => R.of ((oIdx M2 x.1 y.1).map fun d => (d, .fz)) M2
def kSlc (f : List Sl → MS → R RV) (l h : List Sl → MS → R (Option Int)) : List Sl → MS → R RV := fun ds M => (f ds M).bind fun x M1 => (l ds M1).bind fun lo M2 => (h ds M2).bind fun hi M3 => R.of (oSlc M3 x.1 lo hi) M3
def kCall (F : Fn) (f : List Sl → MS → R (List RV)) : List Sl → MS → R RV := fun ds M => (f ds M).bind fun vs M1 => if anyBo vs then .stuck else F (vs.map (·.1)) M1
def kCallK (F : Fn) (f : List Sl → MS → R (List RV)) (g : List Sl → MS → R RV) : List Sl → MS → R RV := fun ds M => (f ds M).bind fun vs M1 => (g ds M1).bind fun w M2 => if anyBo vs || w.2 == .bo then .stuck else F (vs.map (·.1) ++ [w.1]) M2
def kCallD (F : Fn) (f : List Sl → MS → R (List RV)) (d : D) : List Sl → MS → R RV := fun ds M => (f ds M).bind fun vs M1 => if anyBo vs then .stuck else F (vs.map (·.1) ++ [d]) M1
def kBi (b : BI) (f : List Sl → MS → R (List RV)) : List Sl → MS → R RV := fun ds M => (f ds M).bind fun vs M1 => R.of (oBi M1 b vs) M1
def kMt (m : MI) (o : List Sl → MS → R RV) (f : List Sl → MS → R (List RV)) : List Sl → MS → R RV := fun ds M => (o ds M).bind fun x M1 => (f ds M1).bind fun vs M2 => R.of (oMeth M2 m x.1 vs) M2
def kLz (f g : List Sl → MS → R RV) : List Sl → MS → R RV := fun ds M => (f ds M).bind fun x M1 => (g ds M1).bind fun y M2 => match x.1, y.1 with
  | .tup xs, .tup ys => .ok (.lst (zipL xs ys), .fr) M2
  | _, _ => .stuck
def kIter (ik : IK) (f : List Sl → MS → R (List RV)) : List Sl → MS → R (List D) := fun ds M => (f ds M).bind fun vs M1 => R.of (oIter ik vs) M1
def kIterF (ik : IK) (f : List Sl → MS → R (List RV)) : List Sl → MS → R (List D) := fun ds M => (f ds M).bind fun vs M1 => if anyBo vs then .stuck else R.of (oIter ik vs) M1
def kLc (own : List Nat) (tg : TGt) (it : List Sl → MS → R (List D)) (c : List Sl → MS → R Bool) (f : List Sl → MS → R RV) : List Sl → MS → R RV := fun ds M =>
  (it ds M).bind fun xs M1 => (lcL (fun d => bindT tg d (wipeD own ds)) c f xs M1).bind fun ys M2 => if ys.length ≤ LIM then .ok (.lst ys, .fr) M2 else .stuck
def kDcI (own : List Nat) (tv : TGt) (f g : List Sl → MS → R RV) : List Sl → MS → R RV := fun ds M => (f ds M).bind fun x M1 => match x with
  | (.dT ks vs, .fr) => (dcIL (fun d => bindT tv d (wipeD own ds)) g ks vs ([], []) M1).nox.bind fun ys M2 => if ys.1.length ≤ LIM then .ok (.dT ys.1 ys.2, .fr) M2 else .stuck
  | _ => .stuck
def kDc2 (own own1 : List Nat) (t1 t2 : TGt) (it1 it2 : List Sl → MS → R (List D)) (c : List Sl → MS → R Bool) (f g : List Sl → MS → R RV) : List Sl → MS → R RV := fun ds M => (it1 ds M).bind fun xs M1 =>
  (dcOL (fun d => bindT t1 d (wipeD own ds)) it2 (fun ds1 => dcKL (fun d => bindT t2 d (wipeD own1 ds1)) c f g) xs ([], []) M1).nox.bind fun ys M2 => if ys.1.length ≤ LIM then .ok (.dT ys.1 ys.2, .fr) M2 else .stuck
def kDct1 (f g : List Sl → MS → R RV) : List Sl → MS → R RV := fun ds M => (f ds M).bind fun x M1 => (g ds M1).bind fun y M2 => match x.1, y.2 with
  | .int i, .fz => .ok (.dI [i] [y.1], .fr) M2
  | _, _ => .stuck
def kFstr (f : List Sl → MS → R (List RV)) : List Sl → MS → R RV := fun ds M => (f ds M).bind fun vs M1 => match oFstr (vs.map (·.1)) with
  | some s => if s.length ≤ LIM then .ok (.str s, .fz) M1 else .stuck
  | none => .stuck
def kCell (f : List Sl → MS → R RV) : List Sl → MS → R RV := fun ds M => (f ds M).bind fun x M1 => match x with
  | (.lst xs, .fr) => .ok (.ref M1.length, .fz) (M1 ++ [xs])
  | _ => .stuck
/-- a value that stays as it is from here on -/
def kFz (f : List Sl → MS → R RV) : List Sl → MS → R RV := fun ds M => (f ds M).bind fun x M1 => if x.2 = .bo then .stuck else .ok (x.1, .fz) M1
def kVar (i : Nat) : List Sl → MS → R RV := fun ds M => match ds[i]? with
  | some (.fz d) => .ok (d, .fz) M
  | some (.ow d) => .ok (d, .bo) M
  | _ => .stuck
def kCons (f : List Sl → MS → R RV) (g : List Sl → MS → R (List RV)) : List Sl → MS → R (List RV) := fun ds M => (f ds M).bind fun x M1 => (g ds M1).bind fun xs M2 => .ok (x :: xs) M2
def kAnd (f g : List Sl → MS → R RV) : List Sl → MS → R RV := fun ds M => (f ds M).bind fun x M1 => match x.1 with
  | .bl true => g ds M1
  | .bl false => .ok (.bl false, .fz) M1
  | _ => .stuck
def kOr (f g : List Sl → MS → R RV) : List Sl → MS → R RV := fun ds M => (f ds M).bind fun x M1 => match x.1 with
  | .bl true => .ok (.bl true, .fz) M1
  | .bl false => g ds M1
  | _ => .stuck
def kAndT (f g : List Sl → MS → R Bool) : List Sl → MS → R Bool := fun ds M => (f ds M).bind fun b M1 => if b then g ds M1 else .ok false M1
def kOrT (f g : List Sl → MS → R Bool) : List Sl → MS → R Bool := fun ds M => (f ds M).bind fun b M1 => if b then .ok true M1 else g ds M1
def den (G : Nat → Fn) : CE → Sm
  | .var i => .of (kVar i)
  | .lit d => .of fun _ M => .ok (d, .fz) M
  | .glob _ d => .of fun _ M => .ok (d, .fz) M
  | .bin op a b => .of (kBin op (den G a).e (den G b).e)
  | .neg a => .of (kNeg (den G a).e)
  | .cmp op a b => .of (kCmp op (den G a).e (den G b).e)
  | .chain o1 o2 a b c => .of (kChain o1 o2 (den G a).e (den G b).e (den G c).e)
  | .and es => .ofT (den G es).ne (den G es).nt
  | .or es => .ofT (den G es).oe (den G es).ot
  | .not a => .ofT (kNot (den G a).e) fun ds M => ((den G a).t ds M).bind fun b M1 => .ok (!b) M1
  | .ife c a b => .ofT (kIte (den G c).t (den G a).e (den G b).e) nope
  | .tup es => .of (kTup (den G es).a)
  | .lst es => .of (kLst (den G es).a)
  | .idx a i => .of (kIdx (den G a).e (den G i).e)
  | .slc a lo hi => .of (kSlc (den G a).e (den G lo).p (den G hi).p)
  | .call f es => .of (kCall (G f) (den G es).a)
  | .callK f es kw => .of (kCallK (G f) (den G es).a (den G kw).e)
  | .callD f es d => .of (kCallD (G f) (den G es).a d)
  | .bi b es => .of (kBi b (den G es).a)
  | .mt m o es => .of (kMt m (den G o).e (den G es).a)
  | .lz a b => .of (kLz (den G a).e (den G b).e)
  | .lc own tg ik its cond elt => .of (kLc own tg (kIter ik (den G its).a) (den G cond).nt (den G elt).e)
  | .dcI own i tv its val => .of (kDcI own tv (den G its).e (den G val).e)
  | .dc2 own own1 t1 i1 t2 i2 cond key val => .of (kDc2 own own1 t1 t2 (kIterF .seq (den G i1).a) (kIterF .seq (den G i2).a) (den G cond).nt (den G key).e (den G val).e)
  | .dct0 => .of fun _ M => .ok (.dT [] [], .fr) M
  | .dcti0 => .of fun _ M => .ok (.dI [] [], .fr) M
  | .dct1 k v => .of (kDct1 (den G k).e (den G v).e)
  | .fstr ps => .of (kFstr (den G ps).a)
  | .cell e => .ofT (kCell (den G e).e) nope
  | .fzE e => .ofT (kFz (den G e).e) nope
  | .none => ⟨nope, nope, nope, fun _ M => .ok none M, nope, nope, fun _ M => .ok true M, nope, false⟩
  | .anil => ⟨nope, nope, fun _ M => .ok [] M, nope, nope, nope, nope, nope, true⟩
  | .acons e r => ⟨nope, nope, kCons (den G e).e (den G r).a, nope,
      if (den G r).nil then (den G e).e else kAnd (den G e).e (den G r).ne,
      if (den G r).nil then (den G e).e else kOr (den G e).e (den G r).oe,
      if (den G r).nil then (den G e).t else kAndT (den G e).t (den G r).nt,
      if (den G r).nil then (den G e).t else kOrT (den G e).t (den G r).ot, false⟩

inductive CS where
  | nil
  | cons (s r : CS)
  | frz (i : Nat) (r : CS)
  | kill (i : Nat) (r : CS)
  | expr (e : CE)
  | app (i : Nat) (e : CE)
  | set (i : Nat) (e : CE)
  | unp (tg : TGt) (e : CE)
  | par (i j : Nat) (a b : CE)
  | seti (i : Nat) (k v : CE)
  | ret (e : CE)
  | retV (i : Nat)
  | retN
  | ife (c : CE) (a b : CS)
  | wh (n : Nat) (kl : List Nat) (c : CE) (b : CS)
  | for (kl : List Nat) (tg : TGt) (ik : IK) (its : CE) (b : CS)
  | brk | cont | pass | doc
  | raise (c : Nat) (x m : String)
def killD (kl : List Nat) (ds : List Sl) : List Sl := wipeD kl ds
def forL (bnd : D → List Sl → Option (List Sl)) (body : List Sl → MS → Out) (kl : List Nat) : List D → List Sl → MS → Out
  | [], ds, M => .next ds M
  | x :: xs, ds, M => match bnd x ds with
    | none => .stuck
    | some ds1 => match body ds1 M with
      | .next ds2 M2 => forL bnd body kl xs (killD kl ds2) M2
      | .cont ds2 M2 => forL bnd body kl xs (killD kl ds2) M2
      | .brk ds2 M2 => .next (killD kl ds2) M2
      | o => o
def whL (c : List Sl → MS → R Bool) (body : List Sl → MS → Out) (kl : List Nat) : Nat → List Sl → MS → Out
  | 0, _, _ => .stuck
  | n + 1, ds, M => (c ds M).then ds fun b M1 => if b then
      match body ds M1 with
      | .next ds2 M2 => whL c body kl n (killD kl ds2) M2
      | .cont ds2 M2 => whL c body kl n (killD kl ds2) M2
      | .brk ds2 M2 => .next (killD kl ds2) M2
      | o => o
    else .next ds M1
/-- a value into a name's slot -/
def putS (ds : List Sl) (i : Nat) (v : RV) : Option (List Sl) := match v.2 with
  | .fz => some (ds.set i (.fz v.1))
  | .fr => some (ds.set i (.ow v.1))
  | .bo => none
def xSet (i : Nat) (f : List Sl → MS → R RV) : List Sl → MS → Out := fun ds M => (f ds M).then ds fun v M1 => match putS ds i v with
  | some ds1 => .next ds1 M1
  | none => .stuck
def xUnp (tg : TGt) (f : List Sl → MS → R RV) : List Sl → MS → Out := fun ds M => (f ds M).then ds fun v M1 => match bindT tg v.1 ds with
  | some ds1 => .next ds1 M1
  | none => .stuck
def parN (ds : List Sl) (i j : Nat) (v w : RV) (M : MS) : Out := match v.2, w.2 with
  | .fz, _ => (match putS (ds.set i (.fz v.1)) j w with
    | some ds2 => .next ds2 M
    | none => .stuck)
  | .fr, .fz => .next ((ds.set i (.ow v.1)).set j (.fz w.1)) M
  | _, _ => .stuck
def xPar (i j : Nat) (f g : List Sl → MS → R RV) : List Sl → MS → Out := fun ds M => (f ds M).then ds fun v M1 => (g ds M1).then ds fun w M2 => parN ds i j v w M2
def xApp (i : Nat) (f : List Sl → MS → R RV) : List Sl → MS → Out := fun ds M => match ds[i]? with
  | some (.ow (.lst xs)) => (f ds M).then ds fun v M1 => if v.2 = .bo then .stuck else if xs.length < LIM then .next (ds.set i (.ow (.lst (xs ++ [v.1])))) M1 else .stuck
  | some (.fz (.ref n)) => (f ds M).then ds fun v M1 => if v.2 = .bo then .stuck else match M1[n]? with
    | some xs => if xs.length < LIM then .next ds (M1.set n (xs ++ [v.1])) else .stuck
    | none => .stuck
  | _ => .stuck
def xSeti (i : Nat) (k f : List Sl → MS → R RV) : List Sl → MS → Out := fun ds M => (f ds M).then ds fun v M1 => if v.2 = .bo then .stuck else match ds[i]? with
  | some (.ow (.lst xs)) => (k ds M1).then ds fun j M2 => match j.1 with
    | .int j => (match ixD xs.length j with
      | some p => .next (ds.set i (.ow (.lst (xs.set p v.1)))) M2
      | none => .stuck)
    | _ => .stuck
  | some (.ow (.dT ks vs)) => (k ds M1).then ds fun j M2 => match j.2, keyT j.1 with
    | .fz, some kk => if ks.length < LIM then .next (ds.set i (.ow (.dT (putT ks vs kk v.1).1 (putT ks vs kk v.1).2))) M2 else .stuck
    | _, _ => .stuck
  | some (.ow (.dI ks vs)) => (k ds M1).then ds fun j M2 => match j.1 with
    | .int kk => if ks.length < LIM then .next (ds.set i (.ow (.dI (putI ks vs kk v.1).1 (putI ks vs kk v.1).2))) M2 else .stuck
    | _ => .stuck
  | some (.fz (.ref n)) => (k ds M1).then ds fun j M2 => match M2[n]?, j.1 with
    | some xs, .int j => (match ixD xs.length j with
      | some p => .next ds (M2.set n (xs.set p v.1))
      | none => .stuck)
    | _, _ => .stuck
  | _ => .stuck
def xRet (f : List Sl → MS → R RV) : List Sl → MS → Out := fun ds M => (f ds M).then ds fun v M1 => if v.2 = .bo then .stuck else .ret v M1
def xRetV (i : Nat) : List Sl → MS → Out := fun ds M => match ds[i]? with
  | some (.fz d) => .ret (d, .fz) M
  | some (.ow d) => .ret (d, .fr) M
  | _ => .stuck
def exec (G : Nat → Fn) : CS → List Sl → MS → Out
  | .nil => fun ds M => .next ds M
  | .cons s r => fun ds M => (exec G s ds M).andThen (exec G r)
  | .frz i r => fun ds M => match ds[i]? with
    | some (.ow d) => exec G r (ds.set i (.fz d)) M
    | some (.fz _) => exec G r ds M
    | _ => .stuck
  | .kill i r => fun ds M => exec G r (ds.set i .no) M
  | .expr e => fun ds M => ((den G e).e ds M).then ds fun _ M1 => .next ds M1
  | .app i e => xApp i (den G e).e
  | .set i e => xSet i (den G e).e
  | .unp tg e => xUnp tg (den G e).e
  | .par i j a b => xPar i j (den G a).e (den G b).e
  | .seti i k v => xSeti i (den G k).e (den G v).e
  | .ret e => xRet (den G e).e
  | .retV i => xRetV i
  | .retN => fun _ M => .ret (.non, .fz) M
  | .ife c a b => fun ds M => ((den G c).t ds M).then ds fun k M1 => if k then exec G a ds M1 else exec G b ds M1
  | .wh n kl c b => whL (den G c).t (exec G b) kl n
  | .for kl tg ik its b => fun ds M => (kIterF ik (den G its).a ds M).then ds fun xs M1 => forL (bindT tg) (exec G b) kl xs ds M1
  | .brk => fun ds M => .brk ds M
  | .cont => fun ds M => .cont ds M
  | .pass => fun ds M => .next ds M
  | .doc => fun ds M => .next ds M
  | .raise c _ _ => fun ds M => .exc (.own c) ds M
/-- a def: its arguments in the first slots -/
def Out.fn : Out → R RV
  | .next _ M => .ok (.non, .fz) M
  | .ret v M => .ok v M
  | .exc e _ M => .exc e M
  | _ => .stuck
def runDef (G : Nat → Fn) (n ps : Nat) (body : CS) : Fn := fun vs M => if vs.length = ps then
  (exec G body (vs.map Sl.fz ++ List.replicate (n - ps) .no) M).fn else .stuck
end PL
end
section
set_option linter.all false
set_option maxRecDepth 100000
set_option maxHeartbeats 1000000
set_option autoImplicit false
namespace PL
open PySem PySem.Spec PyProof.Rows L2

/-- a heap, the places that data must not lean on, the shared lists' places -/
structure Pl where
  K : PySem.W.Frag
  H : Hp
  N : Addr → Prop
  μ : List Addr
def KL (K : PySem.W.Frag) (a : Addr) (xs : List V) : Prop := ∀ H : Hp, SqL K H a xs
def kI (ks : List Int) : List Key := ks.map Sum.inl
def kT (ks : List (List Int)) : List (List Key) := ks.map fun k => k.map Sum.inl
mutual
def Rep (p : Pl) : D → V → Prop
  | .non, v => v = .non
  | .bl b, v => v = .bl b
  | .int i, v => v = .int i
  | .str s, v => v = .str s
  | .tup xs, v => ∃ a vs, v = .ref a ∧ ¬ p.N a ∧ p.H a = some (.tup vs) ∧ RepL p xs vs
  | .lst xs, v => ∃ a vs, v = .ref a ∧ ¬ p.N a ∧ p.H a = some (.lst vs) ∧ RepL p xs vs
  | .dI ks xs, v => ∃ a vs, v = .ref a ∧ ¬ p.N a ∧ p.H a = some (.dK ((kI ks).zip vs)) ∧ ks.length = vs.length ∧ RepL p xs vs
  | .dT ks xs, v => ∃ a vs, v = .ref a ∧ ¬ p.N a ∧ p.H a = some (.dT ((kT ks).zip vs)) ∧ ks.length = vs.length ∧ RepL p xs vs
  | .ref n, v => ∃ a, v = .ref a ∧ p.μ[n]? = some a
  | .scr ns, v => ∃ a, v = .ref a ∧ ((¬ p.N a ∧ Rd p.H a (.lst (ns.map V.int))) ∨ KL p.K a (ns.map V.int))
def RepL (p : Pl) : List D → List V → Prop
  | [], vs => vs = []
  | x :: xs, vs => ∃ v r, vs = v :: r ∧ Rep p x v ∧ RepL p xs r
end
/-- all that is not forbidden is kept, and not forbidden then -/
structure Evo (p q : Pl) : Prop where
  k : q.K = p.K
  keep : ∀ a o, p.H a = some o → ¬ p.N a → q.H a = some o ∧ ¬ q.N a
  pre : ∀ (n : Nat) (a : Addr), p.μ[n]? = some a → q.μ[n]? = some a
theorem Evo.refl (p : Pl) : Evo p p := ⟨rfl, fun _ _ h n => ⟨h, n⟩, fun _ _ h => h⟩
theorem Evo.trans {p q r : Pl} (a : Evo p q) (b : Evo q r) : Evo p r :=
  ⟨b.k.trans a.k, fun x o h n => b.keep x o (a.keep x o h n).1 (a.keep x o h n).2, fun n x h => b.pre n x (a.pre n x h)⟩
mutual
theorem Rep.mono {p q : Pl} (e : Evo p q) : ∀ (d : D) (v : V), Rep p d v → Rep q d v
  | .non, _, h => h
  | .bl _, _, h => h
  | .int _, _, h => h
  | .str _, _, h => h
  | .tup xs, v, ⟨a, vs, h1, h2, h3, h4⟩ => ⟨a, vs, h1, (e.keep a _ h3 h2).2, (e.keep a _ h3 h2).1, RepL.mono e xs vs h4⟩
  | .lst xs, v, ⟨a, vs, h1, h2, h3, h4⟩ => ⟨a, vs, h1, (e.keep a _ h3 h2).2, (e.keep a _ h3 h2).1, RepL.mono e xs vs h4⟩
  | .dI ks xs, v, ⟨a, vs, h1, h2, h3, h4, h5⟩ => ⟨a, vs, h1, (e.keep a _ h3 h2).2, (e.keep a _ h3 h2).1, h4, RepL.mono e xs vs h5⟩
  | .dT ks xs, v, ⟨a, vs, h1, h2, h3, h4, h5⟩ => ⟨a, vs, h1, (e.keep a _ h3 h2).2, (e.keep a _ h3 h2).1, h4, RepL.mono e xs vs h5⟩
  | .ref n, v, ⟨a, h1, h2⟩ => ⟨a, h1, e.pre n a h2⟩
  | .scr ns, v, ⟨a, h1, h2⟩ => ⟨a, h1, by
      rcases h2 with ⟨n, h | ⟨o, h⟩⟩ | h
      · exact .inl ⟨(e.keep a _ h n).2, .inl (e.keep a _ h n).1⟩
      · exact .inl ⟨(e.keep a _ h n).2, .inr ⟨o, (e.keep a _ h n).1⟩⟩
      · exact .inr (by rw [e.k]; exact h)⟩
theorem RepL.mono {p q : Pl} (e : Evo p q) : ∀ (xs : List D) (vs : List V), RepL p xs vs → RepL q xs vs
  | [], _, h => h
  | x :: xs, _, ⟨v, r, h1, h2, h3⟩ => ⟨v, r, h1, Rep.mono e x v h2, RepL.mono e xs r h3⟩
end
theorem RepL.length {p : Pl} : ∀ {xs : List D} {vs : List V}, RepL p xs vs → xs.length = vs.length
  | [], vs, h => by rw [show vs = [] from h]; rfl
  | x :: xs, _, ⟨v, r, h1, h2, h3⟩ => by rw [h1, List.length_cons, List.length_cons, RepL.length h3]
theorem RepL.get {p : Pl} : ∀ {xs : List D} {vs : List V} {i : Nat} {d : D}, RepL p xs vs → xs[i]? = some d → ∃ v, vs[i]? = some v ∧ Rep p d v
  | [], _, i, d, h, e => by simp at e
  | x :: xs, _, 0, d, ⟨v, r, h1, h2, h3⟩, e => by
    simp at e; subst e; exact ⟨v, by rw [h1]; rfl, h2⟩
  | x :: xs, _, i + 1, d, ⟨v, r, h1, h2, h3⟩, e => by
    obtain ⟨w, a, b⟩ := RepL.get (i := i) (d := d) h3 (by simpa using e)
    exact ⟨w, by rw [h1]; simpa using a, b⟩
theorem RepL.append {p : Pl} : ∀ {xs ys : List D} {vs ws : List V}, RepL p xs vs → RepL p ys ws → RepL p (xs ++ ys) (vs ++ ws)
  | [], ys, vs, ws, h, g => by rw [show vs = [] from h]; exact g
  | x :: xs, ys, vs, ws, ⟨v, r, h1, h2, h3⟩, g => by rw [h1]; exact ⟨v, r ++ ws, rfl, h2, RepL.append h3 g⟩
theorem RepL.set {p : Pl} {d : D} {v : V} (hd : Rep p d v) : ∀ {xs : List D} {vs : List V} (i : Nat), RepL p xs vs → RepL p (xs.set i d) (vs.set i v)
  | [], vs, i, h => by rw [show vs = [] from h]; exact rfl
  | x :: xs, vs, 0, ⟨w, r, h1, h2, h3⟩ => by rw [h1]; exact ⟨v, r, rfl, hd, h3⟩
  | x :: xs, vs, i + 1, ⟨w, r, h1, h2, h3⟩ => by rw [h1]; exact ⟨w, r.set i v, rfl, h2, RepL.set hd i h3⟩
theorem RepL.drop {p : Pl} : ∀ {xs : List D} {vs : List V} (n : Nat), RepL p xs vs → RepL p (xs.drop n) (vs.drop n)
  | xs, vs, 0, h => h
  | [], vs, n + 1, h => by rw [show vs = [] from h]; exact rfl
  | x :: xs, vs, n + 1, ⟨w, r, h1, h2, h3⟩ => by rw [h1]; exact RepL.drop n h3
theorem RepL.take {p : Pl} : ∀ {xs : List D} {vs : List V} (n : Nat), RepL p xs vs → RepL p (xs.take n) (vs.take n)
  | xs, vs, 0, h => rfl
  | [], vs, n + 1, h => by rw [show vs = [] from h]; exact rfl
  | x :: xs, vs, n + 1, ⟨w, r, h1, h2, h3⟩ => by rw [h1]; exact ⟨w, r.take n, rfl, h2, RepL.take n h3⟩
theorem RepL.ints {p : Pl} : ∀ (ns : List Int), RepL p (ns.map D.int) (ns.map V.int)
  | [] => rfl
  | n :: ns => ⟨_, _, rfl, rfl, RepL.ints ns⟩
theorem RepL.ints_of {p : Pl} : ∀ {xs : List D} {vs : List V} {l : List Int}, RepL p xs vs → ints? xs = some l → vs = l.map V.int ∧ xs = l.map D.int
  | [], vs, l, h, e => by
    have : l = [] := (Option.some.inj e).symm
    subst this; exact ⟨h, rfl⟩
  | .int i :: xs, vs, l, ⟨w, r, h1, h2, h3⟩, e => by
    simp only [ints?] at e
    obtain ⟨l', e1, e2⟩ := Option.map_eq_some_iff.mp e
    subst e2
    obtain ⟨a, b⟩ := RepL.ints_of h3 e1
    rw [h1, a, b, show w = .int i from h2]
    exact ⟨rfl, rfl⟩
  | .non :: _, _, _, _, e => by simp [ints?] at e
  | .bl _ :: _, _, _, _, e => by simp [ints?] at e
  | .str _ :: _, _, _, _, e => by simp [ints?] at e
  | .tup _ :: _, _, _, _, e => by simp [ints?] at e
  | .lst _ :: _, _, _, _, e => by simp [ints?] at e
  | .dI _ _ :: _, _, _, _, e => by simp [ints?] at e
  | .dT _ _ :: _, _, _, _, e => by simp [ints?] at e
  | .ref _ :: _, _, _, _, e => by simp [ints?] at e
  | .scr _ :: _, _, _, _, e => by simp [ints?] at e
theorem RepL.bls_of {p : Pl} : ∀ {xs : List D} {vs : List V} {l : List Bool}, RepL p xs vs → bls? xs = some l → vs = l.map V.bl
  | [], vs, l, h, e => by
    have : l = [] := (Option.some.inj e).symm
    subst this; exact h
  | .bl i :: xs, vs, l, ⟨w, r, h1, h2, h3⟩, e => by
    simp only [bls?] at e
    obtain ⟨l', e1, e2⟩ := Option.map_eq_some_iff.mp e
    subst e2
    rw [h1, RepL.bls_of h3 e1, show w = .bl i from h2]
    rfl
  | .non :: _, _, _, _, e => by simp [bls?] at e
  | .int _ :: _, _, _, _, e => by simp [bls?] at e
  | .str _ :: _, _, _, _, e => by simp [bls?] at e
  | .tup _ :: _, _, _, _, e => by simp [bls?] at e
  | .lst _ :: _, _, _, _, e => by simp [bls?] at e
  | .dI _ _ :: _, _, _, _, e => by simp [bls?] at e
  | .dT _ _ :: _, _, _, _, e => by simp [bls?] at e
  | .ref _ :: _, _, _, _, e => by simp [bls?] at e
  | .scr _ :: _, _, _, _, e => by simp [bls?] at e
theorem RepL.strs_of {p : Pl} : ∀ {xs : List D} {vs : List V} {l : List Str}, RepL p xs vs → strs? xs = some l → vs = l.map V.str
  | [], vs, l, h, e => by
    have : l = [] := (Option.some.inj e).symm
    subst this; exact h
  | .str i :: xs, vs, l, ⟨w, r, h1, h2, h3⟩, e => by
    simp only [strs?] at e
    obtain ⟨l', e1, e2⟩ := Option.map_eq_some_iff.mp e
    subst e2
    rw [h1, RepL.strs_of h3 e1, show w = .str i from h2]
    rfl
  | .non :: _, _, _, _, e => by simp [strs?] at e
  | .int _ :: _, _, _, _, e => by simp [strs?] at e
  | .bl _ :: _, _, _, _, e => by simp [strs?] at e
  | .tup _ :: _, _, _, _, e => by simp [strs?] at e
  | .lst _ :: _, _, _, _, e => by simp [strs?] at e
  | .dI _ _ :: _, _, _, _, e => by simp [strs?] at e
  | .dT _ _ :: _, _, _, _, e => by simp [strs?] at e
  | .ref _ :: _, _, _, _, e => by simp [strs?] at e
  | .scr _ :: _, _, _, _, e => by simp [strs?] at e

/-- what a changeable thing at a is -/
def Own (p : Pl) : D → Addr → Prop
  | .lst xs, a => ∃ vs, p.H a = some (.lst vs) ∧ RepL p xs vs
  | .dI ks xs, a => ∃ vs, p.H a = some (.dK ((kI ks).zip vs)) ∧ ks.length = vs.length ∧ RepL p xs vs
  | .dT ks xs, a => ∃ vs, p.H a = some (.dT ((kT ks).zip vs)) ∧ ks.length = vs.length ∧ RepL p xs vs
  | _, _ => False
theorem Own.rep {p : Pl} {d : D} {a : Addr} (h : Own p d a) (n : ¬ p.N a) : Rep p d (.ref a) := by
  cases d with
  | lst xs => obtain ⟨vs, h1, h2⟩ := h; exact ⟨a, vs, rfl, n, h1, h2⟩
  | dI ks xs => obtain ⟨vs, h1, h2, h3⟩ := h; exact ⟨a, vs, rfl, n, h1, h2, h3⟩
  | dT ks xs => obtain ⟨vs, h1, h2, h3⟩ := h; exact ⟨a, vs, rfl, n, h1, h2, h3⟩
  | _ => exact h.elim
theorem Own.mono {p q : Pl} (e : Evo p q) {d : D} {a : Addr} (hk : q.H a = p.H a) (h : Own p d a) : Own q d a := by
  cases d with
  | lst xs => obtain ⟨vs, h1, h2⟩ := h; exact ⟨vs, by rw [hk]; exact h1, h2.mono e⟩
  | dI ks xs => obtain ⟨vs, h1, h2, h3⟩ := h; exact ⟨vs, by rw [hk]; exact h1, h2, h3.mono e⟩
  | dT ks xs => obtain ⟨vs, h1, h2, h3⟩ := h; exact ⟨vs, by rw [hk]; exact h1, h2, h3.mono e⟩
  | _ => exact h.elim
theorem Own.some {p : Pl} {d : D} {a : Addr} (h : Own p d a) : ∃ o, p.H a = some o := by
  cases d with
  | lst xs => obtain ⟨vs, h1, h2⟩ := h; exact ⟨_, h1⟩
  | dI ks xs => obtain ⟨vs, h1, h2, h3⟩ := h; exact ⟨_, h1⟩
  | dT ks xs => obtain ⟨vs, h1, h2, h3⟩ := h; exact ⟨_, h1⟩
  | _ => exact h.elim
/-- the shared lists -/
structure MR (p : Pl) (M : MS) : Prop where
  len : p.μ.length = M.length
  nd : p.μ.Nodup
  inN : ∀ a ∈ p.μ, p.N a
  cell : ∀ (n : Nat) (a : Addr) (xs : List D), p.μ[n]? = some a → M[n]? = some xs → Own p (.lst xs) a
/-- one more place forbidden -/
def Pl.but (p : Pl) (a : Addr) : Pl := { p with N := fun b => p.N b ∨ b = a }
/-- a value as it is held -/
def RVk (p : Pl) (Hs : Hp) (M : MS) (v : RV) (x : V) : Prop := match v.2 with
  | .fz => Rep p v.1 x
  | .fr => ∃ a, x = .ref a ∧ Hs a = none ∧ ¬ p.N a ∧ Own (p.but a) v.1 a ∧ MR (p.but a) M
  | .bo => ∃ a, x = .ref a ∧ a ∉ p.μ ∧ Own p v.1 a
structure Fr0 where
  K : PySem.W.Frag
  N0 : Addr → Prop
  H0 : Hp
  μ0 : List Addr
  xa : Nat → Addr
  xf : Nat → Str
def NN (F : Fr0) (μ : List Addr) (oa : Nat → Option Addr) : Addr → Prop := fun a => F.N0 a ∨ a ∈ μ ∨ ∃ i, oa i = some a
def Fr0.pl (F : Fr0) (μ : List Addr) (oa : Nat → Option Addr) (H : Hp) : Pl := ⟨F.K, H, NN F μ oa, μ⟩
structure Rl (F : Fr0) (μ : List Addr) (oa : Nat → Option Addr) (ds : List Sl) (M : MS) (σ : L2.St) (H : Hp) : Prop where
  len : σ.length = ds.length
  fz : ∀ (i : Nat) (d : D), ds[i]? = some (Sl.fz d) → ∃ v : V, σ[i]? = some (some v) ∧ Rep (F.pl μ oa H) d v
  ow : ∀ (i : Nat) (d : D), ds[i]? = some (Sl.ow d) → ∃ a, oa i = some a ∧ σ[i]? = some (some (V.ref a)) ∧ Own (F.pl μ oa H) d a
  inj : ∀ (i j : Nat) (a : Addr), oa i = some a → oa j = some a → i = j
  ofr : ∀ (i : Nat) (a : Addr), oa i = some a → F.H0 a = none ∧ a ∉ μ ∧ ¬ F.N0 a
  mr : MR (F.pl μ oa H) M
  dom : ∀ a, NN F μ oa a → ∃ o, H a = some o
  keep : ∀ a o, F.H0 a = some o → a ∉ F.μ0 → H a = some o
  pre : ∃ t, μ = F.μ0 ++ t ∧ ∀ a ∈ t, F.H0 a = none
  fin : ∃ b : Nat, ∀ i, b ≤ i → oa i = none
/-- how an expression may leave the heap: shared lists apart all is kept -/
structure EvE (μ : List Addr) (H : Hp) (μ' : List Addr) (H' : Hp) : Prop where
  keep : ∀ a o, H a = some o → a ∉ μ → H' a = some o
  pre : ∃ t, μ' = μ ++ t ∧ ∀ a ∈ t, H a = none
  dom : ∀ a ∈ μ, ∃ o, H' a = some o
theorem EvE.back {μ μ' : List Addr} {H H' : Hp} (e : EvE μ H μ' H') {a : Addr} (h : H' a = none) : H a = none := by
  cases q : H a with
  | none => rfl
  | some o =>
    by_cases hm : a ∈ μ
    · obtain ⟨o', h'⟩ := e.dom a hm
      rw [h] at h'; cases h'
    · rw [e.keep a o q hm] at h; cases h
theorem EvE.trans {μ μ1 μ2 : List Addr} {H H1 H2 : Hp} (a : EvE μ H μ1 H1) (b : EvE μ1 H1 μ2 H2) : EvE μ H μ2 H2 := by
  obtain ⟨t, e1, f1⟩ := a.pre
  obtain ⟨u, e2, f2⟩ := b.pre
  refine ⟨fun x o h n => b.keep x o (a.keep x o h n) ?_, ⟨t ++ u, by rw [e2, e1, List.append_assoc], fun x hx => ?_⟩, fun x hx => ?_⟩
  · rw [e1]
    intro hm
    rcases List.mem_append.mp hm with hm | hm
    · exact n hm
    · rw [f1 x hm] at h; cases h
  · rcases List.mem_append.mp hx with hx | hx
    · exact f1 x hx
    · exact a.back (f2 x hx)
  · exact b.dom x (by rw [e1]; exact List.mem_append_left _ hx)
theorem EvE.refl {F : Fr0} {μ : List Addr} {oa : Nat → Option Addr} {ds : List Sl} {M : MS} {σ : L2.St} {H : Hp} (r : Rl F μ oa ds M σ H) : EvE μ H μ H :=
  ⟨fun _ _ h _ => h, ⟨[], by simp, fun _ h => by simp at h⟩, fun a h => r.dom a (.inr (.inl h))⟩
/-- data are kept -/
theorem EvE.evo {F : Fr0} {μ μ' : List Addr} {oa : Nat → Option Addr} {H H' : Hp} (e : EvE μ H μ' H') : Evo (F.pl μ oa H) (F.pl μ' oa H') := by
  obtain ⟨t, e1, f1⟩ := e.pre
  refine ⟨rfl, fun a o h n => ⟨e.keep a o h fun hm => n (.inr (.inl hm)), fun n' => ?_⟩, fun n a h => ?_⟩
  · rcases n' with n' | n' | n'
    · exact n (.inl n')
    · have n' : a ∈ μ' := n'
      rw [e1] at n'
      rcases List.mem_append.mp n' with n' | n'
      · exact n (.inr (.inl n'))
      · have h : H a = some o := h
        rw [f1 a n'] at h; cases h
    · exact n (.inr (.inr n'))
  · show μ'[n]? = some a
    have h : μ[n]? = some a := h
    rw [e1, List.getElem?_append_left (List.getElem?_eq_some_iff.mp h).1]; exact h
section
variable {F : Fr0} {μ μ' : List Addr} {oa : Nat → Option Addr} {ds : List Sl} {M M' : MS} {σ : L2.St} {H H' : Hp}
/-- a new thing laid -/
theorem evo_upd {p : Pl} {a : Addr} {o : HO} (h : p.H a = none) : Evo p { p with H := upd p.H a o } :=
  ⟨rfl, fun b u e n => ⟨by show upd p.H a o b = _; rw [upd_ne (ne_of_none e h)]; exact e, n⟩, fun _ _ h => h⟩
theorem Rl.alloc {a : Addr} {o : HO} (r : Rl F μ oa ds M σ H) (h : H a = none) : Rl F μ oa ds M σ (upd H a o) := by
  have e : Evo (F.pl μ oa H) (F.pl μ oa (upd H a o)) := evo_upd (p := F.pl μ oa H) h
  have ne : ∀ b, NN F μ oa b → upd H a o b = H b := fun b hb => by
    obtain ⟨u, hu⟩ := r.dom b hb
    rw [upd_ne (ne_of_none hu h)]
  refine ⟨r.len, fun i d q => ?_, fun i d q => ?_, r.inj, r.ofr, ⟨r.mr.len, r.mr.nd, r.mr.inN, fun n b xs h1 h2 => ?_⟩, fun b hb => by rw [ne b hb]; exact r.dom b hb, fun b u q hn => ?_, r.pre, r.fin⟩
  · obtain ⟨v, h1, h2⟩ := r.fz i d q
    exact ⟨v, h1, h2.mono e⟩
  · obtain ⟨b, h1, h2, h3⟩ := r.ow i d q
    exact ⟨b, h1, h2, h3.mono e (ne b (.inr (.inr ⟨i, h1⟩)))⟩
  · exact (r.mr.cell n b xs h1 h2).mono e (ne b (.inr (.inl (List.mem_of_getElem? h1))))
  · have := r.keep b u q hn
    rw [upd_ne (ne_of_none this h)]; exact this
theorem EvE.alloc {a : Addr} {o : HO} (r : Rl F μ oa ds M σ H) (h : H a = none) : EvE μ H μ (upd H a o) :=
  ⟨fun b u e _ => by rw [upd_ne (ne_of_none e h)]; exact e, ⟨[], by simp, fun _ h => by simp at h⟩, fun b hb => by
    obtain ⟨u, hu⟩ := r.dom b (.inr (.inl hb))
    exact ⟨u, by rw [upd_ne (ne_of_none hu h)]; exact hu⟩⟩
theorem Rl.notN (r : Rl F μ oa ds M σ H) {a : Addr} (h : H a = none) : ¬ NN F μ oa a := fun n => by
  obtain ⟨o, q⟩ := r.dom a n
  rw [h] at q; cases q
/-- data stand apart from what was not there -/
theorem evo_but {p : Pl} {a : Addr} (h : p.H a = none) : Evo p (p.but a) :=
  ⟨rfl, fun b o e n => ⟨e, fun n' => n'.elim n fun q => by rw [q, h] at e; cases e⟩, fun _ _ h => h⟩
theorem evo_unbut {p : Pl} {a : Addr} : Evo (p.but a) p := ⟨rfl, fun b o e n => ⟨e, fun n' => n (.inl n')⟩, fun _ _ h => h⟩
theorem evo_but_upd {p : Pl} {a : Addr} {o : HO} (h : p.H a = none) : Evo p ({ p with H := upd p.H a o }.but a) :=
  ⟨rfl, fun b u e n => ⟨by show upd p.H a o b = _; rw [upd_ne (ne_of_none e h)]; exact e, fun n' => n'.elim n fun q => by rw [q, h] at e; cases e⟩, fun _ _ h => h⟩
theorem MR.but {p : Pl} {M : MS} {a : Addr} {o : HO} (m : MR p M) (hd : ∀ b, p.N b → ∃ o, p.H b = some o) (h : p.H a = none) : MR ({ p with H := upd p.H a o }.but a) M := by
  refine ⟨m.len, m.nd, fun b hb => .inl (m.inN b hb), fun n b xs h1 h2 => (m.cell n b xs h1 h2).mono (evo_but_upd h) ?_⟩
  obtain ⟨u, hu⟩ := hd b (m.inN b (List.mem_of_getElem? h1))
  show upd p.H a o b = _
  rw [upd_ne (ne_of_none hu h)]
/-- a new list (dict) as a value -/
theorem RVk.new {a : Addr} {o : HO} {d : D} {Hs : Hp} (r : Rl F μ oa ds M σ H) (e : EvE μ' Hs μ H) (h : H a = none) (hown : Own ((F.pl μ oa (upd H a o)).but a) d a) : RVk (F.pl μ oa (upd H a o)) Hs M (d, .fr) (.ref a) :=
  ⟨a, rfl, e.back h, r.notN h, hown, r.mr.but r.dom h⟩
/-- in any case it may be kept as data -/
theorem RVk.rep {p : Pl} {Hs : Hp} {v : RV} {x : V} (h : RVk p Hs M v x) (n : v.2 ≠ .bo) : Rep p v.1 x := by
  obtain ⟨d, k⟩ := v
  cases k with
  | fz => exact h
  | fr =>
    obtain ⟨a, rfl, _, hn, ho, _⟩ := h
    exact (ho.mono evo_unbut rfl).rep hn
  | bo => exact absurd rfl n
theorem RVk.evo {Hs : Hp} {v : RV} {x : V} (r : Rl F μ oa ds M σ H) (e : EvE μ H μ' H') (r' : Rl F μ' oa ds M' σ H') (h : RVk (F.pl μ oa H) Hs M v x) (nf : v.2 ≠ .fr) : RVk (F.pl μ' oa H') Hs M' v x := by
  obtain ⟨d, k⟩ := v
  cases k with
  | fz => exact Rep.mono e.evo _ _ h
  | fr => exact absurd rfl nf
  | bo =>
    obtain ⟨a, rfl, hm, ho⟩ := h
    obtain ⟨o, q⟩ := ho.some
    have q : H a = Option.some o := q
    have q' : H' a = some o := e.keep a o q hm
    refine ⟨a, rfl, fun hm' => ?_, ho.mono e.evo (q'.trans q.symm)⟩
    obtain ⟨t, e1, f1⟩ := e.pre
    have hm' : a ∈ μ' := hm'
    rw [e1] at hm'
    rcases List.mem_append.mp hm' with z | z
    · exact hm z
    · rw [f1 a z] at q; cases q
/-- a value read, whatever its kind: what may be asked of it later -/
def RVr (p : Pl) (d : D) (x : V) : Prop := Rep p d x ∨ ∃ a, x = .ref a ∧ a ∉ p.μ ∧ Own p d a
theorem RVk.r {p : Pl} {Hs : Hp} {v : RV} {x : V} (h : RVk p Hs M v x) : RVr p v.1 x := by
  obtain ⟨d, k⟩ := v
  cases k with
  | fz => exact .inl h
  | fr => exact .inl (RVk.rep h (by simp))
  | bo => obtain ⟨a, h1, h2, h3⟩ := h; exact .inr ⟨a, h1, h2, h3⟩
theorem RVr.evo {d : D} {x : V} (e : EvE μ H μ' H') (h : RVr (F.pl μ oa H) d x) : RVr (F.pl μ' oa H') d x := by
  rcases h with h | ⟨a, rfl, hm, ho⟩
  · exact .inl (Rep.mono e.evo _ _ h)
  · obtain ⟨o, q⟩ := ho.some
    have q : H a = some o := q
    have q' : H' a = some o := e.keep a o q hm
    refine .inr ⟨a, rfl, fun hm' => ?_, ho.mono e.evo (q'.trans q.symm)⟩
    obtain ⟨t, e1, f1⟩ := e.pre
    have hm' : a ∈ μ' := hm'
    rw [e1] at hm'
    rcases List.mem_append.mp hm' with z | z
    · exact hm z
    · rw [f1 a z] at q; cases q
theorem RVk.back {p : Pl} {Hs : Hp} {v : RV} {x : V} (e : EvE μ Hs μ' H) (h : RVk p H M v x) : RVk p Hs M v x := by
  obtain ⟨d, k⟩ := v
  cases k with
  | fz => exact h
  | fr => obtain ⟨a, h1, h2, h3⟩ := h; exact ⟨a, h1, e.back h2, h3⟩
  | bo => exact h
/-- args that are handed on (kinds forgotten) -/
def RVrs (p : Pl) : List RV → List V → Prop
  | [], xs => xs = []
  | v :: vs, xs => ∃ x r, xs = x :: r ∧ RVr p v.1 x ∧ (v.2 ≠ .bo → Rep p v.1 x) ∧ RVrs p vs r
theorem RVrs.evo (e : EvE μ H μ' H') : ∀ {vs : List RV} {xs : List V}, RVrs (F.pl μ oa H) vs xs → RVrs (F.pl μ' oa H') vs xs
  | [], xs, h => h
  | v :: vs, _, ⟨x, r, q, h1, h2, h3⟩ => ⟨x, r, q, h1.evo e, fun n => (h2 n).mono e.evo, RVrs.evo e h3⟩
theorem RVrs.repL {p : Pl} : ∀ {vs : List RV} {xs : List V}, RVrs p vs xs → anyBo vs = false → RepL p (vs.map (·.1)) xs
  | [], xs, h, _ => h
  | v :: vs, _, ⟨x, r, e, h1, h2, h3⟩, n => by
    have n : (v.2 == Kd.bo || anyBo vs) = false := n
    rw [Bool.or_eq_false_iff] at n
    rw [e]
    exact ⟨x, r, rfl, h2 (by simpa using n.1), RVrs.repL h3 n.2⟩
theorem RVrs.length {p : Pl} : ∀ {vs : List RV} {xs : List V}, RVrs p vs xs → vs.length = xs.length
  | [], xs, h => by rw [show xs = [] from h]; rfl
  | v :: vs, _, ⟨x, r, e, _, _, h2⟩ => by rw [e, List.length_cons, List.length_cons, RVrs.length h2]
theorem RVrs.one {p : Pl} {v : RV} {xs : List V} (h : RVrs p [v] xs) : ∃ x, xs = [x] ∧ RVr p v.1 x := by
  obtain ⟨x, r, e, h1, _, h2⟩ := h
  rw [show r = [] from h2] at e
  exact ⟨x, e, h1⟩
theorem RVrs.two {p : Pl} {v w : RV} {xs : List V} (h : RVrs p [v, w] xs) : ∃ x y, xs = [x, y] ∧ RVr p v.1 x ∧ RVr p w.1 y := by
  obtain ⟨x, r, e, h1, _, y, r2, e2, h2, _, h3⟩ := h
  rw [show r2 = [] from h3] at e2
  exact ⟨x, y, by rw [e, e2], h1, h2⟩
end
end PL
end
section
set_option linter.all false
set_option maxRecDepth 100000
set_option maxHeartbeats 1000000
set_option autoImplicit false
namespace PL
open PySem PySem.Spec PyProof.Rows L2
abbrev SVal := List Sl → MS → R RV

/-- a raised exception as it is wanted -/
def ExV (F : Fr0) (e : Ex) (c : Value) (od : Option Addr) (H : Hp) : Prop := match e with
  | .own n => c = .ref (F.xa n) ∧ od = none
  | .pay n i => c = .ref (F.xa n) ∧ ∃ d, od = some d ∧ H d = some (.xd [(F.xf n, .int i)])
abbrev RelT (α β : Type) := Pl → Hp → MS → α → β → Prop
abbrev relV : RelT RV V := RVk
abbrev relA : RelT (List RV) (List V) := fun p _ _ vs xs => RVrs p vs xs
def relEq {α : Type} : RelT α α := fun _ _ _ a b => a = b
/-- what is wanted of f's answer, in this state -/
def rK {α β : Type} (F : Fr0) (W : WX) (Rel : RelT α β) (f : List Sl → MS → R α) (μ : List Addr) (oa : Nat → Option Addr) (ds : List Sl) (M : MS) (σ : L2.St) (H : Hp) (Q : β → Hp → Prop) : Prop :=
  Rl F μ oa ds M σ H ∧ match f ds M with
    | .ok a M' => ∀ b μ' H', EvE μ H μ' H' → Rl F μ' oa ds M' σ H' → Rel (F.pl μ' oa H') H M' a b → Q b H'
    | .exc e M' => ∀ μ' H' c od, EvE μ H μ' H' → Rl F μ' oa ds M' σ H' → ExV F e c od H' → W c od σ H'
    | .stuck => False
def rE {α β : Type} (F : Fr0) (W : WX) (Rel : RelT α β) (f : List Sl → MS → R α) : L2.St → Hp → (β → Hp → Prop) → Prop := fun σ H Q => ∃ μ oa ds M, rK F W Rel f μ oa ds M σ H Q
section
variable {α β γ δ : Type} {F : Fr0} {W : WX} {Rel : RelT α β} {Rel2 : RelT γ δ} {μ μ' : List Addr} {oa : Nat → Option Addr} {ds : List Sl} {M M' : MS} {σ : L2.St} {H H' : Hp}
theorem rK.imp {f : List Sl → MS → R α} {Q Q' : β → Hp → Prop} (h : rK F W Rel f μ oa ds M σ H Q) (i : ∀ b H', Q b H' → Q' b H') : rK F W Rel f μ oa ds M σ H Q' := by
  obtain ⟨r, h⟩ := h
  refine ⟨r, ?_⟩
  cases e : f ds M with
  | ok a M' => rw [e] at h; exact fun b μ' H' e r q => i _ _ (h b μ' H' e r q)
  | exc x M' => rw [e] at h; exact h
  | stuck => rw [e] at h; exact h
/-- what holds ahead of a later start holds ahead of the earlier one -/
def Back (Rel : RelT α β) : Prop := ∀ (p : Pl) (μ μ' : List Addr) (Hs H : Hp) (M : MS) (a : α) (b : β), EvE μ Hs μ' H → Rel p H M a b → Rel p Hs M a b
theorem back_v : Back relV := fun _ _ _ _ _ _ _ _ e h => h.back e
theorem back_a : Back relA := fun _ _ _ _ _ _ _ _ _ h => h
theorem back_eq {α : Type} : Back (relEq (α := α)) := fun _ _ _ _ _ _ _ _ _ h => h
theorem rK.bind {f : List Sl → MS → R α} {g : α → List Sl → MS → R γ} {Q : δ → Hp → Prop} (hb : Back Rel2) (h : rK F W Rel2 (fun ds M => (f ds M).bind fun a M1 => g a ds M1) μ oa ds M σ H Q) :
    rK F W Rel f μ oa ds M σ H fun b H1 => ∃ a μ1 M1, EvE μ H μ1 H1 ∧ Rel (F.pl μ1 oa H1) H M1 a b ∧ rK F W Rel2 (g a) μ1 oa ds M1 σ H1 Q := by
  obtain ⟨r, h⟩ := h
  refine ⟨r, ?_⟩
  dsimp only at h
  cases e : f ds M with
  | stuck => rw [e] at h; exact h
  | exc x M' => rw [e] at h; exact h
  | ok a M1 =>
    rw [e] at h
    intro b μ1 H1 ev r1 q
    refine ⟨a, μ1, M1, ev, q, r1, ?_⟩
    simp only [R.bind_ok] at h
    cases e2 : g a ds M1 with
    | stuck => rw [e2] at h; exact h
    | exc x M' => rw [e2] at h; exact fun μ' H' c od ev' r' q' => h μ' H' c od (ev.trans ev') r' q'
    | ok c M2 => rw [e2] at h; exact fun b' μ' H' ev' r' q' => h b' μ' H' (ev.trans ev') r' (hb _ _ _ _ _ _ _ _ ev q')
theorem rK.rl {f : List Sl → MS → R α} {Q : β → Hp → Prop} (h : rK F W Rel f μ oa ds M σ H Q) : Rl F μ oa ds M σ H := h.1
theorem rK.of {o : Option α} {Q : β → Hp → Prop} (h : rK F W Rel (fun _ M => R.of o M) μ oa ds M σ H Q) :
    ∃ a, o = some a ∧ ∀ b μ' H', EvE μ H μ' H' → Rl F μ' oa ds M σ H' → Rel (F.pl μ' oa H') H M a b → Q b H' := by
  obtain ⟨r, h⟩ := h
  cases o with
  | none => exact h.elim
  | some a => exact ⟨a, rfl, h⟩
theorem rK.ok {a : α} {Q : β → Hp → Prop} {M1 : MS} {f : List Sl → MS → R α} (h : rK F W Rel f μ oa ds M σ H Q) (e : f ds M = .ok a M1) :
    ∀ b μ' H', EvE μ H μ' H' → Rl F μ' oa ds M1 σ H' → Rel (F.pl μ' oa H') H M1 a b → Q b H' := by
  obtain ⟨r, h⟩ := h
  rw [e] at h
  exact h
theorem rK.not_stuck {Q : β → Hp → Prop} {f : List Sl → MS → R α} (h : rK F W Rel f μ oa ds M σ H Q) (e : f ds M = .stuck) : False := by
  obtain ⟨r, h⟩ := h
  rw [e] at h
  exact h
end
theorem PE.mono {X : Cx} {e : Expr} {t t' : TE} (h : PE X e t) (i : ∀ σ H Q, t' σ H Q → t σ H Q) : PE X e t' := ⟨fun pins s σ H Q I q => h.run pins s σ H Q I (i σ H Q q)⟩
theorem PT.mono {X : Cx} {e : Expr} {t t' : TT} (h : PT X e t) (i : ∀ σ H Q, t' σ H Q → t σ H Q) : PT X e t' := ⟨fun pins s σ H Q I q => h.run pins s σ H Q I (i σ H Q q)⟩
theorem PA.mono {X : Cx} {e : List Expr} {t t' : TA} (h : PA X e t) (i : ∀ σ H Q, t' σ H Q → t σ H Q) : PA X e t' := ⟨fun pos pins s σ H Q I q => h.run pos pins s σ H Q I (i σ H Q q)⟩
theorem PO.mono {X : Cx} {e : Option Expr} {t t' : TO} (h : PO X e t) (i : ∀ σ H Q, t' σ H Q → t σ H Q) : PO X e t' := ⟨fun pins s σ H Q I q => h.run pins s σ H Q I (i σ H Q q)⟩

section
variable {F : Fr0} {μ μ' : List Addr} {oa : Nat → Option Addr} {ds : List Sl} {M M' : MS} {σ : L2.St} {H H' : Hp} {p : Pl}
theorem RVr.int {i : Int} {x : V} (h : RVr p (.int i) x) : x = .int i := by
  rcases h with h | ⟨a, _, _, h⟩
  · exact h
  · exact h.elim
theorem RVr.str {i : Str} {x : V} (h : RVr p (.str i) x) : x = .str i := by
  rcases h with h | ⟨a, _, _, h⟩
  · exact h
  · exact h.elim
theorem RVr.bl {i : Bool} {x : V} (h : RVr p (.bl i) x) : x = .bl i := by
  rcases h with h | ⟨a, _, _, h⟩
  · exact h
  · exact h.elim
theorem RVr.non {x : V} (h : RVr p .non x) : x = .non := by
  rcases h with h | ⟨a, _, _, h⟩
  · exact h
  · exact h.elim
theorem RVr.tup {xs : List D} {x : V} (h : RVr p (.tup xs) x) : ∃ a vs, x = .ref a ∧ ¬ p.N a ∧ p.H a = some (.tup vs) ∧ RepL p xs vs := by
  rcases h with h | ⟨a, _, _, h⟩
  · exact h
  · exact h.elim
theorem RVr.lst {xs : List D} {x : V} (h : RVr p (.lst xs) x) : ∃ a vs, x = .ref a ∧ p.H a = some (.lst vs) ∧ RepL p xs vs := by
  rcases h with ⟨a, vs, h1, _, h2, h3⟩ | ⟨a, h1, _, vs, h2, h3⟩
  · exact ⟨a, vs, h1, h2, h3⟩
  · exact ⟨a, vs, h1, h2, h3⟩
theorem RVr.dI {ks : List Int} {xs : List D} {x : V} (h : RVr p (.dI ks xs) x) : ∃ a vs, x = .ref a ∧ p.H a = some (.dK ((kI ks).zip vs)) ∧ ks.length = vs.length ∧ RepL p xs vs := by
  rcases h with ⟨a, vs, h1, _, h2, h3⟩ | ⟨a, h1, _, vs, h2, h3⟩
  · exact ⟨a, vs, h1, h2, h3⟩
  · exact ⟨a, vs, h1, h2, h3⟩
theorem RVr.dT {ks : List (List Int)} {xs : List D} {x : V} (h : RVr p (.dT ks xs) x) : ∃ a vs, x = .ref a ∧ p.H a = some (.dT ((kT ks).zip vs)) ∧ ks.length = vs.length ∧ RepL p xs vs := by
  rcases h with ⟨a, vs, h1, _, h2, h3⟩ | ⟨a, h1, _, vs, h2, h3⟩
  · exact ⟨a, vs, h1, h2, h3⟩
  · exact ⟨a, vs, h1, h2, h3⟩
theorem RVr.scr {ns : List Int} {x : V} (h : RVr p (.scr ns) x) : ∃ a, x = .ref a ∧ SqL p.K p.H a (ns.map V.int) := by
  rcases h with ⟨a, h1, h2⟩ | ⟨a, _, _, h⟩
  · refine ⟨a, h1, ?_⟩
    rcases h2 with ⟨_, h2⟩ | h2
    · exact .inl h2
    · exact h2 _
  · exact h.elim
theorem RVr.ref {n : Nat} {xs : List D} {x : V} (m : MR p M) (h : RVr p (.ref n) x) (e : M[n]? = some xs) : ∃ a vs, x = .ref a ∧ p.H a = some (.lst vs) ∧ RepL p xs vs := by
  rcases h with ⟨a, h1, h2⟩ | ⟨a, _, _, h⟩
  · obtain ⟨vs, h3, h4⟩ := m.cell n a xs h2 e
    exact ⟨a, vs, h1, h3, h4⟩
  · exact h.elim
/-- the items of a list or a tuple -/
theorem RVr.items {d : D} {xs : List D} {x : V} (m : MR p M) (h : RVr p d x) (e : items? M d = some xs) : ∃ a vs, x = .ref a ∧ (SqL p.K p.H a vs ∨ SqT p.K p.H a vs) ∧ RepL p xs vs := by
  cases d with
  | lst ys =>
    cases e
    obtain ⟨a, vs, h1, h2, h3⟩ := h.lst
    exact ⟨a, vs, h1, .inl (.of h2), h3⟩
  | tup ys =>
    cases e
    obtain ⟨a, vs, h1, _, h2, h3⟩ := h.tup
    exact ⟨a, vs, h1, .inr (.of h2), h3⟩
  | ref n =>
    obtain ⟨a, vs, h1, h2, h3⟩ := h.ref m e
    exact ⟨a, vs, h1, .inl (.of h2), h3⟩
  | scr ns =>
    cases e
    obtain ⟨a, h1, h2⟩ := h.scr
    exact ⟨a, _, h1, .inl h2, RepL.ints ns⟩
  | _ => cases e

mutual
def pyOf : D → PyData
  | .bl b => .bool b
  | .int i => .int i
  | .str s => .str s
  | .tup xs => .tuple (pyL xs)
  | .lst xs => .list (pyL xs)
  | _ => .none
def pyL : List D → List PyData
  | [] => []
  | x :: xs => pyOf x :: pyL xs
end
theorem dep_dp : ∀ (n : Nat) (d : D) (x : V), D.dep n d = true → Rep p d x → Dp p.K p.H x (pyOf d)
  | _, .non, x, _, h => by rw [show x = .non from h]; exact .non
  | _, .bl b, x, _, h => by rw [show x = .bl b from h]; exact .bl b
  | _, .int i, x, _, h => by rw [show x = .int i from h]; exact .int i
  | _, .str s, x, _, h => by rw [show x = .str s from h]; exact .str s
  | n + 1, .tup xs, x, e, ⟨a, vs, h1, _, h2, h3⟩ => by
    have e : xs.all (D.dep n) = true := by simpa [D.dep] using e
    rw [h1]
    refine .tup (.of h2) ?_
    clear h2 h1
    induction xs generalizing vs with
    | nil => rw [show vs = [] from h3]; exact .nil
    | cons y ys ih =>
      obtain ⟨v, r, e1, e2, e3⟩ := h3
      rw [List.all_cons, Bool.and_eq_true] at e
      rw [e1]
      exact .cons (dep_dp n y v e.1 e2) (ih e.2 _ e3 e.2)
  | n + 1, .lst xs, x, e, ⟨a, vs, h1, _, h2, h3⟩ => by
    have e : xs.all (D.dep n) = true := by simpa [D.dep] using e
    rw [h1]
    refine .lst (.of h2) ?_
    clear h2 h1
    induction xs generalizing vs with
    | nil => rw [show vs = [] from h3]; exact .nil
    | cons y ys ih =>
      obtain ⟨v, r, e1, e2, e3⟩ := h3
      rw [List.all_cons, Bool.and_eq_true] at e
      rw [e1]
      exact .cons (dep_dp n y v e.1 e2) (ih e.2 _ e3 e.2)
  | 0, .tup xs, _, e, _ => by simp [D.dep] at e
  | 0, .lst xs, _, e, _ => by simp [D.dep] at e
  | 0, .dI _ _, _, e, _ => by simp [D.dep] at e
  | _ + 1, .dI _ _, _, e, _ => by simp [D.dep] at e
  | 0, .dT _ _, _, e, _ => by simp [D.dep] at e
  | _ + 1, .dT _ _, _, e, _ => by simp [D.dep] at e
  | 0, .ref _, _, e, _ => by simp [D.dep] at e
  | _ + 1, .ref _, _, e, _ => by simp [D.dep] at e
  | 0, .scr _, _, e, _ => by simp [D.dep] at e
  | _ + 1, .scr _, _, e, _ => by simp [D.dep] at e
theorem dpAll_of {n : Nat} : ∀ {xs : List D} {vs : List V}, xs.all (D.dep n) = true → RepL p xs vs → DpAll p.K p.H vs (pyL xs)
  | [], vs, _, h => by rw [show vs = [] from h]; exact .nil
  | x :: xs, _, e, ⟨v, r, e1, e2, e3⟩ => by
    rw [List.all_cons, Bool.and_eq_true] at e
    rw [e1]
    exact .cons (dep_dp n x v e.1 e2) (dpAll_of e.2 e3)
theorem RVr.dp {n : Nat} {d : D} {x : V} (e : D.dep n d = true) (h : RVr p d x) : Dp p.K p.H x (pyOf d) := by
  rcases h with h | ⟨a, rfl, _, h⟩
  · exact dep_dp n d x e h
  · cases d with
    | lst xs =>
      obtain ⟨vs, h1, h2⟩ := h
      cases n with
      | zero => simp [D.dep] at e
      | succ n => exact .lst (.of h1) (dpAll_of (n := n) (by simpa [D.dep] using e) h2)
    | dI ks xs => cases n <;> simp [D.dep] at e
    | dT ks xs => cases n <;> simp [D.dep] at e
    | _ => exact h.elim
mutual
theorem eq_py : ∀ (a b : D) (n m : Nat), D.dep n a = true → D.dep m b = true → PyData.eqv (pyOf a) (pyOf b) = D.eq a b
  | .non, b, n, m, h1, h2 => by cases b <;> cases m <;> first | rfl | (simp [D.dep] at h2) | simp [pyOf, PyData.eqv, D.eq]
  | .bl x, b, n, m, h1, h2 => by cases b <;> cases m <;> first | rfl | (simp [D.dep] at h2) | simp [pyOf, PyData.eqv, D.eq]
  | .int x, b, n, m, h1, h2 => by cases b <;> cases m <;> first | rfl | (simp [D.dep] at h2) | simp [pyOf, PyData.eqv, D.eq]
  | .str x, b, n, m, h1, h2 => by cases b <;> cases m <;> first | rfl | (simp [D.dep] at h2) | simp [pyOf, PyData.eqv, D.eq]
  | .tup xs, b, n, m, h1, h2 => by
    cases n with
    | zero => simp [D.dep] at h1
    | succ n =>
      cases b with
      | tup ys =>
        cases m with
        | zero => simp [D.dep] at h2
        | succ m =>
          show PyData.eqvAll (pyL xs) (pyL ys) = D.eqL xs ys
          exact eqL_py xs ys n m (by simpa [D.dep] using h1) (by simpa [D.dep] using h2)
      | _ => cases m <;> first | rfl | (simp [D.dep] at h2) | simp [pyOf, PyData.eqv, D.eq]
  | .lst xs, b, n, m, h1, h2 => by
    cases n with
    | zero => simp [D.dep] at h1
    | succ n =>
      cases b with
      | lst ys =>
        cases m with
        | zero => simp [D.dep] at h2
        | succ m =>
          show PyData.eqvAll (pyL xs) (pyL ys) = D.eqL xs ys
          exact eqL_py xs ys n m (by simpa [D.dep] using h1) (by simpa [D.dep] using h2)
      | _ => cases m <;> first | rfl | (simp [D.dep] at h2) | simp [pyOf, PyData.eqv, D.eq]
  | .dI _ _, b, n, m, h1, h2 => by cases n <;> simp [D.dep] at h1
  | .dT _ _, b, n, m, h1, h2 => by cases n <;> simp [D.dep] at h1
  | .ref _, b, n, m, h1, h2 => by cases n <;> simp [D.dep] at h1
  | .scr _, b, n, m, h1, h2 => by cases n <;> simp [D.dep] at h1
theorem eqL_py : ∀ (xs ys : List D) (n m : Nat), xs.all (D.dep n) = true → ys.all (D.dep m) = true → PyData.eqvAll (pyL xs) (pyL ys) = D.eqL xs ys
  | [], [], _, _, _, _ => by simp [pyL, PyData.eqvAll, D.eqL]
  | [], _ :: _, _, _, _, _ => by simp [pyL, PyData.eqvAll, D.eqL]
  | _ :: _, [], _, _, _, _ => by simp [pyL, PyData.eqvAll, D.eqL]
  | x :: xs, y :: ys, n, m, h1, h2 => by
    rw [List.all_cons, Bool.and_eq_true] at h1 h2
    show (PyData.eqv (pyOf x) (pyOf y) && PyData.eqvAll (pyL xs) (pyL ys)) = (D.eq x y && D.eqL xs ys)
    rw [eq_py x y n m h1.1 h2.1, eqL_py xs ys n m h1.2 h2.2]
end
mutual
theorem dep_lay : ∀ (d : D) (n : Nat), D.dep n d = true → (pyOf d).canLay0 = true ∧ (pyOf d).depth ≤ n + 1
  | .non, n, h => ⟨rfl, by simp [pyOf, PyData.depth]⟩
  | .bl b, n, h => ⟨rfl, by simp [pyOf, PyData.depth]⟩
  | .int b, n, h => ⟨rfl, by simp [pyOf, PyData.depth]⟩
  | .str b, n, h => ⟨by cases n <;> simpa [D.dep, pyOf, PyData.canLay0, PyData.strOk] using h, by simp [pyOf, PyData.depth]⟩
  | .tup xs, n, h => by
    cases n with
    | zero => simp [D.dep] at h
    | succ n =>
      obtain ⟨h1, h2⟩ := dep_layL xs n (by simpa [D.dep] using h)
      refine ⟨h1, ?_⟩
      show PyData.depthAll (pyL xs) + 1 ≤ _
      omega
  | .lst xs, n, h => by
    cases n with
    | zero => simp [D.dep] at h
    | succ n =>
      obtain ⟨h1, h2⟩ := dep_layL xs n (by simpa [D.dep] using h)
      refine ⟨h1, ?_⟩
      show PyData.depthAll (pyL xs) + 1 ≤ _
      omega
  | .dI _ _, n, h => by cases n <;> simp [D.dep] at h
  | .dT _ _, n, h => by cases n <;> simp [D.dep] at h
  | .ref _, n, h => by cases n <;> simp [D.dep] at h
  | .scr _, n, h => by cases n <;> simp [D.dep] at h
theorem dep_layL : ∀ (xs : List D) (n : Nat), xs.all (D.dep n) = true → PyData.canLayAll0 (pyL xs) = true ∧ PyData.depthAll (pyL xs) ≤ n + 1
  | [], n, h => ⟨rfl, by simp [pyL, PyData.depthAll]⟩
  | x :: xs, n, h => by
    rw [List.all_cons, Bool.and_eq_true] at h
    obtain ⟨a1, a2⟩ := dep_lay x n h.1
    obtain ⟨b1, b2⟩ := dep_layL xs n h.2
    refine ⟨?_, ?_⟩
    · show (PyData.canLay0 (pyOf x) && PyData.canLayAll0 (pyL xs)) = true
      rw [a1, b1]; rfl
    · show max (pyOf x).depth (PyData.depthAll (pyL xs)) ≤ _
      omega
end
theorem dep_shaped {d : D} {n : Nat} (h : D.dep n d = true) (hn : n ≤ 60) : SeqAt.shaped (pyOf d) = true := by
  obtain ⟨h1, h2⟩ := dep_lay d n h
  unfold SeqAt.shaped
  rw [h1, Bool.true_and]
  exact decide_eq_true (by omega)
end
end PL
end
section
set_option linter.all false
set_option maxRecDepth 100000
set_option maxHeartbeats 1000000
set_option autoImplicit false
namespace PL
open PySem PySem.Spec PyProof.Rows L2

theorem lim_line {n : Nat} (h : n ≤ LIM) : n ≤ sizeLine := by rw [sizeLine_eq]; unfold LIM at h; omega
theorem lim_lt {n : Nat} (h : n < LIM) : n < sizeLine := by rw [sizeLine_eq]; unfold LIM at h; omega
/-- the end of a step by values: answers that the meaning allows are taken -/
def Ends1 (F : Fr0) (μ : List Addr) (oa : Nat → Option Addr) (ds : List Sl) (M : MS) (σ : L2.St) (H : Hp) (v : RV) (Q : V → Hp → Prop) : Prop :=
  ∀ b μ' H', EvE μ H μ' H' → Rl F μ' oa ds M σ H' → RVk (F.pl μ' oa H') H M v b → Q b H'
section
variable {F : Fr0} {μ : List Addr} {oa : Nat → Option Addr} {ds : List Sl} {M : MS} {σ : L2.St} {H : Hp} {Q : V → Hp → Prop}
theorem Ends1.here {v : RV} {b : V} (k : Ends1 F μ oa ds M σ H v Q) (r : Rl F μ oa ds M σ H) (h : RVk (F.pl μ oa H) H M v b) : Q b H := k b μ H (EvE.refl r) r h
theorem Ends1.int {i : Int} (k : Ends1 F μ oa ds M σ H (.int i, .fz) Q) (r : Rl F μ oa ds M σ H) : Q (.int i) H := k.here r (show RVk _ _ _ (.int i, .fz) _ from rfl)
theorem Ends1.bl {i : Bool} (k : Ends1 F μ oa ds M σ H (.bl i, .fz) Q) (r : Rl F μ oa ds M σ H) : Q (.bl i) H := k.here r (show RVk _ _ _ (.bl i, .fz) _ from rfl)
theorem Ends1.str {i : Str} (k : Ends1 F μ oa ds M σ H (.str i, .fz) Q) (r : Rl F μ oa ds M σ H) : Q (.str i) H := k.here r (show RVk _ _ _ (.str i, .fz) _ from rfl)
/-- a new list -/
theorem Ends1.lst {xs : List D} {vs : List V} {a : Addr} (k : Ends1 F μ oa ds M σ H (.lst xs, .fr) Q) (r : Rl F μ oa ds M σ H) (h : H a = none) (hr : RepL (F.pl μ oa H) xs vs) : Q (.ref a) (upd H a (.lst vs)) :=
  k _ μ _ (EvE.alloc r h) (r.alloc h) (RVk.new r (EvE.refl r) h ⟨vs, upd_same, hr.mono (evo_but_upd h)⟩)
/-- a new tuple -/
theorem Ends1.tup {xs : List D} {vs : List V} {a : Addr} (k : Ends1 F μ oa ds M σ H (.tup xs, .fz) Q) (r : Rl F μ oa ds M σ H) (h : H a = none) (hr : RepL (F.pl μ oa H) xs vs) : Q (.ref a) (upd H a (.tup vs)) :=
  k _ μ _ (EvE.alloc r h) (r.alloc h) ⟨a, vs, rfl, r.notN h, upd_same, hr.mono (evo_upd (p := F.pl μ oa H) h)⟩

def rAddA (K : PySem.W.Frag) : R2 := fun x y H Q => (((∃ i j, x = .int i ∧ y = .int j ∧ Q (.int (i + j)) H) ∨ ∃ i j, x = .str i ∧ y = .str j ∧ i.length + j.length ≤ sizeLine ∧ Q (.str (i ++ j)) H) ∨ rCatA K x y H Q) ∨ rCat x y H Q
def rMulA : R2 := fun x y H Q => rI CMul (fun i j => .int (i * j)) x y H Q ∨ rRep x y H Q
def ropB (K : PySem.W.Frag) : BOp → R2
  | .add => rAddA K
  | .sub => rI0 fun i j => .int (i - j)
  | .mul => rMulA
  | .fdiv => rI CDivN fun i j => .int (i.fdiv j)
  | .mod => rI (fun _ j => j ≠ 0) fun i j => .int (i.fmod j)
  | .pow => rI CPow fun i j => .int (i ^ j.toNat)
def opB : BOp → Operator
  | .add => .Add | .sub => .Sub | .mul => .Mult | .fdiv => .FloorDiv | .mod => .Mod | .pow => .Pow
theorem opR_bin {X : Cx} (b : BOp) : OpR X (binaryOp (opB b)) (ropB X.K b) := by
  cases b with
  | add => exact ((op_add.or op_add_str).or op_catA).or op_cat
  | sub => exact op_sub
  | mul => exact op_mul.or op_rep
  | fdiv => exact op_fdivN
  | mod => exact op_modN
  | pow => exact op_pow
theorem RepL.rep {p : Pl} {xs : List D} {vs : List V} (h : RepL p xs vs) : ∀ k : Nat, RepL p (List.replicate k xs).flatten (List.replicate k vs).flatten
  | 0 => rfl
  | k + 1 => by
    rw [List.replicate_succ, List.replicate_succ, List.flatten_cons, List.flatten_cons]
    exact RepL.append h (RepL.rep h k)
theorem bin_ok {b : BOp} {d e : D} {v : RV} {x y : V} (r : Rl F μ oa ds M σ H) (hx : RVr (F.pl μ oa H) d x) (hy : RVr (F.pl μ oa H) e y) (ho : oBin b d e = some v) (k : Ends1 F μ oa ds M σ H v Q) : ropB F.K b x y H Q := by
  cases b with
  | add =>
    cases d with
    | int i =>
      cases e with
      | int j =>
        cases (show some _ = some v from ho)
        exact .inl (.inl (.inl ⟨i, j, hx.int, hy.int, k.int r⟩))
      | _ => cases ho
    | str i =>
      cases e with
      | str j =>
        simp only [oBin, oAdd] at ho
        split at ho
        · cases ho
          rename_i hl
          exact .inl (.inl (.inr ⟨i, j, hx.str, hy.str, lim_line hl, k.str r⟩))
        · cases ho
      | _ => cases ho
    | tup xs =>
      cases e with
      | tup ys =>
        simp only [oBin, oAdd] at ho
        split at ho
        · cases ho
          rename_i hl
          obtain ⟨a, vs, rfl, na, ha, ra⟩ := hx.tup
          obtain ⟨c, ws, rfl, nc, hc, rc⟩ := hy.tup
          have l1 := ra.length
          have l2 := rc.length
          refine .inl (.inr ⟨a, c, vs, ws, rfl, rfl, .of ha, .of hc, by rw [← l1, ← l2]; exact lim_line hl, fun e => ?_, fun _ e => ?_, fun _ _ p hp => ?_⟩)
          · subst e
            have : xs = [] := List.length_eq_zero_iff.mp l1
            subst this
            exact k.here r ⟨c, ws, rfl, nc, hc, rc⟩
          · subst e
            have : ys = [] := List.length_eq_zero_iff.mp l2
            subst this
            exact k.here r ⟨a, vs, rfl, na, ha, by simpa using ra⟩
          · exact k.tup r hp (ra.append rc)
        · cases ho
      | _ => cases ho
    | lst xs =>
      cases e with
      | lst ys =>
        simp only [oBin, oAdd] at ho
        split at ho
        · cases ho
          rename_i hl
          obtain ⟨a, vs, rfl, ha, ra⟩ := hx.lst
          obtain ⟨c, ws, rfl, hc, rc⟩ := hy.lst
          have l1 := ra.length
          have l2 := rc.length
          exact .inr ⟨a, c, vs, ws, rfl, rfl, ha, hc, by rw [← l1, ← l2]; exact lim_line hl, fun p hp => k.lst r hp (ra.append rc)⟩
        · cases ho
      | _ => cases ho
    | _ => cases e <;> cases ho
  | sub =>
    cases d with
    | int i =>
      cases e with
      | int j =>
        cases (show some _ = some v from ho)
        exact ⟨i, j, hx.int, hy.int, k.int r⟩
      | _ => cases ho
    | _ => cases e <;> cases ho
  | mul =>
    cases d with
    | int i =>
      cases e with
      | int j =>
        simp only [oBin, oMul] at ho
        split at ho
        · cases ho
          rename_i hl
          refine .inl ⟨i, j, hx.int, hy.int, ?_, k.int r⟩
          simp only [Bool.or_eq_true, Bool.and_eq_true, decide_eq_true_eq] at hl
          exact hl
        · cases ho
      | _ => cases ho
    | lst xs =>
      cases e with
      | int j =>
        simp only [oBin, oMul] at ho
        split at ho
        · cases ho
          rename_i hl
          simp only [Bool.and_eq_true, decide_eq_true_eq] at hl
          have hB : B64 = 18446744073709551616 := rfl
          obtain ⟨a, vs, rfl, ha, ra⟩ := hx.lst
          have l1 := ra.length
          exact .inr ⟨a, j, vs, rfl, hy.int, ha, by omega, by omega, by rw [← l1]; exact lim_line hl.2, fun p hp => k.lst r hp (ra.rep _)⟩
        · cases ho
      | _ => cases ho
    | _ => cases e <;> cases ho
  | fdiv =>
    cases d with
    | int i =>
      cases e with
      | int j =>
        simp only [oBin, oFdiv] at ho
        split at ho
        · cases ho
          rename_i hl
          simp only [Bool.and_eq_true, decide_eq_true_eq] at hl
          exact ⟨i, j, hx.int, hy.int, hl, k.int r⟩
        · cases ho
      | _ => cases ho
    | _ => cases e <;> cases ho
  | mod =>
    cases d with
    | int i =>
      cases e with
      | int j =>
        simp only [oBin, oMod] at ho
        split at ho
        · cases ho
          rename_i hl
          exact ⟨i, j, hx.int, hy.int, hl, k.int r⟩
        · cases ho
      | _ => cases ho
    | _ => cases e <;> cases ho
  | pow =>
    cases d with
    | int i =>
      cases e with
      | int j =>
        simp only [oBin, oPow] at ho
        split at ho
        · cases ho
          rename_i hl
          simp only [Bool.and_eq_true, decide_eq_true_eq] at hl
          exact ⟨i, j, hx.int, hy.int, ⟨hl.1.1, hl.1.2, hl.2⟩, k.int r⟩
        · cases ho
      | _ => cases ho
    | _ => cases e <;> cases ho

def cop : COp → CmpOp
  | .lt => .Lt | .le => .LtE | .gt => .Gt | .ge => .GtE | .eq => .Eq | .ne => .NotEq | .is => .Is | .isnot => .IsNot | .mem => .In | .nmem => .NotIn
def rMem (K : PySem.W.Frag) : R2 := fun x y H Q => (rInD K x y H Q ∨ rIn K false x y H Q) ∨ ∃ (c : Nat) (z : Str), x = .str ⟨#[c]⟩ ∧ y = .str z ∧ Q (.bl (decide (c ∈ z.cps.toList))) H
def rNMem (K : PySem.W.Frag) : R2 := fun x y H Q => (rNotInD K x y H Q ∨ rIn K true x y H Q) ∨ ∃ (c : Nat) (z : Str), x = .str ⟨#[c]⟩ ∧ y = .str z ∧ Q (.bl (!decide (c ∈ z.cps.toList))) H
def ropC (K : PySem.W.Frag) : COp → R2
  | .lt => rI0 fun i j => .bl (decide (i < j))
  | .le => rI0 fun i j => .bl (decide (i ≤ j))
  | .gt => rI0 fun i j => .bl (decide (j < i))
  | .ge => rI0 fun i j => .bl (decide (j ≤ i))
  | .eq => rEqD K
  | .ne => rNeD K
  | .is => fun x y H Q => (y = .non ∧ Q (.bl (decide (x = .non))) H) ∨ rIsB x y H Q
  | .isnot => fun x y H Q => (y = .non ∧ Q (.bl (!decide (x = .non))) H) ∨ rNotB x y H Q
  | .mem => rMem K
  | .nmem => rNMem K
theorem opR_cmp {X : Cx} (hu : X.A.units + 65 < cLine) (c : COp) : OpR X (compareOp (cop c)) (ropC X.K c) := by
  cases c with
  | lt => exact op_lt
  | le => exact op_le
  | gt => exact op_gt
  | ge => exact op_ge
  | eq => exact op_eqD (by omega)
  | ne => exact op_neD (by omega)
  | is => exact op_isN.or op_isBl
  | isnot => exact op_notN.or op_notBl
  | mem => exact ((op_inD hu).or op_in_seq).or op_in_sign
  | nmem => exact ((op_notInD hu).or op_notIn_seq).or op_notIn_sign
theorem DEP_le : DEP ≤ 60 := by decide
theorem pyL_any {n : Nat} {a : D} (ha : D.dep n a = true) : ∀ {ys : List D}, ys.all (D.dep n) = true → (pyL ys).any (fun z => PyData.eqv z (pyOf a)) = ys.any fun y => D.eq y a
  | [], _ => rfl
  | y :: ys, h => by
    rw [List.all_cons, Bool.and_eq_true] at h
    show (PyData.eqv (pyOf y) (pyOf a) || (pyL ys).any _) = (D.eq y a || ys.any _)
    rw [eq_py y a n n h.1 ha, pyL_any ha h.2]
theorem flat_rep {p : Pl} {d : D} {x : V} (f : flatD d = true) (h : RVr p d x) : flatV x = true ∧ ∀ e y, flatD e = true → RVr p e y → eqV x y = D.eq d e := by
  cases d with
  | non =>
    rw [h.non]
    refine ⟨rfl, fun e y f' h' => ?_⟩
    cases e with
    | non => rw [h'.non]; rfl
    | bl b => rw [h'.bl]; rfl
    | int b => rw [h'.int]; rfl
    | str b => rw [h'.str]; rfl
    | _ => cases f'
  | bl b =>
    rw [h.bl]
    refine ⟨rfl, fun e y f' h' => ?_⟩
    cases e with
    | non => rw [h'.non]; rfl
    | bl b => rw [h'.bl]; rfl
    | int b => rw [h'.int]; rfl
    | str b => rw [h'.str]; rfl
    | _ => cases f'
  | int b =>
    rw [h.int]
    refine ⟨rfl, fun e y f' h' => ?_⟩
    cases e with
    | non => rw [h'.non]; rfl
    | bl b => rw [h'.bl]; rfl
    | int b => rw [h'.int]; rfl
    | str b => rw [h'.str]; rfl
    | _ => cases f'
  | str b =>
    rw [h.str]
    refine ⟨rfl, fun e y f' h' => ?_⟩
    cases e with
    | non => rw [h'.non]; rfl
    | bl b => rw [h'.bl]; rfl
    | int b => rw [h'.int]; rfl
    | str b => rw [h'.str]; rfl
    | _ => cases f'
  | _ => cases f
theorem flat_all {p : Pl} {d : D} {x : V} (f : flatD d = true) (h : RVr p d x) : ∀ {ys : List D} {vs : List V}, ys.all flatD = true → RepL p ys vs → vs.all flatV = true ∧ inV x vs = ys.any fun y => D.eq y d
  | [], vs, _, h' => by rw [show vs = [] from h']; exact ⟨rfl, rfl⟩
  | y :: ys, _, e, ⟨v, r, e1, e2, e3⟩ => by
    rw [List.all_cons, Bool.and_eq_true] at e
    obtain ⟨a1, a2⟩ := flat_all f h e.2 e3
    obtain ⟨b1, b2⟩ := flat_rep e.1 (.inl e2 : RVr p y v)
    rw [e1]
    refine ⟨by rw [List.all_cons, a1, b1]; rfl, ?_⟩
    show (eqV v x || inV x r) = (D.eq y d || _)
    rw [b2 d x f h, a2]
theorem mem_ok {d e : D} {c : Bool} {x y : V} (hx : RVr (F.pl μ oa H) d x) (hy : RVr (F.pl μ oa H) e y) (ho : oMem M d e = some c) (k : Q (.bl c) H) : rMem F.K x y H Q := by
  cases e with
  | lst ys =>
    simp only [oMem] at ho
    split at ho
    · cases ho
      rename_i hl
      simp only [Bool.and_eq_true] at hl
      have hl2 : ys.all (D.dep 4) = true := by simpa [D.dep] using hl.2
      have h2 := hy.dp hl.2
      refine .inl (.inl ⟨pyOf d, pyL ys, hx.dp hl.1, h2, dep_shaped hl.1 (by decide), dep_shaped (d := .lst ys) hl.2 (by decide), ?_⟩)
      rw [pyL_any (n := 4) hl.1 hl2]
      exact k
    · cases ho
  | tup ys =>
    simp only [oMem] at ho
    split at ho
    · cases ho
      rename_i hl
      simp only [Bool.and_eq_true] at hl
      obtain ⟨a, vs, rfl, _, ha, ra⟩ := hy.tup
      obtain ⟨e1, e2⟩ := flat_all hl.1 hx hl.2 ra
      refine .inl (.inr ⟨a, vs, rfl, .inr (.of ha), (flat_rep hl.1 hx).1, e1, ?_⟩)
      rw [if_neg (by decide), e2]
      exact k
    · cases ho
  | str z =>
    cases d with
    | str w =>
      simp only [oMem] at ho
      split at ho
      · cases ho
        rename_i hl
        refine .inr ⟨w.cps.getD 0 0, z, ?_, hy.str, ?_⟩
        · rw [hx.str]
          obtain ⟨⟨l⟩⟩ := w
          match l, hl with
          | [c], _ => rfl
        · rw [show decide (w.cps.getD 0 0 ∈ z.cps.toList) = z.cps.toList.contains (w.cps.getD 0 0) by rw [List.contains_eq_mem]]
          exact k
      · cases ho
    | _ => cases ho
  | _ => cases ho
theorem isN_dec {d : D} {x : V} {p : Pl} (hx : RVr p d x) (hd : d ≠ .non) : decide (x = V.non) = false := by
  have : x ≠ .non := by
    intro e
    subst e
    cases d with
    | non => exact hd rfl
    | bl b => exact nomatch hx.bl
    | int b => exact nomatch hx.int
    | str b => exact nomatch hx.str
    | tup b => obtain ⟨_, _, q, _⟩ := hx.tup; exact nomatch q
    | lst b => obtain ⟨_, _, q, _⟩ := hx.lst; exact nomatch q
    | dI b c => obtain ⟨_, _, q, _⟩ := hx.dI; exact nomatch q
    | dT b c => obtain ⟨_, _, q, _⟩ := hx.dT; exact nomatch q
    | ref b => rcases hx with ⟨_, q, _⟩ | ⟨_, q, _⟩ <;> exact nomatch q
    | scr b => obtain ⟨_, q, _⟩ := hx.scr; exact nomatch q
  exact decide_eq_false this
theorem nmem_of {K : PySem.W.Frag} {x y : V} {c : Bool} (h : rMem K x y H fun z H' => z = .bl c ∧ H' = H) (k : Q (.bl (!c)) H) : rNMem K x y H Q := by
  rcases h with (⟨d, ds, h1, h2, h3, h4, e, _⟩ | ⟨p, xs, h1, h2, h3, h4, e, _⟩) | ⟨c', z, h1, h2, e, _⟩
  · refine .inl (.inl ⟨d, ds, h1, h2, h3, h4, ?_⟩)
    rw [V.bl.inj e]; exact k
  · refine .inl (.inr ⟨p, xs, h1, h2, h3, h4, ?_⟩)
    have e' : inV x xs = c := V.bl.inj e
    rw [if_pos rfl, e']; exact k
  · refine .inr ⟨c', z, h1, h2, ?_⟩
    rw [V.bl.inj e]; exact k
def int2 (p : Int → Int → Bool) : D → D → Option Bool
  | .int i, .int j => some (p i j)
  | _, _ => none
theorem cmp_ok {o : COp} {d e : D} {c : Bool} {x y : V} (hx : RVr (F.pl μ oa H) d x) (hy : RVr (F.pl μ oa H) e y) (ho : oCmp M o d e = some c) (k : Q (.bl c) H) : ropC F.K o x y H Q := by
  have hint : ∀ {p : Int → Int → Bool}, int2 p d e = some c → rI0 (fun i j => .bl (p i j)) x y H Q := by
    intro p h
    cases d with
    | int i =>
      cases e with
      | int j => cases h; exact ⟨i, j, hx.int, hy.int, k⟩
      | _ => cases h
    | _ => cases e <;> cases h
  cases o with
  | lt => exact hint ((show int2 (fun i j => decide (i < j)) d e = oCmp M .lt d e by cases d <;> cases e <;> rfl).trans ho)
  | le => exact hint ((show int2 (fun i j => decide (i ≤ j)) d e = oCmp M .le d e by cases d <;> cases e <;> rfl).trans ho)
  | gt => exact hint ((show int2 (fun i j => decide (j < i)) d e = oCmp M .gt d e by cases d <;> cases e <;> rfl).trans ho)
  | ge => exact hint ((show int2 (fun i j => decide (j ≤ i)) d e = oCmp M .ge d e by cases d <;> cases e <;> rfl).trans ho)
  | eq =>
    have ho : oEq M d e = some c := by rw [← ho]; cases d <;> cases e <;> rfl
    unfold oEq at ho
    split at ho
    · cases ho
      rename_i hl
      simp only [Bool.and_eq_true] at hl
      refine ⟨pyOf d, pyOf e, hx.dp hl.1, hy.dp hl.2, dep_shaped hl.1 DEP_le, dep_shaped hl.2 DEP_le, ?_⟩
      rw [eq_py d e _ _ hl.1 hl.2]
      exact k
    · cases ho
  | ne =>
    have ho : (oEq M d e).map (!·) = some c := by rw [← ho]; cases d <;> cases e <;> rfl
    unfold oEq at ho
    split at ho
    · cases ho
      rename_i hl
      simp only [Bool.and_eq_true] at hl
      refine ⟨pyOf d, pyOf e, hx.dp hl.1, hy.dp hl.2, dep_shaped hl.1 DEP_le, dep_shaped hl.2 DEP_le, ?_⟩
      rw [eq_py d e _ _ hl.1 hl.2]
      exact k
    · cases ho
  | is =>
    cases e with
    | non =>
      by_cases hd : d = .non
      · subst hd
        cases ho
        refine .inl ⟨hy.non, ?_⟩
        rw [hx.non]
        exact k
      · have ho : c = false := by
          have : oCmp M .is d .non = some false := by cases d <;> first | rfl | exact absurd rfl hd
          rw [this] at ho
          exact (Option.some.inj ho).symm
        subst ho
        refine .inl ⟨hy.non, ?_⟩
        rw [isN_dec hx hd]
        exact k
    | bl b =>
      cases d with
      | bl a =>
        cases ho
        refine .inr ⟨a, b, hx.bl, hy.bl, ?_⟩
        rw [← Bool.beq_eq_decide_eq]
        exact k
      | _ => cases ho
    | _ => cases d <;> cases ho
  | isnot =>
    cases e with
    | non =>
      by_cases hd : d = .non
      · subst hd
        cases ho
        refine .inl ⟨hy.non, ?_⟩
        rw [hx.non]
        exact k
      · have ho : c = true := by
          have : oCmp M .isnot d .non = some true := by cases d <;> first | rfl | exact absurd rfl hd
          rw [this] at ho
          exact (Option.some.inj ho).symm
        subst ho
        refine .inl ⟨hy.non, ?_⟩
        rw [isN_dec hx hd]
        exact k
    | bl b =>
      cases d with
      | bl a =>
        cases ho
        refine .inr ⟨a, b, hx.bl, hy.bl, ?_⟩
        rw [← Bool.beq_eq_decide_eq]
        exact k
      | _ => cases ho
    | _ => cases d <;> cases ho
  | mem =>
    have ho : oMem M d e = some c := by rw [← ho]; cases d <;> cases e <;> rfl
    exact mem_ok hx hy ho k
  | nmem =>
    have ho : (oMem M d e).map (!·) = some c := by rw [← ho]; cases d <;> cases e <;> rfl
    obtain ⟨c', h1, h2⟩ := Option.map_eq_some_iff.mp ho
    exact nmem_of (mem_ok (Q := fun z H' => z = .bl c' ∧ H' = H) hx hy h1 ⟨rfl, rfl⟩) (by rw [h2]; exact k)
end
end PL
end
section
set_option linter.all false
set_option maxRecDepth 100000
set_option maxHeartbeats 1000000
set_option autoImplicit false
namespace PL
open PySem PySem.Spec PyProof.Rows L2

def rIxD : R2 := fun x y H Q => ∃ a v, x = .ref a ∧ DGet H a y (some v) ∧ Q v H
theorem ix_dict {X : Cx} (hu : X.A.units + 1 < cLine) : IxR X rIxD := by
  intro value slice pins s σ H x y v u Q I rx ry h hs
  obtain ⟨a, z, rfl, g, q⟩ := h
  cases rx
  exact tail_any (dict_typeIs I g) PySem.F.slot_dict_getitem.lookup (d_getItem hu I g ry fun w' s3 I3 r3 => ⟨z, H, I3, r3, q⟩) hs
def rIxA (K : PySem.W.Frag) : R2 := fun x y H Q => rIx K x y H Q ∨ rIxD x y H Q
theorem ix_any {X : Cx} (hu : X.A.units + 1 < cLine) : IxR X (rIxA X.K) := ix_seq.or (ix_dict hu)
theorem atI_rep {p : Pl} {xs : List D} {vs : List V} {i : Int} {d : D} (h : RepL p xs vs) (e : atI xs i = some d) : ∃ v, atI vs i = some v ∧ Rep p d v := by
  unfold atI at e ⊢
  obtain ⟨j, h1, h2⟩ := Option.bind_eq_some_iff.mp e
  obtain ⟨v, h3, h4⟩ := h.get h2
  rw [← h.length, h1]
  exact ⟨v, h3, h4⟩
theorem getI_rep {p : Pl} {j : Int} {d : D} : ∀ {ks : List Int} {xs : List D} {vs : List V}, RepL p xs vs → getI ks xs j = some d → ∃ v, valV ((kI ks).zip vs) (Sum.inl j) = some v ∧ Rep p d v
  | [], xs, vs, _, e => by cases xs <;> cases e
  | k :: ks, [], vs, _, e => by cases e
  | k :: ks, x :: xs, _, ⟨v, r, e1, e2, e3⟩, e => by
    rw [e1]
    show ∃ w, valV ((Sum.inl k, v) :: (kI ks).zip r) (Sum.inl j) = some w ∧ _
    unfold getI at e
    by_cases hk : k = j
    · rw [if_pos hk] at e
      cases e
      exact ⟨v, valV_pos (by simp [hk]), e2⟩
    · rw [if_neg hk] at e
      obtain ⟨w, h1, h2⟩ := getI_rep e3 e
      exact ⟨w, by rw [valV_neg (by simpa using hk)]; exact h1, h2⟩
theorem kmap_inj : ∀ {a b : List Int}, a.map (Sum.inl : Int → Key) = b.map Sum.inl → a = b
  | [], [], _ => rfl
  | [], _ :: _, h => by cases h
  | _ :: _, [], h => by cases h
  | x :: xs, y :: ys, h => by
    rw [List.map_cons, List.map_cons] at h
    obtain ⟨h1, h2⟩ := List.cons.inj h
    rw [Sum.inl.inj h1, kmap_inj h2]
theorem getT_rep {p : Pl} {j : List Int} {d : D} : ∀ {ks : List (List Int)} {xs : List D} {vs : List V}, RepL p xs vs → getT ks xs j = some d → ∃ v, valV ((kT ks).zip vs) (j.map Sum.inl) = some v ∧ Rep p d v
  | [], xs, vs, _, e => by cases xs <;> cases e
  | k :: ks, [], vs, _, e => by cases e
  | k :: ks, x :: xs, _, ⟨v, r, e1, e2, e3⟩, e => by
    rw [e1]
    show ∃ w, valV ((k.map Sum.inl, v) :: (kT ks).zip r) (j.map Sum.inl) = some w ∧ _
    unfold getT at e
    by_cases hk : k = j
    · rw [if_pos hk] at e
      cases e
      exact ⟨v, valV_pos (by simp [hk]), e2⟩
    · rw [if_neg hk] at e
      obtain ⟨w, h1, h2⟩ := getT_rep e3 e
      exact ⟨w, by rw [valV_neg (fun z => hk (kmap_inj z))]; exact h1, h2⟩
theorem kV_map (l : List Int) : (l.map (Sum.inl : Int → Key)).map kV = l.map V.int := by
  rw [List.map_map]; rfl
section
variable {F : Fr0} {μ : List Addr} {oa : Nat → Option Addr} {ds : List Sl} {M : MS} {σ : L2.St} {H : Hp} {Q : V → Hp → Prop}
theorem Ends1.fz {d : D} {b : V} (k : Ends1 F μ oa ds M σ H (d, .fz) Q) (r : Rl F μ oa ds M σ H) (h : Rep (F.pl μ oa H) d b) : Q b H := k.here r (show RVk _ _ _ (d, .fz) _ from h)
theorem idx_ok {d e v : D} {x y : V} (r : Rl F μ oa ds M σ H) (hx : RVr (F.pl μ oa H) d x) (hy : RVr (F.pl μ oa H) e y) (ho : oIdx M d e = some v) (k : Ends1 F μ oa ds M σ H (v, .fz) Q) : rIxA F.K x y H Q := by
  cases d with
  | tup xs =>
    cases e with
    | int i =>
      obtain ⟨a, vs, rfl, _, ha, ra⟩ := hx.tup
      obtain ⟨w, h1, h2⟩ := atI_rep ra (show atI xs i = some v from ho)
      exact .inl (.inr (.inl ⟨a, vs, i, w, rfl, hy.int, .of ha, h1, k.fz r h2⟩))
    | _ => cases ho
  | lst xs =>
    cases e with
    | int i =>
      obtain ⟨a, vs, rfl, ha, ra⟩ := hx.lst
      obtain ⟨w, h1, h2⟩ := atI_rep ra (show atI xs i = some v from ho)
      exact .inl (.inl ⟨a, vs, i, w, rfl, hy.int, .of ha, h1, k.fz r h2⟩)
    | _ => cases ho
  | scr ns =>
    cases e with
    | int i =>
      obtain ⟨a, rfl, hs⟩ := hx.scr
      obtain ⟨n, h1, h2⟩ := Option.map_eq_some_iff.mp (show (atI ns i).map D.int = some v from ho)
      subst h2
      refine .inl (.inl ⟨a, _, i, .int n, rfl, hy.int, hs, ?_, k.int r⟩)
      unfold atI at h1 ⊢
      obtain ⟨j, e1, e2⟩ := Option.bind_eq_some_iff.mp h1
      rw [List.length_map, e1]
      show (ns.map V.int)[j]? = _
      rw [List.getElem?_map, e2]; rfl
    | _ => cases ho
  | ref n =>
    cases e with
    | int i =>
      obtain ⟨xs, h1, h2⟩ := Option.bind_eq_some_iff.mp (show (M[n]?.bind fun xs => atI xs i) = some v from ho)
      obtain ⟨a, vs, rfl, ha, ra⟩ := hx.ref r.mr h1
      obtain ⟨w, h1, h2⟩ := atI_rep ra h2
      exact .inl (.inl ⟨a, vs, i, w, rfl, hy.int, .of ha, h1, k.fz r h2⟩)
    | _ => cases ho
  | str z =>
    cases e with
    | int i =>
      simp only [oIdx] at ho
      split at ho
      · rename_i hl
        obtain ⟨c, h1, h2⟩ := Option.map_eq_some_iff.mp ho
        subst h2
        exact .inl (.inr (.inr ⟨z, i, c, hx.str, hy.int, lim_line hl, h1, k.str r⟩))
      · cases ho
    | _ => cases ho
  | dI ks xs =>
    cases e with
    | int i =>
      obtain ⟨a, vs, rfl, ha, hl, ra⟩ := hx.dI
      obtain ⟨w, h1, h2⟩ := getI_rep ra (show getI ks xs i = some v from ho)
      exact .inr ⟨a, w, rfl, by rw [hy.int]; exact h1 ▸ DGet.k (k := Sum.inl i) ha, k.fz r h2⟩
    | _ => cases ho
  | dT ks xs =>
    cases e with
    | tup ys =>
      obtain ⟨a, vs, rfl, ha, hl, ra⟩ := hx.dT
      obtain ⟨l, h0, h1⟩ := Option.bind_eq_some_iff.mp (show ((ints? ys).bind fun k => getT ks xs k) = some v from ho)
      obtain ⟨c, ws, rfl, _, hc, rc⟩ := hy.tup
      obtain ⟨e1, e2⟩ := rc.ints_of h0
      obtain ⟨w, h1, h2⟩ := getT_rep ra h1
      exact .inr ⟨a, w, rfl, h1 ▸ DGet.t (k := l.map Sum.inl) ha (by rw [kV_map, ← e1]; exact hc), k.fz r h2⟩
    | _ => cases ho
  | _ => cases e <;> cases ho

def rSlAny (K : PySem.W.Frag) : V → Option Int → Option Int → Hp → VK → Prop := fun x lo hi H Q => rSlA K x lo hi H Q ∨ rSlL K x lo hi H Q
theorem sl_any {X : Cx} : SlR X (rSlAny X.K) := sl_tupA.or sl_list
theorem cut_rep {p : Pl} {xs : List D} {vs : List V} (h : RepL p xs vs) (lo hi : Option Int) : RepL p (cutL xs lo hi) (cutV vs lo hi) := by
  unfold cutL cutV
  rw [h.length]
  exact (h.drop _).take _
theorem slc_ok {d : D} {lo hi : Option Int} {v : RV} {x : V} (r : Rl F μ oa ds M σ H) (hx : RVr (F.pl μ oa H) d x) (ho : oSlc M d lo hi = some v) (k : Ends1 F μ oa ds M σ H v Q) : rSlAny F.K x lo hi H Q := by
  cases d with
  | tup xs =>
    cases ho
    obtain ⟨a, vs, rfl, na, ha, ra⟩ := hx.tup
    refine .inl ⟨a, vs, rfl, .of ha, fun hw => k.fz r ⟨a, vs, rfl, na, ha, ?_⟩, fun hw p hp => k.tup r hp (cut_rep ra lo hi)⟩
    have := ra.length
    unfold cutL
    rw [this, hw.1, hw.2]
    simpa [← this] using ra
  | lst xs =>
    cases ho
    obtain ⟨a, vs, rfl, ha, ra⟩ := hx.lst
    exact .inr ⟨a, vs, rfl, .of ha, fun p hp => k.lst r hp (cut_rep ra lo hi)⟩
  | _ => cases ho

def rBi (K : PySem.W.Frag) : BI → List V → Hp → VK → Prop
  | .len => fun xs H Q => ∃ x n, xs = [x] ∧ LenV K x H n ∧ Q (.int n) H
  | .int => fun xs H Q => ((∃ i, xs = [.int i] ∧ Q (.int i) H) ∨ ∃ k, xs = [.bl k] ∧ Q (.int (if k then 1 else 0)) H) ∨ ∃ a n, xs = [.str a] ∧ PySem.intText? a = some n ∧ a.length ≤ 640 ∧ Q (.int n) H
  | .bool => fun xs H Q => (∃ i, xs = [.int i] ∧ Q (.bl (i != 0)) H) ∨ ∃ k, xs = [.bl k] ∧ Q (.bl k) H
  | .str => fun xs H Q => ∃ i, xs = [.int i] ∧ i.natAbs.log2 < 1920 ∧ Q (.str (toString i)) H
  | .abs => fun xs H Q => ∃ i, xs = [.int i] ∧ Q (.int (if i < 0 then -i else i)) H
  | .max => fun xs H Q => (∃ i j, xs = [.int i, .int j] ∧ Q (.int (if j > i then j else i)) H) ∨ rMax K xs H Q
  | .min => fun xs H Q => (∃ i j, xs = [.int i, .int j] ∧ Q (.int (if j < i then j else i)) H) ∨ rMin K xs H Q
  | .sum => rSum K
  | .any => rAny K
  | .all => rAll K
  | .list => fun xs H Q => ∃ p ys, xs = [.ref p] ∧ (SqL K H p ys ∨ SqT K H p ys) ∧ ∀ l, H l = none → Q (.ref l) (upd H l (.lst ys))
  | .tuple => fun xs H Q => ∃ p ys, xs = [.ref p] ∧ ((SqL K H p ys ∧ ∀ l, H l = none → Q (.ref l) (upd H l (.tup ys))) ∨ (SqT K H p ys ∧ Q (.ref p) H))
  | _ => fun _ _ _ => False
def biV : BI → Value
  | .len => .builtin "len" | .int => .type "int" | .bool => .type "bool" | .str => .type "str" | .abs => .builtin "abs" | .max => .builtin "max" | .min => .builtin "min"
  | .sum => .builtin "sum" | .any => .builtin "any" | .all => .builtin "all" | .list => .type "list" | .tuple => .type "tuple" | _ => .none
theorem callR_no {X : Cx} {f : Value} : CallR X f fun _ _ _ => False := fun _ _ _ _ _ _ _ _ _ h => h.elim
theorem callR_bi {X : Cx} (hc : X.calm = true) (b : BI) : CallR X (biV b) (rBi X.K b) := by
  cases b with
  | len => exact call_len
  | int => exact call_int1.or call_int_str
  | bool => exact call_bool1
  | str => exact call_str_int
  | abs => exact call_abs
  | max => exact (call_max2 hc).or (cr_max hc)
  | min => exact (call_min2 hc).or (cr_min hc)
  | sum => exact cr_sum hc
  | any => exact cr_any hc
  | all => exact cr_all hc
  | list => exact call_list_of
  | tuple => exact call_tuple_of
  | sorted => exact callR_no
  | sortedSet => exact callR_no
  | isi ts => exact callR_no
theorem maxL_mem : ∀ {l : List Int}, l ≠ [] → maxL l ∈ l ∧ ∀ y ∈ l, y ≤ maxL l
  | [x], _ => ⟨by simp [maxL], fun y h => by simp at h; subst h; exact Int.le_refl _⟩
  | x :: z :: r, _ => by
    obtain ⟨h1, h2⟩ := maxL_mem (l := z :: r) (by simp)
    show max x (maxL (z :: r)) ∈ _ ∧ ∀ y ∈ _, y ≤ max x (maxL (z :: r))
    refine ⟨?_, fun y hy => ?_⟩
    · by_cases q : x ≤ maxL (z :: r)
      · rw [Int.max_eq_right q]; exact List.mem_cons_of_mem _ h1
      · rw [Int.max_eq_left (by omega)]; exact List.mem_cons_self
    · rcases List.mem_cons.mp hy with e | hy
      · subst e; omega
      · have := h2 y hy; omega
theorem minL_mem : ∀ {l : List Int}, l ≠ [] → minL l ∈ l ∧ ∀ y ∈ l, minL l ≤ y
  | [x], _ => ⟨by simp [minL], fun y h => by simp at h; subst h; exact Int.le_refl _⟩
  | x :: z :: r, _ => by
    obtain ⟨h1, h2⟩ := minL_mem (l := z :: r) (by simp)
    show min x (minL (z :: r)) ∈ _ ∧ ∀ y ∈ _, min x (minL (z :: r)) ≤ y
    refine ⟨?_, fun y hy => ?_⟩
    · by_cases q : x ≤ minL (z :: r)
      · rw [Int.min_eq_left q]; exact List.mem_cons_self
      · rw [Int.min_eq_right (by omega)]; exact List.mem_cons_of_mem _ h1
    · rcases List.mem_cons.mp hy with e | hy
      · subst e; omega
      · have := h2 y hy; omega
end
end PL
end
section
set_option linter.all false
set_option maxRecDepth 100000
set_option maxHeartbeats 1000000
set_option autoImplicit false
namespace PL
open PySem PySem.Spec PyProof.Rows L2
section
variable {F : Fr0} {μ : List Addr} {oa : Nat → Option Addr} {ds : List Sl} {M : MS} {σ : L2.St} {H Hs : Hp} {Q : V → Hp → Prop}
theorem items_len {d : D} {xs : List D} {x : V} (r : Rl F μ oa ds M σ H) (h : RVr (F.pl μ oa H) d x) (e : items? M d = some xs) : LenV F.K x H xs.length := by
  obtain ⟨a, vs, rfl, hs, ra⟩ := h.items r.mr e
  rcases hs with hs | hs
  · exact .inl ⟨vs, hs, ra.length⟩
  · exact .inr ⟨vs, hs, ra.length⟩
theorem asInt_eq {d : D} {i : Int} (h : asInt d = some i) : d = .int i := by cases d <;> cases h; rfl
theorem asLst_eq {d : D} {i : List D} (h : asLst d = some i) : d = .lst i := by cases d <;> cases h; rfl
theorem ints_lst {p : Pl} {d : D} {l : List Int} {x : V} (h : (asLst d).bind ints? = some l) (hx : RVr p d x) : ∃ a, x = .ref a ∧ p.H a = some (.lst (l.map V.int)) := by
  obtain ⟨ys, e1, e2⟩ := Option.bind_eq_some_iff.mp h
  rw [asLst_eq e1] at hx
  obtain ⟨a, ws, rfl, ha, ra⟩ := hx.lst
  obtain ⟨rfl, _⟩ := ra.ints_of e2
  exact ⟨a, rfl, ha⟩
theorem bls_lst {p : Pl} {d : D} {l : List Bool} {x : V} (h : (asLst d).bind bls? = some l) (hx : RVr p d x) : ∃ a, x = .ref a ∧ p.H a = some (.lst (l.map V.bl)) := by
  obtain ⟨ys, e1, e2⟩ := Option.bind_eq_some_iff.mp h
  rw [asLst_eq e1] at hx
  obtain ⟨a, ws, rfl, ha, ra⟩ := hx.lst
  rw [ra.bls_of e2] at ha
  exact ⟨a, rfl, ha⟩
theorem strs_lst {p : Pl} {d : D} {l : List Str} {x : V} (h : (asLst d).bind strs? = some l) (hx : RVr p d x) : ∃ a, x = .ref a ∧ p.H a = some (.lst (l.map V.str)) := by
  obtain ⟨ys, e1, e2⟩ := Option.bind_eq_some_iff.mp h
  rw [asLst_eq e1] at hx
  obtain ⟨a, ws, rfl, ha, ra⟩ := hx.lst
  rw [ra.strs_of e2] at ha
  exact ⟨a, rfl, ha⟩
theorem bi1_ok {b : BI} {d : D} {v : RV} {x : V} (r : Rl F μ oa ds M σ H) (hx : RVr (F.pl μ oa H) d x) (ho : oBi1 M b d = some v) (hb : ∀ ts, b ≠ .isi ts) (k : Ends1 F μ oa ds M σ H v Q) : rBi F.K b [x] H Q := by
  cases b with
  | len =>
    obtain ⟨n, e1, e2⟩ := Option.map_eq_some_iff.mp ho
    subst e2
    refine ⟨x, n, rfl, ?_, k.int r⟩
    cases d with
    | str s =>
      rw [hx.str]
      simp only [lenD] at e1
      split at e1
      · cases e1
        rename_i hl
        exact ⟨lim_line hl, rfl⟩
      · cases e1
    | lst ys => cases e1; exact items_len r hx rfl
    | tup ys => cases e1; exact items_len r hx rfl
    | scr ns => cases e1; exact items_len r hx rfl
    | ref m =>
      obtain ⟨ys, q1, q2⟩ := Option.map_eq_some_iff.mp (show (items? M (.ref m)).map List.length = some n from e1)
      subst q2
      exact items_len r hx q1
    | _ => cases e1
  | int =>
    obtain ⟨n, e1, e2⟩ := Option.map_eq_some_iff.mp ho
    subst e2
    cases d with
    | int i => cases e1; rw [hx.int]; exact .inl (.inl ⟨_, rfl, k.int r⟩)
    | bl i => cases e1; rw [hx.bl]; exact .inl (.inr ⟨i, rfl, k.int r⟩)
    | str s =>
      rw [hx.str]
      simp only [toInt] at e1
      split at e1
      · rename_i hl
        exact .inr ⟨s, n, rfl, e1, hl, k.int r⟩
      · cases e1
    | _ => cases e1
  | bool =>
    obtain ⟨n, e1, e2⟩ := Option.map_eq_some_iff.mp ho
    subst e2
    cases d with
    | int i => cases e1; rw [hx.int]; exact .inl ⟨i, rfl, k.bl r⟩
    | bl i => cases e1; rw [hx.bl]; exact .inr ⟨_, rfl, k.bl r⟩
    | _ => cases e1
  | str =>
    obtain ⟨i, e1, e2⟩ := Option.bind_eq_some_iff.mp ho
    rw [asInt_eq e1] at hx
    rw [hx.int]
    split at e2
    · cases e2
      rename_i hl
      exact ⟨i, rfl, hl, k.str r⟩
    · cases e2
  | abs =>
    obtain ⟨i, e1, e2⟩ := Option.map_eq_some_iff.mp ho
    subst e2
    rw [asInt_eq e1] at hx
    rw [hx.int]
    exact ⟨i, rfl, k.int r⟩
  | max =>
    obtain ⟨l, e1, e2⟩ := Option.bind_eq_some_iff.mp ho
    obtain ⟨a, rfl, ha⟩ := ints_lst e1 hx
    split at e2
    · cases e2
    · rename_i hl
      cases e2
      obtain ⟨m1, m2⟩ := maxL_mem hl
      refine .inr ⟨a, l, rfl, .of ha, List.length_pos_iff.mpr hl, fun m q1 q2 => ?_⟩
      have : m = maxL l := by
        have u1 := q2 _ m1
        have u2 := m2 _ q1
        omega
      rw [this]
      exact k.int r
  | min =>
    obtain ⟨l, e1, e2⟩ := Option.bind_eq_some_iff.mp ho
    obtain ⟨a, rfl, ha⟩ := ints_lst e1 hx
    split at e2
    · cases e2
    · rename_i hl
      cases e2
      obtain ⟨m1, m2⟩ := minL_mem hl
      refine .inr ⟨a, l, rfl, .of ha, List.length_pos_iff.mpr hl, fun m q1 q2 => ?_⟩
      have : m = minL l := by
        have u1 := q2 _ m1
        have u2 := m2 _ q1
        omega
      rw [this]
      exact k.int r
  | sum =>
    obtain ⟨l, e1, e2⟩ := Option.map_eq_some_iff.mp ho
    subst e2
    obtain ⟨a, rfl, ha⟩ := ints_lst e1 hx
    exact ⟨a, l, rfl, .of ha, k.int r⟩
  | any =>
    obtain ⟨l, e1, e2⟩ := Option.map_eq_some_iff.mp ho
    subst e2
    obtain ⟨a, rfl, ha⟩ := bls_lst e1 hx
    exact ⟨a, l, rfl, .of ha, k.bl r⟩
  | all =>
    obtain ⟨l, e1, e2⟩ := Option.map_eq_some_iff.mp ho
    subst e2
    obtain ⟨a, rfl, ha⟩ := bls_lst e1 hx
    exact ⟨a, l, rfl, .of ha, k.bl r⟩
  | list =>
    obtain ⟨ys, e1, e2⟩ := Option.map_eq_some_iff.mp ho
    subst e2
    obtain ⟨a, vs, rfl, hs, ra⟩ := hx.items r.mr e1
    exact ⟨a, vs, rfl, hs, fun l hl => k.lst r hl ra⟩
  | tuple =>
    obtain ⟨ys, e1, e2⟩ := Option.map_eq_some_iff.mp ho
    subst e2
    cases d with
    | lst zs =>
      cases e1
      obtain ⟨a, vs, rfl, ha, ra⟩ := hx.lst
      exact ⟨a, vs, rfl, .inl ⟨.of ha, fun l hl => k.tup r hl ra⟩⟩
    | tup zs =>
      cases e1
      obtain ⟨a, vs, rfl, na, ha, ra⟩ := hx.tup
      exact ⟨a, vs, rfl, .inr ⟨.of ha, k.fz r ⟨a, vs, rfl, na, ha, ra⟩⟩⟩
    | _ => cases e1
  | isi ts => exact absurd rfl (hb ts)
  | sorted => cases ho
  | sortedSet => cases ho
theorem bi_ok {b : BI} {vs : List RV} {v : RV} {xs : List V} (r : Rl F μ oa ds M σ H) (hx : RVrs (F.pl μ oa H) vs xs) (ho : oBi M b vs = some v) (hb : ∀ ts, b ≠ .isi ts) (k : Ends1 F μ oa ds M σ H v Q) : rBi F.K b xs H Q := by
  match vs, ho with
  | [a], ho =>
    obtain ⟨x, rfl, h1⟩ := hx.one
    exact bi1_ok r h1 ho hb k
  | [a, c], ho =>
    obtain ⟨x, y, rfl, h1, h2⟩ := hx.two
    have ho : oBi2 b a.1 c.1 = some v := ho
    cases b with
    | max =>
      obtain ⟨i, e1, e2⟩ := Option.bind_eq_some_iff.mp ho
      obtain ⟨j, e3, e4⟩ := Option.map_eq_some_iff.mp e2
      subst e4
      rw [asInt_eq e1] at h1
      rw [asInt_eq e3] at h2
      rw [h1.int, h2.int]
      exact .inl ⟨i, j, rfl, k.int r⟩
    | min =>
      obtain ⟨i, e1, e2⟩ := Option.bind_eq_some_iff.mp ho
      obtain ⟨j, e3, e4⟩ := Option.map_eq_some_iff.mp e2
      subst e4
      rw [asInt_eq e1] at h1
      rw [asInt_eq e3] at h2
      rw [h1.int, h2.int]
      exact .inl ⟨i, j, rfl, k.int r⟩
    | _ => cases ho
  | [], ho => cases ho
  | _ :: _ :: _ :: _, ho => cases ho

def tyS : Ty → String
  | .int => "int" | .bool => "bool" | .str => "str" | .tuple => "tuple" | .list => "list"
def dTy : D → String
  | .non => "NoneType" | .bl _ => "bool" | .int _ => "int" | .str _ => "str" | .tup _ => "tuple" | _ => "list"
theorem kit_all : ∀ (a : String), a ∈ ["NoneType", "bool", "int", "str", "tuple", "list"] → ∀ t : Ty, ∃ b, kitB a (tyS t) = some b ∧ (b = true ↔ (a = tyS t ∨ (a = "bool" ∧ t = .int))) := by
  intro a ha t
  simp only [List.mem_cons, List.not_mem_nil, or_false] at ha
  rcases ha with rfl | rfl | rfl | rfl | rfl | rfl <;> cases t <;> first | exact ⟨true, by decide +kernel, by decide⟩ | exact ⟨false, by decide +kernel, by decide⟩
theorem isTy_kit {K : PySem.W.Frag} {d : D} {t : Ty} {b : Bool} (h : isTy d t = some b) : PySem.W.kitOne K (.type (dTy d)) (.type (tyS t)) = some b := by
  have hm : dTy d ∈ ["NoneType", "bool", "int", "str", "tuple", "list"] := by cases d <;> simp [dTy]
  obtain ⟨c, e1, e2⟩ := kit_all (dTy d) hm t
  rw [kit_ty e1]
  congr 1
  cases d <;> cases t <;> cases h <;> (cases c <;> simp [dTy, tyS] at e2 ⊢)
theorem RVr.ty {d : D} {x : V} {t : Ty} {b : Bool} (r : Rl F μ oa ds M σ H) (hx : RVr (F.pl μ oa H) d x) (h : isTy d t = some b) : TyX F.K H x (.type (dTy d)) := by
  cases d with
  | non => rw [hx.non]; exact .base .non
  | bl i => rw [hx.bl]; exact .base (.bl i)
  | int i => rw [hx.int]; exact .base (.int i)
  | str i => rw [hx.str]; exact .base (.str i)
  | tup ys => obtain ⟨a, vs, rfl, _, ha, _⟩ := hx.tup; exact .base (.tup ha)
  | lst ys => obtain ⟨a, vs, rfl, ha, _⟩ := hx.lst; exact .base (.lst ha)
  | ref n =>
    rcases hx with ⟨a, rfl, h2⟩ | ⟨_, _, _, q⟩
    · have hn : n < M.length := by rw [← r.mr.len]; exact (List.getElem?_eq_some_iff.mp h2).1
      obtain ⟨vs, h3, _⟩ := r.mr.cell n a M[n] h2 (by simp [hn])
      exact .base (.lst h3)
    · exact q.elim
  | _ => cases h
theorem anyTy_kit {K : PySem.W.Frag} {d : D} : ∀ {ts : List Ty} {b : Bool}, anyTy d ts = some b → PySem.W.kitAny K (.type (dTy d)) (ts.map fun t => .type (tyS t)) = some b
  | [], b, h => by cases h; exact kitAny_nil
  | t :: ts, b, h => by
    simp only [anyTy] at h
    split at h
    · rename_i a c h1 h2
      cases h
      exact kitAny_cons (isTy_kit h1) (fun e => by rw [e, Bool.false_or]; exact anyTy_kit h2) (fun e => by rw [e, Bool.true_or])
    · cases h
end
end PL
end
section
set_option linter.all false
set_option maxRecDepth 100000
set_option maxHeartbeats 1000000
set_option autoImplicit false
namespace PL
open PySem PySem.Spec PyProof.Rows L2

abbrev noOa : Nat → Option Addr := fun _ => none
/-- a def's promise by its meaning -/
def SpD (K : PySem.W.Frag) (xa : Nat → Addr) (xf : Nat → Str) (n : Nat) (G : Fn) : Sp := fun vs H Q E => vs.length = n ∧
  ∃ (F : Fr0) (ds : List D) (M : MS), F.K = K ∧ F.xa = xa ∧ F.xf = xf ∧ F.H0 = H ∧ RepL (F.pl F.μ0 noOa H) ds vs ∧ MR (F.pl F.μ0 noOa H) M ∧ (∀ a, NN F F.μ0 noOa a → ∃ o, H a = some o) ∧
    match G ds M with
    | .ok v M' => ∀ x μ' H', EvE F.μ0 H μ' H' → MR (F.pl μ' noOa H') M' → (∀ a, NN F μ' noOa a → ∃ o, H' a = some o) → RVk (F.pl μ' noOa H') H M' v x → Q x H'
    | .exc e M' => ∀ μ' H' c od, EvE F.μ0 H μ' H' → MR (F.pl μ' noOa H') M' → (∀ a, NN F μ' noOa a → ∃ o, H' a = some o) → ExV F e c od H' → E c od H'
    | .stuck => False
section
variable {F : Fr0} {μ μ' : List Addr} {oa : Nat → Option Addr} {ds : List Sl} {M M' : MS} {σ : L2.St} {H H' : Hp}
theorem Rl.step (r : Rl F μ oa ds M σ H) (e : EvE μ H μ' H') (m : MR (F.pl μ' oa H') M') (hd : ∀ a, NN F μ' oa a → ∃ o, H' a = some o) : Rl F μ' oa ds M' σ H' := by
  obtain ⟨t, e1, f1⟩ := e.pre
  obtain ⟨t0, e0, f0⟩ := r.pre
  have notμ : ∀ a i, oa i = some a → a ∉ μ := fun a i h => (r.ofr i a h).2.1
  have k : ∀ a o, H a = some o → a ∉ μ → H' a = H a := fun a o h n => by rw [e.keep a o h n, h]
  refine ⟨r.len, fun i d q => ?_, fun i d q => ?_, r.inj, fun i a q => ⟨(r.ofr i a q).1, fun hm => ?_, (r.ofr i a q).2.2⟩, m, hd, fun a o q hn => ?_, ⟨t0 ++ t, by rw [e1, e0, List.append_assoc], fun a ha => ?_⟩, r.fin⟩
  · obtain ⟨v, h1, h2⟩ := r.fz i d q
    exact ⟨v, h1, h2.mono e.evo⟩
  · obtain ⟨a, h1, h2, h3⟩ := r.ow i d q
    obtain ⟨o, h4⟩ := h3.some
    exact ⟨a, h1, h2, h3.mono e.evo (k a o h4 (notμ a i h1))⟩
  · rw [e1] at hm
    rcases List.mem_append.mp hm with hm | hm
    · exact notμ a i q hm
    · obtain ⟨o, h⟩ := r.dom a (.inr (.inr ⟨i, q⟩))
      rw [f1 a hm] at h; cases h
  · have h := r.keep a o q hn
    refine e.keep a o h fun hm => ?_
    rw [e0] at hm
    rcases List.mem_append.mp hm with hm | hm
    · exact hn hm
    · rw [f0 a hm] at q; cases q
  · rcases List.mem_append.mp ha with ha | ha
    · exact f0 a ha
    · cases q : F.H0 a with
      | none => rfl
      | some o =>
        by_cases hm : a ∈ F.μ0
        · obtain ⟨o', h⟩ := r.dom a (.inr (.inl (by rw [e0]; exact List.mem_append_left _ hm)))
          rw [f1 a ha] at h; cases h
        · have := r.keep a o q hm
          rw [f1 a ha] at this; cases this
/-- the frame that a callee sees -/
def callee (F : Fr0) (μ : List Addr) (oa : Nat → Option Addr) (H : Hp) : Fr0 := ⟨F.K, fun a => F.N0 a ∨ ∃ i, oa i = some a, H, μ, F.xa, F.xf⟩
theorem callee_pl (ν : List Addr) (J : Hp) : (callee F μ oa H).pl ν noOa J = F.pl ν oa J := by
  have : NN (callee F μ oa H) ν noOa = NN F ν oa := by
    funext a
    apply propext
    constructor
    · rintro ((h | h) | h | ⟨i, h⟩)
      · exact .inl h
      · exact .inr (.inr h)
      · exact .inr (.inl h)
      · cases h
    · rintro (h | h | h)
      · exact .inl (.inl h)
      · exact .inr (.inl h)
      · exact .inl (.inr h)
  unfold Fr0.pl
  rw [this]
  rfl
theorem callee_NN (ν : List Addr) : NN (callee F μ oa H) ν noOa = NN F ν oa := congrArg Pl.N (callee_pl (H := H) ν H)
/-- at a call: from the caller's wish to the promise -/
theorem sp_of {K : PySem.W.Frag} {G : Fn} {n : Nat} {W : WX} {as : List D} {vs : List V} {Q : V → Hp → Prop} (hK : F.K = K) (hl : vs.length = n) (hr : RepL (F.pl μ oa H) as vs)
    (h : rK F W relV (fun _ M => G as M) μ oa ds M σ H Q) : SpD K F.xa F.xf n G vs H Q fun c od H' => W c od σ H' := by
  obtain ⟨r, h⟩ := h
  refine ⟨hl, callee F μ oa H, as, M, hK, rfl, rfl, rfl, ?_, ?_, ?_, ?_⟩
  · show RepL ((callee F μ oa H).pl μ noOa H) as vs
    rw [callee_pl]; exact hr
  · show MR ((callee F μ oa H).pl μ noOa H) M
    rw [callee_pl]; exact r.mr
  · intro a
    rw [callee_NN]
    exact r.dom a
  · dsimp only at h
    cases e : G as M with
    | stuck => rw [e] at h; exact h
    | ok v M' =>
      rw [e] at h
      intro x μ' H' ev m d q
      rw [callee_pl] at m q
      rw [callee_NN] at d
      exact h x μ' H' ev (r.step ev m d) q
    | exc x M' =>
      rw [e] at h
      intro μ' H' c od ev m d q
      rw [callee_pl] at m
      rw [callee_NN] at d
      exact h μ' H' c od ev (r.step ev m d) q
end
/-- a call by any binding, what is raised wished for at the slots -/
theorem run_G {X : Cx} {CX : CXT} {k : Nat} {f : Addr} {fd : FuncData} {ps : List Str} {sp : Sp} {E : XK} {pins : List (Addr × Obj)} {σ : L2.St} {H : Hp} {s : Shared} {Q : VK} {us us' : List Value} {kw : List (Str × Value)} {vs : List V}
    (F : FnOk X.prog X.w X.K X.mg X.base CX k f fd ps sp) (hr : Room k X.A) (hx : PassesAt CX X σ E) (I : Inv X pins σ H s) (hb : BindsTo s fd ⟨us, kw⟩ (ps.zip us')) (r : Vals vs us') (h : sp vs H Q E) :
    wpAny (model X.prog X.w) X.A (call (.ref f) us kw) (EP X pins σ Q) X.xe s := by
  refine wpAny_call (codeAny_mono (F.run X.A X.stack s H ⟨us, kw⟩ us' vs Q E hr I.env0 hb r h) fun res s' hq => ?_)
  cases res with
  | error x => exact hx pins H s x s' I hq
  | ok fl =>
    cases fl with
    | ret u => exact I.after hq
    | next => exact (show False from hq).elim
    | brk => exact (show False from hq).elim
    | cont => exact (show False from hq).elim
inductive BK | pos | kw (k : Str) (d : D)
/-- a plain constant as a value -/
def dV : D → Option V
  | .non => some .non
  | .bl b => some (.bl b)
  | .int i => some (.int i)
  | .str s => some (.str s)
  | _ => none
theorem dV_rep {d : D} {v : V} {p : Pl} (h : dV d = some v) : Rep p d v := by
  cases d <;> cases h <;> rfl
def BindOk (K : PySem.W.Frag) (fd : FuncData) (ps : List Str) : BK → Prop
  | .pos => ∀ (s : Shared) (us : List Value), us.length = ps.length → BindsTo s fd ⟨us, []⟩ (ps.zip us)
  | .kw k d => (∃ (v : V) (dv : Value), dV d = some v ∧ RelV v dv ∧ ∀ (s : Shared) (us : List Value), K.In s.heap → us.length + 1 = ps.length → BindsTo s fd ⟨us, []⟩ (ps.zip (us ++ [dv]))) ∧
      ∀ (s : Shared) (us : List Value) (w : Value), K.In s.heap → us.length + 1 = ps.length → BindsTo s fd ⟨us, [(k, w)]⟩ (ps.zip (us ++ [w]))
/-- a def as its callers know it -/
structure FnD (P : Program) (w : World) (K : PySem.W.Frag) (mg : Str → Option Value) (base : Heap) (xa : Nat → Addr) (xf : Nat → Str) (lv : Nat) (x : Str) (n : Nat) (bk : BK) (G : Fn) : Prop where
  ex : ∃ (f : Addr) (fd : FuncData) (ps : List Str), ps.length = n ∧ FnOk P w K mg base (L2.CX P w) lv f fd ps (SpD K xa xf n G) ∧ mg x = some (.ref f) ∧ PySem.W.keepIn K (.ref f) = true ∧ BindOk K fd ps bk
end PL
end
section
set_option linter.all false
set_option maxRecDepth 100000
set_option maxHeartbeats 1000000
set_option autoImplicit false
namespace PL
open PySem PySem.Spec PyProof.Rows L2

structure MC where
  N : List Str
  sc : Scope
  fn : Nat → Str
  bk : Nat → BK
  fs : List Nat
  cs : List (Str × D)
  xs : List (Nat × Str)
def visB (sc : Scope) (x : Str) : Bool := match sc.names.lookup x with
  | some .local => true | some .cell => true | some .free => true | _ => false
def nmB (m : MC) (i : Nat) (x : Str) : Bool := decide (m.N[i]? = some x) && visB m.sc x && !(x == ("__debug__" : Str)) && !(x == ("__classdict__" : Str))
def glB (sc : Scope) (x : Str) : Bool := match sc.names.lookup x with
  | some .globalImplicit => !(x == ("__debug__" : Str)) && !decide (x = ("__name__" : Str))
  | _ => false
def litB : D → Const → Bool
  | .non, .none => true
  | .bl a, .bool b => a == b
  | .int a, .int b => decide (a = b)
  | .str a, .str b => decide (a = b)
  | _, _ => false
def biN : BI → String
  | .len => "len" | .int => "int" | .bool => "bool" | .str => "str" | .abs => "abs" | .max => "max" | .min => "min"
  | .sum => "sum" | .any => "any" | .all => "all" | .list => "list" | .tuple => "tuple" | _ => "isinstance"
def isSl : Expr → Bool
  | .Slice _ _ _ _ => true
  | _ => false
def isTp : Expr → Bool
  | .Tuple _ _ _ => true
  | _ => false
def tyB (sc : Scope) : List Ty → List Expr → Bool
  | [], [] => true
  | t :: ts, .Name x _ :: es => x == (tyS t : Str) && glB sc x && tyB sc ts es
  | _, _ => false
def tysB (sc : Scope) (ts : List Ty) (e : Expr) : Bool := match ts, e with
  | [t], .Name x _ => x == (tyS t : Str) && glB sc x
  | t :: t2 :: ts, .Tuple es _ _ => decide (ts.length ≤ 8) && tyB sc (t :: t2 :: ts) es
  | _, _ => false
def bkB (m : MC) (f : Nat) (k : Str) : Bool := match m.bk f with
  | .kw k' _ => decide (k = k')
  | _ => false
def dfB (m : MC) (f : Nat) (d : D) : Bool := match m.bk f, d with
  | .kw _ (.int i), .int j => decide (i = j)
  | _, _ => false
def posB (m : MC) (f : Nat) : Bool := match m.bk f with
  | .pos => true
  | _ => false
/-- may the value of a whole statement be stored straight? -/
def relD (scope sc : Scope) : Scope := L2.relS scope sc
def ownOk (N : List Str) (scope : Scope) (own : List Nat) : List (Str × Nat) := own.filterMap fun i => (N[i]?).map fun x => (x, i)
def stB (scope : Scope) (x : Str) : Bool := match scope.names.lookup x with
  | some .local => true | some .cell => true | _ => false
mutual
/-- a target: names that may be stored -/
def mTg (N : List Str) (st : Str → Bool) : TGt → Expr → Bool
  | .nm i, .Name x _ => decide (N[i]? = some x) && st x
  | .tp ts, .Tuple es _ _ => mTgs N st ts es
  | _, _ => false
def mTgs (N : List Str) (st : Str → Bool) : TGt → List Expr → Bool
  | .nil, [] => true
  | .cons t r, e :: es => mTg N st t e && mTgs N st r es
  | _, _ => false
end
def mtN : MI → String
  | .index => "index" | .get => "get" | .split => "split" | .join => "join" | .items => "items" | .values => "values"
mutual
def TGt.sub : TGt → List Nat → Bool
  | .nm i, own => decide (i ∈ own)
  | .tp ts, own => TGt.sub ts own
  | .nil, _ => true
  | .cons t r, own => TGt.sub t own && TGt.sub r own
end
def TGt.names : TGt → List Nat
  | .nm i => [i]
  | .tp ts => TGt.names ts
  | .nil => []
  | .cons t r => TGt.names t ++ TGt.names r
/-- a call with something in its brackets -/
def isCallA : Expr → Bool
  | .Call (.Name _ _) (_ :: _) [] _ => true
  | _ => false
/-- for t in it for tt in itt if .. -/
def gens2 : List Comprehension → Option (Expr × Expr × Expr × Expr × List Expr)
  | [⟨t, it, [], k⟩, ⟨tt, itt, ifs, j⟩] => if k = 0 ∧ j = 0 then some (t, it, tt, itt, ifs) else none
  | _ => none
/-- kn: .. for (y, t2) in e.items() -/
def itemsSh : Expr → List Comprehension → Option (Str × Str × Expr × Expr)
  | .Name kn _, [⟨.Tuple [.Name y _, t2] _ _, .Call (.Attribute e nm ap) [] [] cp, [], k⟩] => if k = 0 ∧ nm = ("items" : Str) ∧ (ap.endLine == cp.line) = true then some (kn, y, t2, e) else none
  | _, _ => none
mutual
def mE (m : MC) : CE → Expr → Bool
  | .var i, .Name x _ => nmB m i x
  | .lit d, .Constant c _ _ => litB d c
  | .glob s d, .Name x _ => x == (s : Str) && glB m.sc x && (m.cs.any fun q => decide (q.1 = x) && (match q.2, d with
      | .int a, .int b => decide (a = b)
      | .str a, .str b => decide (a = b)
      | _, _ => false))
  | .bin op a b, .BinOp x o y _ => decide (o = opB op) && mE m a x && mE m b y
  | .neg a, .UnaryOp o x _ => decide (o = .USub) && mE m a x
  | .cmp op a b, .Compare x [o] [y] _ => decide (o = cop op) && mE m a x && mE m b y && !behindInMarks o y
  | .chain o1 o2 a b c, .Compare x [p1, p2] [y, z] _ => decide (p1 = cop o1) && decide (p2 = cop o2) && mE m a x && mE m b y && mE m c z && !behindInMarks p2 z
  | .and es, .BoolOp .And xs _ => mA m es xs
  | .or es, .BoolOp .Or xs _ => mA m es xs
  | .not a, .UnaryOp o x _ => decide (o = .Not) && mE m a x
  | .ife c a b, .IfExp x y z _ => mE m c x && mE m a y && mE m b z
  | .tup es, .Tuple xs _ _ => mA m es xs
  | .lst es, .List xs _ => mA m es xs
  | .idx a i, .Subscript x y _ => mE m a x && mE m i y && !isSl y
  | .slc a lo hi, .Subscript x (.Slice l h none _) _ => mE m a x && mP m lo l && mP m hi h
  | .call f es, .Call (.Name x _) xs [] _ => decide (x = m.fn f) && glB m.sc x && decide (f ∈ m.fs) && posB m f && mA m es xs
  | .callK f es kw, .Call (.Name x _) (x1 :: xs) [⟨some k, v, _⟩] _ => decide (x = m.fn f) && glB m.sc x && decide (f ∈ m.fs) && bkB m f k && mA m es (x1 :: xs) && mE m kw v
  | .callD f es d, .Call (.Name x _) (x1 :: xs) [] _ => decide (x = m.fn f) && glB m.sc x && decide (f ∈ m.fs) && dfB m f d && mA m es (x1 :: xs)
  | .bi (.isi ts) es, .Call (.Name x _) [e, t] [] _ => x == ("isinstance" : Str) && glB m.sc x && mA m es [e] && tysB m.sc ts t
  | .bi b es, .Call (.Name x _) (x1 :: xs) [] _ => x == (biN b : Str) && (biN b != "isinstance") && glB m.sc x && mA m es (x1 :: xs)
  | .lz a b, .Call (.Name l _) [.Call (.Name z _) [x, y] [] _] [] _ => l == ("list" : Str) && glB m.sc l && z == ("zip" : Str) && glB m.sc z && mE m a x && mE m b y
  | .lc own tg ik its cond elt, .ListComp e [⟨t, it, ifs, 0⟩] scope _ =>
      blkC m.N m.sc scope (ownOk m.N scope own) && decide ((ownOk m.N scope own).map (·.2) = own) && mTg m.N (stB scope) tg t && decide (TGt.sub tg own = true) &&
      mIt m ik t its it && mIf { m with sc := relS scope m.sc } cond ifs && mE { m with sc := relS scope m.sc } elt e
  | .dct0, .Dict [] [] _ => true
  | .dcti0, .Dict [] [] _ => true
  | .dc2 own own1 t1 i1 t2 i2 cond key val, .DictComp kx vx gs scope _ => (match gens2 gs with
    | some (t, it, tt, itt, ifs) =>
      blkC m.N m.sc scope (ownOk m.N scope own) && decide ((ownOk m.N scope own).map (·.2) = own) && mTg m.N (stB scope) t1 t && decide (TGt.sub t1 own = true) && mIt m .seq t i1 it &&
      mTg m.N (stB scope) t2 tt && decide (TGt.sub t2 own1 = true) && own1.all (fun i => decide (i ∈ own)) && mIt { m with sc := relS scope m.sc } .seq tt i2 itt && mIf { m with sc := relS scope m.sc } cond ifs &&
      mE { m with sc := relS scope m.sc } key kx && mE { m with sc := relS scope m.sc } val vx
    | none => false)
  | .dcI own i tv its val, .DictComp kx vx gs scope _ => (match itemsSh kx gs with
    | some (kn, y, t2, e) =>
      blkC m.N m.sc scope (ownOk m.N scope own) && decide ((ownOk m.N scope own).map (·.2) = own) && nmB { m with sc := relS scope m.sc } i kn && decide (m.N[i]? = some y) && stB scope y &&
      mTg m.N (stB scope) tv t2 && decide (TGt.sub tv own = true) && decide (i ∈ own) && decide (i ∉ tv.names) && isCallA e && mE m its e && mE { m with sc := relS scope m.sc } val vx
    | none => false)
  | .cell a, x => mE m a x
  | .fzE a, x => mE m a x
  | _, _ => false
def mP (m : MC) : CE → Option Expr → Bool
  | .none, none => true
  | .none, some _ => false
  | .lit d, some x => (match x with | .Constant c _ _ => litB d c | _ => false)
  | .var i, some x => (match x with | .Name y _ => nmB m i y | _ => false)
  | .bin op a b, some x => (match x with | .BinOp x o y _ => decide (o = opB op) && mE m a x && mE m b y | _ => false)
  | .neg a, some x => (match x with | .UnaryOp o x _ => decide (o = .USub) && mE m a x | _ => false)
  | _, _ => false
def mIf (m : MC) : CE → List Expr → Bool
  | .none, [] => true
  | .acons c .anil, [x] => mE m c x
  | _, _ => false
def mA (m : MC) : CE → List Expr → Bool
  | .anil, [] => true
  | .acons a r, x :: xs => mE m a x && mA m r xs
  | _, _ => false
def mIt (m : MC) (ik : IK) (t : Expr) : CE → Expr → Bool
  | .acons a .anil, x => (match ik, x with
    | .seq, e => mE m a e
    | .rng1, .Call (.Name r _) [y] [] _ => r == ("range" : Str) && glB m.sc r && mE m a y
    | .enm, .Call (.Name r _) [y] [] _ => r == ("enumerate" : Str) && glB m.sc r && isTp t && mE m a y
    | _, _ => false)
  | .acons a (.acons b .anil), x => (match ik, x with
    | .rng2, .Call (.Name r _) [y, z] [] _ => r == ("range" : Str) && glB m.sc r && mE m a y && mE m b z
    | .zip, .Call (.Name r _) [y, z] [] _ => r == ("zip" : Str) && glB m.sc r && isTp t && mE m a y && mE m b z
    | _, _ => false)
  | _, _ => false
end
def isCompB : Expr → Bool
  | .ListComp _ _ _ _ => true
  | .SetComp _ _ _ _ => true
  | .DictComp _ _ _ _ _ => true
  | _ => false
/-- is the comprehension's value stored from within? -/
def swB (sc : Scope) (x : Str) (px : Pos) : Expr → Bool
  | .ListComp _ _ s p => decide (sc.names.lookup x = some .local) && (px.line == p.line) && !(s.names.any fun (n, k) => n == x && (k == .local || k == .cell))
  | .DictComp _ _ _ s p => decide (sc.names.lookup x = some .local) && (px.line == p.line) && !(s.names.any fun (n, k) => n == x && (k == .local || k == .cell))
  | _ => false
def unpOk : Expr → Bool
  | .Name _ _ => true
  | .Subscript _ _ _ => true
  | .Call _ _ _ _ => true
  | .IfExp _ _ _ _ => true
  | _ => false
/-- one that is stored straight is not among these, or all values are constants -/
def unpTup (sc : Scope) : Expr → Expr → Bool
  | .Tuple ts _ _, .Tuple vs _ _ => !(ts.length == 2 || ts.length == 3) || (ts.any fun | .Name x _ => !(sc.names.lookup x == some .local) | _ => true) || vs.all (foldedForSure 8)
  | _, _ => false
def isTpT : TGt → Bool
  | .tp _ => true
  | _ => false
def isLcC : CE → Bool
  | .lc _ _ _ _ _ _ => true
  | .dc2 _ _ _ _ _ _ _ _ _ => true
  | .dcI _ _ _ _ _ => true
  | _ => false
def parOk (u v : Expr) : Bool := !(foldedForSure 8 u && foldedForSure 8 v) && !(constantsAlone 8 u && constantsAlone 8 v)
def appSh : Expr → Option (Str × Str × Expr × Bool)
  | .Call (.Attribute (.Name x _) nm ap) [y] [] cp => some (x, nm, y, ap.endLine == cp.line)
  | _ => none
def parSh : List Expr → Expr → Option (Str × Pos × Str × Pos × Expr × Expr)
  | [.Tuple [.Name x px, .Name y py] _ _], .Tuple [u, v] _ _ => some (x, px, y, py, u, v)
  | _, _ => none
def raiSh : Option Expr → Option Expr → Option Str
  | some (.Call (.Name y _) [.Constant (.str _) _ _] [] _), none => some y
  | _, _ => none
def setSh : List Expr → Option (Str × Pos)
  | [.Name x px] => some (x, px)
  | _ => none
def setiSh : List Expr → Option (Str × Expr)
  | [.Subscript (.Name x _) kx _] => some (x, kx)
  | _ => none
def nameSh : Option Expr → Option Str
  | some (.Name x _) => some x
  | _ => none
def isStrB : Expr → Bool
  | .Constant (.str _) _ _ => true
  | _ => false
mutual
def mS (m : MC) : CS → Stmt → Bool
  | .expr e, .Expr x _ => mE m e x && !isCompB x
  | .app i e, .Expr z _ => (match appSh z with
    | some (x, nm, y, b) => nmB m i x && nm == ("append" : Str) && mE m e y && b
    | none => false)
  | .set i e, .Assign ts v _ => (match setSh ts with
    | some (x, px) => decide (m.N[i]? = some x) && stB m.sc x && mE m e v && (swB m.sc x px v == isLcC e || !swB m.sc x px v)
    | none => false)
  | .unp tg e, .Assign ts v _ => (match ts with
    | [t] => mTg m.N (stB m.sc) tg t && isTpT tg && mE m e v && (unpOk v || unpTup m.sc t v)
    | _ => false)
  | .par i j a b, .Assign ts w _ => (match parSh ts w with
    | some (x, px, y, py, u, v) => decide (m.N[i]? = some x) && decide (m.N[j]? = some y) && decide (i ≠ j) && decide (m.sc.names.lookup x = some .local) && decide (m.sc.names.lookup y = some .local) &&
      mE m a u && mE m b v && (py.line == px.line) && decide (x ≠ y) && parOk u v
    | none => false)
  | .seti i k v, .Assign ts vx _ => (match setiSh ts with
    | some (x, kx) => nmB m i x && mE m k kx && !isSl kx && mE m v vx && !isCompB vx
    | none => false)
  | .ret e, .Return o _ => (match o with
    | some x => mE m e x
    | none => false)
  | .retV i, .Return o _ => (match nameSh o with
    | some x => nmB m i x
    | none => false)
  | .retN, .Return o _ => o.isNone
  | .ife c a b, .If x p q _ => mE m c x && mSs m a p && mSs m b q
  | .wh _ _ c b, .While x p oe _ => oe.isEmpty && mE m c x && mSs m b p
  | .for _ tg ik its b, .For t it p oe _ => oe.isEmpty && mTg m.N (stB m.sc) tg t && mIt m ik t its it && mSs m b p
  | .brk, .Break _ => true
  | .cont, .Continue _ => true
  | .pass, .Pass _ => true
  | .doc, .Expr x _ => isStrB x
  | .raise c x _, .Raise e ca _ => (match raiSh e ca with
    | some y => y == (x : Str) && decide ((c, y) ∈ m.xs) && glB m.sc y
    | none => false)
  | _, _ => false
def mSs (m : MC) : CS → List Stmt → Bool
  | .nil, [] => true
  | .cons s r, st :: ss => mS m s st && mSs m r ss
  | .frz _ r, ss => mSs m r ss
  | .kill _ r, ss => mSs m r ss
  | _, _ => false
end
end PL
end
section
set_option linter.all false
set_option maxRecDepth 100000
set_option maxHeartbeats 1000000
set_option autoImplicit false
namespace PL
open PySem PySem.Spec PyProof.Rows L2

def bltNames : List String := ["len", "int", "bool", "str", "abs", "max", "min", "sum", "any", "all", "list", "tuple", "isinstance", "range", "zip", "enumerate", "sorted", "set", "dict"]
/-- an own exception class, made with a text -/
structure ExcOk (K : PySem.W.Frag) (mg : Str → Option Value) (C : Addr) (x : Str) : Prop where
  ei : PySem.W.excIn K C He.veBase "ValueError.__new__" = true
  kp : PySem.W.keepIn K (.ref C) = true
  sb : PySem.W.subIn K (.ref C) (.type "BaseException") = some true
  ty : PySem.W.typeIn K (.ref C) = some (.type "type")
  mg : mg x = some (.ref C)
structure XG (X : Cx) (m : MC) (F : Fr0) (W : WX) (G : Nat → Fn) (lv : Nat) : Prop where
  N : X.N = m.N
  sc : X.env.scope = m.sc
  calm : X.calm = true
  nd : X.N.Nodup
  tk : Takes X W
  room : Room lv X.A
  K : X.K = F.K
  blt : ∀ s : String, s ∈ bltNames → X.mg (s : Str) = none
  cs : ∀ q ∈ m.cs, ∃ u v, X.mg q.1 = some u ∧ dV q.2 = some v ∧ RelV v u
  xs : ∀ q ∈ m.xs, ExcOk X.K X.mg (F.xa q.1) q.2
  fs : ∀ f ∈ m.fs, ∃ n, (∀ ds M, ds.length ≠ n → G f ds M = .stuck) ∧ FnD X.prog X.w X.K X.mg X.base F.xa F.xf lv (m.fn f) n (m.bk f) (G f)
section
variable {X : Cx} {m : MC} {F : Fr0} {W : WX} {G : Nat → Fn} {lv : Nat}
theorem XG.hu (g : XG X m F W G lv) : X.A.units + 65 < cLine := by have := g.room.un; omega
theorem XG.vis (g : XG X m F W G lv) {x : Str} (h : visB m.sc x = true) : Vis X.env.scope x := by
  rw [g.sc]
  unfold visB at h
  split at h
  · exact .inl (by assumption)
  · exact .inr (.inl (by assumption))
  · exact .inr (.inr (by assumption))
  · cases h
theorem XG.gl (g : XG X m F W G lv) {x : Str} (h : glB m.sc x = true) : Gl X x ∧ (x == ("__debug__" : Str)) = false ∧ x ≠ "__name__" := by
  unfold glB at h
  split at h
  · rename_i q
    simp only [Bool.and_eq_true, Bool.not_eq_true', decide_eq_false_iff_not] at h
    exact ⟨by show X.env.scope.names.lookup x = _; rw [g.sc]; exact q, h.1, h.2⟩
  · cases h
theorem s_var (g : XG X m F W G lv) {i : Nat} {x : Str} {pos : Pos} (h : nmB m i x = true) : PE X (.Name x pos) (rE F W relV (kVar i)) := by
  unfold nmB at h
  simp only [Bool.and_eq_true, Bool.not_eq_true', decide_eq_true_eq] at h
  refine PE.mono (pe_var (i := i) (by rw [g.N]; exact h.1.1.1) (g.vis h.1.1.2) h.1.2 h.2) fun σ H Q ⟨μ, oa, ds, M, r, q⟩ => ?_
  unfold kVar at q
  cases e : ds[i]? with
  | none => rw [e] at q; exact q.elim
  | some s =>
    rw [e] at q
    cases s with
    | no => exact q.elim
    | fz d =>
      obtain ⟨v, h1, h2⟩ := r.fz i d e
      exact ⟨v, h1, q v μ H (EvE.refl r) r h2⟩
    | ow d =>
      obtain ⟨a, h1, h2, h3⟩ := r.ow i d e
      exact ⟨.ref a, h2, q (.ref a) μ H (EvE.refl r) r ⟨a, rfl, (r.ofr i a h1).2.1, h3⟩⟩
/-- an answer that is a constant -/
theorem rK_const {d : D} {v : V} {μ : List Addr} {oa : Nat → Option Addr} {ds : List Sl} {M : MS} {σ : L2.St} {H : Hp} {Q : V → Hp → Prop} (hv : dV d = some v) (h : rK F W relV (fun _ M => .ok (d, .fz) M) μ oa ds M σ H Q) : Q v H :=
  h.2 v μ H (EvE.refl h.1) h.1 (dV_rep hv)
theorem s_lit {d : D} {c : Const} {j : Nat} {pos : Pos} (h : litB d c = true) : PE X (.Constant c j pos) (rE F W relV fun _ M => .ok (d, .fz) M) := by
  cases d with
  | non =>
    cases c with
    | none => exact PE.mono pe_non fun σ H Q ⟨μ, oa, ds, M, q⟩ => rK_const rfl q
    | _ => exact absurd h (by simp [litB])
  | bl a =>
    cases c with
    | bool b =>
      have e : a = b := by simpa [litB] using h
      subst e
      exact PE.mono pe_bl fun σ H Q ⟨μ, oa, ds, M, q⟩ => rK_const rfl q
    | _ => exact absurd h (by simp [litB])
  | int a =>
    cases c with
    | int b =>
      have e : a = b := by simpa [litB] using h
      subst e
      exact PE.mono pe_int fun σ H Q ⟨μ, oa, ds, M, q⟩ => rK_const rfl q
    | _ => exact absurd h (by simp [litB])
  | str a =>
    cases c with
    | str b =>
      have e : a = b := by simpa [litB] using h
      subst e
      exact PE.mono pe_str fun σ H Q ⟨μ, oa, ds, M, q⟩ => rK_const rfl q
    | _ => exact absurd h (by simp [litB])
  | _ => exact absurd h (by simp [litB])
theorem s_glob (g : XG X m F W G lv) {s : String} {d : D} {x : Str} {pos : Pos} (h : mE m (.glob s d) (.Name x pos) = true) : PE X (.Name x pos) (rE F W relV fun _ M => .ok (d, .fz) M) := by
  simp only [mE, Bool.and_eq_true, List.any_eq_true, decide_eq_true_eq] at h
  obtain ⟨⟨_, h1⟩, q, hq, e1, e2⟩ := h
  obtain ⟨g1, g2, g3⟩ := g.gl h1
  obtain ⟨u, v, a1, a2, a3⟩ := g.cs q hq
  have ed : q.2 = d := by
    cases hd : q.2 <;> cases d <;> rw [hd] at e2 <;> simp at e2 <;> rw [e2]
  rw [ed] at a2
  rw [e1] at a1
  exact PE.mono (pe_glob g1 a1 a3 g2) fun σ H Q ⟨μ, oa, ds, M, q⟩ => rK_const a2 q
theorem s_bin (g : XG X m F W G lv) {b : BOp} {x y : Expr} {f f' : SVal} {pos : Pos} (ha : PE X x (rE F W relV f)) (hb : PE X y (rE F W relV f')) : PE X (.BinOp x (opB b) y pos) (rE F W relV (kBin b f f')) := by
  refine PE.mono (pe_op (opR_bin b) ha hb) fun σ H Q ⟨μ, oa, ds, M, q⟩ => ⟨μ, oa, ds, M, (q.bind back_v).imp fun v1 H1 ⟨d1, μ1, M1, ev1, r1, q1⟩ => ⟨μ1, oa, ds, M1, (q1.bind back_v).imp fun v2 H2 ⟨d2, μ2, M2, ev2, r2, q2⟩ => ?_⟩⟩
  obtain ⟨v, e, k⟩ := q2.of
  rw [g.K]
  exact bin_ok q2.rl (r1.r.evo ev2) r2.r e k
theorem s_neg (g : XG X m F W G lv) {x : Expr} {f : SVal} {pos : Pos} (ha : PE X x (rE F W relV f)) : PE X (.UnaryOp .USub x pos) (rE F W relV (kNeg f)) := by
  refine PE.mono (pe_un un_neg ha) fun σ H Q ⟨μ, oa, ds, M, q⟩ => ⟨μ, oa, ds, M, (q.bind back_v).imp fun v1 H1 ⟨d1, μ1, M1, ev1, r1, q1⟩ => ?_⟩
  obtain ⟨d1, k1⟩ := d1
  cases d1 with
  | int i =>
    have hx := r1.r.int
    exact ⟨i, hx, q1.2 _ μ1 H1 (EvE.refl q1.1) q1.1 rfl⟩
  | _ => exact q1.2.elim
theorem c_cmp (g : XG X m F W G lv) {o : COp} {f f' : SVal} {σ : L2.St} {H : Hp} {Q : V → Hp → Prop} (h : rE F W relV (kCmp o f f') σ H Q) : tOp (ropC X.K o) (rE F W relV f) (rE F W relV f') σ H Q := by
  obtain ⟨μ, oa, ds, M, q⟩ := h
  refine ⟨μ, oa, ds, M, (q.bind back_v).imp fun v1 H1 ⟨d1, μ1, M1, ev1, r1, q1⟩ => ⟨μ1, oa, ds, M1, (q1.bind back_v).imp fun v2 H2 ⟨d2, μ2, M2, ev2, r2, q2⟩ => ?_⟩⟩
  obtain ⟨v, e, k⟩ := q2.of
  obtain ⟨c, e1, e2⟩ := Option.map_eq_some_iff.mp e
  subst e2
  rw [g.K]
  exact cmp_ok (r1.r.evo ev2) r2.r e1 (k _ μ2 H2 (EvE.refl q2.rl) q2.rl rfl)
theorem s_cmp (g : XG X m F W G lv) {o : COp} {x y : Expr} {f f' : SVal} {pos : Pos} (ha : PE X x (rE F W relV f)) (hb : PE X y (rE F W relV f')) (hm : behindInMarks (cop o) y = false) : PE X (.Compare x [cop o] [y] pos) (rE F W relV (kCmp o f f')) :=
  PE.mono (pe_cmpR (opR_cmp g.hu o) ha hb hm) fun σ H Q h => c_cmp g h
def AllBl (f : SVal) : Prop := ∀ ds M v M', f ds M = .ok v M' → ∃ k, v = (.bl k, .fz)
theorem rE_test {f : SVal} (hf : AllBl f) {σ : L2.St} {H : Hp} {Q : Bool → Hp → Prop} (h : rE F W relEq (asT f) σ H Q) : rE F W relV f σ H fun x H' => ∃ k, x = .bl k ∧ Q k H' := by
  obtain ⟨μ, oa, ds, M, r, h⟩ := h
  refine ⟨μ, oa, ds, M, r, ?_⟩
  unfold asT at h
  cases e : f ds M with
  | stuck => rw [e] at h; exact h
  | exc x M' => rw [e] at h; exact h
  | ok v M' =>
    rw [e] at h
    obtain ⟨k, rfl⟩ := hf ds M v M' e
    exact fun b μ' H' ev r' q => ⟨k, q, h k μ' H' ev r' rfl⟩
theorem truth_v {p : Pl} {K : PySem.W.Frag} {d : D} {x : V} {k : Bool} (hx : RVr p d x) (h : truth? d = some k) : TruV K x p.H k := by
  cases d with
  | bl b => rw [hx.bl]; exact (Option.some.inj h).symm
  | non => rw [hx.non]; exact (Option.some.inj h).symm
  | int i => rw [hx.int]; exact (Option.some.inj h).symm
  | str s =>
    rw [hx.str]
    simp only [truth?] at h
    split at h
    · rename_i hl
      refine ⟨lim_line hl, ?_⟩
      rw [← Option.some.inj h]
      rw [Bool.eq_iff_iff, bne_iff_ne, bne_iff_ne]
      omega
    · cases h
  | lst xs =>
    obtain ⟨a, vs, rfl, ha, ra⟩ := hx.lst
    refine .inl ⟨vs, .of ha, ?_⟩
    rw [← Option.some.inj h]
    have := ra.length
    cases xs <;> cases vs <;> first | rfl | cases this
  | tup xs =>
    obtain ⟨a, vs, rfl, _, ha, ra⟩ := hx.tup
    refine .inr (.inl ⟨vs, .of ha, ?_⟩)
    rw [← Option.some.inj h]
    have := ra.length
    cases xs <;> cases vs <;> first | rfl | cases this
  | _ => cases h
theorem rE_truth {f : SVal} {K : PySem.W.Frag} {σ : L2.St} {H : Hp} {Q : Bool → Hp → Prop} (h : rE F W relEq (asT f) σ H Q) : rE F W relV f σ H fun x H' => ∃ k, TruV K x H' k ∧ Q k H' := by
  obtain ⟨μ, oa, ds, M, q⟩ := h
  refine ⟨μ, oa, ds, M, (q.bind (Rel := relV) back_eq).imp fun v1 H1 ⟨d1, μ1, M1, ev1, r1, q1⟩ => ?_⟩
  obtain ⟨k, e, j⟩ := q1.of
  exact ⟨k, truth_v r1.r e, j k μ1 H1 (EvE.refl q1.rl) q1.rl rfl⟩
theorem allBl_cmp {o : COp} {f f' : SVal} : AllBl (kCmp o f f') := by
  intro ds M v M' h
  unfold kCmp at h
  cases e1 : f ds M with
  | ok d1 M1 =>
    rw [e1, R.bind_ok] at h
    cases e2 : f' ds M1 with
    | ok d2 M2 =>
      rw [e2, R.bind_ok] at h
      cases e3 : oCmp M2 o d1.1 d2.1 with
      | none => rw [e3] at h; cases h
      | some c => rw [e3] at h; cases h; exact ⟨c, rfl⟩
    | _ => rw [e2] at h; cases h
  | _ => rw [e1] at h; cases h
theorem t_cmp (g : XG X m F W G lv) {o : COp} {x y : Expr} {f f' : SVal} {pos : Pos} (ha : PE X x (rE F W relV f)) (hb : PE X y (rE F W relV f')) (hm : behindInMarks (cop o) y = false) : PT X (.Compare x [cop o] [y] pos) (rE F W relEq (asT (kCmp o f f'))) :=
  PT.mono (pt_cmpR (opR_cmp g.hu o) ha hb hm) fun σ H Q h => c_cmp g (rE_test allBl_cmp h)
theorem c_chain (g : XG X m F W G lv) {o1 o2 : COp} {f f' f'' : SVal} {σ : L2.St} {H : Hp} {Q : V → Hp → Prop} (h : rE F W relV (kChain o1 o2 f f' f'') σ H Q) : tChain (ropC X.K o1) (ropC X.K o2) (rE F W relV f) (rE F W relV f') (rE F W relV f'') σ H Q := by
  obtain ⟨μ, oa, ds, M, q⟩ := h
  refine ⟨μ, oa, ds, M, (q.bind back_v).imp fun v1 H1 ⟨d1, μ1, M1, ev1, r1, q1⟩ => ⟨μ1, oa, ds, M1, (q1.bind back_v).imp fun v2 H2 ⟨d2, μ2, M2, ev2, r2, q2⟩ => ?_⟩⟩
  rw [g.K]
  have rl := q2.rl
  cases e : oCmp M2 o1 d1.1 d2.1 with
  | none => exact (q2.not_stuck (by rw [e])).elim
  | some c =>
    refine cmp_ok (r1.r.evo ev2) r2.r e ⟨c, rfl, ?_⟩
    cases c with
    | false =>
      rw [if_neg Bool.false_ne_true]
      exact q2.ok (a := (.bl false, .fz)) (M1 := M2) (by rw [e]) _ μ2 H2 (EvE.refl rl) rl (show RVk _ _ _ ((.bl false : D), Kd.fz) (V.bl false) from rfl)
    | true =>
      rw [if_pos rfl]
      have q3 : rK F W relV (fun ds M => (f'' ds M).bind fun z M3 => R.of ((oCmp M3 o2 d2.1 z.1).map fun c => (.bl c, .fz)) M3) μ2 oa ds M2 σ H2 Q := by
        refine ⟨rl, ?_⟩
        have := q2.2
        dsimp only at this
        rw [e] at this
        exact this
      refine ⟨μ2, oa, ds, M2, (q3.bind back_v).imp fun v3 H3 ⟨d3, μ3, M3, ev3, r3, q4⟩ => ?_⟩
      obtain ⟨v, e', k⟩ := q4.of
      obtain ⟨c, e1, e2⟩ := Option.map_eq_some_iff.mp e'
      subst e2
      exact cmp_ok (r2.r.evo ev3) r3.r e1 (k _ μ3 H3 (EvE.refl q4.rl) q4.rl rfl)
theorem allBl_chain {o1 o2 : COp} {f f' f'' : SVal} : AllBl (kChain o1 o2 f f' f'') := by
  intro ds M v M' h
  unfold kChain at h
  cases e1 : f ds M with
  | ok d1 M1 =>
    rw [e1, R.bind_ok] at h
    cases e2 : f' ds M1 with
    | ok d2 M2 =>
      rw [e2, R.bind_ok] at h
      cases e3 : oCmp M2 o1 d1.1 d2.1 with
      | none => rw [e3] at h; cases h
      | some c =>
        rw [e3] at h
        cases c with
        | false => cases h; exact ⟨false, rfl⟩
        | true =>
          dsimp only at h
          cases e4 : f'' ds M2 with
          | ok d3 M3 =>
            rw [e4, R.bind_ok] at h
            cases e5 : oCmp M3 o2 d2.1 d3.1 with
            | none => rw [e5] at h; cases h
            | some c => rw [e5] at h; cases h; exact ⟨c, rfl⟩
          | _ => rw [e4] at h; cases h
    | _ => rw [e2] at h; cases h
  | _ => rw [e1] at h; cases h
theorem s_chain (g : XG X m F W G lv) {o1 o2 : COp} {x y z : Expr} {f f' f'' : SVal} {pos : Pos} (ha : PE X x (rE F W relV f)) (hb : PE X y (rE F W relV f')) (hc : PE X z (rE F W relV f'')) (hm : lastMarks [cop o1, cop o2] [y, z] = false) : PE X (.Compare x [cop o1, cop o2] [y, z] pos) (rE F W relV (kChain o1 o2 f f' f'')) :=
  PE.mono (pe_chain (opR_cmp g.hu o1) (opR_cmp g.hu o2) ha hb hc hm) fun σ H Q h => c_chain g h
theorem t_chain (g : XG X m F W G lv) {o1 o2 : COp} {x y z : Expr} {f f' f'' : SVal} {pos : Pos} (ha : PE X x (rE F W relV f)) (hb : PE X y (rE F W relV f')) (hc : PE X z (rE F W relV f'')) (hm : lastMarks [cop o1, cop o2] [y, z] = false) : PT X (.Compare x [cop o1, cop o2] [y, z] pos) (rE F W relEq (asT (kChain o1 o2 f f' f''))) :=
  PT.mono (pt_chain (opR_cmp g.hu o1) (opR_cmp g.hu o2) ha hb hc hm) fun σ H Q h => c_chain g (rE_test allBl_chain h)
theorem s_not {x : Expr} {f : SVal} {pos : Pos} (ha : PE X x (rE F W relV f)) : PE X (.UnaryOp .Not x pos) (rE F W relV (kNot f)) := by
  refine PE.mono (pe_not ha) fun σ H Q ⟨μ, oa, ds, M, q⟩ => ⟨μ, oa, ds, M, (q.bind back_v).imp fun v1 H1 ⟨d1, μ1, M1, ev1, r1, q1⟩ => ?_⟩
  obtain ⟨d1, k1⟩ := d1
  cases d1 with
  | bl i => exact ⟨i, r1.r.bl, q1.2 _ μ1 H1 (EvE.refl q1.1) q1.1 rfl⟩
  | _ => exact q1.2.elim
theorem t_not {x : Expr} {f : List Sl → MS → R Bool} {pos : Pos} (ha : PT X x (rE F W relEq f)) : PT X (.UnaryOp .Not x pos) (rE F W relEq fun ds M => (f ds M).bind fun b M1 => .ok (!b) M1) := by
  refine PT.mono (pt_not ha) fun σ H Q ⟨μ, oa, ds, M, q⟩ => ⟨μ, oa, ds, M, (q.bind (Rel := relEq) back_eq).imp fun v1 H1 ⟨d1, μ1, M1, ev1, r1, q1⟩ => ?_⟩
  have e : d1 = v1 := r1
  subst e
  exact q1.2 _ μ1 H1 (EvE.refl q1.1) q1.1 rfl
theorem s_ife {c x y : Expr} {t : List Sl → MS → R Bool} {f f' : SVal} {pos : Pos} (hc : PT X c (rE F W relEq t)) (ha : PE X x (rE F W relV f)) (hb : PE X y (rE F W relV f')) : PE X (.IfExp c x y pos) (rE F W relV (kIte t f f')) := by
  refine PE.mono (pe_ifExp hc ha hb) fun σ H Q ⟨μ, oa, ds, M, q⟩ => ⟨μ, oa, ds, M, (q.bind (Rel := relEq) back_v).imp fun v1 H1 ⟨d1, μ1, M1, ev1, r1, q1⟩ => ?_⟩
  have e : d1 = v1 := r1
  subst e
  cases d1 with
  | true =>
    rw [if_pos rfl]
    exact ⟨μ1, oa, ds, M1, by simpa using q1⟩
  | false =>
    rw [if_neg Bool.false_ne_true]
    exact ⟨μ1, oa, ds, M1, by simpa using q1⟩
theorem s_and {x y : Expr} {r : List Expr} {f f' : SVal} {pos : Pos} (ha : PE X x (rE F W relV f)) (hb : PE X (.BoolOp .And (y :: r) pos) (rE F W relV f')) : PE X (.BoolOp .And (x :: y :: r) pos) (rE F W relV (kAnd f f')) := by
  refine PE.mono (pe_and ha hb) fun σ H Q ⟨μ, oa, ds, M, q⟩ => ⟨μ, oa, ds, M, (q.bind back_v).imp fun v1 H1 ⟨d1, μ1, M1, ev1, r1, q1⟩ => ?_⟩
  obtain ⟨d1, k1⟩ := d1
  cases d1 with
  | bl i =>
    refine ⟨i, r1.r.bl, ?_⟩
    cases i with
    | true => rw [if_pos rfl]; exact ⟨μ1, oa, ds, M1, q1⟩
    | false => rw [if_neg Bool.false_ne_true]; exact q1.2 _ μ1 H1 (EvE.refl q1.1) q1.1 rfl
  | _ => exact q1.2.elim
theorem s_or {x y : Expr} {r : List Expr} {f f' : SVal} {pos : Pos} (ha : PE X x (rE F W relV f)) (hb : PE X (.BoolOp .Or (y :: r) pos) (rE F W relV f')) : PE X (.BoolOp .Or (x :: y :: r) pos) (rE F W relV (kOr f f')) := by
  refine PE.mono (pe_or ha hb) fun σ H Q ⟨μ, oa, ds, M, q⟩ => ⟨μ, oa, ds, M, (q.bind back_v).imp fun v1 H1 ⟨d1, μ1, M1, ev1, r1, q1⟩ => ?_⟩
  obtain ⟨d1, k1⟩ := d1
  cases d1 with
  | bl i =>
    refine ⟨i, r1.r.bl, ?_⟩
    cases i with
    | false => rw [if_neg Bool.false_ne_true]; exact ⟨μ1, oa, ds, M1, q1⟩
    | true => rw [if_pos rfl]; exact q1.2 _ μ1 H1 (EvE.refl q1.1) q1.1 rfl
  | _ => exact q1.2.elim
theorem t_and {x y : Expr} {r : List Expr} {f f' : List Sl → MS → R Bool} {pos : Pos} (ha : PT X x (rE F W relEq f)) (hb : PW X (.BoolOp .And (y :: r) pos) (rE F W relEq f')) : PW X (.BoolOp .And (x :: y :: r) pos) (rE F W relEq (kAndT f f')) := by
  have h := pw_and ha hb
  refine ⟨fun wh pins s σ H Q I q => h.run wh pins s σ H Q I ?_⟩
  obtain ⟨μ, oa, ds, M, q⟩ := q
  refine ⟨μ, oa, ds, M, (q.bind (Rel := relEq) back_eq).imp fun v1 H1 ⟨d1, μ1, M1, ev1, r1, q1⟩ => ?_⟩
  have e : d1 = v1 := r1
  subst e
  cases d1 with
  | true => rw [if_pos rfl]; exact ⟨μ1, oa, ds, M1, by simpa using q1⟩
  | false => rw [if_neg Bool.false_ne_true]; exact (by simpa using q1 : rK F W relEq (fun ds M => R.ok false M) μ1 oa ds M1 σ H1 Q).2 _ μ1 H1 (EvE.refl q1.1) q1.1 rfl
theorem t_or {x y : Expr} {r : List Expr} {f f' : List Sl → MS → R Bool} {pos : Pos} (ha : PT X x (rE F W relEq f)) (hb : PW X (.BoolOp .Or (y :: r) pos) (rE F W relEq f')) : PW X (.BoolOp .Or (x :: y :: r) pos) (rE F W relEq (kOrT f f')) := by
  have h := pw_or ha hb
  refine ⟨fun wh pins s σ H Q I q => h.run wh pins s σ H Q I ?_⟩
  obtain ⟨μ, oa, ds, M, q⟩ := q
  refine ⟨μ, oa, ds, M, (q.bind (Rel := relEq) back_eq).imp fun v1 H1 ⟨d1, μ1, M1, ev1, r1, q1⟩ => ?_⟩
  have e : d1 = v1 := r1
  subst e
  cases d1 with
  | false => rw [if_neg Bool.false_ne_true]; exact ⟨μ1, oa, ds, M1, by simpa using q1⟩
  | true => rw [if_pos rfl]; exact (by simpa using q1 : rK F W relEq (fun ds M => R.ok true M) μ1 oa ds M1 σ H1 Q).2 _ μ1 H1 (EvE.refl q1.1) q1.1 rfl
theorem plainIx_of {y : Expr} (h : isSl y = false) : PlainIx y := by
  intro o i
  cases y <;> first | rfl | cases h
theorem s_idx (g : XG X m F W G lv) {x y : Expr} {f f' : SVal} {pos : Pos} (ha : PE X x (rE F W relV f)) (hb : PE X y (rE F W relV f')) (hs : isSl y = false) : PE X (.Subscript x y pos) (rE F W relV (kIdx f f')) := by
  have hu := g.hu
  refine PE.mono (pe_ix (ix_any (by omega)) ha hb (plainIx_of hs)) fun σ H Q ⟨μ, oa, ds, M, q⟩ => ⟨μ, oa, ds, M, (q.bind back_v).imp fun v1 H1 ⟨d1, μ1, M1, ev1, r1, q1⟩ => ⟨μ1, oa, ds, M1, (q1.bind back_v).imp fun v2 H2 ⟨d2, μ2, M2, ev2, r2, q2⟩ => ?_⟩⟩
  obtain ⟨v, e, k⟩ := q2.of
  obtain ⟨c, e1, e2⟩ := Option.map_eq_some_iff.mp e
  subst e2
  rw [g.K]
  exact idx_ok q2.rl (r1.r.evo ev2) r2.r e1 k
theorem p_none : PO X none (rE F W relEq (α := Option Int) fun _ M => .ok none M) :=
  PO.mono po_none fun σ H Q ⟨μ, oa, ds, M, q⟩ => q.2 none μ H (EvE.refl q.1) q.1 rfl
theorem p_some {x : Expr} {f : SVal} (ha : PE X x (rE F W relV f)) : PO X (some x) (rE F W relEq (asP f)) := by
  refine PO.mono (po_some ha) fun σ H Q ⟨μ, oa, ds, M, q⟩ => ⟨μ, oa, ds, M, (q.bind (Rel := relV) back_eq).imp fun v1 H1 ⟨d1, μ1, M1, ev1, r1, q1⟩ => ?_⟩
  obtain ⟨d1, k1⟩ := d1
  cases d1 with
  | int i => exact ⟨i, r1.r.int, q1.2 (some i) μ1 H1 (EvE.refl q1.1) q1.1 rfl⟩
  | _ => exact q1.2.elim
theorem s_slc (g : XG X m F W G lv) {x : Expr} {l h : Option Expr} {f : SVal} {fl fh : List Sl → MS → R (Option Int)} {pos p2 : Pos} (ha : PE X x (rE F W relV f)) (hl : PO X l (rE F W relEq fl)) (hh : PO X h (rE F W relEq fh)) :
    PE X (.Subscript x (.Slice l h none p2) pos) (rE F W relV (kSlc f fl fh)) := by
  refine PE.mono (pe_slice sl_any ha hl hh) fun σ H Q ⟨μ, oa, ds, M, q⟩ => ⟨μ, oa, ds, M, (q.bind back_v).imp fun v1 H1 ⟨d1, μ1, M1, ev1, r1, q1⟩ => ⟨μ1, oa, ds, M1, (q1.bind (Rel := relEq) back_v).imp fun v2 H2 ⟨d2, μ2, M2, ev2, r2, q2⟩ => ⟨μ2, oa, ds, M2, (q2.bind (Rel := relEq) back_v).imp fun v3 H3 ⟨d3, μ3, M3, ev3, r3, q3⟩ => ?_⟩⟩⟩
  obtain ⟨v, e, k⟩ := q3.of
  have e2 : d2 = v2 := r2
  have e3 : d3 = v3 := r3
  subst e2 e3
  rw [g.K]
  exact slc_ok q3.rl ((r1.r.evo ev2).evo ev3) e k
theorem a_nil : PA X [] (rE F W relA (fun _ M => .ok [] M)) :=
  PA.mono pa_nil fun σ H Q ⟨μ, oa, ds, M, q⟩ => q.2 [] μ H (EvE.refl q.1) q.1 rfl
theorem a_cons {x : Expr} {r : List Expr} {f : SVal} {f' : List Sl → MS → R (List RV)} (ha : PE X x (rE F W relV f)) (hb : PA X r (rE F W relA f')) (hs : ∀ env, starEach (x :: r) env = (false, eval x env) :: starEach r env) : PA X (x :: r) (rE F W relA (kCons f f')) := by
  refine PA.mono (pa_cons ha hb (hs _)) fun σ H Q ⟨μ, oa, ds, M, q⟩ => ⟨μ, oa, ds, M, (q.bind (Rel := relV) back_a).imp fun v1 H1 ⟨d1, μ1, M1, ev1, r1, q1⟩ => ⟨μ1, oa, ds, M1, (q1.bind (Rel := relA) back_a).imp fun v2 H2 ⟨d2, μ2, M2, ev2, r2, q2⟩ => ?_⟩⟩
  exact q2.2 _ μ2 H2 (EvE.refl q2.1) q2.1 ⟨v1, v2, rfl, r1.r.evo ev2, fun n => (r1.rep n).mono ev2.evo, r2⟩
theorem s_tup {xs : List Expr} {f : List Sl → MS → R (List RV)} {k : Nat} {pos : Pos} (ha : PA X xs (rE F W relA f)) : PE X (.Tuple xs k pos) (rE F W relV (kTup f)) := by
  refine PE.mono (pe_tup ha) fun σ H Q ⟨μ, oa, ds, M, q⟩ => ⟨μ, oa, ds, M, (q.bind (Rel := relA) back_v).imp fun v1 H1 ⟨d1, μ1, M1, ev1, r1, q1⟩ => ?_⟩
  have rl := q1.rl
  by_cases hc : (anyBo d1 || decide (LIM < d1.length)) = true
  · exact (q1.not_stuck (by rw [if_pos hc])).elim
  · have k : Ends1 F μ1 oa ds M1 σ H1 (.tup (d1.map (·.1)), .fz) Q := q1.ok (by rw [if_neg hc])
    rw [Bool.not_eq_true, Bool.or_eq_false_iff, decide_eq_false_iff_not] at hc
    refine ⟨lim_line ?_, fun p hp => k.tup rl hp (r1.repL hc.1)⟩
    rw [← r1.length]; omega
theorem s_lst {xs : List Expr} {f : List Sl → MS → R (List RV)} {pos : Pos} (ha : PA X xs (rE F W relA f)) : PE X (.List xs pos) (rE F W relV (kLst f)) := by
  refine PE.mono (pe_lst ha) fun σ H Q ⟨μ, oa, ds, M, q⟩ => ⟨μ, oa, ds, M, (q.bind (Rel := relA) back_v).imp fun v1 H1 ⟨d1, μ1, M1, ev1, r1, q1⟩ => ?_⟩
  have rl := q1.rl
  by_cases hc : (anyBo d1 || decide (LIM < d1.length)) = true
  · exact (q1.not_stuck (by rw [if_pos hc])).elim
  · have k : Ends1 F μ1 oa ds M1 σ H1 (.lst (d1.map (·.1)), .fr) Q := q1.ok (by rw [if_neg hc])
    rw [Bool.not_eq_true, Bool.or_eq_false_iff, decide_eq_false_iff_not] at hc
    refine ⟨lim_line ?_, fun p hp => k.lst rl hp (r1.repL hc.1)⟩
    rw [← r1.length]; omega
theorem pass_W (g : XG X m F W G lv) (σ : L2.St) : PassesAt (L2.CX X.prog X.w) X σ (fun c od H => W c od σ H) := passAt g.tk σ
theorem plain_any (pos : Pos) (env : Env) : ∀ {xs : List Expr}, (∀ e ∈ xs, ∀ y p, e ≠ .Starred y p) → (backTo pos (starEach xs env)).any (·.1) = false
  | [], _ => rfl
  | x :: xs, h => by
    have e : starEach (x :: xs) env = (false, eval x env) :: starEach xs env := by
      cases x <;> first | rfl | exact absurd rfl (h _ List.mem_cons_self _ _)
    rw [e]
    show (false || (backTo pos (starEach xs env)).any (·.1)) = false
    rw [plain_any pos env fun e he => h e (List.mem_cons_of_mem _ he)]
    rfl
def NoSt (xs : List Expr) : Prop := ∀ e ∈ xs, ∀ y p, e ≠ Expr.Starred y p
theorem noSt_cons {x : Expr} {xs : List Expr} (h : NoSt (x :: xs)) (env : Env) : starEach (x :: xs) env = (false, eval x env) :: starEach xs env := by
  cases x <;> first | rfl | exact absurd rfl (h _ List.mem_cons_self _ _)
theorem NoSt.tail {x : Expr} {xs : List Expr} (h : NoSt (x :: xs)) : NoSt xs := fun e he => h e (List.mem_cons_of_mem _ he)
/-- the end of a call -/
theorem call_end (g : XG X m F W G lv) {f : Nat} {n : Nat} {fd : FuncData} {a : Addr} {ps : List Str} {pins : List (Addr × Obj)} {σ : L2.St} {H : Hp} {s : Shared} {Q : VK} {us us' : List Value} {kw : List (Str × Value)} {vs : List V} {as : List D} {μ : List Addr} {oa : Nat → Option Addr} {ds : List Sl} {M : MS}
    (hn : ∀ ds M, ds.length ≠ n → G f ds M = .stuck) (hps : ps.length = n) (FO : FnOk X.prog X.w X.K X.mg X.base (L2.CX X.prog X.w) lv a fd ps (SpD X.K F.xa F.xf n (G f))) (I : Inv X pins σ H s)
    (hb : us'.length = ps.length → BindsTo s fd ⟨us, kw⟩ (ps.zip us')) (r : Vals vs us') (hr : RepL (F.pl μ oa H) as vs) (q : rK F W relV (fun _ M => G f as M) μ oa ds M σ H Q) :
    wpAny (model X.prog X.w) X.A (call (.ref a) us kw) (EP X pins σ Q) X.xe s := by
  have hl : as.length = n := by
    apply Classical.byContradiction
    intro h
    exact q.not_stuck (hn as M h)
  have hv : vs.length = n := by rw [← hr.length]; exact hl
  exact run_G FO g.room (pass_W g σ) I (hb (by rw [← r.length, hv, hps])) r (sp_of g.K.symm hv hr q)
theorem s_call (g : XG X m F W G lv) {f : Nat} {x1 : Expr} {xs : List Expr} {x : Str} {p pos : Pos} {fa : List Sl → MS → R (List RV)} (hx : x = m.fn f) (hg : glB m.sc x = true) (hf : f ∈ m.fs) (hp : posB m f = true) (ha : PA X (x1 :: xs) (rE F W relA fa)) (ns : NoSt (x1 :: xs)) :
    PE X (.Call (.Name x p) (x1 :: xs) [] pos) (rE F W relV (kCall (G f) fa)) := by
  obtain ⟨n, hn, ⟨a, fd, ps, hps, FO, hm, hk, hb⟩⟩ := g.fs f hf
  obtain ⟨g1, g2, g3⟩ := g.gl hg
  subst hx
  refine ⟨fun pins s σ H Q I ⟨μ, oa, ds, M, q⟩ => ?_⟩
  refine wpAny_Call_Name_kw (ld_glob I g1 hm ?_ g2)
  refine PySem.W.callWith_K (h₀ := X.base) I.ok.mod.kin hk (thn (ha.run pos pins s σ H _ I ⟨μ, oa, ds, M, q.bind (Rel := relA) back_v⟩) fun us s1 ⟨vs, H1, I1, r, d1, μ1, M1, ev1, r1, q1⟩ => ⟨I1.kIn, ?_⟩) (noSt_cons ns _) (plain_any pos X.env ns.tail)
  have hc : anyBo d1 = false := by
    cases h : anyBo d1 with
    | false => rfl
    | true => exact (q1.not_stuck (by rw [h]; rfl)).elim
  have q2 : rK F W relV (fun _ M => G f (d1.map (·.1)) M) μ1 oa ds M1 σ H1 Q := by
    refine ⟨q1.1, ?_⟩
    have := q1.2
    rw [hc] at this
    exact this
  unfold posB at hp
  cases hbk : m.bk f with
  | kw k d => rw [hbk] at hp; cases hp
  | pos =>
    rw [hbk] at hb
    exact call_end g hn hps FO I1 (fun h => hb s1 us h) r (r1.repL hc) q2
theorem s_call0 (g : XG X m F W G lv) {f : Nat} {x : Str} {p pos : Pos} {fa : List Sl → MS → R (List RV)} (hx : x = m.fn f) (hg : glB m.sc x = true) (hf : f ∈ m.fs) (hp : posB m f = true) (hfa : ∀ ds M, fa ds M = .ok [] M) :
    PE X (.Call (.Name x p) [] [] pos) (rE F W relV (kCall (G f) fa)) := by
  obtain ⟨n, hn, ⟨a, fd, ps, hps, FO, hm, hk, hb⟩⟩ := g.fs f hf
  obtain ⟨g1, g2, g3⟩ := g.gl hg
  subst hx
  refine ⟨fun pins s σ H Q I ⟨μ, oa, ds, M, q⟩ => ?_⟩
  refine wpAny_Call_Name_kw (ld_glob I g1 hm ?_ g2)
  refine PySem.W.callWith_K0 I.kIn hk ?_
  have q2 : rK F W relV (fun _ M => G f [] M) μ oa ds M σ H Q := by
    refine ⟨q.1, ?_⟩
    have := q.2
    unfold kCall at this
    rw [hfa] at this
    exact this
  unfold posB at hp
  cases hbk : m.bk f with
  | kw k d => rw [hbk] at hp; cases hp
  | pos =>
    rw [hbk] at hb
    exact call_end (us := []) (us' := []) (vs := []) g hn hps FO I (fun h => hb s [] h) .nil (show RepL _ [] [] from rfl) q2
theorem s_callD (g : XG X m F W G lv) {f : Nat} {x1 : Expr} {xs : List Expr} {x : Str} {d : D} {p pos : Pos} {fa : List Sl → MS → R (List RV)} (hx : x = m.fn f) (hg : glB m.sc x = true) (hf : f ∈ m.fs) (hp : dfB m f d = true) (ha : PA X (x1 :: xs) (rE F W relA fa)) (ns : NoSt (x1 :: xs)) :
    PE X (.Call (.Name x p) (x1 :: xs) [] pos) (rE F W relV (kCallD (G f) fa d)) := by
  obtain ⟨n, hn, ⟨a, fd, ps, hps, FO, hm, hk, hb⟩⟩ := g.fs f hf
  obtain ⟨g1, g2, g3⟩ := g.gl hg
  subst hx
  refine ⟨fun pins s σ H Q I ⟨μ, oa, ds, M, q⟩ => ?_⟩
  refine wpAny_Call_Name_kw (ld_glob I g1 hm ?_ g2)
  refine PySem.W.callWith_K (h₀ := X.base) I.ok.mod.kin hk (thn (ha.run pos pins s σ H _ I ⟨μ, oa, ds, M, q.bind (Rel := relA) back_v⟩) fun us s1 ⟨vs, H1, I1, r, d1, μ1, M1, ev1, r1, q1⟩ => ⟨I1.kIn, ?_⟩) (noSt_cons ns _) (plain_any pos X.env ns.tail)
  have hc : anyBo d1 = false := by
    cases h : anyBo d1 with
    | false => rfl
    | true => exact (q1.not_stuck (by rw [h]; rfl)).elim
  have q2 : rK F W relV (fun _ M => G f (d1.map (·.1) ++ [d]) M) μ1 oa ds M1 σ H1 Q := by
    refine ⟨q1.1, ?_⟩
    have := q1.2
    rw [hc] at this
    exact this
  unfold dfB at hp
  cases hbk : m.bk f with
  | pos => rw [hbk] at hp; cases hp
  | kw k d' =>
    rw [hbk] at hp hb
    obtain ⟨⟨v, dv, e1, e2, hb⟩, _⟩ := hb
    have ed : d' = d := by
      cases d' <;> cases d <;> simp at hp
      rw [hp]
    subst ed
    refine call_end g hn hps FO I1 (us' := us ++ [dv]) (vs := vs ++ [v]) (fun h => hb s1 us I1.kIn (by rw [List.length_append] at h; exact h)) (r.append (.cons e2 .nil)) ((r1.repL hc).append (show RepL _ [d'] [v] from ⟨v, [], rfl, dV_rep e1, rfl⟩)) q2
theorem s_callK (g : XG X m F W G lv) {f : Nat} {x1 e : Expr} {xs : List Expr} {x k : Str} {p pos kp : Pos} {fa : List Sl → MS → R (List RV)} {fe : SVal} (hx : x = m.fn f) (hg : glB m.sc x = true) (hf : f ∈ m.fs) (hp : bkB m f k = true) (ha : PA X (x1 :: xs) (rE F W relA fa)) (ns : NoSt (x1 :: xs)) (he : PE X e (rE F W relV fe)) :
    PE X (.Call (.Name x p) (x1 :: xs) [⟨some k, e, kp⟩] pos) (rE F W relV (kCallK (G f) fa fe)) := by
  obtain ⟨n, hn, ⟨a, fd, ps, hps, FO, hm, hk, hb⟩⟩ := g.fs f hf
  obtain ⟨g1, g2, g3⟩ := g.gl hg
  subst hx
  refine ⟨fun pins s σ H Q I ⟨μ, oa, ds, M, q⟩ => ?_⟩
  refine wpAny_Call_Name_kw (ld_glob I g1 hm ?_ g2)
  have hpl : ((backTo pos (starEach (x1 :: xs) X.env)).any (·.1) || (backToKw pos (keywordEach [⟨some k, e, kp⟩] X.env)).any (·.1.isNone)) = false := by
    rw [plain_any pos X.env ns]; rfl
  have hPK : PK X [⟨some k, e, kp⟩] (tCons (rE F W relV fe) tNil) := pk_cons he pk_nil
  refine PySem.W.callWith_KW (h₀ := X.base) I.ok.mod.kin hk rfl (thn (ha.run pos pins s σ H _ I ⟨μ, oa, ds, M, q.bind (Rel := relA) back_v⟩) fun us s1 ⟨vs, H1, I1, r, d1, μ1, M1, ev1, r1, q1⟩ => ?_) hpl (noSt_cons ns _)
  refine thn (hPK.run pos pins s1 σ H1 (fun zs H2 => ∃ z, zs = [z] ∧ ∃ d2 μ2 M2, EvE μ1 H1 μ2 H2 ∧ relV (F.pl μ2 oa H2) H1 M2 d2 z ∧ rK F W relV (fun _ M2 => if anyBo d1 || d2.2 == .bo then .stuck else G f (d1.map (·.1) ++ [d2.1]) M2) μ2 oa ds M2 σ H2 Q) I1 ?_) fun ws s2 ⟨zs, H2, I2, rz, z, ez, d2, μ2, M2, ev2, r2, q2⟩ => ⟨I2.kIn, ?_⟩
  · exact ⟨μ1, oa, ds, M1, (q1.bind (Rel := relV) back_v).imp fun z H2 h => ⟨z, rfl, h⟩⟩
  subst ez
  have hc : (anyBo d1 || d2.2 == .bo) = false := by
    cases h : (anyBo d1 || d2.2 == .bo) with
    | false => rfl
    | true => exact (q2.not_stuck (by rw [h]; rfl)).elim
  have q3 : rK F W relV (fun _ M => G f (d1.map (·.1) ++ [d2.1]) M) μ2 oa ds M2 σ H2 Q := by
    refine ⟨q2.1, ?_⟩
    have := q2.2
    rw [hc] at this
    exact this
  rw [Bool.or_eq_false_iff] at hc
  obtain ⟨w, ew, rw1⟩ := vals1 rz
  subst ew
  · unfold bkB at hp
    cases hbk : m.bk f with
    | pos => rw [hbk] at hp; cases hp
    | kw k' d' =>
      rw [hbk] at hp hb
      have ek : k = k' := by simpa using hp
      subst ek
      obtain ⟨_, hb⟩ := hb
      exact call_end g hn hps FO I2 (us' := us ++ [w]) (vs := vs ++ [z]) (fun h => hb s2 us w I2.kIn (by rw [List.length_append] at h; exact h)) (r.append (.cons rw1 .nil)) ((RepL.mono ev2.evo _ _ (r1.repL hc.1)).append (show RepL _ [d2.1] [z] from ⟨z, [], rfl, r2.rep (by simpa using hc.2), rfl⟩)) q3
end
end PL
end
section
set_option linter.all false
set_option maxRecDepth 100000
set_option maxHeartbeats 1000000
set_option autoImplicit false
namespace PL
open PySem PySem.Spec PyProof.Rows L2

/-- xs is walked by J while Gd holds; ad: the one changeable place that it leans on -/
structure WalkD (F : Fr0) (st : Bool) (J : It) (xs : List D) (Gd : Pl → Prop) (ad : Addr → Prop) : Prop where
  go : ∀ (p : Pl) (i : Nat), Gd p → i < xs.length → J.go i p.H
  stop : ∀ (p : Pl), Gd p → J.stop xs.length p.H
  yld : ∀ (μ : List Addr) (oa : Nat → Option Addr) (ds : List Sl) (M : MS) (σ : L2.St) (H : Hp) (i : Nat) (d : D) (x : V) (H' : Hp), Rl F μ oa ds M σ H → Gd (F.pl μ oa H) → xs[i]? = some d → J.yld i H x H' →
    EvE μ H μ H' ∧ Rl F μ oa ds M σ H' ∧ Rep (F.pl μ oa H') d x
  /-- what it leans on is there -/
  adH : ∀ (p : Pl) (a : Addr), Gd p → ad a → (∃ o, p.H a = some o) ∧ a ∉ p.μ
  /-- kept as long as data and those places are -/
  gen : ∀ (p q : Pl), Gd p → Evo p q → (∀ a, ad a → q.H a = p.H a ∧ a ∉ q.μ) → Gd q
  sv : st = true → ∀ a, ¬ ad a
theorem WalkD.ev {F : Fr0} {st : Bool} {J : It} {xs : List D} {Gd : Pl → Prop} {ad : Addr → Prop} (w : WalkD F st J xs Gd ad) {μ μ' : List Addr} {oa : Nat → Option Addr} {H H' : Hp} (g : Gd (F.pl μ oa H)) (e : EvE μ H μ' H') : Gd (F.pl μ' oa H') := by
  refine w.gen _ _ g e.evo fun a ha => ?_
  obtain ⟨⟨o, h1⟩, h2⟩ := w.adH _ a g ha
  have h1 : H a = some o := h1
  refine ⟨(e.keep a o h1 h2).trans h1.symm, fun hm => ?_⟩
  obtain ⟨t, e1, f1⟩ := e.pre
  have hm : a ∈ μ' := hm
  rw [e1] at hm
  rcases List.mem_append.mp hm with hm | hm
  · exact h2 hm
  · rw [f1 a hm] at h1; cases h1
def relI (F : Fr0) (st : Bool) : RelT (List D) It := fun p _ _ xs J => ∃ Gd ad, WalkD F st J xs Gd ad ∧ Gd p
theorem back_i {F : Fr0} {st : Bool} : Back (relI F st) := fun _ _ _ _ _ _ _ _ _ h => h
section
variable {F : Fr0} {st : Bool}
theorem walkD_list {a : Addr} {xs : List D} {vs : List V} : WalkD F st (Itl F.K a) xs (fun p => (p.H a = some (.lst vs) ∧ RepL p xs vs) ∧ if st then ¬ p.N a else a ∉ p.μ) (fun b => st = false ∧ b = a) where
  go := fun p i g hi => by
    obtain ⟨v, h1, _⟩ := g.1.2.get (show xs[i]? = some xs[i] by simp [hi])
    exact ⟨vs, v, .of g.1.1, h1⟩
  stop := fun p g => ⟨vs, .of g.1.1, by rw [g.1.2.length]; exact Nat.le_refl _⟩
  yld := fun μ oa ds M σ H i d x H' r g hx y => by
    obtain ⟨e, y⟩ := y
    subst e
    obtain ⟨v, h1, h2⟩ := g.1.2.get hx
    have : vs[i]? = some x := y vs (.of g.1.1)
    rw [h1] at this
    cases this
    exact ⟨EvE.refl r, r, h2⟩
  adH := fun p b g h => by
    obtain ⟨rfl, rfl⟩ := h
    exact ⟨⟨_, g.1.1⟩, by simpa using g.2⟩
  gen := fun p q g e k => by
    cases st with
    | true =>
      have g2 : ¬ p.N a := by simpa using g.2
      exact ⟨⟨(e.keep a _ g.1.1 g2).1, g.1.2.mono e⟩, by simpa using (e.keep a _ g.1.1 g2).2⟩
    | false =>
      obtain ⟨k1, k2⟩ := k a ⟨rfl, rfl⟩
      exact ⟨⟨k1.trans g.1.1, g.1.2.mono e⟩, by simpa using k2⟩
  sv := fun h a q => by rw [h] at q; cases q.1
theorem walkD_tup {a : Addr} {xs : List D} {vs : List V} : WalkD F st (Itt F.K a) xs (fun p => (p.H a = some (.tup vs) ∧ RepL p xs vs) ∧ ¬ p.N a) (fun _ => False) where
  go := fun p i g hi => by
    obtain ⟨v, h1, _⟩ := g.1.2.get (show xs[i]? = some xs[i] by simp [hi])
    exact ⟨vs, v, .of g.1.1, h1⟩
  stop := fun p g => ⟨vs, .of g.1.1, by rw [g.1.2.length]; exact Nat.le_refl _⟩
  yld := fun μ oa ds M σ H i d x H' r g hx y => by
    obtain ⟨e, y⟩ := y
    subst e
    obtain ⟨v, h1, h2⟩ := g.1.2.get hx
    have : vs[i]? = some x := y vs (.of g.1.1)
    rw [h1] at this
    cases this
    exact ⟨EvE.refl r, r, h2⟩
  adH := fun p b g h => h.elim
  gen := fun p q g e k => ⟨⟨(e.keep a _ g.1.1 g.2).1, g.1.2.mono e⟩, (e.keep a _ g.1.1 g.2).2⟩
  sv := fun h a q => q
theorem walkD_range {lo hi : Int} : WalkD F st (Itr lo (hi - lo).toNat) (rngL lo hi) (fun p => True) (fun _ => False) where
  go := fun p i g h => by
    unfold rngL at h
    rw [List.length_map, List.length_range] at h
    exact h
  stop := fun p g => by unfold rngL; rw [List.length_map, List.length_range]; exact Nat.le_refl _
  yld := fun μ oa ds M σ H i d x H' r g hx y => by
    obtain ⟨e, y⟩ := y
    subst e
    refine ⟨EvE.refl r, r, ?_⟩
    unfold rngL at hx
    rw [List.getElem?_map] at hx
    obtain ⟨j, h1, h2⟩ := Option.map_eq_some_iff.mp hx
    obtain ⟨h3, h4⟩ := List.getElem?_eq_some_iff.mp h1
    rw [List.getElem_range] at h4
    rw [← h2, ← h4]
    exact y
  adH := fun p b g h => h.elim
  gen := fun p q g e k => trivial
  sv := fun h a q => q
theorem walkD_str {z : Str} : WalkD F st (Its z) (z.cps.toList.map fun c => D.str ⟨#[c]⟩) (fun p => True) (fun _ => False) where
  go := fun p i g h => by
    rw [List.length_map, Array.length_toList] at h
    exact h
  stop := fun p g => by rw [List.length_map, Array.length_toList]; exact Nat.le_refl _
  yld := fun μ oa ds M σ H i d x H' r g hx y => by
    obtain ⟨e, c, h1, h2⟩ := y
    subst e
    refine ⟨EvE.refl r, r, ?_⟩
    rw [List.getElem?_map, Array.getElem?_toList, h1] at hx
    cases hx
    exact h2
  adH := fun p b g h => h.elim
  gen := fun p q g e k => trivial
  sv := fun h a q => q
end
section
variable {X : Cx} {m : MC} {F : Fr0} {W : WX} {G : Nat → Fn} {lv : Nat} {tg : Expr}
theorem it_list {pins : List (Addr × Obj)} {σ : L2.St} {H : Hp} {s : Shared} {R : It → Hp → Prop} {a : Addr} {xs : List V} (I : Inv X pins σ H s) (hq : SqL X.K H a xs) (q : R (Itl X.K a) H) : wpAny (model X.prog X.w) X.A (pyIter (.ref a)) (PIE X pins σ tg R) X.xe s := by
  obtain ⟨its, rv, p, hz⟩ := I.list hq
  refine wpAny_pyIter_list p.isList ⟨s.heap.objs.size, [s.heap.objs.size], _, _, H, rfl, I.kept (t' := s.toks) fun b o e => Heap.get?_push_of_some _ e, turn_list a _, ⟨_, Heap.get?_push_size _ rfl, rfl, rfl⟩, fun b hb => ?_, q⟩
  obtain rfl : b = s.heap.objs.size := by simpa using hb
  exact I.fpOk (Nat.le_refl _) (I.hok.fresh (Nat.le_refl _))
theorem it_tup {pins : List (Addr × Obj)} {σ : L2.St} {H : Hp} {s : Shared} {R : It → Hp → Prop} {a : Addr} {xs : List V} (I : Inv X pins σ H s) (hq : SqT X.K H a xs) (q : R (Itt X.K a) H) : wpAny (model X.prog X.w) X.A (pyIter (.ref a)) (PIE X pins σ tg R) X.xe s := by
  obtain ⟨its, rv, p, hz⟩ := I.tuple hq
  refine wpAny_pyIter_tuple (show s.heap.IsTuple a its.toArray from p) ⟨s.heap.objs.size, [s.heap.objs.size], _, _, H, rfl, I.kept (t' := s.toks) fun b o e => Heap.get?_push_of_some _ e, turn_tuple a _, ⟨_, Heap.get?_push_size _ rfl, rfl, rfl⟩, fun b hb => ?_, q⟩
  obtain rfl : b = s.heap.objs.size := by simpa using hb
  exact I.fpOk (Nat.le_refl _) (I.hok.fresh (Nat.le_refl _))
end
end PL
end
section
set_option linter.all false
set_option maxRecDepth 100000
set_option maxHeartbeats 2000000
set_option autoImplicit false
namespace PL
open PySem PySem.Spec PyProof.Rows L2
section
variable {X : Cx} {m : MC} {F : Fr0} {W : WX} {G : Nat → Fn} {lv : Nat} {tg : Expr} {st : Bool}
theorem it_str {pins : List (Addr × Obj)} {σ : L2.St} {H : Hp} {s : Shared} {R : It → Hp → Prop} {x : Str} {t : Tok} (I : Inv X pins σ H s) (q : R (Its x) H) : wpAny (model X.prog X.w) X.A (pyIter (.str x t)) (PIE X pins σ tg R) X.xe s := by
  cases ha : x.cps.all (· < 128)
  · exact wpAny_pyIter_wide ha (pi_one (tk := s.toks) I _ (turn_str _ x t "str_iterator" (.inr rfl)) ⟨_, Heap.get?_push_size _ rfl, rfl, rfl⟩ q)
  · exact wpAny_pyIter_ascii ha (pi_one (tk := s.toks) I _ (turn_str _ x t "str_ascii_iterator" (.inl rfl)) ⟨_, Heap.get?_push_size _ rfl, rfl, rfl⟩ q)
/-- the source's reading: for the kinds that a for may walk (st), and for a comprehension's -/
def kItS (st : Bool) (ik : IK) (f : List Sl → MS → R (List RV)) : List Sl → MS → R (List D) := if st then kIterF ik f else kIter ik f
def argN : List Sl → MS → R (List RV) := fun _ M => .ok [] M
theorem kItS_one (ik : IK) (f : SVal) : kItS st ik (kCons f argN) = fun ds M => (f ds M).bind fun x M1 => if st && anyBo [x] then .stuck else R.of (oIter ik [x]) M1 := by
  funext ds M
  unfold kItS kIterF kIter kCons argN
  cases st
  · simp only [Bool.false_eq_true, if_false, Bool.false_and]
    cases f ds M <;> rfl
  · simp only [if_true, Bool.true_and]
    cases f ds M <;> rfl
theorem kItS_two (ik : IK) (f f' : SVal) : kItS st ik (kCons f (kCons f' argN)) = fun ds M => (f ds M).bind fun x M1 => (f' ds M1).bind fun y M2 => if st && anyBo [x, y] then .stuck else R.of (oIter ik [x, y]) M2 := by
  funext ds M
  unfold kItS kIterF kIter kCons argN
  cases st
  · simp only [Bool.false_eq_true, if_false, Bool.false_and]
    cases f ds M with
    | ok x M1 => simp only [R.bind_ok]; cases f' ds M1 <;> rfl
    | _ => rfl
  · simp only [if_true, Bool.true_and]
    cases f ds M with
    | ok x M1 => simp only [R.bind_ok]; cases f' ds M1 <;> rfl
    | _ => rfl
theorem i_seq (g : XG X m F W G lv) {e : Expr} {f : SVal} (ha : PE X e (rE F W relV f)) : PI X tg e (rE F W (relI F st) (kItS st .seq (kCons f argN))) := by
  rw [kItS_one]
  refine ⟨fun pins s σ H Rr I ⟨μ, oa, ds, M, q⟩ => ?_⟩
  refine thn (ha.run pins s σ H _ I ⟨μ, oa, ds, M, q.bind (Rel := relV) back_i⟩) fun v s1 ⟨x, H1, I1, r, d1, μ1, M1, ev1, r1, q1⟩ => ?_
  have hc : (st && anyBo [d1]) = false := by
    cases h : (st && anyBo [d1]) with
    | false => rfl
    | true => exact (q1.not_stuck (by rw [h]; rfl)).elim
  have rl := q1.rl
  have q2 : rK F W (relI F st) (fun _ M => R.of (oIter .seq [d1]) M) μ1 oa ds M1 σ H1 Rr := by
    refine ⟨rl, ?_⟩
    have := q1.2
    rw [hc] at this
    exact this
  obtain ⟨xs, e1, k⟩ := q2.of
  obtain ⟨d, kd⟩ := d1
  cases d with
  | lst ys =>
    cases e1
    obtain ⟨a, vs, rfl, h2, h3⟩ := r1.r.lst
    cases r
    refine it_list I1 (.of h2) ?_
    have hk := k (Itl F.K a) μ1 H1 (EvE.refl rl) rl ⟨_, _, walkD_list (a := a) (vs := vs), ⟨h2, h3⟩, ?_⟩
    · rw [g.K]; exact hk
    · cases st with
      | true =>
        have : kd ≠ .bo := by
          intro e
          subst e
          simp [anyBo] at hc
        obtain ⟨a', vs', e2, h4, _⟩ := r1.rep this
        cases e2
        simpa using h4
      | false =>
        show a ∉ μ1
        rcases r1.r with ⟨a', vs', e2, h4, _⟩ | ⟨a', e2, h4, _⟩
        · cases e2
          exact fun hm => h4 (.inr (.inl hm))
        · cases e2
          exact h4
  | tup ys =>
    cases e1
    obtain ⟨a, vs, rfl, h1, h2, h3⟩ := r1.r.tup
    cases r
    refine it_tup I1 (.of h2) ?_
    have hk := k (Itt F.K a) μ1 H1 (EvE.refl rl) rl ⟨_, _, walkD_tup (a := a) (vs := vs), ⟨h2, h3⟩, h1⟩
    rw [g.K]; exact hk
  | str z =>
    cases e1
    have := r1.r.str
    subst this
    obtain ⟨t, rfl⟩ := r
    exact it_str I1 (k (Its z) μ1 H1 (EvE.refl rl) rl ⟨_, _, walkD_str, trivial⟩)
  | _ => cases e1
theorem boot_rg : bootBuiltins "range" = some (.type "range") := boot_range
theorem inB_of {i : Int} (h : inB i = true) : -(2 ^ 62) ≤ i ∧ i < 2 ^ 62 := by
  unfold inB at h
  simp only [Bool.and_eq_true, decide_eq_true_eq] at h
  omega
theorem i_rng1 (g : XG X m F W G lv) {e : Expr} {f : SVal} {x : Str} {p pos : Pos} (hx : x = ("range" : Str)) (hg : glB m.sc x = true) (ns : NoSt [e]) (ha : PE X e (rE F W relV f)) : PI X tg (.Call (.Name x p) [e] [] pos) (rE F W (relI F st) (kItS st .rng1 (kCons f argN))) := by
  obtain ⟨g1, g2, g3⟩ := g.gl hg
  subst hx
  have hP : PA X [e] (tCons (rE F W relV f) tNil) := pa_cons ha pa_nil (noSt_cons ns _)
  have h := pi_range1 (tg := tg) (p := p) (pos := pos) g1 (g.blt "range" (by decide)) hP (noSt_cons ns _)
  rw [kItS_one]
  refine ⟨fun pins s σ H Rr I ⟨μ, oa, ds, M, q⟩ => h.run pins s σ H Rr I ⟨μ, oa, ds, M, (q.bind (Rel := relV) back_i).imp fun v H1 ⟨d1, μ1, M1, ev1, r1, q1⟩ => ?_⟩⟩
  have hc : (st && anyBo [d1]) = false := by
    cases h : (st && anyBo [d1]) with
    | false => rfl
    | true => exact (q1.not_stuck (by rw [h]; rfl)).elim
  have rl := q1.rl
  have q2 : rK F W (relI F st) (fun _ M => R.of (oIter .rng1 [d1]) M) μ1 oa ds M1 σ H1 Rr := by
    refine ⟨rl, ?_⟩
    have := q1.2
    rw [hc] at this
    exact this
  obtain ⟨xs, e1, k⟩ := q2.of
  obtain ⟨d, kd⟩ := d1
  cases d with
  | int i =>
    simp only [oIter] at e1
    split at e1
    · cases e1
      rename_i hb
      obtain ⟨b1, b2⟩ := inB_of hb
      have hk := k (Itr 0 (i - 0).toNat) μ1 H1 (EvE.refl rl) rl ⟨_, _, walkD_range, trivial⟩
      rw [Int.sub_zero] at hk
      exact ⟨i, by rw [r1.r.int], b1, b2, hk⟩
    · cases e1
  | _ => cases e1
theorem i_rng2 (g : XG X m F W G lv) {e e2 : Expr} {f f2 : SVal} {x : Str} {p pos : Pos} (hx : x = ("range" : Str)) (hg : glB m.sc x = true) (ns : NoSt [e, e2]) (ha : PE X e (rE F W relV f)) (hb : PE X e2 (rE F W relV f2)) :
    PI X tg (.Call (.Name x p) [e, e2] [] pos) (rE F W (relI F st) (kItS st .rng2 (kCons f (kCons f2 argN)))) := by
  obtain ⟨g1, g2, g3⟩ := g.gl hg
  subst hx
  have hP : PA X [e, e2] (tCons (rE F W relV f) (tCons (rE F W relV f2) tNil)) := pa_cons ha (pa_cons hb pa_nil (noSt_cons ns.tail _)) (noSt_cons ns _)
  have h := pi_range2 (tg := tg) (p := p) (pos := pos) g1 (g.blt "range" (by decide)) hP (by rw [noSt_cons ns, noSt_cons ns.tail]; rfl) (noSt_cons ns.tail _)
  rw [kItS_two]
  refine ⟨fun pins s σ H Rr I ⟨μ, oa, ds, M, q⟩ => h.run pins s σ H Rr I ⟨μ, oa, ds, M, (q.bind (Rel := relV) back_i).imp fun v H1 ⟨d1, μ1, M1, ev1, r1, q1⟩ => ⟨μ1, oa, ds, M1, (q1.bind (Rel := relV) back_i).imp fun v2 H2 ⟨d2, μ2, M2, ev2, r2, q2⟩ => ?_⟩⟩⟩
  have hc : (st && anyBo [d1, d2]) = false := by
    cases h : (st && anyBo [d1, d2]) with
    | false => rfl
    | true => exact (q2.not_stuck (by rw [h]; rfl)).elim
  have rl := q2.rl
  have q3 : rK F W (relI F st) (fun _ M => R.of (oIter .rng2 [d1, d2]) M) μ2 oa ds M2 σ H2 Rr := by
    refine ⟨rl, ?_⟩
    have := q2.2
    rw [hc] at this
    exact this
  obtain ⟨xs, e1, k⟩ := q3.of
  obtain ⟨d, kd⟩ := d1
  obtain ⟨d', kd'⟩ := d2
  cases d with
  | int i =>
    cases d' with
    | int j =>
      simp only [oIter] at e1
      split at e1
      · cases e1
        rename_i hb
        rw [Bool.and_eq_true] at hb
        obtain ⟨b1, b2⟩ := inB_of hb.1
        obtain ⟨b3, b4⟩ := inB_of hb.2
        exact ⟨i, j, by rw [(r1.r.evo ev2).int, r2.r.int], ⟨b1, b2, b3, b4⟩, k (Itr i (j - i).toNat) μ2 H2 (EvE.refl rl) rl ⟨_, _, walkD_range, trivial⟩⟩
      · cases e1
    | _ => cases e1
  | _ => cases e1

def rG (F : Fr0) (t : TGt) : TG := fun x σ H Q => ∃ μ oa ds M d ds1, Rl F μ oa ds M σ H ∧ Rep (F.pl μ oa H) d x ∧ bindT t d ds = some ds1 ∧ ∀ σ1, Rl F μ oa ds1 M σ1 H → (∀ own, TGt.sub t own = true → wipe σ1 own = wipe σ own) → Q σ1 H
def rGs (F : Fr0) (t : TGt) : TGs := fun xs σ H Q => ∃ μ oa ds M l ds1, Rl F μ oa ds M σ H ∧ RepL (F.pl μ oa H) l xs ∧ bindTs t l ds = some ds1 ∧ ∀ σ1, Rl F μ oa ds1 M σ1 H → (∀ own, TGt.sub t own = true → wipe σ1 own = wipe σ own) → Q σ1 H
theorem Rl.setFz {μ : List Addr} {oa : Nat → Option Addr} {ds : List Sl} {M : MS} {σ : L2.St} {H : Hp} {i : Nat} {d : D} {v : V} (r : Rl F μ oa ds M σ H) (h : Rep (F.pl μ oa H) d v) : Rl F μ oa (ds.set i (.fz d)) M (σ.set i (some v)) H := by
  refine ⟨by rw [List.length_set, List.length_set]; exact r.len, fun j e q => ?_, fun j e q => ?_, r.inj, r.ofr, r.mr, r.dom, r.keep, r.pre, r.fin⟩
  · rw [List.getElem?_set] at q
    split at q
    · rename_i hij
      subst hij
      split at q
      · cases q
        rename_i hl
        exact ⟨v, by rw [List.getElem?_set_self (by rw [r.len]; exact hl)], h⟩
      · cases q
    · rename_i hij
      obtain ⟨w, h1, h2⟩ := r.fz j e q
      exact ⟨w, by rw [List.getElem?_set_ne hij]; exact h1, h2⟩
  · rw [List.getElem?_set] at q
    split at q
    · split at q <;> cases q
    · rename_i hij
      obtain ⟨a, h1, h2, h3⟩ := r.ow j e q
      exact ⟨a, h1, by rw [List.getElem?_set_ne hij]; exact h2, h3⟩
theorem wipe_get (σ : L2.St) : ∀ (vs : List Nat) (j : Nat), (wipe σ vs)[j]? = if j ∈ vs ∧ j < σ.length then some none else σ[j]?
  | [], j => by rw [if_neg (by simp)]; rfl
  | v :: vs, j => by
    show ((wipe σ vs).set v none)[j]? = _
    rw [List.getElem?_set]
    by_cases h : v = j
    · subst h
      rw [if_pos rfl, wipe_length]
      by_cases hl : v < σ.length
      · rw [if_pos hl, if_pos ⟨List.mem_cons_self, hl⟩]
      · rw [if_neg hl, if_neg (fun q => hl q.2)]
        exact (List.getElem?_eq_none (by omega)).symm
    · rw [if_neg h, wipe_get σ vs j]
      by_cases hj : j ∈ vs ∧ j < σ.length
      · rw [if_pos hj, if_pos ⟨List.mem_cons_of_mem _ hj.1, hj.2⟩]
      · rw [if_neg hj, if_neg (fun q => hj ⟨(List.mem_cons.mp q.1).resolve_left (fun e => h e.symm), q.2⟩)]
theorem wipe_set {σ : L2.St} {vs : List Nat} {i : Nat} {v : Option V} (h : i ∈ vs) : wipe (σ.set i v) vs = wipe σ vs := by
  apply List.ext_getElem?
  intro j
  rw [wipe_get, wipe_get, List.length_set]
  by_cases hj : j ∈ vs ∧ j < σ.length
  · rw [if_pos hj, if_pos hj]
  · rw [if_neg hj, if_neg hj]
    by_cases e : i = j
    · subst e
      have : ¬ i < σ.length := fun q => hj ⟨h, q⟩
      rw [List.getElem?_eq_none (by rw [List.length_set]; omega), List.getElem?_eq_none (by omega)]
    · rw [List.getElem?_set_ne e]
theorem wipe_wipe {σ : L2.St} {vs : List Nat} : wipe (wipe σ vs) vs = wipe σ vs := by
  apply List.ext_getElem?
  intro j
  rw [wipe_get, wipe_length]
  by_cases hj : j ∈ vs ∧ j < σ.length
  · rw [if_pos hj, wipe_get, if_pos hj]
  · rw [if_neg hj]
theorem wipeD_get (ds : List Sl) : ∀ (vs : List Nat) (j : Nat), (wipeD vs ds)[j]? = if j ∈ vs ∧ j < ds.length then some .no else ds[j]?
  | [], j => by rw [if_neg (by simp)]; rfl
  | v :: vs, j => by
    have hl : ∀ vs : List Nat, (wipeD vs ds).length = ds.length := by
      intro vs
      induction vs with
      | nil => rfl
      | cons a b ih => show ((wipeD b ds).set a .no).length = _; rw [List.length_set, ih]
    show ((wipeD vs ds).set v .no)[j]? = _
    rw [List.getElem?_set]
    by_cases h : v = j
    · subst h
      rw [if_pos rfl, hl]
      by_cases hl : v < ds.length
      · rw [if_pos hl, if_pos ⟨List.mem_cons_self, hl⟩]
      · rw [if_neg hl, if_neg (fun q => hl q.2)]
        exact (List.getElem?_eq_none (by omega)).symm
    · rw [if_neg h, wipeD_get ds vs j]
      by_cases hj : j ∈ vs ∧ j < ds.length
      · rw [if_pos hj, if_pos ⟨List.mem_cons_of_mem _ hj.1, hj.2⟩]
      · rw [if_neg hj, if_neg (fun q => hj ⟨(List.mem_cons.mp q.1).resolve_left (fun e => h e.symm), q.2⟩)]
theorem wipeD_length (ds : List Sl) : ∀ vs : List Nat, (wipeD vs ds).length = ds.length
  | [] => rfl
  | a :: b => by show ((wipeD b ds).set a .no).length = _; rw [List.length_set, wipeD_length ds b]
theorem Rl.wipe {μ : List Addr} {oa : Nat → Option Addr} {ds : List Sl} {M : MS} {σ : L2.St} {H : Hp} (r : Rl F μ oa ds M σ H) (vs : List Nat) : Rl F μ oa (wipeD vs ds) M (L2.wipe σ vs) H := by
  refine ⟨by rw [wipe_length, wipeD_length]; exact r.len, fun j e q => ?_, fun j e q => ?_, r.inj, r.ofr, r.mr, r.dom, r.keep, r.pre, r.fin⟩
  · rw [wipeD_get] at q
    split at q
    · cases q
    · rename_i h
      obtain ⟨w, h1, h2⟩ := r.fz j e q
      exact ⟨w, by rw [wipe_get, if_neg (by rw [r.len]; exact h)]; exact h1, h2⟩
  · rw [wipeD_get] at q
    split at q
    · cases q
    · rename_i h
      obtain ⟨a, h1, h2, h3⟩ := r.ow j e q
      exact ⟨a, h1, by rw [wipe_get, if_neg (by rw [r.len]; exact h)]; exact h2, h3⟩
end
/-- which names may be stored -/
structure StOk (X : Cx) (st : Str → Bool) : Prop where
  loc : ∀ x, st x = true → Loc X.env.scope x
  fn : ∀ x, st x = true → X.fn x = true ∨ X.env.scope.names.lookup x = some .local
theorem tg_nost {N : List Str} {st : Str → Bool} : ∀ {t : TGt} {es : List Expr}, mTgs N st t es = true → NoSt es
  | .nil, [], _ => fun e he => by simp at he
  | .nil, _ :: _, h => by simp [mTgs] at h
  | .cons t r, [], h => by simp [mTgs] at h
  | .cons t r, e :: es, h => by
    simp only [mTgs, Bool.and_eq_true] at h
    intro e' he'
    rcases List.mem_cons.mp he' with q | q
    · subst q
      intro y p q
      subst q
      cases t <;> simp [mTg] at h
    · exact tg_nost h.2 e' q
  | .nm _, es, h => by cases es <;> simp [mTgs] at h
  | .tp _, es, h => by cases es <;> simp [mTgs] at h
theorem assign_len {env : Env} : ∀ {es : List Expr}, NoSt es → (assignEach es env).length = es.length ∧ (assignEach es env).findIdx? (·.1) = none
  | [], _ => ⟨rfl, rfl⟩
  | e :: es, h => by
    have q : assignEach (e :: es) env = (false, assign e env) :: assignEach es env := by
      cases e <;> first | rfl | exact absurd rfl (h _ List.mem_cons_self _ _)
    obtain ⟨h1, h2⟩ := assign_len (env := env) (es := es) h.tail
    rw [q]
    refine ⟨by rw [List.length_cons, List.length_cons, h1], ?_⟩
    rw [List.findIdx?_cons, h2]
    rfl
theorem assign_cons {env : Env} {e : Expr} {es : List Expr} (h : NoSt (e :: es)) : (assignEach (e :: es) env).map (·.2) = assign e env :: (assignEach es env).map (·.2) := by
  cases e <;> first | rfl | exact absurd rfl (h _ List.mem_cons_self _ _)
theorem bindTs_len : ∀ {t : TGt} {l : List D} {ds ds1 : List Sl} {N : List Str} {st : Str → Bool} {es : List Expr}, bindTs t l ds = some ds1 → mTgs N st t es = true → l.length = es.length
  | .nil, [], _, _, _, _, [], _, _ => rfl
  | .nil, _, _, _, _, _, _ :: _, _, h => by simp [mTgs] at h
  | .nil, _ :: _, _, _, _, _, [], h, _ => by simp [bindTs] at h
  | .cons t r, [], _, _, _, _, _, h, _ => by simp [bindTs] at h
  | .cons t r, _ :: _, _, _, _, _, [], _, h => by simp [mTgs] at h
  | .cons t r, x :: l, ds, ds1, N, st, e :: es, h, h' => by
    simp only [bindTs] at h
    obtain ⟨ds2, _, h2⟩ := Option.bind_eq_some_iff.mp h
    simp only [mTgs, Bool.and_eq_true] at h'
    rw [List.length_cons, List.length_cons, bindTs_len h2 h'.2]
  | .nm _, _, _, _, _, _, es, h, _ => by simp [bindTs] at h
  | .tp _, _, _, _, _, _, es, h, _ => by simp [bindTs] at h
mutual
theorem s_tg {X : Cx} {F : Fr0} {N : List Str} {st : Str → Bool} (hN : X.N = N) (hK : X.K = F.K) (nd : X.N.Nodup) (hc : X.calm = true) (so : StOk X st) : ∀ (t : TGt) (e : Expr), mTg N st t e = true → PG X e (rG F t)
  | .nm _, e, h => by
    cases e <;> first | (simp [mTg] at h; done) | skip
    rename_i x pos
    simp only [mTg, Bool.and_eq_true, decide_eq_true_eq] at h
    have p := pg_name (X := X) (pos := pos) (x := x) nd (by rw [hN]; exact h.1) (so.loc x h.2) (so.fn x h.2)
    refine ⟨fun pins s σ H v u Q I r ⟨μ, oa, ds, M, d, ds1, rl, rp, hb, k⟩ => p.run pins s σ H v u Q I r ?_⟩
    cases (show some _ = some ds1 from hb)
    refine k _ (rl.setFz rp) fun own hs => wipe_set ?_
    simpa [TGt.sub] using hs
  | .tp ts, e, h => by
    cases e with
    | Tuple es n pos =>
      have h : mTgs N st ts es = true := h
      have ns := tg_nost h
      obtain ⟨l1, l2⟩ := assign_len (env := X.env) ns
      have p := pg_tup (X := X) (k := n) (pos := pos) hc (s_tgs hN hK nd hc so ts es h) l1 l2
      refine ⟨fun pins s σ H v u Q I r ⟨μ, oa, ds, M, d, ds1, rl, rp, hb, k⟩ => p.run pins s σ H v u Q I r ?_⟩
      cases d with
      | tup xs =>
        obtain ⟨a, vs, rfl, h1, h2, h3⟩ := rp
        refine ⟨a, vs, rfl, .of h2, ?_, μ, oa, ds, M, xs, ds1, rl, h3, hb, fun σ1 r1 hw => k σ1 r1 hw⟩
        rw [← h3.length]; exact bindTs_len (show bindTs ts xs ds = some ds1 from hb) h
      | _ => cases hb
    | _ => simp [mTg] at h
  | .nil, e, h => by cases e <;> simp [mTg] at h
  | .cons _ _, e, h => by cases e <;> simp [mTg] at h
theorem s_tgs {X : Cx} {F : Fr0} {N : List Str} {st : Str → Bool} (hN : X.N = N) (hK : X.K = F.K) (nd : X.N.Nodup) (hc : X.calm = true) (so : StOk X st) : ∀ (t : TGt) (es : List Expr), mTgs N st t es = true → PGs X es (rGs F t)
  | .nil, [], _ => by
    refine ⟨fun pins s σ H vs us Q I r ⟨μ, oa, ds, M, l, ds1, rl, rp, hb, k⟩ => pgs_nil.run pins s σ H vs us Q I r ?_⟩
    cases l with
    | nil =>
      cases (show some _ = some ds1 from hb)
      exact ⟨rp, k σ rl fun _ _ => rfl⟩
    | cons _ _ => cases hb
  | .cons t r, e :: es, h => by
    have ns := tg_nost h
    have h' := h
    simp only [mTgs, Bool.and_eq_true] at h'
    have p := pgs_cons (s_tg hN hK nd hc so t e h'.1) (s_tgs hN hK nd hc so r es h'.2) (assign_cons ns)
    refine ⟨fun pins s σ H vs us Q I rv ⟨μ, oa, ds, M, l, ds1, rl, rp, hb, k⟩ => p.run pins s σ H vs us Q I rv ?_⟩
    cases l with
    | nil => cases hb
    | cons d l =>
      obtain ⟨v, vr, e1, e2, e3⟩ := rp
      obtain ⟨ds2, b1, b2⟩ := Option.bind_eq_some_iff.mp (show (bindT t d ds).bind (fun ds1 => bindTs r l ds1) = some ds1 from hb)
      refine ⟨v, vr, e1, μ, oa, ds, M, d, ds2, rl, e2, b1, fun σ1 r1 hw => ⟨μ, oa, ds2, M, l, ds1, r1, e3, b2, fun σ2 r2 hw2 => k σ2 r2 fun own hs => ?_⟩⟩
      have hs' : TGt.sub t own = true ∧ TGt.sub r own = true := by simpa [TGt.sub] using hs
      rw [hw2 own hs'.2, hw own hs'.1]
  | .nil, _ :: _, h => by simp [mTgs] at h
  | .cons _ _, [], h => by simp [mTgs] at h
  | .nm _, es, h => by cases es <;> simp [mTgs] at h
  | .tp _, es, h => by cases es <;> simp [mTgs] at h
end
end PL
end
section
set_option linter.all false
set_option maxRecDepth 100000
set_option maxHeartbeats 2000000
set_option autoImplicit false
namespace PL
open PySem PySem.Spec PyProof.Rows L2
section
variable {X : Cx} {m : MC} {F : Fr0} {W : WX} {G : Nat → Fn} {lv : Nat}
/-- within a comprehension's block -/
def MC.blk (m : MC) (scope : Scope) : MC := { m with sc := relS scope m.sc }
theorem XG.blk (g : XG X m F W G lv) (s : Shared) (H : Hp) (scope : Scope) (C : Addr) (cl : List (Str × Addr)) (fp : List Addr) : XG (X.blk s H scope (compEnvC scope cl C X.env) fp) (m.blk scope) F (fun _ _ _ _ => False) G lv where
  N := g.N
  sc := by
    show (compEnvC scope cl C X.env).scope = relS scope m.sc
    rw [← g.sc]
    rfl
  calm := g.calm
  nd := g.nd
  tk := takes0
  room := g.room
  K := g.K
  blt := g.blt
  cs := g.cs
  xs := g.xs
  fs := g.fs
theorem lookup_relS_own {sc : Scope} {scope : Scope} {x : Str} {k : NameKind} (hk : k ≠ .free) (h : scope.names.lookup x = some k) : (relS scope sc).names.lookup x = some k := lookup_relS_keep hk h
theorem XG.blkSt (g : XG X m F W G lv) (s : Shared) (H : Hp) (scope : Scope) (C : Addr) (cl : List (Str × Addr)) (fp : List Addr) : StOk (X.blk s H scope (compEnvC scope cl C X.env) fp) (stB scope) where
  loc := fun x h => by
    unfold stB at h
    have e : (compEnvC scope cl C X.env).scope = relS scope X.env.scope := rfl
    split at h
    · rename_i q; exact .inl (by show (compEnvC scope cl C X.env).scope.names.lookup x = _; rw [e]; exact lookup_relS_own (by decide) q)
    · rename_i q; exact .inr (by show (compEnvC scope cl C X.env).scope.names.lookup x = _; rw [e]; exact lookup_relS_own (by decide) q)
    · cases h
  fn := fun x h => by
    unfold stB at h
    have e : (compEnvC scope cl C X.env).scope = relS scope X.env.scope := rfl
    split at h
    · rename_i q; exact .inr (by show (compEnvC scope cl C X.env).scope.names.lookup x = _; rw [e]; exact lookup_relS_own (by decide) q)
    · rename_i q; exact .inl (by show (scope.names.lookup x == some NameKind.cell) = true; rw [q]; rfl)
    · cases h
/-- one more place of our own -/
def oaP (oa : Nat → Option Addr) (k : Nat) (D : Addr) : Nat → Option Addr := fun j => if j = k then some D else oa j
variable {μ μ' : List Addr} {oa : Nat → Option Addr} {ds : List Sl} {M M' : MS} {σ : L2.St} {H H' : Hp} {k : Nat} {A : Addr} {o : HO}
theorem NN_oaP {a : Addr} (hk : oa k = none) : NN F μ (oaP oa k A) a ↔ (NN F μ oa a ∨ a = A) := by
  constructor
  · rintro (h | h | ⟨i, h⟩)
    · exact .inl (.inl h)
    · exact .inl (.inr (.inl h))
    · unfold oaP at h
      split at h
      · cases h; exact .inr rfl
      · exact .inl (.inr (.inr ⟨i, h⟩))
  · rintro ((h | h | ⟨i, h⟩) | h)
    · exact .inl h
    · exact .inr (.inl h)
    · refine .inr (.inr ⟨i, ?_⟩)
      unfold oaP
      rw [if_neg (fun e => by rw [e, hk] at h; cases h)]
      exact h
    · refine .inr (.inr ⟨k, ?_⟩)
      unfold oaP
      rw [if_pos rfl, h]
theorem pl_oaP (hk : oa k = none) : F.pl μ (oaP oa k A) H = (F.pl μ oa H).but A := by
  have : NN F μ (oaP oa k A) = fun b => NN F μ oa b ∨ b = A := by
    funext b
    exact propext (NN_oaP hk)
  unfold Fr0.pl Pl.but
  rw [this]
/-- a new place laid, ours -/
theorem Rl.lay (r : Rl F μ oa ds M σ H) (hk : oa k = none) (hA : H A = none) : Rl F μ (oaP oa k A) ds M σ (upd H A o) := by
  have e : Evo (F.pl μ oa H) (F.pl μ (oaP oa k A) (upd H A o)) := by
    rw [pl_oaP hk]
    exact evo_but_upd (p := F.pl μ oa H) hA
  have ne : ∀ b, NN F μ oa b → upd H A o b = H b := fun b hb => by
    obtain ⟨u, hu⟩ := r.dom b hb
    rw [upd_ne (ne_of_none hu hA)]
  have old : ∀ i b, oa i = some b → oaP oa k A i = some b := fun i b h => by
    unfold oaP
    rw [if_neg (fun e => by rw [e, hk] at h; cases h)]; exact h
  have inv : ∀ i b, oaP oa k A i = some b → (i = k ∧ b = A) ∨ (i ≠ k ∧ oa i = some b) := fun i b h => by
    unfold oaP at h
    split at h
    · cases h; exact .inl ⟨by assumption, rfl⟩
    · exact .inr ⟨by assumption, h⟩
  have notA : ∀ i, oa i ≠ some A := fun i h => by
    obtain ⟨u, hu⟩ := r.dom A (.inr (.inr ⟨i, h⟩))
    rw [hA] at hu; cases hu
  refine ⟨r.len, fun i d q => ?_, fun i d q => ?_, fun i j b h1 h2 => ?_, fun i b h => ?_, ⟨r.mr.len, r.mr.nd, fun b hb => .inr (.inl hb), fun n b xs h1 h2 => ?_⟩, fun b hb => ?_, fun b u q hn => ?_, r.pre, ?_⟩
  · obtain ⟨v, h1, h2⟩ := r.fz i d q
    exact ⟨v, h1, h2.mono e⟩
  · obtain ⟨b, h1, h2, h3⟩ := r.ow i d q
    exact ⟨b, old i b h1, h2, h3.mono e (ne b (.inr (.inr ⟨i, h1⟩)))⟩
  · rcases inv i b h1 with ⟨e1, e2⟩ | ⟨n1, h1'⟩ <;> rcases inv j b h2 with ⟨e3, e4⟩ | ⟨n2, h2'⟩
    · rw [e1, e3]
    · rw [e2] at h2'; exact absurd h2' (notA j)
    · rw [e4] at h1'; exact absurd h1' (notA i)
    · exact r.inj i j b h1' h2'
  · rcases inv i b h with ⟨rfl, rfl⟩ | ⟨_, h⟩
    · refine ⟨?_, fun hm => r.notN hA (.inr (.inl hm)), fun hm => r.notN hA (.inl hm)⟩
      cases q : F.H0 b with
      | none => rfl
      | some u =>
        obtain ⟨t0, e0, f0⟩ := r.pre
        by_cases hm : b ∈ F.μ0
        · exact absurd (.inr (.inl (by rw [e0]; exact List.mem_append_left _ hm))) (r.notN hA)
        · have := r.keep b u q hm
          rw [hA] at this; cases this
    · exact r.ofr i b h
  · exact (r.mr.cell n b xs h1 h2).mono e (ne b (.inr (.inl (List.mem_of_getElem? h1))))
  · rcases (NN_oaP hk).mp hb with hb | rfl
    · rw [ne b hb]; exact r.dom b hb
    · exact ⟨o, upd_same⟩
  · have := r.keep b u q hn
    rw [upd_ne (ne_of_none this hA)]; exact this
  · obtain ⟨b, hb⟩ := r.fin
    refine ⟨max b (k + 1), fun i hi => ?_⟩
    unfold oaP
    rw [if_neg (by omega)]
    exact hb i (by omega)
/-- what is ours (and no name's) is written -/
theorem evo_wr {p : Pl} (h : p.N A) : Evo p { p with H := upd p.H A o } :=
  ⟨rfl, fun b u e n => ⟨by show upd p.H A o b = _; rw [upd_ne (fun q => n (by rw [q]; exact h))]; exact e, n⟩, fun _ _ h => h⟩
theorem Rl.put (r : Rl F μ oa ds M σ H) (hk : oa k = some A) (hn : ∀ d, ds[k]? ≠ some (.ow d)) : Rl F μ oa ds M σ (upd H A o) := by
  have hN : NN F μ oa A := .inr (.inr ⟨k, hk⟩)
  have e : Evo (F.pl μ oa H) (F.pl μ oa (upd H A o)) := evo_wr (p := F.pl μ oa H) hN
  refine ⟨r.len, fun i d q => ?_, fun i d q => ?_, r.inj, r.ofr, ⟨r.mr.len, r.mr.nd, r.mr.inN, fun n b xs h1 h2 => ?_⟩, fun b hb => ?_, fun b u q h => ?_, r.pre, r.fin⟩
  · obtain ⟨v, h1, h2⟩ := r.fz i d q
    exact ⟨v, h1, h2.mono e⟩
  · obtain ⟨b, h1, h2, h3⟩ := r.ow i d q
    have : b ≠ A := fun z => by
      rw [z] at h1
      exact hn d (by rw [r.inj k i A hk h1]; exact q)
    exact ⟨b, h1, h2, h3.mono e (upd_ne this)⟩
  · have : b ≠ A := fun z => (r.ofr k A hk).2.1 (by rw [← z]; exact List.mem_of_getElem? h1)
    exact (r.mr.cell n b xs h1 h2).mono e (upd_ne this)
  · by_cases z : b = A
    · rw [z]; exact ⟨o, upd_same⟩
    · rw [upd_ne z]; exact r.dom b hb
  · have z : b ≠ A := fun z => by rw [z, (r.ofr k A hk).1] at q; cases q
    rw [upd_ne z]; exact r.keep b u q h
/-- the place given up -/
theorem Rl.drop (r : Rl F μ (oaP oa k A) ds M σ H) (hk : oa k = none) (hw : ∀ i d, ds[i]? = some (.ow d) → ∃ a, oa i = some a) : Rl F μ oa ds M σ H := by
  have e : Evo (F.pl μ (oaP oa k A) H) (F.pl μ oa H) := by
    rw [pl_oaP hk]
    exact evo_unbut
  have old : ∀ i b, oa i = some b → oaP oa k A i = some b := fun i b h => by
    unfold oaP
    rw [if_neg (fun e => by rw [e, hk] at h; cases h)]; exact h
  refine ⟨r.len, fun i d q => ?_, fun i d q => ?_, fun i j b h1 h2 => r.inj i j b (old _ _ h1) (old _ _ h2), fun i b h => r.ofr i b (old _ _ h), ⟨r.mr.len, r.mr.nd, fun b hb => .inr (.inl hb), fun n b xs h1 h2 => (r.mr.cell n b xs h1 h2).mono e rfl⟩, fun b hb => r.dom b ((NN_oaP hk).mpr (.inl hb)), r.keep, r.pre, ?_⟩
  · obtain ⟨v, h1, h2⟩ := r.fz i d q
    exact ⟨v, h1, h2.mono e⟩
  · obtain ⟨b, h1, h2, h3⟩ := r.ow i d q
    obtain ⟨a, ha⟩ := hw i d q
    have : b = a := Option.some.inj (h1.symm.trans (old i a ha))
    subst this
    exact ⟨b, ha, h2, h3.mono e rfl⟩
  · obtain ⟨b, hb⟩ := r.fin
    refine ⟨b, fun i hi => ?_⟩
    cases q : oa i with
    | none => rfl
    | some a => have := hb i hi; rw [old i a q] at this; cases this
theorem lcL_noexc {bnd : D → Option (List Sl)} {c : List Sl → MS → R Bool} {f : SVal} {e : Ex} {N : MS} : ∀ {xs : List D} {M : MS}, lcL bnd c f xs M ≠ .exc e N
  | [], M => fun h => by cases h
  | x :: xs, M => fun h => by
    simp only [lcL] at h
    cases hb : bnd x with
    | none => rw [hb] at h; cases h
    | some ds =>
      rw [hb] at h
      dsimp only at h
      cases hc : c ds M with
      | ok b M1 =>
        rw [hc] at h
        simp only [R.nox_ok, R.bind_ok] at h
        cases b with
        | false => exact lcL_noexc (M := M1) (xs := xs) (by simpa using h)
        | true =>
          simp only [if_true] at h
          cases hf : f ds M1 with
          | ok v M2 =>
            rw [hf] at h
            simp only [R.nox_ok, R.bind_ok] at h
            split at h
            · cases h
            · cases hl : lcL bnd c f xs M2 with
              | ok r M3 => rw [hl] at h; cases h
              | exc e' N' => exact lcL_noexc hl
              | stuck => rw [hl] at h; cases h
          | exc e' N' => rw [hf] at h; cases h
          | stuck => rw [hf] at h; cases h
      | exc e' N' => rw [hc] at h; cases h
      | stuck => rw [hc] at h; cases h
/-- one turn's meaning -/
theorem lcL_cons {bnd : D → Option (List Sl)} {c : List Sl → MS → R Bool} {f : SVal} {x : D} {xs ys : List D} {M N : MS} (h : lcL bnd c f (x :: xs) M = .ok ys N) :
    ∃ ds1 b M1, bnd x = some ds1 ∧ c ds1 M = .ok b M1 ∧ ((b = false ∧ lcL bnd c f xs M1 = .ok ys N) ∨ (b = true ∧ ∃ v M2 r, f ds1 M1 = .ok v M2 ∧ v.2 ≠ .bo ∧ lcL bnd c f xs M2 = .ok r N ∧ ys = v.1 :: r)) := by
  simp only [lcL] at h
  cases hb : bnd x with
  | none => rw [hb] at h; cases h
  | some ds =>
    rw [hb] at h
    dsimp only at h
    cases hc : c ds M with
    | ok b M1 =>
      rw [hc] at h
      simp only [R.nox_ok, R.bind_ok] at h
      refine ⟨ds, b, M1, rfl, hc, ?_⟩
      cases b with
      | false => exact .inl ⟨rfl, by simpa using h⟩
      | true =>
        simp only [if_true] at h
        cases hf : f ds M1 with
        | ok v M2 =>
          rw [hf] at h
          simp only [R.nox_ok, R.bind_ok] at h
          split at h
          · cases h
          · rename_i hv
            cases hl : lcL bnd c f xs M2 with
            | ok r M3 => rw [hl] at h; cases h; exact .inr ⟨rfl, v, M2, r, rfl, hv, hl, rfl⟩
            | exc e' N' => exact absurd hl lcL_noexc
            | stuck => rw [hl] at h; cases h
        | exc e' N' => rw [hf] at h; cases h
        | stuck => rw [hf] at h; cases h
    | exc e' N' => rw [hc] at h; cases h
    | stuck => rw [hc] at h; cases h
theorem EvE.put (e : EvE μ H μ' H') (h : H A = none) : EvE μ H μ' (upd H' A o) :=
  ⟨fun a u q n => by rw [upd_ne (ne_of_none q h)]; exact e.keep a u q n, e.pre, fun a ha => by
    by_cases z : a = A
    · rw [z]; exact ⟨o, upd_same⟩
    · rw [upd_ne z]; exact e.dom a ha⟩
/-- the reading of a list comprehension -/
theorem c_lc {own : List Nat} {tg : TGt} {it : List Sl → MS → R (List D)} {c : List Sl → MS → R Bool} {f : SVal} {Q : V → Hp → Prop} (hsub : TGt.sub tg own = true)
    (h : rE F W relV (kLc own tg it c f) σ H Q) : tLc (rE F W (relI F false) it) (rG F tg) (rE F (fun _ _ _ _ => False) relEq c) (rE F (fun _ _ _ _ => False) relV f) own σ H Q := by
  obtain ⟨μ, oa, ds, M, q⟩ := h
  refine ⟨μ, oa, ds, M, (q.bind (Rel := relI F false) back_v).imp fun J H1 ⟨xs, μ1, M1, ev1, ⟨Gd, ad, wd, gd⟩, q1⟩ => fun A hA => ?_⟩
  have rl1 := q1.rl
  have q1' := q1.2
  dsimp only at q1'
  cases hr : lcL (fun d => bindT tg d (wipeD own ds)) c f xs M1 with
  | stuck => rw [hr] at q1'; exact q1'.elim
  | exc e N => exact absurd hr lcL_noexc
  | ok ys M2 =>
    rw [hr] at q1'
    simp only [R.bind_ok] at q1'
    by_cases hl : ys.length ≤ LIM
    · rw [if_pos hl] at q1'
      obtain ⟨kk, hkk⟩ := rl1.fin
      have hk : oa kk = none := hkk kk (Nat.le_refl _)
      have hkd : ∀ d, ds[kk]? ≠ some (.ow d) := fun d e => by
        obtain ⟨a, h1, _⟩ := rl1.ow kk d e
        rw [hk] at h1; cases h1
      have hwo : ∀ (ν : List Addr) (N : MS) (J : Hp), Rl F ν (oaP oa kk A) ds N σ J → Rl F ν oa ds N σ J := fun ν N J r => r.drop hk fun i d e => by
        obtain ⟨a, h1, _⟩ := rl1.ow i d e
        exact ⟨a, h1⟩
      have rl2 : Rl F μ1 (oaP oa kk A) ds M1 σ (upd H1 A (.lst [])) := rl1.lay hk hA
      have ev2 : EvE μ1 H1 μ1 (upd H1 A (.lst [])) := EvE.alloc rl1 hA
      have gd2 : Gd (F.pl μ1 (oaP oa kk A) (upd H1 A (.lst []))) := by
        refine wd.gen _ _ gd (by rw [pl_oaP hk]; exact evo_but_upd (p := F.pl μ1 oa H1) hA) fun a ha => ?_
        obtain ⟨⟨u, h1⟩, h2⟩ := wd.adH _ a gd ha
        exact ⟨upd_ne (ne_of_none h1 hA), h2⟩
      refine ⟨fun i n J' => n = xs.length - i ∧ i ≤ xs.length ∧ ∃ μ' M' acc vs rest, Rl F μ' (oaP oa kk A) ds M' σ J' ∧ EvE μ1 H1 μ' J' ∧ J' A = some (.lst vs) ∧ RepL (F.pl μ' (oaP oa kk A) J') acc vs ∧ Gd (F.pl μ' (oaP oa kk A) J') ∧
        lcL (fun d => bindT tg d (wipeD own ds)) c f (xs.drop i) M' = .ok rest M2 ∧ ys = acc ++ rest, ⟨xs.length, by simp, Nat.zero_le _, μ1, M1, [], [], ys, rl2, ev2, upd_same, rfl, gd2, hr, rfl⟩, ?_⟩
      rintro i n J' ⟨rfl, hi, μ', M', acc, vs, rest, r, ev, hJA, hacc, gd', hrest, hys⟩
      by_cases hlt : i < xs.length
      · refine .inr ⟨wd.go _ i gd' hlt, fun J2 => i + 1 ≤ xs.length ∧ ∃ μ' M' acc vs rest, Rl F μ' (oaP oa kk A) ds M' σ J2 ∧ EvE μ1 H1 μ' J2 ∧ J2 A = some (.lst vs) ∧ RepL (F.pl μ' (oaP oa kk A) J2) acc vs ∧ Gd (F.pl μ' (oaP oa kk A) J2) ∧
          lcL (fun d => bindT tg d (wipeD own ds)) c f (xs.drop (i + 1)) M' = .ok rest M2 ∧ ys = acc ++ rest, fun J2 ⟨h1, h2⟩ => ⟨xs.length - (i + 1), by omega, rfl, h1, h2⟩, fun x J2 hy => ?_⟩
        have hx : xs[i]? = some xs[i] := by simp [hlt]
        obtain ⟨ev3, r3, rp3⟩ := wd.yld μ' (oaP oa kk A) ds M' σ J' i xs[i] x J2 r gd' hx hy
        rw [List.drop_eq_getElem_cons hlt] at hrest
        obtain ⟨ds1, b, M3, hb, hc, hd⟩ := lcL_cons hrest
        have gd3 := wd.ev gd' ev3
        have hJA3 : J2 A = some (.lst vs) := ev3.keep A _ hJA fun hm => (r.ofr kk A (by unfold oaP; rw [if_pos rfl])).2.1 hm
        refine ⟨μ', oaP oa kk A, wipeD own ds, M', xs[i], ds1, r3.wipe own, rp3, hb, fun σ1 r4 hw => ⟨(hw own hsub).trans wipe_wipe, μ', oaP oa kk A, ds1, M', r4, ?_⟩⟩
        rw [hc]
        intro b' μ4 J4 ev4 r5 eb
        have eb : b = b' := eb
        subst eb
        have kA : ∀ (ν : List Addr) (N : MS) (dd : List Sl) (ss : L2.St) (J : Hp), Rl F ν (oaP oa kk A) dd N ss J → A ∉ ν := fun ν N dd ss J r hm => (r.ofr kk A (by unfold oaP; rw [if_pos rfl])).2.1 hm
        have r6 : Rl F μ4 (oaP oa kk A) ds M3 σ J4 := r3.step ev4 r5.mr r5.dom
        have hJA4 : J4 A = some (.lst vs) := ev4.keep A _ hJA3 (kA _ _ _ _ _ r3)
        have gd4 := wd.ev gd3 ev4
        have hacc4 : RepL (F.pl μ4 (oaP oa kk A) J4) acc vs := (hacc.mono ev3.evo).mono ev4.evo
        rcases hd with ⟨rfl, hd⟩ | ⟨rfl, v, M5, rr, hf, hv, hd, e5⟩
        · rw [if_neg Bool.false_ne_true]
          exact ⟨hlt, μ4, M3, acc, vs, rest, r6, (ev.trans ev3).trans ev4, hJA4, hacc4, gd4, hd, hys⟩
        · rw [if_pos rfl]
          refine ⟨μ4, oaP oa kk A, ds1, M3, r5, ?_⟩
          rw [hf]
          intro y μ6 J6 ev6 r7 rv
          have r8 : Rl F μ6 (oaP oa kk A) ds M5 σ J6 := r6.step ev6 r7.mr r7.dom
          have hJA6 : J6 A = some (.lst vs) := ev6.keep A _ hJA4 (kA _ _ _ _ _ r6)
          have hlen : acc.length < LIM := by
            have e : ys = acc ++ v.1 :: rr := by rw [hys, e5]
            have l : ys.length = acc.length + (rr.length + 1) := by rw [e, List.length_append, List.length_cons]
            omega
          refine ⟨vs, hJA6, by rw [← hacc.length]; exact lim_lt hlen, hlt, μ6, M5, acc ++ [v.1], vs ++ [y], rr, r8.put (by unfold oaP; rw [if_pos rfl]) hkd, ?_, upd_same, ?_, ?_, hd, ?_⟩
          · exact (((ev.trans ev3).trans ev4).trans ev6).put hA
          · have hN : (F.pl μ6 (oaP oa kk A) J6).N A := .inr (.inr ⟨kk, by unfold oaP; rw [if_pos rfl]⟩)
            exact RepL.mono (evo_wr hN) _ _ ((hacc4.mono ev6.evo).append ⟨y, [], rfl, rv.rep hv, rfl⟩)
          · have hN : (F.pl μ6 (oaP oa kk A) J6).N A := .inr (.inr ⟨kk, by unfold oaP; rw [if_pos rfl]⟩)
            have gd6 := wd.ev gd4 ev6
            refine wd.gen _ _ gd6 (evo_wr hN) fun a ha => ?_
            obtain ⟨⟨u, h1⟩, _⟩ := wd.adH _ a gd ha
            exact ⟨upd_ne (ne_of_none h1 hA), (wd.adH _ a gd6 ha).2⟩
          · rw [hys, e5, List.append_assoc]; rfl
      · have e : i = xs.length := by omega
        subst e
        refine .inl ⟨wd.stop _ gd', ?_⟩
        rw [List.drop_length] at hrest
        cases (show R.ok [] M' = R.ok rest M2 from hrest)
        rw [List.append_nil] at hys
        subst hys
        have r' := hwo _ _ _ r
        refine q1' (.ref A) μ' J' ev r' ⟨A, rfl, hA, fun n => ?_, ?_, ?_⟩
        · have : NN F μ' oa A := n
          rcases this with n | n | ⟨j, n⟩
          · exact (r.ofr kk A (by unfold oaP; rw [if_pos rfl])).2.2 n
          · exact (r.ofr kk A (by unfold oaP; rw [if_pos rfl])).2.1 n
          · have := r.inj j kk A (by unfold oaP; rw [if_neg (fun e => by rw [e, hk] at n; cases n)]; exact n) (by unfold oaP; rw [if_pos rfl])
            rw [this, hk] at n; cases n
        · rw [← pl_oaP hk]; exact ⟨vs, hJA, hacc⟩
        · rw [← pl_oaP hk]; exact r.mr
    · rw [if_neg hl] at q1'; exact q1'.elim
end
end PL
end
section
set_option linter.all false
set_option maxRecDepth 100000
set_option maxHeartbeats 2000000
set_option autoImplicit false
namespace PL
open PySem PySem.Spec PyProof.Rows L2
section
variable {prog : Program} {w : World} {A : Around} {E : Value → Shared → Prop} {s : Shared}
variable {z TI TO T i1 i2 l1 l2 : Addr} {f : Bool} {oT : Obj} {n1 n2 : Nat} {as bs : Array Value} {u v : Value}
/-- the next pair while the one before is still held -/
theorem zth_item {Q : Value → Shared → Prop} (D : ZipApart z TI TO i1 i2 l1 l2) (zz : IsZipHeld s.heap z TI TO T f) (tt : s.heap.get? T = some oT) (ti : IsPair s.heap TI (.ref i1) (.ref i2))
    (a1 : s.heap.IsTupleIter i1 l1 n1) (a2 : s.heap.IsTupleIter i2 l2 n2) (b1 : s.heap.IsTuple l1 as) (b2 : s.heap.IsTuple l2 bs) (e1 : as[n1]? = some u) (e2 : bs[n2]? = some v)
    (k : ∀ h', IsZipHeld h' z TI TO T true → h'.IsTupleIter i1 l1 (n1 + 1) → h'.IsTupleIter i2 l2 (n2 + 1) → IsPair h' s.heap.objs.size u v → h'.objs.size = s.heap.objs.size + 1 →
      (∀ c o, c ≠ z → c ≠ i1 → c ≠ i2 → s.heap.get? c = some o → h'.get? c = some o) → Q (.ref s.heap.objs.size) { s with heap := h' }) :
    wpAny (model prog w) A (Builtin.«zip.__next__» ⟨[.ref z], []⟩) (fun r s' => ∃ x, r = .done (.ret x) ∧ Q x s') E s := by
  show wpAny _ _ (field (.ref z) 2 >>= _) _ _ _
  refine wpAny_bind (wpAny_field zz rfl (x := .bool false) rfl ?_)
  show wpAny _ _ (field (.ref z) 3 >>= _) _ _ _
  refine wpAny_bind (wpAny_field zz rfl (x := .ref TI) rfl (wpAny_bind (wpAny_seqItems ti rfl ?_)))
  show wpAny _ _ (Builtin.SmallTypes.ownedTupleIsFree (.ref z) >>= _) _ _ _
  refine wpAny_bind (wpAny_tupleHeld_zip zz tt fun g1 zz1 sb1 => ?_)
  simp only [if_false, Bool.false_eq_true]
  refine wpAny_bind ?_
  rw [← Array.forIn_toList]
  simp only [List.forIn_nil, List.forIn_cons]
  refine wpAny_bind (wpAny_bind (wpAny_holding ?_))
  show wpAny _ _ (Builtin.SmallTypes.nextOf (.ref i1) >>= _) _ _ _
  refine wpAny_bind (RZ.nextOf_tuple_item (s := { s with heap := g1 }) (a1.extBut sb1.extBut D.i1z) (b1.extBut sb1.extBut D.l1z) e1 fun g2 c1 sb2 => wpAny_pure (wpAny_pure ?_))
  refine wpAny_bind (wpAny_bind (wpAny_holding ?_))
  show wpAny _ _ (Builtin.SmallTypes.nextOf (.ref i2) >>= _) _ _ _
  refine wpAny_bind (RZ.nextOf_tuple_item (s := { s with heap := g2 }) ((a2.extBut sb1.extBut D.i2z).extBut sb2.extBut D.i12.symm) ((b2.extBut sb1.extBut D.l2z).extBut sb2.extBut D.l2i1) e2 fun g3 c2 sb3 => wpAny_pure (wpAny_pure (wpAny_pure ?_)))
  show wpAny _ _ (newTuple [u, v] >>= _) _ _ _
  refine wpAny_bind (wpAny_newTuple (wpAny_pure ⟨_, rfl, ?_⟩))
  have hs : g3.objs.size = s.heap.objs.size := by rw [sb3.1, sb2.1, sb1.1]
  have zz3 : IsZipHeld g3 z TI TO T true := sb3.extBut _ _ D.i2z.symm (sb2.extBut _ _ D.i1z.symm zz1)
  have kp : ∀ c o, c ≠ z → c ≠ i1 → c ≠ i2 → s.heap.get? c = some o → g3.get? c = some o := fun c o q1 q2 q3 e => sb3.extBut _ _ q3 (sb2.extBut _ _ q2 (sb1.extBut _ _ q1 e))
  show Q (.ref g3.objs.size) _
  have pp : IsPair (g3.push { cls := .type "tuple", data := .seq #[u, v] }) g3.objs.size u v := Heap.get?_push_size _ rfl
  have sz : (g3.push { cls := .type "tuple", data := .seq #[u, v] }).objs.size = g3.objs.size + 1 := Heap.size_push ..
  rw [hs] at pp sz ⊢
  exact k _ (Heap.get?_push_of_some _ zz3) ((c1.extBut sb3.extBut D.i12).at fun o e => Heap.get?_push_of_some _ e) (c2.at fun o e => Heap.get?_push_of_some _ e) pp sz fun c o q1 q2 q3 e => Heap.get?_push_of_some _ (kp c o q1 q2 q3 e)
theorem zth_end {Q : Fin → Shared → Prop} (hh : A.handled = none) (D : ZipApart z TI TO i1 i2 l1 l2) (zz : IsZipHeld s.heap z TI TO T f) (tt : s.heap.get? T = some oT) (ti : IsPair s.heap TI (.ref i1) (.ref i2))
    (a1 : s.heap.IsTupleIter i1 l1 n1) (a2 : s.heap.IsTupleIter i2 l2 n2) (b1 : s.heap.IsTuple l1 as) (b2 : s.heap.IsTuple l2 bs) (en : as[n1]? = none ∨ bs[n2]? = none)
    (k : ∀ h' e, (∀ c o, c ≠ z → c ≠ i1 → c ≠ i2 → s.heap.get? c = some o → h'.get? c = some o) → (∃ o, h'.get? e = some o ∧ o.cls = .type "StopIteration") → E (.ref e) { s with heap := h' }) :
    wpAny (model prog w) A (Builtin.«zip.__next__» ⟨[.ref z], []⟩) Q E s := by
  show wpAny _ _ (field (.ref z) 2 >>= _) _ _ _
  refine wpAny_bind (wpAny_field zz rfl (x := .bool false) rfl ?_)
  show wpAny _ _ (field (.ref z) 3 >>= _) _ _ _
  refine wpAny_bind (wpAny_field zz rfl (x := .ref TI) rfl (wpAny_bind (wpAny_seqItems ti rfl ?_)))
  show wpAny _ _ (Builtin.SmallTypes.ownedTupleIsFree (.ref z) >>= _) _ _ _
  refine wpAny_bind (wpAny_tupleHeld_zip zz tt fun g1 zz1 sb1 => ?_)
  simp only [if_false, Bool.false_eq_true]
  refine wpAny_bind ?_
  rw [← Array.forIn_toList]
  simp only [List.forIn_nil, List.forIn_cons]
  refine wpAny_bind (wpAny_bind (wpAny_holding ?_))
  show wpAny _ _ (Builtin.SmallTypes.nextOf (.ref i1) >>= _) _ _ _
  cases e1 : as[n1]? with
  | none =>
    refine wpAny_bind (RZ.nextOf_tuple_end (s := { s with heap := g1 }) hh (a1.extBut sb1.extBut D.i1z) (b1.extBut sb1.extBut D.l1z) e1 fun g2 e sb2 he => ?_)
    exact k g2 e (fun c o q1 q2 _ x => sb2 _ _ q2 (sb1.extBut _ _ q1 x)) he
  | some x =>
    have e2 : bs[n2]? = none := by rcases en with q | q; · rw [e1] at q; cases q
                                   · exact q
    refine wpAny_bind (RZ.nextOf_tuple_item (s := { s with heap := g1 }) (a1.extBut sb1.extBut D.i1z) (b1.extBut sb1.extBut D.l1z) e1 fun g2 c1 sb2 => wpAny_pure (wpAny_pure ?_))
    refine wpAny_bind (wpAny_bind (wpAny_holding ?_))
    show wpAny _ _ (Builtin.SmallTypes.nextOf (.ref i2) >>= _) _ _ _
    refine wpAny_bind (RZ.nextOf_tuple_end (s := { s with heap := g2 }) hh ((a2.extBut sb1.extBut D.i2z).extBut sb2.extBut D.i12.symm) ((b2.extBut sb1.extBut D.l2z).extBut sb2.extBut D.l2i1) e2 fun g3 e sb3 he => ?_)
    exact k g3 e (fun c o q1 q2 q3 x => sb3 _ _ q3 (sb2.extBut _ _ q2 (sb1.extBut _ _ q1 x))) he
/-- where a zip of two tuples stands that is drawn into a list at S -/
def LzSt (h : Heap) (z TI TO i1 i2 l1 l2 S : Addr) (as bs : Array Value) (i : Nat) : Prop :=
  IsPair h TI (.ref i1) (.ref i2) ∧ h.IsTupleIter i1 l1 i ∧ h.IsTupleIter i2 l2 i ∧ h.IsTuple l1 as ∧ h.IsTuple l2 bs ∧
    ((IsZip h z TI TO .none ∧ ∃ x y, IsPair h TO x y) ∨ ∃ T f oT, IsZipHeld h z TI TO T f ∧ h.get? T = some oT ∧ T ≠ S ∧ T ≠ z ∧ T ≠ i1 ∧ T ≠ i2)
theorem LzSt.keep {h h' : Heap} {S : Addr} {i : Nat} (x : LzSt h z TI TO i1 i2 l1 l2 S as bs i) (S5 : S ≠ z ∧ S ≠ TI ∧ S ≠ TO ∧ S ≠ i1 ∧ S ≠ i2 ∧ S ≠ l1 ∧ S ≠ l2) (k : ∀ b o, b ≠ S → h.get? b = some o → h'.get? b = some o) : LzSt h' z TI TO i1 i2 l1 l2 S as bs i := by
  obtain ⟨p1, p2, p3, p4, p5, p6⟩ := x
  obtain ⟨q1, q2, q3, q4, q5, q6, q7⟩ := S5
  refine ⟨k _ _ q2.symm p1, p2.at fun o e => k _ o q4.symm e, p3.at fun o e => k _ o q5.symm e, p4.at fun o e => k _ o q6.symm e, p5.at fun o e => k _ o q7.symm e, ?_⟩
  rcases p6 with ⟨p6, x, y, p7⟩ | ⟨T, f, oT, p6, p7, p8⟩
  · exact .inl ⟨k _ _ q1.symm p6, x, y, k _ _ q3.symm p7⟩
  · exact .inr ⟨T, f, oT, k _ _ q1.symm p6, k _ _ p8.1 p7, p8⟩
theorem lz_item {S : Addr} {i : Nat} {Q : Option Value → Shared → Prop} (D : ZipApart z TI TO i1 i2 l1 l2) (S5 : S ≠ z ∧ S ≠ TI ∧ S ≠ TO ∧ S ≠ i1 ∧ S ≠ i2 ∧ S ≠ l1 ∧ S ≠ l2) (hS : S < s.heap.objs.size) (st : LzSt s.heap z TI TO i1 i2 l1 l2 S as bs i) (e1 : as[i]? = some u) (e2 : bs[i]? = some v)
    (k : ∀ h', LzSt h' z TI TO i1 i2 l1 l2 S as bs (i + 1) → IsPair h' s.heap.objs.size u v → h'.objs.size = s.heap.objs.size + 1 →
      (∀ c o, c ≠ z → c ≠ TO → c ≠ i1 → c ≠ i2 → s.heap.get? c = some o → h'.get? c = some o) → Q (some (.ref s.heap.objs.size)) { s with heap := h' }) :
    wpAny (model prog w) A (pyNext (.ref z)) Q E s := by
  obtain ⟨p1, p2, p3, p4, p5, p6⟩ := st
  have ne : ∀ a, a < s.heap.objs.size → s.heap.objs.size ≠ a := fun a h e => by rw [e] at h; exact Nat.lt_irrefl _ h
  have l4 : ∀ {a : Addr} {o : Obj}, s.heap.get? a = some o → s.heap.objs.size ≠ a := fun h => ne _ (Heap.lt_size h)
  have n1 : s.heap.objs.size ≠ i1 := by obtain ⟨o, h, _⟩ := p2; exact l4 h
  have n2 : s.heap.objs.size ≠ i2 := by obtain ⟨o, h, _⟩ := p3; exact l4 h
  rcases p6 with ⟨p6, x, y, p7⟩ | ⟨T, f, oT, p6, p7, p8, p9, p10, p11⟩
  · refine RZ.pyNext_zipT_item D p6 p1 p7 p2 p3 p4 p5 e1 e2 fun h' c1 c2 c3 c4 c5 c6 c7 => ?_
    refine k h' ⟨c7 _ _ D.TIz D.TITO D.TIi1 D.TIi2 p1, c3, c4, p4.at fun o e => c7 _ o D.l1z D.l1TO D.l1i1 D.l1i2 e, p5.at fun o e => c7 _ o D.l2z D.l2TO D.l2i1 D.l2i2 e, .inr ⟨_, false, _, c1, c5, ne S hS, l4 p6, n1, n2⟩⟩ c5 c6 c7
  · have hT : s.TypeIs (.ref z) "zip" := ⟨_, p6, rfl⟩
    unfold pyNext
    refine wpAny_bind (wpAny_attempt (wpAny_callSpecial?_slot (name := Str.ofString "__next__") hT F.slot_zip_next (wpAny_call_entry F.slot_zip_next hT F.entry_zip_next
      (zth_item D p6 p7 p1 p2 p3 p4 p5 e1 e2 fun h' c1 c3 c4 c5 c6 c7 => wpAny_pure ?_) (F.args_zip_next_1 _))))
    refine k h' ⟨c7 _ _ D.TIz D.TIi1 D.TIi2 p1, c3, c4, p4.at fun o e => c7 _ o D.l1z D.l1i1 D.l1i2 e, p5.at fun o e => c7 _ o D.l2z D.l2i1 D.l2i2 e, .inr ⟨T, true, oT, c1, c7 _ _ p9 p10 p11 p7, p8, p9, p10, p11⟩⟩ c5 c6 fun c o q1 _ q3 q4 e => c7 c o q1 q3 q4 e
theorem lz_done {S : Addr} {i : Nat} {Q : Option Value → Shared → Prop} (hh : A.handled = none) (D : ZipApart z TI TO i1 i2 l1 l2) (st : LzSt s.heap z TI TO i1 i2 l1 l2 S as bs i) (en : as[i]? = none ∨ bs[i]? = none)
    (k : ∀ h', (∀ c o, c ≠ z → c ≠ TO → c ≠ i1 → c ≠ i2 → s.heap.get? c = some o → h'.get? c = some o) → Q none { s with heap := h' }) :
    wpAny (model prog w) A (pyNext (.ref z)) Q E s := by
  obtain ⟨p1, p2, p3, p4, p5, p6⟩ := st
  rcases p6 with ⟨p6, x, y, p7⟩ | ⟨T, f, oT, p6, p7, p8, p9, p10, p11⟩
  · exact RZ.pyNext_zipT_end hh D p6 p1 p7 p2 p3 p4 p5 en k
  · have hT : s.TypeIs (.ref z) "zip" := ⟨_, p6, rfl⟩
    unfold pyNext
    refine wpAny_bind (wpAny_attempt (wpAny_callSpecial?_slot (name := Str.ofString "__next__") hT F.slot_zip_next (wpAny_call_entry F.slot_zip_next hT F.entry_zip_next
      (zth_end hh D p6 p7 p1 p2 p3 p4 p5 en fun h' e kp he => ?_) (F.args_zip_next_1 _))))
    obtain ⟨o, ho, hc⟩ := he
    exact wpAny_bind (wpAny_isInstance (T := "StopIteration") (b := true) ⟨o, ho, hc⟩ isSubtype_stop (wpAny_pure (k _ fun c o q1 _ q3 q4 e => kp c o q1 q3 q4 e)))
end
/-- what has been drawn -/
structure LzG (as bs : Array Value) (lo : Addr) (h : Heap) (cs : List Addr) : Prop where
  rise : cs.Pairwise (· < ·)
  above : ∀ a ∈ cs, lo ≤ a
  pairs : ∀ (j : Nat) (a : Addr), cs[j]? = some a → ∃ u v, as[j]? = some u ∧ bs[j]? = some v ∧ IsPair h a u v
section
variable {prog : Program} {w : World} {A : Around} {E : Value → Shared → Prop} {s : Shared} {R : Result → Shared → Prop} {z TI TO i1 i2 l1 l2 S : Addr} {as bs : Array Value}
theorem lz_loop (hh : A.handled = none) (D : ZipApart z TI TO i1 i2 l1 l2) (S5 : S ≠ z ∧ S ≠ TI ∧ S ≠ TO ∧ S ≠ i1 ∧ S ≠ i2 ∧ S ≠ l1 ∧ S ≠ l2) (lo : Addr) (hlo : S < lo ∧ z < lo ∧ TO < lo ∧ i1 < lo ∧ i2 < lo) (hn : min as.size bs.size ≤ sizeLine) (res : Value) {h₁ : Heap}
    (hR : ∀ h' tk acc c cs, (∀ b o, b ≠ S → b ≠ z → b ≠ TO → b ≠ i1 → b ≠ i2 → h₁.get? b = some o → h'.get? b = some o) → h'.get? S = some { cls := .type "list", dict := none, data := .seq acc c, slots := #[] } → cs.length = min as.size bs.size → LzG as bs lo h' cs →
      acc.toList = cs.map Value.ref → R (.ok (.ret res)) { s with heap := h', toks := tk }) :
    ∀ (k i : Nat) (h : Heap) (tk c : Nat) (acc : Array Value) (cs : List Addr), min as.size bs.size - i = k → i ≤ min as.size bs.size → LzSt h z TI TO i1 i2 l1 l2 S as bs i → (∀ b o, b ≠ S → b ≠ z → b ≠ TO → b ≠ i1 → b ≠ i2 → h₁.get? b = some o → h.get? b = some o) →
      h.get? S = some { cls := .type "list", dict := none, data := .seq acc c, slots := #[] } → acc.toList = cs.map Value.ref → cs.length = i → LzG as bs lo h cs → lo ≤ h.objs.size →
      codeAny (model prog w) A (.builtin "list.extend.loop" ⟨[.ref S, .ref z, res], []⟩) R { s with heap := h, toks := tk } := by
  obtain ⟨q1, q2, q3, q4, q5, q6, q7⟩ := id S5
  obtain ⟨o0, o1, o2, o3, o4⟩ := hlo
  have far : ∀ {a b : Addr}, lo ≤ a → b < lo → a ≠ b := fun h1 h2 e => by rw [e] at h1; exact absurd h2 (Nat.not_lt.mpr h1)
  intro k
  induction k with
  | zero =>
    intro i h tk c acc cs hk hi st kp hS hacc hal hG hsz
    have hin : i = min as.size bs.size := by omega
    refine codeAny_builtin PySem.F.entry_extend_loop ?_
    rw [Around.under_plainId PySem.F.plain_extend_loop _]
    show wpAny _ A.in1 (pyNext (.ref z) >>= _) _ _ _
    have en : as[i]? = none ∨ bs[i]? = none := by
      rcases Nat.le_total as.size bs.size with q | q
      · exact .inl (Array.getElem?_eq_none (by omega))
      · exact .inr (Array.getElem?_eq_none (by omega))
    refine wpAny_bind (lz_done (s := { s with heap := h, toks := tk }) (A := A.in1) hh D st en fun h' he => wpAny_pure (hR h' tk acc c cs ?_ (he S _ q1 q3 q4 q5 hS) (by omega) ⟨hG.rise, hG.above, ?_⟩ hacc))
    · exact fun b o b1 b2 b3 b4 b5 e => he b o b2 b3 b4 b5 (kp b o b1 b2 b3 b4 b5 e)
    · intro j a hj
      obtain ⟨u, v, g1, g2, g3⟩ := hG.pairs j a hj
      have ha := hG.above a (List.mem_of_getElem? hj)
      exact ⟨u, v, g1, g2, he a _ (far ha o1) (far ha o2) (far ha o3) (far ha o4) g3⟩
  | succ k ih =>
    intro i h tk c acc cs hk hi st kp hS hacc hal hG hsz
    have hlt : i < min as.size bs.size := by omega
    have e1 : as[i]? = some as[i] := Array.getElem?_eq_getElem (by omega)
    have e2 : bs[i]? = some bs[i] := Array.getElem?_eq_getElem (by omega)
    have haz : acc.size = i := by rw [← Array.length_toList, hacc, List.length_map, hal]
    refine codeAny_builtin PySem.F.entry_extend_loop ?_
    rw [Around.under_plainId PySem.F.plain_extend_loop _]
    show wpAny _ A.in1 (pyNext (.ref z) >>= _) _ _ _
    refine wpAny_bind (lz_item (s := { s with heap := h, toks := tk }) (S := S) D S5 (Heap.lt_size hS) st e1 e2 fun h' st' hp hz kk => ?_)
    dsimp only at hp hz kk ⊢
    have hS' := kk S _ q1 q3 q4 q5 hS
    have up : ∀ b o, b ≠ S → h'.get? b = some o → (h'.update S (Obj.mapSeq (·.push (Value.ref h.objs.size)))).get? b = some o := fun b o hb e => (Heap.get?_update_other _ _ (Ne.symm hb)).trans e
    have hSl : S < h.objs.size := Heap.lt_size hS
    have hpu : IsPair (h'.update S (Obj.mapSeq (·.push (Value.ref h.objs.size)))) h.objs.size as[i] bs[i] := up _ _ (Nat.ne_of_gt hSl) hp
    show wpAny _ A.in1 (updateSeq S (·.push (Value.ref h.objs.size)) >>= _) _ _ _
    refine wpAny_bind (wpAny_updateSeq hS' rfl (wpAny_pure ⟨plainId_quiet PySem.F.plain_extend_loop _, ih (i + 1) _ tk _ (acc.push (Value.ref h.objs.size)) (cs ++ [h.objs.size]) (by omega) hlt (st'.keep S5 up)
      (fun b o b1 b2 b3 b4 b5 e => up b o b1 (kk b o b2 b3 b4 b5 (kp b o b1 b2 b3 b4 b5 e))) (Heap.get?_update_self _ hS' rfl) (by rw [Array.toList_push, hacc, List.map_append]; rfl) (by rw [List.length_append, hal]; rfl) ⟨?_, ?_, ?_⟩ ?_⟩) (by rw [haz]; omega) (by show (acc.push (Value.ref h.objs.size)).size ≤ sizeLine + 1; rw [Array.size_push, haz]; omega))
    · refine List.pairwise_append.mpr ⟨hG.rise, List.pairwise_singleton _ _, fun a ha b hb => ?_⟩
      rw [List.mem_singleton.mp hb]
      obtain ⟨j, hj⟩ := List.mem_iff_getElem?.mp ha
      obtain ⟨_, _, _, _, g⟩ := hG.pairs j a hj
      exact Heap.lt_size g
    · intro a ha
      rcases List.mem_append.mp ha with ha | ha
      · exact hG.above a ha
      · rw [List.mem_singleton.mp ha]; exact hsz
    · intro j b hj
      rcases Nat.lt_trichotomy j cs.length with h1 | h1 | h1
      · rw [List.getElem?_append_left h1] at hj
        obtain ⟨u, v, g1, g2, g3⟩ := hG.pairs j b hj
        have ha := hG.above b (List.mem_of_getElem? hj)
        exact ⟨u, v, g1, g2, up b _ (far ha o0) (kk b _ (far ha o1) (far ha o2) (far ha o3) (far ha o4) g3)⟩
      · subst h1
        have hb : h.objs.size = b := by simpa using hj
        subst hb
        exact ⟨_, _, by rw [hal]; exact e1, by rw [hal]; exact e2, hpu⟩
      · rw [List.getElem?_eq_none (by rw [List.length_append, List.length_singleton]; omega)] at hj; cases hj
    · exact Nat.le_trans hsz (Nat.le_of_lt (Heap.lt_size hpu))
theorem zip_len_none : typeLookup (.type "zip") "__len__" = pure none := am_miss_of_fast (by decide +kernel)
theorem zip_hint_none : typeLookup (.type "zip") "__length_hint__" = pure none := am_miss_of_fast (by decide +kernel)
theorem zip_hint {r : Addr} (hT : s.TypeIs (.ref r) "zip") {Q : Bool → Shared → Prop} (h : Q true s) : wpAny (model prog w) A (Builtin.List.listLengthHint (.ref r)) Q E s := by
  unfold Builtin.List.listLengthHint
  refine wpAny_bind (wpAny_specialOf hT zip_len_none ?_)
  dsimp only
  refine wpAny_ite_split (fun hab => absurd hab (by decide)) (fun _ => ?_)
  refine wpAny_ite_split (fun hab => absurd hab (by decide)) (fun _ => ?_)
  exact wpAny_bind (wpAny_specialOf hT zip_hint_none (wpAny_pure h))
theorem lz_extend (hh : A.handled = none) (D : ZipApart z TI TO i1 i2 l1 l2) (S5 : S ≠ z ∧ S ≠ TI ∧ S ≠ TO ∧ S ≠ i1 ∧ S ≠ i2 ∧ S ≠ l1 ∧ S ≠ l2) (hlo : z < S ∧ TO < S ∧ i1 < S ∧ i2 < S)
    (zz : IsZip s.heap z TI TO .none) (st : LzSt s.heap z TI TO i1 i2 l1 l2 S as bs 0) (res : Value) (c₀ : Nat) (hS : s.heap.get? S = some { cls := .type "list", data := .seq #[] c₀ })
    (hR : ∀ h' tk acc c cs, (∀ b o, b ≠ S → b ≠ z → b ≠ TO → b ≠ i1 → b ≠ i2 → s.heap.get? b = some o → h'.get? b = some o) → h'.get? S = some { cls := .type "list", dict := none, data := .seq acc c, slots := #[] } → cs.length = min as.size bs.size → LzG as bs (S + 1) h' cs →
      acc.toList = cs.map Value.ref → R (.ok (.ret res)) { s with heap := h', toks := tk }) (hn : min as.size bs.size ≤ sizeLine) :
    wpAny (model prog w) A.in1 (Builtin.List.listExtendWith (.ref S) (.ref z) res)
      (fun r s' => match r with | .done f => R (.ok f) s' | .again c' => c'.quiet = true ∧ codeAny (model prog w) A c' R s') (fun e s' => R (.error e) s') s := by
  have lt : ∀ {a : Nat}, a < S → a < S + 1 := fun h => by omega
  have key : ∀ (h : Heap) (c₁ tk : Nat), (∀ b o, b ≠ S → s.heap.get? b = some o → h.get? b = some o) → h.get? S = some { cls := .type "list", data := .seq #[] c₁ } → codeAny (model prog w) A (.builtin "list.extend.loop" ⟨[.ref S, .ref z, res], []⟩) R { s with heap := h, toks := tk } := by
    intro h c₁ tk hk hS₁
    exact lz_loop (s := s) (h₁ := s.heap) hh D S5 (S + 1) ⟨Nat.lt_succ_self _, lt hlo.1, lt hlo.2.1, lt hlo.2.2.1, lt hlo.2.2.2⟩ hn res hR (min as.size bs.size) 0 h tk c₁ #[] [] (Nat.sub_zero _) (Nat.zero_le _) (st.keep S5 hk)
      (fun b o hb _ _ _ _ e => hk b o hb e) hS₁ rfl rfl ⟨List.Pairwise.nil, (fun _ ha => nomatch ha), (fun j a hj => by simp at hj)⟩ (Heap.lt_size hS₁)
  unfold Builtin.List.listExtendWith
  refine wpAny_bind (wpAny_typeOf (T := "zip") ⟨_, zz, rfl⟩ ?_)
  have h1 : Builtin.List.listSameRef (.ref S) (.ref z) = false := by simp [Builtin.List.listSameRef, S5.1]
  have h2 : (Value.type "zip" == Value.type "list") = false := by decide
  have h3 : (Value.type "zip" == Value.type "tuple") = false := by decide
  simp only [h1, h2, h3, Bool.false_eq_true, Bool.or_false, if_false]
  refine wpAny_bind (wpAny_pyIter_zip zz ?_)
  refine wpAny_bind (wpAny_holding (zip_hint ⟨_, zz, rfl⟩ ?_))
  refine wpAny_ite_split (fun _ => ?_) (fun _ => wpAny_pure ⟨plainId_quiet PySem.F.plain_extend_loop _, key _ c₀ _ (fun b o _ e => e) hS⟩)
  refine wpAny_bind (wpAny_rule (wpAny_bind ?_))
  show wpAny _ _ (updateSeq S (·.push .none) >>= fun _ => updateSeq S (·.pop)) _ _ _
  refine wpAny_bind (wpAny_updateSeq hS rfl ?_)
  have hS₂ := Heap.get?_update_self (Obj.mapSeq (·.push Value.none)) hS rfl
  refine wpAny_updateSeq (hz := by seq_fits) hS₂ rfl ?_
  have hS₃ := Heap.get?_update_self (Obj.mapSeq (·.pop)) hS₂ rfl
  exact wpAny_pure ⟨plainId_quiet PySem.F.plain_extend_loop _, key _ _ _ (fun b o hb e => (Heap.get?_update_other _ _ (Ne.symm hb)).trans ((Heap.get?_update_other _ _ (Ne.symm hb)).trans e)) hS₃⟩
theorem lz_init (hh : A.handled = none) (D : ZipApart z TI TO i1 i2 l1 l2) (S5 : S ≠ z ∧ S ≠ TI ∧ S ≠ TO ∧ S ≠ i1 ∧ S ≠ i2 ∧ S ≠ l1 ∧ S ≠ l2) (hlo : z < S ∧ TO < S ∧ i1 < S ∧ i2 < S)
    (zz : IsZip s.heap z TI TO .none) (st : LzSt s.heap z TI TO i1 i2 l1 l2 S as bs 0) (hS : s.heap.get? S = some { cls := .type "list", data := .seq #[] })
    (hR : ∀ h' tk acc c cs, (∀ b o, b ≠ S → b ≠ z → b ≠ TO → b ≠ i1 → b ≠ i2 → s.heap.get? b = some o → h'.get? b = some o) → h'.get? S = some { cls := .type "list", dict := none, data := .seq acc c, slots := #[] } → cs.length = min as.size bs.size → LzG as bs (S + 1) h' cs →
      acc.toList = cs.map Value.ref → R (.ok (.ret .none)) { s with heap := h', toks := tk }) (hn : min as.size bs.size ≤ sizeLine) :
    wpAny (model prog w) A.in1 (Builtin.«list.__init__» ⟨[.ref S, .ref z], []⟩)
      (fun r s' => match r with | .done f => R (.ok f) s' | .again c' => c'.quiet = true ∧ codeAny (model prog w) A c' R s') (fun e s' => R (.error e) s') s := by
  show wpAny _ _ (do let old ← Builtin.List.listItems (.ref S); Builtin.List.listUpdate (.ref S) (fun _ => #[]); letGo old.toList.reverse; Builtin.List.listExtendWith (.ref S) (.ref z) .none) _ _ s
  refine wpAny_bind ?_
  unfold Builtin.List.listItems
  refine wpAny_bind (wpAny_seqItems hS rfl (wpAny_pure ?_))
  show wpAny _ _ (updateSeq S (fun _ => #[]) >>= fun _ => letGo (#[] : Array Value).toList.reverse >>= fun _ => Builtin.List.listExtendWith (.ref S) (.ref z) .none) _ _ s
  refine wpAny_bind (wpAny_updateSeq hS rfl ?_)
  have hS₂ := Heap.get?_update_self (Obj.mapSeq (fun _ => (#[] : Array Value))) hS rfl
  have up : ∀ b o, b ≠ S → s.heap.get? b = some o → (s.heap.update S (Obj.mapSeq (fun _ => (#[] : Array Value)))).get? b = some o := fun b o hb e => (Heap.get?_update_other _ _ (Ne.symm hb)).trans e
  refine wpAny_bind (wpAny_letGo (lz_extend hh D S5 hlo (up _ _ S5.1.symm zz) (st.keep S5 up) .none _ hS₂ (fun h' tk acc c cs hk => hR h' tk acc c cs fun b o b1 b2 b3 b4 b5 e => hk b o b1 b2 b3 b4 b5 (up b o b1 e)) hn))
theorem lz_call {Q : Value → Shared → Prop} (hh : A.handled = none) (D : ZipApart z TI TO i1 i2 l1 l2) (zz : IsZip s.heap z TI TO .none) (ti : IsPair s.heap TI (.ref i1) (.ref i2)) {x y : Value} (tO : IsPair s.heap TO x y)
    (a1 : s.heap.IsTupleIter i1 l1 0) (a2 : s.heap.IsTupleIter i2 l2 0) (b1 : s.heap.IsTuple l1 as) (b2 : s.heap.IsTuple l2 bs) (hn : min as.size bs.size ≤ sizeLine)
    (hQ : ∀ h' tk acc c cs, (∀ b o, b ≠ z → b ≠ TO → b ≠ i1 → b ≠ i2 → s.heap.get? b = some o → h'.get? b = some o) → h'.get? s.heap.objs.size = some { cls := .type "list", dict := none, data := .seq acc c, slots := #[] } → cs.length = min as.size bs.size → LzG as bs (s.heap.objs.size + 1) h' cs →
      acc.toList = cs.map Value.ref → Q (.ref s.heap.objs.size) { s with heap := h', toks := tk }) :
    wpAny (model prog w) A (call (.type "list") [.ref z]) Q E s := by
  refine callType_codes (Q₁ := fun obj s₁ => obj = .ref s.heap.objs.size ∧ s₁ = { s with heap := s.heap.push { cls := .type "list", data := .seq #[] } }) PySem.F.called_list (PySem.F.typeCall_list_1 _) PySem.F.entry_list_init
    (code_list_new _ ⟨rfl, rfl⟩) fun obj s₁ h₁ => ?_
  obtain ⟨rfl, rfl⟩ := h₁
  have hS : (s.heap.push { cls := .type "list", data := .seq #[] }).get? s.heap.objs.size = some { cls := .type "list", data := .seq #[] } := Heap.get?_push_size _ rfl
  have l4 : ∀ {a : Addr} {o : Obj}, s.heap.get? a = some o → a < s.heap.objs.size := fun h => Heap.lt_size h
  have m1 : i1 < s.heap.objs.size := by obtain ⟨o, h, _⟩ := a1; exact l4 h
  have m2 : i2 < s.heap.objs.size := by obtain ⟨o, h, _⟩ := a2; exact l4 h
  have m3 : l1 < s.heap.objs.size := by obtain ⟨o, h, _⟩ := b1; exact l4 h
  have m4 : l2 < s.heap.objs.size := by obtain ⟨o, h, _⟩ := b2; exact l4 h
  have S5 : s.heap.objs.size ≠ z ∧ s.heap.objs.size ≠ TI ∧ s.heap.objs.size ≠ TO ∧ s.heap.objs.size ≠ i1 ∧ s.heap.objs.size ≠ i2 ∧ s.heap.objs.size ≠ l1 ∧ s.heap.objs.size ≠ l2 :=
    ⟨Nat.ne_of_gt (l4 zz), Nat.ne_of_gt (l4 ti), Nat.ne_of_gt (l4 tO), Nat.ne_of_gt m1, Nat.ne_of_gt m2, Nat.ne_of_gt m3, Nat.ne_of_gt m4⟩
  have pu : ∀ {a : Addr} {o : Obj}, s.heap.get? a = some o → (s.heap.push { cls := .type "list", data := .seq #[] }).get? a = some o := fun h => Heap.get?_push_of_some _ h
  refine ⟨⟨_, hS, rfl⟩, PySem.F.args_list_init_2 _ _, lz_init (A := A.in1) hh D S5 ⟨l4 zz, l4 tO, m1, m2⟩ (pu zz) ⟨pu ti, a1.at fun o e => pu e, a2.at fun o e => pu e, b1.at fun o e => pu e, b2.at fun o e => pu e, .inl ⟨pu zz, x, y, pu tO⟩⟩ hS (fun h' tk acc c cs hk hS' hl hG hacc => ?_) hn⟩
  exact ⟨rfl, hQ h' tk acc c cs (fun b o b2 b3 b4 b5 e => hk b o (Nat.ne_of_lt (Heap.lt_size e)) b2 b3 b4 b5 (pu e)) hS' hl hG hacc⟩
end
section
variable {X : Cx} {pins : List (Addr × Obj)} {σ : L2.St} {H Hx : Hp} {s : Shared} {h' : Heap}
/-- several new objects laid and tracked -/
theorem inv_more {t' : Nat} (I : Inv X pins σ H s) (k : ∀ b u, s.heap.get? b = some u → h'.get? b = some u) (ext : ∀ b u, H b = some u → Hx b = some u)
    (nw : ∀ b u, H b = none → Hx b = some u → s.heap.objs.size ≤ b ∧ ObjOk X.prog X.w Hx h' b u) : Inv X pins σ Hx { s with heap := h', toks := t' } := by
  refine I.un ⟨fun b u q _ _ _ => k b u q, fun b u q _ _ _ => ⟨u.slots, k b u q⟩, fun b u q n _ => ?_, fun b u q _ => ⟨u, k b u q⟩, fun b xs q => ext b _ q, fun b u xs q => ext b _ q, fun b ps q => ⟨#[], by rw [ext b _ q]; simp⟩⟩ fun b u e => ?_
  · cases e : Hx b with
    | none => rfl
    | some o => exact absurd (nw b o n e).1 (Nat.not_le.mpr (Heap.lt_size q))
  · cases q : H b with
    | none => exact (nw b u q e).2
    | some o =>
      have := ext b o q
      rw [e] at this
      cases this
      exact (I.hok b u q).stay (fun c v _ z => k c v z) (fun c z => ext c _ z) fun c xs z => ext c _ z
/-- list(zip(a, b)), a and b tuples: the new pairs at cs -/
def tLz (ta tb : TE) (K : PySem.W.Frag) : TE := fun σ H Q => ta σ H fun x H1 => tb σ H1 fun y H2 => ∃ a b xs ys, x = .ref a ∧ y = .ref b ∧ SqT K H2 a xs ∧ SqT K H2 b ys ∧
  ∀ (Hx : Hp) (S : Addr) (cs : List Addr), (∀ c u, H2 c = some u → Hx c = some u) → H2 S = none → Hx S = some (.lst (cs.map V.ref)) → cs.length = min xs.length ys.length →
    (∀ (j : Nat) (c : Addr) (u v : V), cs[j]? = some c → xs[j]? = some u → ys[j]? = some v → Hx c = some (.tup [u, v]) ∧ H2 c = none ∧ c ≠ S) → Q (.ref S) Hx
theorem pe_lz {a b : Expr} {ta tb : TE} {p1 p2 p3 p4 : Pos} (ha : PE X a ta) (hb : PE X b tb) (hc : X.calm = true) (g1 : Gl X "list") (m1 : X.mg "list" = none) (g2 : Gl X "zip") (m2 : X.mg "zip" = none)
    (na : starEach [a, b] X.env = (false, eval a X.env) :: starEach [b] X.env) (nb : starEach [b] X.env = (false, eval b X.env) :: starEach [] X.env) :
    PE X (.Call (.Name "list" p1) [.Call (.Name "zip" p2) [a, b] [] p3] [] p4) (tLz ta tb X.K) := by
  refine ⟨fun pins s σ H Q I h => ?_⟩
  refine Call_ (ld_blt I g1 m1 boot_list (PyProof.Rows.callWith_type1 (args_cons (Call_ (ld_blt I g2 m2 PyProof.Rows.boot_zip (PyProof.Rows.callWith_type1 (args_cons (thn (ha.run pins s σ H _ I h) fun v s1 ⟨x, H1, I1, r1, q1⟩ =>
    one_arg hb I1 q1 (fun u s2 y H2 I2 r2 q => ?_) nb) na) na (by rw [nb]; rfl)))) rfl) rfl rfl))
  obtain ⟨c, d, xs, ys, rfl, rfl, hx, hy, q⟩ := q
  cases r1
  cases r2
  obtain ⟨its, rv, pt, hz⟩ := I2.tuple hx
  obtain ⟨its2, rv2, pt2, hz2⟩ := I2.tuple hy
  obtain ⟨o1, ho1, _⟩ := id pt
  obtain ⟨o2, ho2, _⟩ := id pt2
  refine RZ.call_zipT (show s2.heap.IsTuple c its.toArray from pt) (show s2.heap.IsTuple d its2.toArray from pt2) fun h1 hz hTI hTO i1 i2 hsz hk => args_nil ?_
  have up : ∀ {a : Addr} {as : Array Value}, s2.heap.IsTuple a as → h1.IsTuple a as := fun h => h.at fun o e => hk _ o e
  have l1 := rv.length
  have l2 := rv2.length
  refine lz_call (s := { s2 with heap := h1 }) (I2.ok.hd hc) (PySem.W.ktu_apart s2.heap.objs.size c d (Heap.lt_size ho1) (Heap.lt_size ho2)) hz hTI hTO i1 i2 (up pt) (up pt2) (by simp only [List.size_toArray]; omega) fun h2 tk acc n cs hk2 hS hl hG hacc => ?_
  simp only [List.size_toArray] at hl
  rw [← l1, ← l2] at hl
  have k2 : ∀ b o, s2.heap.get? b = some o → h2.get? b = some o := fun b o e => by
    have hb := Heap.lt_size e
    have ne : ∀ j : Nat, b ≠ s2.heap.objs.size + j := fun j z => by have hb : b < s2.heap.objs.size := hb; rw [z] at hb; exact absurd hb (by simp)
    exact hk2 b o (ne 4) (ne 3) (ne 0) (ne 1) (hk b o e)
  let S : Addr := h1.objs.size
  have S' : S = s2.heap.objs.size + 5 := hsz
  have ab : ∀ e ∈ cs, s2.heap.objs.size < e ∧ e ≠ S := fun e he => by
    have q : S + 1 ≤ e := hG.above e he
    have q1 : (s2.heap.objs.size : Nat) + 5 + 1 ≤ e := by rw [S'] at q; exact q
    refine ⟨Nat.lt_of_lt_of_le (by omega) q1, fun z => ?_⟩
    rw [z] at q
    exact absurd q (Nat.not_succ_le_self _)
  let Hx : Hp := fun e => if e = S then some (.lst (cs.map V.ref)) else match cs.idxOf? e with
    | some j => (match xs[j]?, ys[j]? with
      | some u, some v => some (.tup [u, v])
      | _, _ => H2 e)
    | none => H2 e
  have fr : ∀ e, s2.heap.objs.size ≤ e → H2 e = none := fun e h => I2.hok.fresh h
  have ext : ∀ e u, H2 e = some u → Hx e = some u := fun e u h => by
    have hlt : ¬ s2.heap.objs.size ≤ e := fun q => by rw [fr e q] at h; cases h
    have n1 : e ≠ S := fun z => hlt (by rw [z, S']; exact Nat.le_add_right _ _)
    have n2 : cs.idxOf? e = none := by
      rw [List.idxOf?_eq_none_iff]
      exact fun z => hlt (Nat.le_of_lt (ab e z).1)
    show (if e = S then _ else match cs.idxOf? e with | some j => _ | none => H2 e) = _
    rw [if_neg n1, n2]
    exact h
  have atc : ∀ (j : Nat) (e : Addr) (u v : V), cs[j]? = some e → xs[j]? = some u → ys[j]? = some v → Hx e = some (.tup [u, v]) := fun j e u v h1 h2 h3 => by
    have he : e ∈ cs := List.mem_of_getElem? h1
    have n2 : cs.idxOf? e = some j := by
      rw [List.idxOf?_eq_some_iff]
      obtain ⟨hj, ej⟩ := List.getElem?_eq_some_iff.mp h1
      refine ⟨hj, ej, fun i hi => ?_⟩
      have := List.pairwise_iff_getElem.mp hG.rise i j (by omega) hj hi
      rw [ej] at this
      exact Nat.ne_of_lt this
    show (if e = S then _ else match cs.idxOf? e with | some j => _ | none => H2 e) = _
    rw [if_neg (ab e he).2, n2]
    show (match xs[j]?, ys[j]? with | some u, some v => _ | _, _ => _) = _
    rw [h2, h3]
  refine ⟨.ref S, Hx, inv_more (s := s2) (t' := tk) I2 k2 ext fun e u hn he => ?_, rfl, q Hx S cs ext (fr S (by rw [S']; exact Nat.le_add_right _ _)) (if_pos rfl) hl fun j e u v h1 h2 h3 => ⟨atc j e u v h1 h2 h3, fr e (Nat.le_of_lt (ab e (List.mem_of_getElem? h1)).1), (ab e (List.mem_of_getElem? h1)).2⟩⟩
  by_cases z : e = S
  · subst z
    have : u = .lst (cs.map V.ref) := by
      have q : Hx S = some (.lst (cs.map V.ref)) := if_pos rfl
      rw [q] at he; exact (Option.some.inj he).symm
    subst this
    refine ⟨by rw [S']; exact Nat.le_add_right _ _, ?_, acc.toList, n, ?_, ?_⟩
    · rw [List.length_map, hl]; omega
    · rw [hacc]; exact vals_refs cs
    · rw [Array.toArray_toList]; exact hS
  · have he' : (match cs.idxOf? e with | some j => (match xs[j]?, ys[j]? with | some u, some v => some (HO.tup [u, v]) | _, _ => H2 e) | none => H2 e) = some u := by
      have q : Hx e = _ := if_neg z
      rw [← q]; exact he
    cases hj : cs.idxOf? e with
    | none => rw [hj] at he'; rw [hn] at he'; cases he'
    | some j =>
      rw [hj] at he'
      obtain ⟨hjl, ej, _⟩ := List.idxOf?_eq_some_iff.mp hj
      have hm : e ∈ cs := by rw [← ej]; exact List.getElem_mem hjl
      obtain ⟨u1, v1, g1, g2, g3⟩ := hG.pairs j e (by rw [List.getElem?_eq_getElem hjl, ej])
      have hx1 : xs[j]? = some xs[j] := List.getElem?_eq_getElem (by omega)
      have hy1 : ys[j]? = some ys[j] := List.getElem?_eq_getElem (by omega)
      dsimp only at he'
      rw [hx1, hy1] at he'
      cases he'
      obtain ⟨w1, f1, rr1⟩ := rv.get hx1
      obtain ⟨w2, f2, rr2⟩ := rv2.get hy1
      have g1' : its[j]? = some u1 := by simpa using g1
      have g2' : its2[j]? = some v1 := by simpa using g2
      rw [f1] at g1'
      rw [f2] at g2'
      cases g1'
      cases g2'
      exact ⟨Nat.le_of_lt (ab e hm).1, by show 2 ≤ sizeLine; decide, [_, _], .cons rr1 (.cons rr2 .nil), ⟨_, g3, rfl, _, rfl⟩⟩
end
end PL
end
section
set_option linter.all false
set_option maxRecDepth 100000
set_option maxHeartbeats 2000000
set_option autoImplicit false
namespace PL
open PySem PySem.Spec PyProof.Rows L2
theorem meets_enumT (a : Addr) (its : Array Value) :
    Meets (Builtin.«enumerate.__new__» ⟨[.type "enumerate", .ref a], []⟩) (fun _ R s => s.heap.IsTuple a its ∧
      R (.ok (.ret (.ref (s.heap.push { cls := .type "tuple_iterator", data := .fields #[.ref a, .int 0 0] }).objs.size)))
        { s with heap := (s.heap.push { cls := .type "tuple_iterator", data := .fields #[.ref a, .int 0 0] }).push { cls := .type "enumerate", data := .fields #[.none, .bool false, .ref s.heap.objs.size, rawInt 0, .none, .none] } }) :=
  .of_wp fun prog w A R s h => by
    obtain ⟨hp, g, d, tk, os⟩ := s
    obtain ⟨h1, h⟩ := h
    have hsub := sub_enumerate
    have h1 : Heap.IsTuple (Shared.heap ⟨hp, g, d, tk, os⟩) a its := h1
    wp_walk using wpAny_pyIter_tuple h1
    refine wpAny_stack_any fun st => wpAny_pure ?_
    split
    · rename_i c _ _ _ _ _
      cases (c == Value.type "enumerate")
      · wp_walk using wpAny_pyIter_tuple h1
        exact ⟨_, rfl, h⟩
      · wp_walk using wpAny_pyIter_tuple h1
        exact ⟨_, rfl, h⟩
    · wp_walk using wpAny_pyIter_tuple h1
      exact ⟨_, rfl, h⟩
section
variable {prog : Program} {w : World} {A : Around} {E : Value → Shared → Prop} {s : Shared}
theorem call_enumT {a : Addr} {its : Array Value} {Q : Value → Shared → Prop} (h1 : s.heap.IsTuple a its)
    (h : ∀ h', IsEnum h' (s.heap.objs.size + 1) s.heap.objs.size 0 .none → h'.IsTupleIter s.heap.objs.size a 0 → (∀ b o, s.heap.get? b = some o → h'.get? b = some o) → Q (.ref (s.heap.objs.size + 1)) { s with heap := h' }) :
    wpAny (model prog w) A (call (.type "enumerate") [.ref a]) Q E s := by
  refine callType_new F.called_enumerate (by decide) (F.typeCall_enumerate_1 _) (F.newCall_enumerate_1 _) (fun obj => F.args_object_init_2 obj _) F.entry_enumerate_new (meets_enumT a its) ⟨h1, ?_⟩
  have hz : (s.heap.push { cls := .type "tuple_iterator", data := .fields #[.ref a, .int 0 0] }).objs.size = s.heap.objs.size + 1 := Heap.size_push ..
  show _ ∧ _
  rw [hz]
  have he : IsEnum ((s.heap.push { cls := .type "tuple_iterator", data := .fields #[.ref a, .int 0 0] }).push { cls := .type "enumerate", data := .fields #[.none, .bool false, .ref s.heap.objs.size, rawInt 0, .none, .none] }) (s.heap.objs.size + 1) s.heap.objs.size 0 .none := by
    have := Heap.get?_push_size (s.heap.push { cls := .type "tuple_iterator", data := .fields #[.ref a, .int 0 0] }) (o := { cls := .type "enumerate", data := .fields #[.none, .bool false, .ref s.heap.objs.size, rawInt 0, .none, .none] }) rfl
    rw [hz] at this; exact this
  exact ⟨⟨_, he, rfl⟩, h _ he ⟨_, Heap.get?_push_of_some _ (Heap.get?_push_size _ rfl), rfl, rfl⟩ fun b o x => Heap.get?_push_of_some _ (Heap.get?_push_of_some _ x)⟩
end
def IteT (K : PySem.W.Frag) (a : Addr) : It :=
  ⟨fun i H => ∃ (xs : List V) (x : V), SqT K H a xs ∧ xs[i]? = some x, fun i H v H' => ∃ T x, v = .ref T ∧ H T = none ∧ H' = upd H T (.tup [.int (i : Nat), x]) ∧ ∀ xs, SqT K H a xs → xs[i]? = some x, fun i H => ∃ xs : List V, SqT K H a xs ∧ xs.length ≤ i⟩
theorem turn_enumT {P : Program} {w : World} {K : PySem.W.Frag} {elts : List Expr} {kk : Nat} {tpos : Pos} (a e it : Addr) :
    Turn P w K (.Tuple elts kk tpos) (IteT K a) [e, it] e (fun i h => (∃ old, IsEnum h e it ((i : Nat) : Int) old) ∧ h.IsTupleIter it a i ∧ e ≠ it ∧ a ≠ e ∧ a ≠ it) where
  mem := by simp
  obj := fun i h st b hb => by
    obtain ⟨⟨old, he⟩, ⟨o, ho, hc, hd⟩, _⟩ := st
    rcases (show b = e ∨ b = it by simpa using hb) with z | z
    · rw [z]; exact ⟨_, he, fun v q => nomatch q⟩
    · rw [z]; exact ⟨o, ho, fun v q => by rw [hd] at q; cases q⟩
  keep := fun i h h' st k => let ⟨⟨old, he⟩, hi, hne⟩ := st; ⟨⟨old, k e (by simp) _ he⟩, hi.at fun o q => k it (by simp) o q, hne⟩
  item := by
    intro X hP hw hK hc i pins s σ H E I hf st hg
    subst hP hw hK
    obtain ⟨⟨old, he⟩, hit, hne, hae, hai⟩ := st
    obtain ⟨xs, x, hq, hx⟩ := hg
    obtain ⟨its, rv, p, hz⟩ := I.tuple hq
    obtain ⟨u, hu, ru⟩ := rv.get hx
    have hel : e < s.heap.objs.size := Heap.lt_size he
    have hil : it < s.heap.objs.size := by obtain ⟨_, q, _⟩ := hit; exact Heap.lt_size q
    have hlt : i < its.toArray.size := by
      have := (List.getElem?_eq_some_iff.mp hu).1
      simpa using this
    have hd1 : X.A.in1.handled = none := I.ok.hd hc
    refine wpAny_pyNext_enum_itemD (Draws.tuple (A := X.A.in1) hd1 it a hai its.toArray) he ⟨hit, p⟩ hlt hne (by simp [hne, Ne.symm hae]) fun y h' tk hy ho st' hT hsz hk => ?_
    have ey : y = u := by
      have hy : its.toArray[i]? = some y := hy
      rw [List.getElem?_toArray, hu] at hy
      exact (Option.some.inj hy).symm
    subst ey
    refine ⟨_, rfl, wpAny_letOwnedTupleGo_enum (s := { s with heap := h', toks := tk + 1 }) ho fun h2 he2 sb => ?_⟩
    have hT2 : h2.get? s.heap.objs.size = some { cls := .type "tuple", data := .seq #[.int i tk, y] } := (sb.2 _ (Nat.ne_of_gt hel)).trans hT
    have new : ObjOk X.prog X.w (upd H s.heap.objs.size (.tup [.int (i : Nat), x])) h2 s.heap.objs.size (.tup [.int (i : Nat), x]) :=
      ⟨by show 2 ≤ sizeLine; decide, [.int i tk, y], .cons ⟨_, rfl⟩ (.cons ru .nil), ⟨_, hT2, rfl, _, rfl⟩⟩
    have I1 : Inv X pins σ (upd H s.heap.objs.size (.tup [.int (i : Nat), x])) { s with heap := h2, toks := tk + 1 } :=
      I.turnedNew (ch := [e, it]) (fun b ob hb q => (sb.2 b (fun z => hb (by simp [z]))).trans (hk b ob (fun z => hb (by simp [z])) (fun z => hb (by simp [z])) q)) hf (Nat.le_refl _) new
    refine ⟨.ref s.heap.objs.size, _, I1, rfl, ⟨_, x, rfl, I.hok.fresh (Nat.le_refl _), rfl, fun ys hy => by rw [I.tuple_inj hy hq]; exact hx⟩, ⟨⟨y, ?_⟩, st'.1.at fun o q => (sb.2 it (Ne.symm hne)).trans q, hne, hae, hai⟩, fun b hb => ?_⟩
    · rw [show ((i + 1 : Nat) : Int) = (i : Int) + 1 by omega]; exact he2
    · have hb' : b < s.heap.objs.size := by
        rcases (show b = e ∨ b = it by simpa using hb) with z | z
        · rw [z]; exact hel
        · rw [z]; exact hil
      rw [upd_ne (Nat.ne_of_lt hb')]
      exact (hf b hb).1
  done := by
    intro X hP hw hK hc i pins s σ H E I hf st hg
    subst hP hw hK
    obtain ⟨⟨old, he⟩, hit, hne, hae, hai⟩ := st
    obtain ⟨xs, hq, hx⟩ := hg
    obtain ⟨its, rv, p, hz⟩ := I.tuple hq
    obtain ⟨f0, f1, f2, f3, f4, f5⟩ := hf it (by simp)
    have hl := rv.length
    have en : its.toArray[i]? = none := by simp; omega
    have hT : s.TypeIs (.ref e) "enumerate" := ⟨_, he, rfl⟩
    unfold pyNext
    refine wpAny_bind (wpAny_attempt (wpAny_callSpecial?_slot (name := Str.ofString "__next__") hT F.slot_enumerate_next (wpAny_call_entry F.slot_enumerate_next hT F.entry_enumerate_next ?_ (F.args_enumerate_next_1 _))))
    show wpAny _ _ (field (.ref e) 2 >>= _) _ _ _
    refine wpAny_bind (wpAny_field he rfl (x := .ref it) rfl (wpAny_bind (RZ.nextOf_tuple_end (I.ok.hd hc) hit p en fun h' x hx' hx2 => ?_)))
    obtain ⟨o, ho, hcl⟩ := hx2
    exact wpAny_bind (wpAny_isInstance (T := "StopIteration") (b := true) ⟨o, ho, hcl⟩ isSubtype_stop (wpAny_pure ⟨rfl, I.turned (t' := s.toks) (fun b o hb q => hx' b o hb q) f0 f1 f3 f4 f5⟩))
  self := fun A i s Q E st h => let ⟨⟨_, he⟩, _⟩ := st; wpAny_pyIter_enum he h
/-- enumerate of a list or a tuple -/
def iEnumA (K : PySem.W.Frag) (ta : TA) : TI := fun σ H R => ta σ H fun vs H1 => ∃ a xs, vs = [.ref a] ∧ ((SqL K H1 a xs ∧ R (Ite K a) H1) ∨ (SqT K H1 a xs ∧ R (IteT K a) H1))
theorem pi_enumA {X : Cx} {e : Expr} {ta : TA} {p pos tpos : Pos} {elts : List Expr} {kk : Nat} (hg : Gl X "enumerate") (hm : X.mg "enumerate" = none) (ha : PA X [e] ta) (hs : starEach [e] X.env = [(false, eval e X.env)]) :
    PI X (.Tuple elts kk tpos) (.Call (.Name "enumerate" p) [e] [] pos) (iEnumA X.K ta) := by
  refine ⟨fun pins s σ H R I h => ?_⟩
  refine Call_ (ld_blt I hg hm boot_enumerate (PyProof.Rows.callWith_type1 (thn (ha.run pos pins s σ H _ I h) fun us s1 ⟨vs, H1, I1, r1, q1⟩ => ?_) hs rfl))
  obtain ⟨a, xs, ex, q1⟩ := q1
  subst ex
  obtain ⟨u, eu, rx⟩ := vals1 r1
  subst eu
  cases (show u = Value.ref a from rx)
  have fr : ∀ c, c ∈ [s1.heap.objs.size + 1, s1.heap.objs.size] → FpOk X pins H1 c := fun c hc => by
    have hle : s1.heap.objs.size ≤ c := by
      rcases (show c = s1.heap.objs.size + 1 ∨ c = s1.heap.objs.size by simpa using hc) with z | z
      · rw [z]; exact Nat.le_add_right _ _
      · rw [z]; exact Nat.le_refl _
    exact I1.fpOk hle (I1.hok.fresh hle)
  rcases q1 with ⟨hq, q⟩ | ⟨hq, q⟩
  · obtain ⟨its, rv, p', hz⟩ := I1.list hq
    refine call_enumerate_list p'.isList fun h' he hit hsz hk => wpAny_pyIter_enum he ?_
    exact ⟨s1.heap.objs.size + 1, [s1.heap.objs.size + 1, s1.heap.objs.size], _, _, H1, rfl, I1.kept (t' := s1.toks) hk, turn_enum a (s1.heap.objs.size + 1) s1.heap.objs.size, ⟨⟨.none, he⟩, hit, Nat.succ_ne_self _⟩, fr, q⟩
  · obtain ⟨its, rv, p', hz⟩ := I1.tuple hq
    obtain ⟨oa, hoa, _⟩ := id p'
    have hal : a < s1.heap.objs.size := Heap.lt_size hoa
    refine call_enumT (show s1.heap.IsTuple a its.toArray from p') fun h' he hit hk => wpAny_pyIter_enum he ?_
    exact ⟨s1.heap.objs.size + 1, [s1.heap.objs.size + 1, s1.heap.objs.size], _, _, H1, rfl, I1.kept (t' := s1.toks) hk, turn_enumT a (s1.heap.objs.size + 1) s1.heap.objs.size,
      ⟨⟨.none, he⟩, hit, Nat.succ_ne_self _, Nat.ne_of_lt (Nat.lt_trans hal (Nat.lt_succ_self _)), Nat.ne_of_lt hal⟩, fr, q⟩
end PL
end
section
set_option linter.all false
set_option maxRecDepth 100000
set_option maxHeartbeats 2000000
set_option autoImplicit false
namespace PL
open PySem PySem.Spec PyProof.Rows L2
section
variable {F : Fr0} {st : Bool}
theorem zipL_get {xs ys : List D} {i : Nat} {d : D} (h : (zipL xs ys)[i]? = some d) : ∃ x y, xs[i]? = some x ∧ ys[i]? = some y ∧ d = .tup [x, y] := by
  unfold zipL at h
  rw [List.getElem?_map] at h
  obtain ⟨p, h1, h2⟩ := Option.map_eq_some_iff.mp h
  rw [List.getElem?_zip_eq_some] at h1
  exact ⟨p.1, p.2, h1.1, h1.2, h2.symm⟩
theorem zipL_len (xs ys : List D) : (zipL xs ys).length = min xs.length ys.length := by
  unfold zipL
  rw [List.length_map, List.length_zip]
theorem enumL_get {xs : List D} {i : Nat} {d : D} (h : (enumL xs)[i]? = some d) : ∃ x, xs[i]? = some x ∧ d = .tup [.int (i : Nat), x] := by
  unfold enumL at h
  rw [List.getElem?_map] at h
  obtain ⟨p, h1, h2⟩ := Option.map_eq_some_iff.mp h
  rw [List.getElem?_zipIdx] at h1
  obtain ⟨x, h3, h4⟩ := Option.map_eq_some_iff.mp h1
  subst h4
  exact ⟨x, h3, by simpa using h2.symm⟩
theorem enumL_len (xs : List D) : (enumL xs).length = xs.length := by
  unfold enumL
  rw [List.length_map, List.length_zipIdx]
/-- a new pair -/
theorem pair_new {μ : List Addr} {oa : Nat → Option Addr} {ds : List Sl} {M : MS} {σ : L2.St} {H : Hp} {T : Addr} {x y : D} {u v : V} (r : Rl F μ oa ds M σ H) (hT : H T = none) (hx : Rep (F.pl μ oa H) x u) (hy : Rep (F.pl μ oa H) y v) :
    EvE μ H μ (upd H T (.tup [u, v])) ∧ Rl F μ oa ds M σ (upd H T (.tup [u, v])) ∧ Rep (F.pl μ oa (upd H T (.tup [u, v]))) (.tup [x, y]) (.ref T) := by
  have e : Evo (F.pl μ oa H) (F.pl μ oa (upd H T (.tup [u, v]))) := evo_upd (p := F.pl μ oa H) hT
  exact ⟨EvE.alloc r hT, r.alloc hT, T, [u, v], rfl, r.notN hT, upd_same, u, [v], rfl, hx.mono e, v, [], rfl, hy.mono e, rfl⟩
theorem walkD_zipL {a b : Addr} {xs ys : List D} {vs ws : List V} : WalkD F st (Itz F.K a b) (zipL xs ys)
    (fun p => ((p.H a = some (.lst vs) ∧ RepL p xs vs) ∧ if st then ¬ p.N a else a ∉ p.μ) ∧ ((p.H b = some (.lst ws) ∧ RepL p ys ws) ∧ if st then ¬ p.N b else b ∉ p.μ)) (fun c => st = false ∧ (c = a ∨ c = b)) where
  go := fun p i g hi => by
    rw [zipL_len] at hi
    obtain ⟨v, h1, _⟩ := g.1.1.2.get (show xs[i]? = some xs[i] by simp)
    obtain ⟨w, h2, _⟩ := g.2.1.2.get (show ys[i]? = some ys[i] by simp)
    exact ⟨vs, ws, v, w, .of g.1.1.1, .of g.2.1.1, h1, h2⟩
  stop := fun p g => ⟨vs, ws, .of g.1.1.1, .of g.2.1.1, by rw [zipL_len, g.1.1.2.length, g.2.1.2.length]; omega⟩
  yld := fun μ oa ds M σ H i d x H' r g hx y => by
    obtain ⟨T, u, v, rfl, hT, rfl, f1, f2⟩ := y
    obtain ⟨dx, dy, g1, g2, rfl⟩ := zipL_get hx
    obtain ⟨u', h1, h2⟩ := g.1.1.2.get g1
    obtain ⟨v', h3, h4⟩ := g.2.1.2.get g2
    have e1 := f1 vs (.of g.1.1.1)
    have e2 := f2 ws (.of g.2.1.1)
    rw [h1] at e1
    rw [h3] at e2
    cases e1
    cases e2
    exact pair_new r hT h2 h4
  adH := fun p c g h => by
    obtain ⟨hs, rfl | rfl⟩ := h
    · subst hs; exact ⟨⟨_, g.1.1.1⟩, by simpa using g.1.2⟩
    · subst hs; exact ⟨⟨_, g.2.1.1⟩, by simpa using g.2.2⟩
  gen := fun p q g e k => by
    cases st with
    | true =>
      have n1 : ¬ p.N a := by simpa using g.1.2
      have n2 : ¬ p.N b := by simpa using g.2.2
      exact ⟨⟨⟨(e.keep a _ g.1.1.1 n1).1, g.1.1.2.mono e⟩, by simpa using (e.keep a _ g.1.1.1 n1).2⟩, ⟨⟨(e.keep b _ g.2.1.1 n2).1, g.2.1.2.mono e⟩, by simpa using (e.keep b _ g.2.1.1 n2).2⟩⟩
    | false =>
      obtain ⟨k1, k2⟩ := k a ⟨rfl, .inl rfl⟩
      obtain ⟨k3, k4⟩ := k b ⟨rfl, .inr rfl⟩
      exact ⟨⟨⟨k1.trans g.1.1.1, g.1.1.2.mono e⟩, by simpa using k2⟩, ⟨⟨k3.trans g.2.1.1, g.2.1.2.mono e⟩, by simpa using k4⟩⟩
  sv := fun h a q => by rw [h] at q; cases q.1
theorem walkD_zipT {a b : Addr} {xs ys : List D} {vs ws : List V} : WalkD F st (RZ.ItzT F.K a b) (zipL xs ys)
    (fun p => ((p.H a = some (.tup vs) ∧ RepL p xs vs) ∧ ¬ p.N a) ∧ ((p.H b = some (.tup ws) ∧ RepL p ys ws) ∧ ¬ p.N b)) (fun _ => False) where
  go := fun p i g hi => by
    rw [zipL_len] at hi
    obtain ⟨v, h1, _⟩ := g.1.1.2.get (show xs[i]? = some xs[i] by simp)
    obtain ⟨w, h2, _⟩ := g.2.1.2.get (show ys[i]? = some ys[i] by simp)
    exact ⟨vs, ws, v, w, .of g.1.1.1, .of g.2.1.1, h1, h2⟩
  stop := fun p g => ⟨vs, ws, .of g.1.1.1, .of g.2.1.1, by rw [zipL_len, g.1.1.2.length, g.2.1.2.length]; omega⟩
  yld := fun μ oa ds M σ H i d x H' r g hx y => by
    obtain ⟨T, u, v, rfl, hT, rfl, f1, f2⟩ := y
    obtain ⟨dx, dy, g1, g2, rfl⟩ := zipL_get hx
    obtain ⟨u', h1, h2⟩ := g.1.1.2.get g1
    obtain ⟨v', h3, h4⟩ := g.2.1.2.get g2
    have e1 := f1 vs (.of g.1.1.1)
    have e2 := f2 ws (.of g.2.1.1)
    rw [h1] at e1
    rw [h3] at e2
    cases e1
    cases e2
    exact pair_new r hT h2 h4
  adH := fun p c g h => h.elim
  gen := fun p q g e k => ⟨⟨⟨(e.keep a _ g.1.1.1 g.1.2).1, g.1.1.2.mono e⟩, (e.keep a _ g.1.1.1 g.1.2).2⟩, ⟨⟨(e.keep b _ g.2.1.1 g.2.2).1, g.2.1.2.mono e⟩, (e.keep b _ g.2.1.1 g.2.2).2⟩⟩
  sv := fun h a q => q
theorem walkD_enumL {a : Addr} {xs : List D} {vs : List V} : WalkD F st (Ite F.K a) (enumL xs) (fun p => (p.H a = some (.lst vs) ∧ RepL p xs vs) ∧ if st then ¬ p.N a else a ∉ p.μ) (fun b => st = false ∧ b = a) where
  go := fun p i g hi => by
    rw [enumL_len] at hi
    obtain ⟨v, h1, _⟩ := g.1.2.get (show xs[i]? = some xs[i] by simp [hi])
    exact ⟨vs, v, .of g.1.1, h1⟩
  stop := fun p g => ⟨vs, .of g.1.1, by rw [enumL_len, g.1.2.length]; exact Nat.le_refl _⟩
  yld := fun μ oa ds M σ H i d x H' r g hx y => by
    obtain ⟨T, u, rfl, hT, rfl, f1⟩ := y
    obtain ⟨dx, g1, rfl⟩ := enumL_get hx
    obtain ⟨u', h1, h2⟩ := g.1.2.get g1
    have e1 := f1 vs (.of g.1.1)
    rw [h1] at e1
    cases e1
    exact pair_new (x := .int (i : Nat)) r hT rfl h2
  adH := fun p b g h => by
    obtain ⟨rfl, rfl⟩ := h
    exact ⟨⟨_, g.1.1⟩, by simpa using g.2⟩
  gen := fun p q g e k => by
    cases st with
    | true =>
      have g2 : ¬ p.N a := by simpa using g.2
      exact ⟨⟨(e.keep a _ g.1.1 g2).1, g.1.2.mono e⟩, by simpa using (e.keep a _ g.1.1 g2).2⟩
    | false =>
      obtain ⟨k1, k2⟩ := k a ⟨rfl, rfl⟩
      exact ⟨⟨k1.trans g.1.1, g.1.2.mono e⟩, by simpa using k2⟩
  sv := fun h a q => by rw [h] at q; cases q.1
theorem walkD_enumT {a : Addr} {xs : List D} {vs : List V} : WalkD F st (IteT F.K a) (enumL xs) (fun p => (p.H a = some (.tup vs) ∧ RepL p xs vs) ∧ ¬ p.N a) (fun _ => False) where
  go := fun p i g hi => by
    rw [enumL_len] at hi
    obtain ⟨v, h1, _⟩ := g.1.2.get (show xs[i]? = some xs[i] by simp [hi])
    exact ⟨vs, v, .of g.1.1, h1⟩
  stop := fun p g => ⟨vs, .of g.1.1, by rw [enumL_len, g.1.2.length]; exact Nat.le_refl _⟩
  yld := fun μ oa ds M σ H i d x H' r g hx y => by
    obtain ⟨T, u, rfl, hT, rfl, f1⟩ := y
    obtain ⟨dx, g1, rfl⟩ := enumL_get hx
    obtain ⟨u', h1, h2⟩ := g.1.2.get g1
    have e1 := f1 vs (.of g.1.1)
    rw [h1] at e1
    cases e1
    exact pair_new (x := .int (i : Nat)) r hT rfl h2
  adH := fun p b g h => h.elim
  gen := fun p q g e k => ⟨⟨(e.keep a _ g.1.1 g.2).1, g.1.2.mono e⟩, (e.keep a _ g.1.1 g.2).2⟩
  sv := fun h a q => q
end
/-- a list that may be walked -/
theorem lst_ok {F : Fr0} {st : Bool} {μ : List Addr} {oa : Nat → Option Addr} {H Hs : Hp} {M : MS} {ys : List D} {kd : Kd} {x : V} (h : RVk (F.pl μ oa H) Hs M (.lst ys, kd) x) (hs : st = true → kd ≠ .bo) :
    ∃ a vs, x = .ref a ∧ (H a = some (.lst vs) ∧ RepL (F.pl μ oa H) ys vs) ∧ if st then ¬ NN F μ oa a else a ∉ μ := by
  obtain ⟨a, vs, rfl, h2, h3⟩ := h.r.lst
  refine ⟨a, vs, rfl, ⟨h2, h3⟩, ?_⟩
  cases st with
  | true =>
    obtain ⟨a', vs', e2, h4, _⟩ := h.rep (hs rfl)
    cases e2
    rw [if_pos rfl]; exact h4
  | false =>
    show a ∉ μ
    rcases h.r with ⟨a', vs', e2, h4, _⟩ | ⟨a', e2, h4, _⟩
    · cases e2
      exact fun hm => h4 (.inr (.inl hm))
    · cases e2
      exact h4
section
variable {X : Cx} {m : MC} {F : Fr0} {W : WX} {G : Nat → Fn} {lv : Nat} {st : Bool}
theorem bo_of {v : RV} (h : anyBo [v] = false) : v.2 ≠ .bo := by
  intro e
  unfold anyBo at h
  simp [e] at h
theorem i_enm (g : XG X m F W G lv) {e tg : Expr} {f : SVal} {x : Str} {p pos : Pos} (hx : x = ("enumerate" : Str)) (hg : glB m.sc x = true) (ht : isTp tg = true) (ns : NoSt [e]) (ha : PE X e (rE F W relV f)) : PI X tg (.Call (.Name x p) [e] [] pos) (rE F W (relI F st) (kItS st .enm (kCons f argN))) := by
  obtain ⟨g1, g2, g3⟩ := g.gl hg
  subst hx
  have hP : PA X [e] (tCons (rE F W relV f) tNil) := pa_cons ha pa_nil (noSt_cons ns _)
  obtain ⟨els, k, tp, rfl⟩ : ∃ a b c, tg = .Tuple a b c := by cases tg <;> first | exact ⟨_, _, _, rfl⟩ | cases ht
  · have h := pi_enumA (p := p) (pos := pos) (elts := els) (kk := k) (tpos := tp) g1 (g.blt "enumerate" (by decide)) hP (noSt_cons ns _)
    rw [kItS_one]
    refine ⟨fun pins s σ H Rr I ⟨μ, oa, ds, M, q⟩ => h.run pins s σ H Rr I ⟨μ, oa, ds, M, (q.bind (Rel := relV) back_i).imp fun v H1 ⟨d1, μ1, M1, ev1, r1, q1⟩ => ?_⟩⟩
    have hc : (st && anyBo [d1]) = false := by
      cases h : (st && anyBo [d1]) with
      | false => rfl
      | true => exact (q1.not_stuck (by rw [h]; rfl)).elim
    have rl := q1.rl
    have q2 : rK F W (relI F st) (fun _ M => R.of (oIter .enm [d1]) M) μ1 oa ds M1 σ H1 Rr := by
      refine ⟨rl, ?_⟩
      have := q1.2
      rw [hc] at this
      exact this
    obtain ⟨xs, e1, k⟩ := q2.of
    obtain ⟨d, kd⟩ := d1
    have hb : st = true → kd ≠ .bo := fun h => by rw [h, Bool.true_and] at hc; exact bo_of hc
    cases d with
    | lst ys =>
      cases e1
      obtain ⟨a, vs, rfl, h2, h3⟩ := lst_ok (st := st) r1 hb
      exact ⟨a, vs, rfl, .inl ⟨.of h2.1, by rw [g.K]; exact k (Ite F.K a) μ1 H1 (EvE.refl rl) rl ⟨_, _, walkD_enumL (a := a) (vs := vs), h2, h3⟩⟩⟩
    | tup ys =>
      cases e1
      obtain ⟨a, vs, rfl, h1, h2, h3⟩ := r1.r.tup
      exact ⟨a, vs, rfl, .inr ⟨.of h2, by rw [g.K]; exact k (IteT F.K a) μ1 H1 (EvE.refl rl) rl ⟨_, _, walkD_enumT (a := a) (vs := vs), ⟨h2, h3⟩, h1⟩⟩⟩
    | _ => cases e1
theorem i_zip (g : XG X m F W G lv) {e e2 tg : Expr} {f f2 : SVal} {x : Str} {p pos : Pos} (hx : x = ("zip" : Str)) (hg : glB m.sc x = true) (ht : isTp tg = true) (ns : NoSt [e, e2]) (ha : PE X e (rE F W relV f)) (hb : PE X e2 (rE F W relV f2)) :
    PI X tg (.Call (.Name x p) [e, e2] [] pos) (rE F W (relI F st) (kItS st .zip (kCons f (kCons f2 argN)))) := by
  obtain ⟨g1, g2, g3⟩ := g.gl hg
  subst hx
  have hP : PA X [e, e2] (tCons (rE F W relV f) (tCons (rE F W relV f2) tNil)) := pa_cons ha (pa_cons hb pa_nil (noSt_cons ns.tail _)) (noSt_cons ns _)
  obtain ⟨els, k, tp, rfl⟩ : ∃ a b c, tg = .Tuple a b c := by cases tg <;> first | exact ⟨_, _, _, rfl⟩ | cases ht
  · have h := RZ.pi_zipA (p := p) (pos := pos) (elts := els) (kk := k) (tpos := tp) g1 (g.blt "zip" (by decide)) hP (noSt_cons ns _) (plain_any pos X.env ns.tail)
    rw [kItS_two]
    refine ⟨fun pins s σ H Rr I ⟨μ, oa, ds, M, q⟩ => h.run pins s σ H Rr I ⟨μ, oa, ds, M, (q.bind (Rel := relV) back_i).imp fun v H1 ⟨d1, μ1, M1, ev1, r1, q1⟩ => ⟨μ1, oa, ds, M1, (q1.bind (Rel := relV) back_i).imp fun v2 H2 ⟨d2, μ2, M2, ev2, r2, q2⟩ => ?_⟩⟩⟩
    have hc : (st && anyBo [d1, d2]) = false := by
      cases h : (st && anyBo [d1, d2]) with
      | false => rfl
      | true => exact (q2.not_stuck (by rw [h]; rfl)).elim
    have rl := q2.rl
    have q3 : rK F W (relI F st) (fun _ M => R.of (oIter .zip [d1, d2]) M) μ2 oa ds M2 σ H2 Rr := by
      refine ⟨rl, ?_⟩
      have := q2.2
      rw [hc] at this
      exact this
    obtain ⟨xs, e1, k⟩ := q3.of
    obtain ⟨d, kd⟩ := d1
    obtain ⟨d', kd'⟩ := d2
    have hb2 : st = true → kd' ≠ .bo := fun h e => by
      rw [h, Bool.true_and] at hc
      simp [anyBo, e] at hc
    have hb1 : st = true → kd ≠ .bo := fun h e => by
      rw [h, Bool.true_and] at hc
      simp [anyBo, e] at hc
    cases d with
    | lst ys =>
      cases d' with
      | lst zs =>
        cases e1
        have r1' : ∃ a vs, v = .ref a ∧ (H2 a = some (.lst vs) ∧ RepL (F.pl μ2 oa H2) ys vs) ∧ if st then ¬ NN F μ2 oa a else a ∉ μ2 := by
          obtain ⟨a, vs, rfl, h2, h3⟩ := lst_ok (st := st) r1 hb1
          refine ⟨a, vs, rfl, ?_⟩
          have w := walkD_list (F := F) (st := st) (a := a) (xs := ys) (vs := vs)
          exact w.ev (μ' := μ2) (H' := H2) (show _ ∧ _ from ⟨h2, h3⟩) ev2
        obtain ⟨a, vs, rfl, h2, h3⟩ := r1'
        obtain ⟨b, ws, rfl, h4, h5⟩ := lst_ok (st := st) r2 hb2
        exact ⟨a, b, vs, ws, rfl, .inl ⟨.of h2.1, .of h4.1, by rw [g.K]; exact k (Itz F.K a b) μ2 H2 (EvE.refl rl) rl ⟨_, _, walkD_zipL (a := a) (b := b) (vs := vs) (ws := ws), ⟨h2, h3⟩, ⟨h4, h5⟩⟩⟩⟩
      | _ => cases e1
    | tup ys =>
      cases d' with
      | tup zs =>
        cases e1
        obtain ⟨a, vs, rfl, h1, h2, h3⟩ := (r1.r.evo ev2).tup
        obtain ⟨b, ws, rfl, h4, h5, h6⟩ := r2.r.tup
        exact ⟨a, b, vs, ws, rfl, .inr ⟨.of h2, .of h5, by rw [g.K]; exact k (RZ.ItzT F.K a b) μ2 H2 (EvE.refl rl) rl ⟨_, _, walkD_zipT (a := a) (b := b) (vs := vs) (ws := ws), ⟨⟨h2, h3⟩, h1⟩, ⟨⟨h5, h6⟩, h4⟩⟩⟩⟩
      | _ => cases e1
    | _ => cases e1
theorem s_lc (g : XG X m F W G lv) {own : List Nat} {tg : TGt} {kit : List Sl → MS → R (List D)} {c : List Sl → MS → R Bool} {f : SVal} {elt t it : Expr} {ifs : List Expr} {scope : Scope} {pos : Pos}
    (h1 : blkC m.N m.sc scope (ownOk m.N scope own) = true) (h2 : (ownOk m.N scope own).map (·.2) = own) (h3 : mTg m.N (stB scope) tg t = true) (h4 : TGt.sub tg own = true) (hi : PI X t it (rE F W (relI F false) kit))
    (ht : ∀ (s : Shared) (H : Hp) (C : Addr) (cl : List (Str × Addr)) (fp : List Addr), PTs (X.blk s H scope (compEnvC scope cl C X.env) fp) ifs (rE F (fun _ _ _ _ => False) relEq c))
    (he : ∀ (s : Shared) (H : Hp) (C : Addr) (cl : List (Str × Addr)) (fp : List Addr), PE (X.blk s H scope (compEnvC scope cl C X.env) fp) elt (rE F (fun _ _ _ _ => False) relV f))
    (hs : ∀ x, foldedSetIterable it X.env x = pure x) : PE X (.ListComp elt [⟨t, it, ifs, 0⟩] scope pos) (rE F W relV (kLc own tg kit c f)) := by
  have ok : BlkOk X.N X.env.scope scope (ownOk m.N scope own) := by rw [g.N, g.sc]; exact blkOk_by h1
  have p := pe_lc (pos := pos) g.calm g.nd hi ok (g := rG F tg) (fun s H C cl fp => have gb := g.blk s H scope C cl fp; s_tg (F := F) (N := m.N) (st := stB scope) gb.N gb.K gb.nd gb.calm (g.blkSt s H scope C cl fp) tg t h3) ht he hs
  rw [h2] at p
  exact PE.mono p fun σ H Q q => c_lc h4 q
theorem pts_of {ifs : List Expr} {t t' : TT} (h : PTs X ifs t) (i : ∀ σ H Q, t' σ H Q → t σ H Q) : PTs X ifs t' := ⟨fun pins s σ H Q I q => h.run pins s σ H Q I (i σ H Q q)⟩
theorem c_bi (g : XG X m F W G lv) {b : BI} {f : List Sl → MS → R (List RV)} (hb : ∀ ts, b ≠ .isi ts) {σ : L2.St} {H : Hp} {Q : V → Hp → Prop} (h : rE F W relV (kBi b f) σ H Q) : tCB (rBi X.K b) (rE F W relA f) σ H Q := by
  obtain ⟨μ, oa, ds, M, q⟩ := h
  refine ⟨μ, oa, ds, M, (q.bind (Rel := relA) back_v).imp fun vs H1 ⟨ls, μ1, M1, ev1, r1, q1⟩ => ?_⟩
  obtain ⟨v, e, k⟩ := q1.of
  rw [g.K]
  exact bi_ok q1.rl r1 e hb k
theorem s_bi (g : XG X m F W G lv) {b : BI} {x1 : Expr} {xs : List Expr} {x : Str} {p pos : Pos} {f : List Sl → MS → R (List RV)} (hx : x = (biN b : Str)) (hb : ∀ ts, b ≠ .isi ts) (hn : (biN b != "isinstance") = true) (hg : glB m.sc x = true) (ha : PA X (x1 :: xs) (rE F W relA f)) (ns : NoSt (x1 :: xs)) :
    PE X (.Call (.Name x p) (x1 :: xs) [] pos) (rE F W relV (kBi b f)) := by
  obtain ⟨g1, g2, g3⟩ := g.gl hg
  have pl := plain_any pos X.env ns.tail
  have se := noSt_cons ns X.env
  have cr := callR_bi (X := X) g.calm b
  subst hx
  refine PE.mono (t := tCB (rBi X.K b) (rE F W relA f)) ?_ fun σ H Q h => c_bi g hb h
  cases b with
  | len => exact pe_callB cr g1 (g.blt "len" (by decide)) boot_len ha g3 g2 se pl
  | int => exact pe_callTy cr g1 (g.blt "int" (by decide)) boot_int ha g3 g2 se pl
  | bool => exact pe_callTy cr g1 (g.blt "bool" (by decide)) boot_bool ha g3 g2 se pl
  | str => exact pe_callTy cr g1 (g.blt "str" (by decide)) boot_str ha g3 g2 se pl
  | abs => exact pe_callB cr g1 (g.blt "abs" (by decide)) boot_abs ha g3 g2 se pl
  | max => exact pe_callB cr g1 (g.blt "max" (by decide)) boot_max ha g3 g2 se pl
  | min => exact pe_callB cr g1 (g.blt "min" (by decide)) boot_min ha g3 g2 se pl
  | sum => exact pe_callB cr g1 (g.blt "sum" (by decide)) boot_sum ha g3 g2 se pl
  | any => exact pe_callB cr g1 (g.blt "any" (by decide)) boot_any ha g3 g2 se pl
  | all => exact pe_callB cr g1 (g.blt "all" (by decide)) boot_all ha g3 g2 se pl
  | list => exact pe_callTy cr g1 (g.blt "list" (by decide)) boot_list ha g3 g2 se pl
  | tuple => exact pe_callTy cr g1 (g.blt "tuple" (by decide)) boot_tuple ha g3 g2 se pl
  | sorted => exact absurd hn (by decide)
  | sortedSet => exact absurd hn (by decide)
  | isi ts => exact absurd rfl (hb ts)
end
end PL
end
section
set_option linter.all false
set_option maxRecDepth 100000
set_option maxHeartbeats 2000000
set_option autoImplicit false
namespace PL
open PySem PySem.Spec PyProof.Rows L2
section
variable {X : Cx} {m : MC} {F : Fr0} {W : WX} {G : Nat → Fn} {lv : Nat} {st : Bool}
theorem kBi_one (b : BI) (f : SVal) : kBi b (kCons f argN) = fun ds M => (f ds M).bind fun x M1 => R.of (oBi1 M1 b x.1) M1 := by
  funext ds M
  unfold kBi kCons argN
  cases f ds M <;> rfl
theorem ty_boot (t : Ty) : bootBuiltins (tyS t : Str) = some (.type (tyS t)) := by
  cases t
  · exact boot_int
  · exact boot_bool
  · exact boot_str
  · exact boot_tuple
  · exact boot_list
theorem ty_mg (g : XG X m F W G lv) (t : Ty) : X.mg (tyS t : Str) = none := by
  cases t
  · exact g.blt "int" (by decide)
  · exact g.blt "bool" (by decide)
  · exact g.blt "str" (by decide)
  · exact g.blt "tuple" (by decide)
  · exact g.blt "list" (by decide)
theorem s_ty (g : XG X m F W G lv) (t : Ty) {x : Str} {p : Pos} (hx : x = (tyS t : Str)) (hg : glB m.sc x = true) : PE X (.Name x p) (tC (.ty (tyS t))) := by
  obtain ⟨g1, g2, g3⟩ := g.gl hg
  subst hx
  exact pe_bltn g1 (ty_mg g t) (ty_boot t) rfl g3 g2
def tTys : List Ty → TA
  | [] => tNil
  | t :: ts => tCons (tC (.ty (tyS t))) (tTys ts)
theorem tyB_st {sc : Scope} : ∀ {ts : List Ty} {es : List Expr}, tyB sc ts es = true → NoSt es
  | [], [], _ => fun e he => by simp at he
  | [], _ :: _, h => by simp [tyB] at h
  | _ :: _, [], h => by simp [tyB] at h
  | t :: ts, e :: es, h => by
    cases e <;> first | (simp [tyB] at h; done) | skip
    rename_i x p
    simp only [tyB, Bool.and_eq_true] at h
    intro e' he y q
    rcases List.mem_cons.mp he with z | z
    · rw [z]; intro w; cases w
    · exact tyB_st h.2 e' z y q
theorem s_tys (g : XG X m F W G lv) : ∀ (ts : List Ty) (es : List Expr), tyB m.sc ts es = true → PA X es (tTys ts)
  | [], [], _ => pa_nil
  | [], _ :: _, h => by simp [tyB] at h
  | _ :: _, [], h => by simp [tyB] at h
  | t :: ts, e :: es, h => by
    have ns := tyB_st h
    cases e <;> first | (simp [tyB] at h; done) | skip
    simp only [tyB, Bool.and_eq_true] at h
    exact pa_cons (s_ty g t (by simpa using h.1.1) h.1.2) (s_tys g ts es h.2) (noSt_cons ns _)
theorem tTys_ok {σ : L2.St} {H : Hp} {Q : List V → Hp → Prop} : ∀ {ts : List Ty}, Q (ts.map fun t => V.ty (tyS t)) H → tTys ts σ H Q := by
  intro ts
  induction ts generalizing Q with
  | nil => exact fun h => h
  | cons t ts ih => exact fun h => ih (Q := fun xs H => Q (V.ty (tyS t) :: xs) H) h
theorem paired_ty : ∀ ts : List Ty, Paired ClsV (ts.map fun t => V.ty (tyS t)) (ts.map fun t => Value.type (tyS t))
  | [] => .nil
  | _ :: ts => .cons (.ty _) (paired_ty ts)
theorem s_isi (g : XG X m F W G lv) {ts : List Ty} {e t : Expr} {f : SVal} {x : Str} {p pos : Pos} (hx : x = ("isinstance" : Str)) (hg : glB m.sc x = true) (ns : NoSt [e]) (ha : PE X e (rE F W relV f)) (ht : tysB m.sc ts t = true) :
    PE X (.Call (.Name x p) [e, t] [] pos) (rE F W relV (kBi (.isi ts) (kCons f argN))) := by
  obtain ⟨g1, g2, g3⟩ := g.gl hg
  subst hx
  rw [kBi_one]
  have nt : NoSt [e, t] := by
    intro e' he y q
    rcases List.mem_cons.mp he with z | z
    · exact ns e' (by rw [z]; exact List.mem_cons_self) y q
    · have : e' = t := by simpa using z
      subst this
      intro w
      subst w
      unfold tysB at ht
      split at ht <;> first | (rename_i h; cases h; done) | cases ht
  have fin : ∀ {σ : L2.St} {H : Hp} {Q : V → Hp → Prop} {μ : List Addr} {oa : Nat → Option Addr} {ds : List Sl} {M : MS} {d : D} {v : V} {Hs : Hp}, RVr (F.pl μ oa H) d v → rK F W relV (fun _ M => R.of (oBi1 M (.isi ts) d) M) μ oa ds M σ H Q →
      ∃ b, anyTy d ts = some b ∧ Q (.bl b) H := fun {σ H Q μ oa ds M d v Hs} r1 q1 => by
    obtain ⟨z, e1, k⟩ := q1.of
    obtain ⟨b, e2, e3⟩ := Option.map_eq_some_iff.mp e1
    subst e3
    exact ⟨b, e2, k _ μ H (EvE.refl q1.rl) q1.rl rfl⟩
  unfold tysB at ht
  split at ht
  · rename_i t1 y py
    rw [Bool.and_eq_true] at ht
    have hp := pe_callB (p := p) (pos := pos) call_isi g1 (g.blt "isinstance" (by decide)) boot_isinstance (pa_cons ha (pa_cons (s_ty g t1 (x := y) (p := py) (by simpa using ht.1) ht.2) pa_nil (noSt_cons nt.tail _)) (noSt_cons nt _)) g3 g2 (noSt_cons nt _) (plain_any pos X.env nt.tail)
    refine PE.mono hp fun σ H Q ⟨μ, oa, ds, M, q⟩ => ⟨μ, oa, ds, M, (q.bind (Rel := relV) back_v).imp fun v H1 ⟨d1, μ1, M1, ev1, r1, q1⟩ => ?_⟩
    obtain ⟨b, e2, k⟩ := fin (Hs := H) r1.r q1
    obtain ⟨c1, e4⟩ : ∃ c1, isTy d1.1 t1 = some c1 ∧ b = c1 := by
      simp only [anyTy] at e2
      split at e2
      · rename_i a c h1 h2
        cases h2
        cases e2
        exact ⟨a, h1, by simp⟩
      · cases e2
    exact ⟨v, .ty (tyS t1), .type (dTy d1.1), .type (tyS t1), b, rfl, .ty _, by rw [g.K]; exact r1.r.ty q1.rl e4.1, by rw [e4.2]; exact isTy_kit e4.1, k⟩
  · rename_i t1 t2 ts' es kk pp
    rw [Bool.and_eq_true, decide_eq_true_eq] at ht
    have hp := pe_callB (p := p) (pos := pos) call_isiT g1 (g.blt "isinstance" (by decide)) boot_isinstance (pa_cons ha (pa_cons (pe_tup (x1 := kk) (pos := pp) (s_tys g _ es ht.2)) pa_nil (noSt_cons nt.tail _)) (noSt_cons nt _)) g3 g2 (noSt_cons nt _) (plain_any pos X.env nt.tail)
    refine PE.mono hp fun σ H Q ⟨μ, oa, ds, M, q⟩ => ⟨μ, oa, ds, M, (q.bind (Rel := relV) back_v).imp fun v H1 ⟨d1, μ1, M1, ev1, r1, q1⟩ => ?_⟩
    unfold tCons tTup
    refine tTys_ok (ts := t1 :: t2 :: ts') ?_
    refine ⟨?_, fun tp hp => ?_⟩
    · exact lim_line (by rw [List.length_map, List.length_cons, List.length_cons]; have := ht.1; unfold LIM; omega)
    · have rl := q1.rl
      have rl2 := rl.alloc (a := tp) (o := .tup ((t1 :: t2 :: ts').map fun t => V.ty (tyS t))) hp
      have e2 := EvE.alloc (o := .tup ((t1 :: t2 :: ts').map fun t => V.ty (tyS t))) rl hp
      obtain ⟨z, e1, k⟩ := q1.of
      obtain ⟨b, e3, e4⟩ := Option.map_eq_some_iff.mp e1
      subst e4
      refine ⟨v, tp, _, .type (dTy d1.1), _, b, rfl, upd_same, paired_ty _, ?_, anyTy_kit e3, k _ μ1 _ e2 rl2 rfl⟩
      have r2 := r1.r.evo e2
      cases h1 : isTy d1.1 t1 with
      | some c => rw [g.K]; exact r2.ty rl2 h1
      | none =>
        simp only [anyTy, h1] at e3
        cases e3
  · cases ht
theorem s_fzE {x : Expr} {f : SVal} (ha : PE X x (rE F W relV f)) : PE X x (rE F W relV (kFz f)) := by
  refine PE.mono ha fun σ H Q ⟨μ, oa, ds, M, q⟩ => ⟨μ, oa, ds, M, (q.bind (Rel := relV) back_v).imp fun v H1 ⟨d, μ1, M1, ev, r, q1⟩ => ?_⟩
  have rl := q1.rl
  by_cases hb : d.2 = .bo
  · exact (q1.not_stuck (by rw [if_pos hb])).elim
  · exact q1.ok (a := ((d.1, Kd.fz) : RV)) (M1 := M1) (by rw [if_neg hb]) v μ1 H1 (EvE.refl rl) rl (show RVk _ _ _ ((d.1, Kd.fz) : RV) v from r.rep hb)
theorem s_cell {x : Expr} {f : SVal} (ha : PE X x (rE F W relV f)) : PE X x (rE F W relV (kCell f)) := by
  refine PE.mono ha fun σ H Q ⟨μ, oa, ds, M, r, h⟩ => ⟨μ, oa, ds, M, r, ?_⟩
  unfold kCell at h
  cases e : f ds M with
  | stuck => rw [e] at h; exact h
  | exc x M' => rw [e] at h; exact h
  | ok v M1 =>
    rw [e] at h
    simp only [R.bind_ok] at h
    intro b μ1 H1 ev r1 rv
    obtain ⟨d, k⟩ := v
    cases d with
    | lst xs =>
      cases k with
      | fr =>
        obtain ⟨a, rfl, h0, hn, ho, hm⟩ := rv
        have hpl : Evo ((F.pl μ1 oa H1).but a) (F.pl (μ1 ++ [a]) oa H1) := by
          refine ⟨rfl, fun c o q n => ⟨q, fun n' => n ?_⟩, fun n c q => ?_⟩
          · rcases n' with n' | n' | n'
            · exact .inl (.inl n')
            · rcases List.mem_append.mp n' with n' | n'
              · exact .inl (.inr (.inl n'))
              · exact .inr (by simpa using n')
            · exact .inl (.inr (.inr n'))
          · show (μ1 ++ [a])[n]? = some c
            have q : μ1[n]? = some c := q
            rw [List.getElem?_append_left (List.getElem?_eq_some_iff.mp q).1]; exact q
        have hla : μ1.length = M1.length := r1.mr.len
        have ev' : EvE μ H (μ1 ++ [a]) H1 := by
          obtain ⟨t, e1, f1⟩ := ev.pre
          exact ⟨ev.keep, ⟨t ++ [a], by rw [e1, List.append_assoc], fun c hc => (List.mem_append.mp hc).elim (f1 c) fun z => by rw [show c = a by simpa using z]; exact h0⟩, ev.dom⟩
        have hmr : MR (F.pl (μ1 ++ [a]) oa H1) (M1 ++ [xs]) := by
          refine ⟨by show (μ1 ++ [a]).length = _; rw [List.length_append, List.length_append, hla]; rfl, ?_, fun c hc => .inr (.inl hc), fun n c ys q1 q2 => ?_⟩
          · show (μ1 ++ [a]).Nodup
            rw [List.nodup_append]
            exact ⟨r1.mr.nd, by simp, fun c hc d hd e => hn (.inr (.inl (by rw [show d = a by simpa using hd] at e; rw [← e]; exact hc)))⟩
          · have q1 : (μ1 ++ [a])[n]? = some c := q1
            rcases Nat.lt_trichotomy n μ1.length with z | z | z
            · rw [List.getElem?_append_left z] at q1
              rw [List.getElem?_append_left (by rw [← hla]; exact z)] at q2
              exact (hm.cell n c ys q1 q2).mono hpl rfl
            · subst z
              have hc : a = c := by simpa using q1
              subst hc
              have hy : xs = ys := by rw [hla] at q2; simpa using q2
              subst hy
              exact ho.mono hpl rfl
            · rw [List.getElem?_eq_none (by rw [List.length_append, List.length_singleton]; omega)] at q1; cases q1
        refine h (.ref a) (μ1 ++ [a]) H1 ev' (r.step ev' hmr fun c hc => ?_) ⟨a, rfl, ?_⟩
        · rcases hc with hc | hc | hc
          · exact r1.dom c (.inl hc)
          · rcases List.mem_append.mp hc with hc | hc
            · exact r1.dom c (.inr (.inl hc))
            · rw [show c = a by simpa using hc]; exact ho.some
          · exact r1.dom c (.inr (.inr hc))
        · show (μ1 ++ [a])[M1.length]? = some a
          rw [← hla]; simp
      | fz => exact h.elim
      | bo => exact h.elim
    | _ => exact h.elim
theorem s_lz (g : XG X m F W G lv) {a b : Expr} {f f' : SVal} {x y : Str} {p1 p2 p3 p4 : Pos} (hx : x = ("list" : Str)) (hg : glB m.sc x = true) (hy : y = ("zip" : Str)) (hg2 : glB m.sc y = true) (ns : NoSt [a, b]) (ha : PE X a (rE F W relV f)) (hb : PE X b (rE F W relV f')) :
    PE X (.Call (.Name x p1) [.Call (.Name y p2) [a, b] [] p3] [] p4) (rE F W relV (kLz f f')) := by
  obtain ⟨g1, g2, g3⟩ := g.gl hg
  obtain ⟨g4, g5, g6⟩ := g.gl hg2
  subst hx hy
  refine PE.mono (pe_lz (p1 := p1) (p2 := p2) (p3 := p3) (p4 := p4) ha hb g.calm g1 (g.blt "list" (by decide)) g4 (g.blt "zip" (by decide)) (noSt_cons ns _) (noSt_cons ns.tail _)) fun σ H Q ⟨μ, oa, ds, M, q⟩ =>
    ⟨μ, oa, ds, M, (q.bind (Rel := relV) back_v).imp fun v H1 ⟨d1, μ1, M1, ev1, r1, q1⟩ => ⟨μ1, oa, ds, M1, (q1.bind (Rel := relV) back_v).imp fun u H2 ⟨d2, μ2, M2, ev2, r2, q2⟩ => ?_⟩⟩
  have rl := q2.rl
  obtain ⟨d, kd⟩ := d1
  obtain ⟨d', kd'⟩ := d2
  cases d with
  | tup xs =>
    cases d' with
    | tup ys =>
      obtain ⟨a1, vs, rfl, n1, h1, h2⟩ := (r1.r.evo ev2).tup
      obtain ⟨a2, ws, rfl, n2, h4, h5⟩ := r2.r.tup
      refine ⟨a1, a2, vs, ws, rfl, rfl, by rw [g.K]; exact .of h1, by rw [g.K]; exact .of h4, fun Hx S cs ext hS hxs hl hp => ?_⟩
      have k := q2.2
      have ev : EvE μ2 H2 μ2 Hx := ⟨fun c o e _ => ext c o e, ⟨[], by simp, fun _ h => by simp at h⟩, fun c hc => by
        obtain ⟨o, e⟩ := rl.dom c (.inr (.inl hc))
        exact ⟨o, ext c o e⟩⟩
      have dm : ∀ c, NN F μ2 oa c → Hx c = H2 c := fun c hc => by
        obtain ⟨o, e⟩ := rl.dom c hc
        rw [e]; exact ext c o e
      have eb : Evo (F.pl μ2 oa H2) ((F.pl μ2 oa Hx).but S) := ⟨rfl, fun c o e n => ⟨ext c o e, fun n' => n'.elim n fun z => by rw [z] at e; have e : H2 S = some o := e; rw [hS] at e; cases e⟩, fun _ _ h => h⟩
      have hmr : MR (F.pl μ2 oa Hx) M2 := ⟨rl.mr.len, rl.mr.nd, rl.mr.inN, fun n c zs q1 q2 => (rl.mr.cell n c zs q1 q2).mono (ev.evo (F := F) (oa := oa)) (dm c (.inr (.inl (List.mem_of_getElem? q1))))⟩
      have hmb : MR ((F.pl μ2 oa Hx).but S) M2 := ⟨rl.mr.len, rl.mr.nd, fun c hc => .inl (.inr (.inl hc)), fun n c zs q1 q2 => (rl.mr.cell n c zs q1 q2).mono eb (dm c (.inr (.inl (List.mem_of_getElem? q1))))⟩
      have rlx := rl.step ev hmr fun c hc => by rw [dm c hc]; exact rl.dom c hc
      refine k (.ref S) μ2 Hx ev rlx ⟨S, rfl, hS, rl.notN hS, ⟨cs.map V.ref, hxs, ?_⟩, hmb⟩
      have key : ∀ (i : Nat) (cs' : List Addr) (xs' ys' : List D), cs' = cs.drop i → xs' = xs.drop i → ys' = ys.drop i → RepL ((F.pl μ2 oa Hx).but S) (zipL xs' ys') (cs'.map V.ref) := by
        intro i cs' xs' ys' e1 e2 e3
        induction cs' generalizing i xs' ys' with
        | nil =>
          have l1 : cs.length ≤ i := List.drop_eq_nil_iff.mp e1.symm
          have : zipL xs' ys' = [] := by
            rw [e2, e3]
            apply List.eq_nil_of_length_eq_zero
            rw [zipL_len, List.length_drop, List.length_drop, h2.length, h5.length]; omega
          rw [this]; exact rfl
        | cons c r ih =>
          have hc : cs[i]? = some c := by rw [← List.head?_drop, ← e1]; rfl
          have hi : i < cs.length := (List.getElem?_eq_some_iff.mp hc).1
          have hix : i < xs.length := by rw [h2.length]; omega
          have hiy : i < ys.length := by rw [h5.length]; omega
          obtain ⟨u, gu, ru⟩ := h2.get (show xs[i]? = some xs[i] by simp [hix])
          obtain ⟨v, gv, rv⟩ := h5.get (show ys[i]? = some ys[i] by simp [hiy])
          obtain ⟨p1, p2, p3⟩ := hp i c u v hc gu gv
          rw [List.drop_eq_getElem_cons hix] at e2
          rw [List.drop_eq_getElem_cons hiy] at e3
          have er : r = cs.drop (i + 1) := by
            rw [List.drop_eq_getElem_cons hi] at e1
            exact (List.cons.inj e1).2
          rw [e2, e3]
          refine ⟨.ref c, r.map V.ref, rfl, ⟨c, [u, v], rfl, fun n => n.elim (rl.notN p2) p3, p1, u, [v], rfl, ru.mono eb, v, [], rfl, rv.mono eb, rfl⟩, ih (i + 1) _ _ er rfl rfl⟩
      exact key 0 cs xs ys rfl rfl rfl
    | _ => exact q2.2.elim
  | _ => cases d' <;> exact q2.2.elim
end
end PL
end
section
set_option linter.all false
set_option maxRecDepth 100000
set_option maxHeartbeats 4000000
set_option autoImplicit false
namespace PL
open PySem PySem.Spec PyProof.Rows L2

/-- what a clause's turn is, whatever it does at its end -/
def turnOf (E : Expr) (j : Nat) (p0 : Pos) (t0 : Expr) (ifs0 : List Expr) (act : Sem PySem.Fin → Sem PySem.Fin) (it acc : Value) (env : Env) : Sem PySem.Fin := do
  standAt p0
  match ← pyNext it with
  | none => pure (.done .next)
  | some v =>
    letOwnedTupleGo t0 it v
    assign t0 env v
    let mut ok := true
    for c in ifs0 do
      if ok then ok ← isTrue c env (eval c env)
    if ok then act (again (.compLoop E j it acc env)) else again (.compLoop E j it acc env)
def putAct (kx vx : Expr) (D : Addr) (env : Env) : Sem Unit := do
  let kv ← eval kx env
  let vv ← holding [kv] (eval vx env)
  standAt { kx.pos with endLine := vx.pos.endLine, endCol := vx.pos.endCol }
  holding [kv, vv] (dictSet D kv vv)
def putThen (kx vx : Expr) (D : Addr) (env : Env) (k : Sem PySem.Fin) : Sem PySem.Fin := putAct kx vx D env >>= fun _ => k
def deepThen (E i1 : Expr) (acc : Value) (env : Env) (k : Sem PySem.Fin) : Sem PySem.Fin := do
  let x ← eval i1 env
  standAt i1.pos
  let x ← foldedSetIterable i1 env x
  let _ ← runOwn (.compStart E 1 (← holding [x] (pyIter x)) acc env) env
  k
theorem turn_one (kx vx t i : Expr) (ifs : List Expr) (sc : Scope) (pos : Pos) (it : Value) (D : Addr) (env : Env) :
    compTurn (.DictComp kx vx [⟨t, i, ifs, 0⟩] sc pos) 0 it (.ref D) env = turnOf (.DictComp kx vx [⟨t, i, ifs, 0⟩] sc pos) 0 i.pos t ifs (putThen kx vx D env) it (.ref D) env := rfl
theorem turn_out (kx vx t i t1 i1 : Expr) (ifs ifs1 : List Expr) (sc : Scope) (pos : Pos) (it : Value) (D : Addr) (env : Env) :
    compTurn (.DictComp kx vx [⟨t, i, ifs, 0⟩, ⟨t1, i1, ifs1, 0⟩] sc pos) 0 it (.ref D) env =
      turnOf (.DictComp kx vx [⟨t, i, ifs, 0⟩, ⟨t1, i1, ifs1, 0⟩] sc pos) 0 i.pos t ifs (deepThen (.DictComp kx vx [⟨t, i, ifs, 0⟩, ⟨t1, i1, ifs1, 0⟩] sc pos) i1 (.ref D) env) it (.ref D) env := rfl
theorem turn_in (kx vx t i t1 i1 : Expr) (ifs ifs1 : List Expr) (sc : Scope) (pos : Pos) (it : Value) (D : Addr) (env : Env) :
    compTurn (.DictComp kx vx [⟨t, i, ifs, 0⟩, ⟨t1, i1, ifs1, 0⟩] sc pos) 1 it (.ref D) env =
      turnOf (.DictComp kx vx [⟨t, i, ifs, 0⟩, ⟨t1, i1, ifs1, 0⟩] sc pos) 1 i1.pos t1 ifs1 (putThen kx vx D env) it (.ref D) env := rfl
section
variable {prog : Program} {w : World} {A : Around} {R : Result → Shared → Prop} {kx vx t0 : Expr} {gs : List Comprehension} {sc : Scope} {pos : Pos} {j : Nat} {p0 : Pos} {ifs0 : List Expr} {act : Sem PySem.Fin → Sem PySem.Fin} {it acc : Value} {env : Env}
theorem wp_no {β : Type} {m : Sem β} {Q : β → Shared → Prop} {E' : Value → Shared → Prop} {B : Around} {s : Shared} (h : wpAny (model prog w) B m Q (fun _ _ => False) s) : wpAny (model prog w) B m Q E' s := wpAny_mono h (fun _ _ q => q) fun _ _ q => q.elim
/-- a clause's loop; Ac: from where its end leads where -/
theorem level_loop (ht : compTurn (.DictComp kx vx gs sc pos) j it acc env = turnOf (.DictComp kx vx gs sc pos) j p0 t0 ifs0 act it acc env) (Ac : (Shared → Prop) → Shared → Prop)
    (hact : ∀ (N : Shared → Prop) (k : Sem PySem.Fin) (Q : PySem.Fin → Shared → Prop) (E' : Value → Shared → Prop) (s : Shared), Ac N s → (∀ s', N s' → wpAny (model prog w) A k Q E' s') → wpAny (model prog w) A (act k) Q E' s) (I : Nat → Shared → Prop)
    (go : ∀ n s, I n s → wpAny (model prog w) A (pyNext it) (fun r s1 => match r with
      | none => R (.ok .next) s1
      | some v => wpAny (model prog w) A (letOwnedTupleGo t0 it v) (fun _ s2 => wpAny (model prog w) A (assign t0 env v) (fun _ s3 =>
          wpAny (model prog w) A (forIn ifs0 true fun c r => if r = true then do let ok ← isTrue c env (eval c env); pure (ForInStep.yield ok) else pure (ForInStep.yield r)) (fun b s4 =>
            if b = true then Ac (fun s5 => ∃ m, m < n ∧ I m s5) s4 else ∃ m, m < n ∧ I m s4)
            (fun _ _ => False) s3) (fun _ _ => False) s2) (fun _ _ => False) s1) (fun _ _ => False) s)
    (n : Nat) (s : Shared) (h : I n s) : codeAny (model prog w) A (.compLoop (.DictComp kx vx gs sc pos) j it acc env) R s := by
  refine codeAny_loop rfl I (fun n s hI => ?_) n h
  show wpAny _ A ((compTurn (.DictComp kx vx gs sc pos) j it acc env).onRaise (fun x => do noteFrame x env; theTreesLotGoes x)) _ _ s
  refine wpAny_noted ?_
  rw [ht]
  unfold turnOf
  refine wpAny_bind (wpAny_standAt (wpAny_bind (wpAny_mono (wp_no (go n s hI)) (fun r s1 h1 => ?_) fun _ _ q => q)))
  cases r with
  | none => exact wpAny_pure h1
  | some v =>
    refine wpAny_bind (wpAny_mono (wp_no h1) (fun _ s2 h2 => ?_) fun _ _ q => q)
    refine wpAny_bind (wpAny_mono (wp_no h2) (fun _ s3 h3 => wpAny_bind (wpAny_mono (wp_no h3) (fun b s4 h4 => ?_) fun _ _ q => q)) fun _ _ q => q)
    cases b with
    | false => exact wpAny_pure ⟨rfl, h4⟩
    | true => exact hact _ _ _ _ _ h4 fun s5 h5 => wpAny_pure ⟨rfl, h5⟩
end
end PL
end
section
set_option linter.all false
set_option maxRecDepth 100000
set_option maxHeartbeats 4000000
set_option autoImplicit false
namespace PL
open PySem PySem.Spec PyProof.Rows L2

/-- slots that know at least what z knows -/
def Knows (z σ : L2.St) : Prop := z.length = σ.length ∧ ∀ (i : Nat) (v : V), z[i]? = some (some v) → σ[i]? = some (some v)
theorem Knows.wipe {σ : L2.St} (own : List Nat) : Knows (L2.wipe σ own) σ := ⟨wipe_length _ _, fun i v e => (wipe_some e).1⟩
abbrev TAct := L2.St → Hp → (Hp → Prop) → Prop
/-- a clause by an invariant: from H0 to Qd -/
def tLev (J : It) (g : TG) (tt : TT) (ta : TAct) (vs : List Nat) (σ : L2.St) (H0 : Hp) (Qd : Hp → Prop) : Prop :=
  ∃ W : Nat → Nat → Hp → Prop, (∃ m, W 0 m H0) ∧ ∀ i m H, W i m H → (J.stop i H ∧ Qd H) ∨ (J.go i H ∧ ∃ Nx : Hp → Prop, (∀ H', Nx H' → ∃ m', m' < m ∧ W (i + 1) m' H') ∧
    ∀ x H', J.yld i H x H' → g x (L2.wipe σ vs) H' fun σ2 H2 => L2.wipe σ2 vs = L2.wipe σ vs ∧ tt σ2 H2 fun b H3 => if b = true then ta σ2 H3 Nx else Nx H3)
/-- what stands at a clause's end: run from a state, the slots may be forgotten but those outside own -/
structure PAct (Y : Cx) (own : List Nat) (act : Sem PySem.Fin → Sem PySem.Fin) (ta : TAct) : Prop where
  run : ∀ (pins : List (Addr × Obj)) (s : Shared) (σ : L2.St) (H : Hp) (N : Hp → Prop) (k : Sem PySem.Fin) (Q : PySem.Fin → Shared → Prop) (E' : Value → Shared → Prop), Inv Y pins σ H s → ta σ H N →
    (∀ s' σ' H', Inv Y pins σ' H' s' → Knows (L2.wipe σ own) σ' → N H' → wpAny (model Y.prog Y.w) Y.A k Q E' s') → wpAny (model Y.prog Y.w) Y.A (act k) Q E' s
section
variable {Y : Cx}
theorem level_ok {kx vx t0 : Expr} {gs : List Comprehension} {sc : Scope} {pos : Pos} {j : Nat} {p0 : Pos} {ifs0 : List Expr} {act : Sem PySem.Fin → Sem PySem.Fin} {acc : Value} {it : Addr} {fp : List Addr} {tn : Nat → Heap → Prop} {J : It} {g : TG} {tt : TT} {ta : TAct} {vs : List Nat}
    {R : Result → Shared → Prop} {pins : List (Addr × Obj)} {σ : L2.St} {H0 : Hp} {Qd : Hp → Prop} {s0 : Shared}
    (hx : Y.xe = fun _ _ => False) (hc : Y.calm = true) (ht : ∀ it, compTurn (.DictComp kx vx gs sc pos) j it acc Y.env = turnOf (.DictComp kx vx gs sc pos) j p0 t0 ifs0 act it acc Y.env)
    (pg : PG Y t0 g) (pt : PTs Y ifs0 tt) (pa : PAct Y vs act ta) (T : Turn Y.prog Y.w Y.K t0 J fp it tn) (I0 : Inv Y pins (L2.wipe σ vs) H0 s0) (st0 : tn 0 s0.heap) (hf : ∀ b ∈ fp, FpOk Y pins H0 b) (h : tLev J g tt ta vs σ H0 Qd)
    (hR : ∀ s' H', Inv Y pins (L2.wipe σ vs) H' s' → Qd H' → R (.ok .next) s') :
    codeAny (model Y.prog Y.w) Y.A (.compLoop (.DictComp kx vx gs sc pos) j (.ref it) acc Y.env) R s0 := by
  obtain ⟨W, ⟨m0, w0⟩, turn⟩ := h
  have fpo : ∀ {H' : Hp}, (∀ b ∈ fp, H' b = none) → ∀ b ∈ fp, FpOk Y pins H' b := fun hn b hb => ⟨hn b hb, (hf b hb).2⟩
  refine level_loop (ht _) (fun N s => ∃ pl σ' H' N', Inv Y (pins ++ pl) σ' H' s ∧ ta σ' H' N' ∧ ∀ s' σ2 H2, Inv Y (pins ++ pl) σ2 H2 s' → Knows (L2.wipe σ' vs) σ2 → N' H2 → N s')
    (fun N k Q E' s ⟨pl, σ', H', N', I, a, b⟩ hk => pa.run _ s σ' H' N' k Q E' I a fun s' σ2 H2 I2 kn n2 => hk s' (b s' σ2 H2 I2 kn n2))
    (fun n s' => ∃ i H', Inv Y pins (L2.wipe σ vs) H' s' ∧ tn i s'.heap ∧ (∀ b ∈ fp, H' b = none) ∧ W i n H') ?_ m0 s0 ⟨0, H0, I0, st0, fun b hb => (hf b hb).1, w0⟩
  rintro n s5 ⟨i, H5, I5, st5, n5, w5⟩
  rcases turn i n H5 w5 with ⟨stop, qq⟩ | ⟨go, Nx, hNx, step⟩
  · refine wpAny_mono (T.done Y rfl rfl rfl hc i pins s5 _ H5 (fun _ _ => False) I5 (fpo n5) st5 stop) (fun r s6 ⟨hr, I6⟩ => ?_) fun _ _ z => z
    subst hr
    exact hR s6 H5 I6 qq
  · refine wpAny_mono (T.item Y rfl rfl rfl hc i pins s5 _ H5 (fun _ _ => False) I5 (fpo n5) st5 go) (fun r s6 ⟨u, hr, h6⟩ => ?_) fun _ _ z => z
    subst hr
    refine wpAny_mono h6 (fun _ s7 ⟨x, H7, I7, r7, y7, st7, n7⟩ => ?_) fun _ _ z => z
    have Ip := I7.pinned (fpo n7) (T.obj _ _ st7)
    have q1 := pg.run _ s7 _ H7 x u _ Ip r7 (step x H7 y7)
    rw [hx] at q1
    refine wpAny_mono q1 (fun _ s8 ⟨σ8, H8, I8, hw8, q8⟩ => ?_) fun _ _ z => z
    have q2 := pt.run _ s8 σ8 H8 _ I8 q8
    rw [hx] at q2
    refine wpAny_mono q2 (fun b s9 ⟨H9, I9, q9⟩ => ?_) fun _ _ z => z
    have back : ∀ s' σ2 H2, Inv Y (pins ++ pinsAt fp s7.heap) σ2 H2 s' → Knows (L2.wipe σ8 vs) σ2 → Nx H2 → ∃ m, m < n ∧ ∃ i H', Inv Y pins (L2.wipe σ vs) H' s' ∧ tn i s'.heap ∧ (∀ b ∈ fp, H' b = none) ∧ W i m H' := fun s' σ2 H2 I2 kn nx => by
      obtain ⟨m', hm, w'⟩ := hNx H2 nx
      have pin' : ∀ b ∈ fp, ∀ ob, s7.heap.get? b = some ob → s'.heap.get? b = some ob ∧ H2 b = none := fun b hb ob e =>
        let z := I2.pin (b, ob) (List.mem_append_right _ (List.mem_append_right _ (mem_pinsAt hb e)))
        ⟨z.1, z.2.1⟩
      rw [hw8] at kn
      refine ⟨m', hm, i + 1, H2, I2.unpinned.weak kn.1 kn.2, T.keep _ _ _ st7 fun b hb ob e => (pin' b hb ob e).1, fun b hb => ?_, w'⟩
      obtain ⟨ob, e, _⟩ := T.obj _ _ st7 b hb
      exact (pin' b hb ob e).2
    cases b with
    | false =>
      rw [if_neg Bool.false_ne_true] at q9 ⊢
      exact back s9 σ8 H9 I9 (Knows.wipe vs) q9
    | true =>
      rw [if_pos rfl] at q9 ⊢
      exact ⟨_, σ8, H9, Nx, I9, q9, back⟩
/-- d[k] = v at a clause's end, k a tuple of numbers or texts -/
def tPut (tk tv : TE) (D : Addr) : TAct := fun σ H N => tk σ H fun y H1 => tv σ H1 fun z H2 => ∃ (kvs : List (List Key × V)) (k : List Key) (b : Addr), y = .ref b ∧ H2 b = some (.tup (k.map kV)) ∧ H2 D = some (.dT kvs) ∧ kvs.length < sizeLine ∧ N (upd H2 D (.dT (putK kvs k z)))
/-- the same, by places -/
theorem put_tup {pins : List (Addr × Obj)} {σ : L2.St} {H : Hp} {s : Shared} {D b : Addr} {kvs : List (List Key × V)} {k : List Key} {v : V} {r : Value} {Q : Unit → Shared → Prop} {E : Value → Shared → Prop} (hu : Y.A.units + 1 < cLine) (I : Inv Y pins σ H s) (hD : H D = some (.dT kvs)) (hb : H b = some (.tup (k.map kV))) (hz : kvs.length < sizeLine)
    (rv : RelV v r) (h : ∀ s', Inv Y pins σ (upd H D (.dT (putK kvs k v))) s' → Q () s') : wpAny (model Y.prog Y.w) Y.A (dictSet D (.ref b) r) Q E s := by
  obtain ⟨z, hd, xs, rel, dd⟩ := dt_of I.hok hD
  have l1 : xs.length ≤ sizeLine := by rw [← Paired.length rel]; exact z
  have l2 : (putK kvs k v).length ≤ sizeLine := Nat.le_trans (length_putK kvs k v) hz
  refine wpAny_dictSet_heap (hsz := l1) (show (tupleKind (mixKind Y.prog Y.w)).room Y.A from by first | exact hu | exact (show Y.A.units < cLine by omega)) (key_of I.hok hb) dd fun h' dd' hs => h _ ?_
  obtain ⟨q, es, ep, hq, h2, h3, h4, _, h5⟩ := dd'
  have kp : KT (upd H D (.dT (putK kvs k v))) (putK kvs k v) _ := (rel.put k hb rv).keeps fun c ys ec => (upd_ne (fun e => by rw [e, hD] at ec; cases ec)).trans ec
  exact d_write I (by rw [hD]; exact True.intro) hs ⟨q, hq⟩ ⟨l2, hd, _, kp, q, es, ep, hq, h2, h3, h4, h5⟩
theorem pact_put {kx vx : Expr} {tk tv : TE} {D : Addr} {own : List Nat} (hx : Y.xe = fun _ _ => False) (hu : Y.A.units + 1 < cLine) (pk : PE Y kx tk) (pv : PE Y vx tv) : PAct Y own (putThen kx vx D Y.env) (tPut tk tv D) := by
  refine ⟨fun pins s σ H N k Q E' I h hk => ?_⟩
  have q1 := pk.run _ s σ H _ I h
  rw [hx] at q1
  unfold putThen putAct
  refine wpAny_bind (wpAny_bind (wpAny_mono (wp_no q1) (fun kv s1 ⟨y, H1, I1, r1, h1⟩ => ?_) fun _ _ z => z))
  have q2 := pv.run _ s1 σ H1 _ I1 h1
  rw [hx] at q2
  refine wpAny_bind (wpAny_holding (wpAny_mono (wp_no q2) (fun vv s2 ⟨z, H2, I2, r2, kvs, kk, b, e, hb, hD, hz, n⟩ => ?_) fun _ _ z => z))
  subst e
  cases (show kv = Value.ref b from r1)
  exact wpAny_bind (wpAny_standAt (wpAny_holding (put_tup hu I2 hD hb hz r2 fun s3 I3 => hk s3 σ _ I3 (Knows.wipe own) n)))
/-- the second clause begins -/
theorem start_in {prog : Program} {w : World} {A : Around} {R : Result → Shared → Prop} {s : Shared} {kx vx t i t1 i1 : Expr} {ifs ifs1 : List Expr} {sc : Scope} {pos : Pos} {it acc : Value} {env : Env}
    (h : codeAny (model prog w) A (.compLoop (.DictComp kx vx [⟨t, i, ifs, 0⟩, ⟨t1, i1, ifs1, 0⟩] sc pos) 1 it acc env) R s)
    (hi : wpAny (model prog w) A (pyIter it) (fun it2 s2 => codeAny (model prog w) A (.compLoop (.DictComp kx vx [⟨t, i, ifs, 0⟩, ⟨t1, i1, ifs1, 0⟩] sc pos) 1 it2 acc env) R s2) (fun _ _ => False) s) :
    codeAny (model prog w) A (.compStart (.DictComp kx vx [⟨t, i, ifs, 0⟩, ⟨t1, i1, ifs1, 0⟩] sc pos) 1 it acc env) R s := by
  refine codeAny_of_tree (show wpAny _ A ((compStart (.DictComp kx vx [⟨t, i, ifs, 0⟩, ⟨t1, i1, ifs1, 0⟩] sc pos) 1 it acc env).onRaise fun x => (do noteFrame x env; standAt theWindowsPlace)) _ _ s from wpAny_notedAt ?_)
  unfold compStart
  show wpAny _ A (ask >>= _) _ _ s
  refine wpAny_bind (wpAny_askSetting (wpAny_ite ?_))
  split
  · first
      | exact wpAny_pure ⟨rfl, h⟩
      | exact wpAny_bind (wpAny_pure (wpAny_pure ⟨rfl, h⟩))
  · first
      | exact wpAny_bind (wpAny_rule (wpAny_bind (wpAny_standAt (wpAny_bind (wpAny_mono (wp_no hi) (fun it2 s2 h2 => wpAny_pure ⟨rfl, h2⟩) fun _ _ z => z)))))
      | (refine wpAny_bind (wpAny_rule ?_); show wpAny _ A (standAt i1.pos >>= _) _ _ s; exact wpAny_bind (wpAny_standAt (wpAny_bind (wpAny_mono (wp_no hi) (fun it2 s2 h2 => wpAny_pure ⟨rfl, h2⟩) fun _ _ z => z))))
/-- a clause within -/
def tDeep (wi : TI) (g : TG) (tt : TT) (ta : TAct) (vs : List Nat) : TAct := fun σ H N => wi σ H fun J H1 => tLev J g tt ta vs σ H1 N
theorem pact_deep {kx vx t i t1 i1 : Expr} {ifs ifs1 : List Expr} {sc : Scope} {pos : Pos} {D : Addr} {own vs : List Nat} {wi : TI} {g : TG} {tt : TT} {ta : TAct} (hx : Y.xe = fun _ _ => False) (hc : Y.calm = true) (hv : ∀ i ∈ vs, i ∈ own)
    (pi : PI Y t1 i1 wi) (pg : PG Y t1 g) (pt : PTs Y ifs1 tt) (pa : PAct Y vs (putThen kx vx D Y.env) ta) (hs : ∀ env x, foldedSetIterable i1 env x = pure x) :
    PAct Y own (deepThen (.DictComp kx vx [⟨t, i, ifs, 0⟩, ⟨t1, i1, ifs1, 0⟩] sc pos) i1 (.ref D) Y.env) (tDeep wi g tt ta vs) := by
  refine ⟨fun pins s σ H N k Q E' I h hk => ?_⟩
  have q1 := pi.run _ s σ H _ I h
  rw [hx] at q1
  unfold deepThen
  refine wpAny_bind (wpAny_mono (wp_no q1) (fun xv s1 hx1 => ?_) fun _ _ z => z)
  refine wpAny_bind (wpAny_standAt (wpAny_bind (wpAny_of_eq (hs _ xv) (wpAny_bind (wpAny_holding (wpAny_mono (wp_no hx1) (fun itv s2 h2 => ?_) fun _ _ z => z))))))
  obtain ⟨it, fp, tn, J, H2, e, I2, T, st2, f2, tl⟩ := h2
  subst e
  let R : Result → Shared → Prop := fun r s' => match r with
      | .ok _ => ∃ H', Inv Y pins (L2.wipe σ vs) H' s' ∧ N H'
      | .error _ => False
  have loop : codeAny (model Y.prog Y.w) Y.A (.compLoop (.DictComp kx vx [⟨t, i, ifs, 0⟩, ⟨t1, i1, ifs1, 0⟩] sc pos) 1 (.ref it) (.ref D) Y.env) R s2 :=
    level_ok hx hc (fun it => turn_in kx vx t i t1 i1 ifs ifs1 sc pos it D Y.env) pg pt pa T (I2.weak (wipe_length _ _) fun _ _ e => (wipe_some e).1) st2 f2 tl fun s' H' I' n => ⟨H', I', n⟩
  refine wpAny_bind (wpAny_runOwn ?_)
  rw [Around.mark_none]
  refine codeAny_mono (start_in loop (T.self Y.A 0 _ _ _ st2 loop)) fun r s' hr => ?_
  cases r with
  | error e => exact hr.elim
  | ok f =>
    obtain ⟨H', I', n⟩ := hr
    have kn : Knows (L2.wipe σ own) (L2.wipe σ vs) := ⟨by rw [wipe_length, wipe_length], fun j v e => by
      obtain ⟨e1, e2⟩ := wipe_some e
      rw [wipe_out fun z => e2 (hv j z)]; exact e1⟩
    exact hk s' _ H' I' kn n
end
end PL
end
section
set_option linter.all false
set_option maxRecDepth 100000
set_option maxHeartbeats 4000000
set_option autoImplicit false
namespace PL
open PySem PySem.Spec PyProof.Rows L2
/-- {..}, its first source's clause by an invariant -/
def tDcT (wi : TI) (g : TG) (tt : TT) (ta : Addr → TAct) (vs : List Nat) : TE := fun σ H Q => wi σ H fun J H1 => ∀ D, H1 D = none → tLev J g tt (ta D) vs σ (upd H1 D (.dT [])) fun H' => Q (.ref D) H'
section
variable {X : Cx}
theorem dcT_core {pins : List (Addr × Obj)} {s : Shared} {σ : L2.St} {H : Hp} {Q : VK} {use : Option (Value → Sem Unit)} {Qf : Value → Shared → Prop} {pos' : Pos} {kx vx tg iter : Expr} {ifs : List Expr} {rest : List Comprehension} {scope : Scope} {own : List (Str × Nat)} {pos : Pos} {wi : TI} {g : TG} {tt : TT} {ta : Addr → TAct} {act : Addr → Env → Sem PySem.Fin → Sem PySem.Fin}
    (hc : X.calm = true) (hN : X.N.Nodup) (hi : PI X tg iter wi) (ok : BlkOk X.N X.env.scope scope own)
    (hg : ∀ (s : Shared) (H : Hp) (C : Addr) (cl : List (Str × Addr)) (fp : List Addr), PG (X.blk s H scope (compEnvC scope cl C X.env) fp) tg g)
    (ht : ∀ (s : Shared) (H : Hp) (C : Addr) (cl : List (Str × Addr)) (fp : List Addr), PTs (X.blk s H scope (compEnvC scope cl C X.env) fp) ifs tt)
    (ha : ∀ (s : Shared) (H : Hp) (C : Addr) (cl : List (Str × Addr)) (fp : List Addr) (D : Addr), PAct (X.blk s H scope (compEnvC scope cl C X.env) fp) (own.map (·.2)) (act D (compEnvC scope cl C X.env)) (ta D))
    (hturn : ∀ (it : Value) (D : Addr) (env : Env), compTurn (.DictComp kx vx (⟨tg, iter, ifs, 0⟩ :: rest) scope pos) 0 it (.ref D) env = turnOf (.DictComp kx vx (⟨tg, iter, ifs, 0⟩ :: rest) scope pos) 0 iter.pos tg ifs (act D env) it (.ref D) env)
    (hs : ∀ x, foldedSetIterable iter X.env x = pure x)
    (I : Inv X pins σ H s) (h : tDcT wi g tt ta (own.map (·.2)) σ H Q)
    (hR : ∀ D C s' m H', Inv X pins σ H' s' → Q (.ref D) H' → s'.heap.Ns C m → FpOk X pins H' C → compPost (model X.prog X.w) X.A X.xe use Qf (.ref D) C (.ok .next) s') :
    wpAny (model X.prog X.w) X.A (comprehension (.DictComp kx vx (⟨tg, iter, ifs, 0⟩ :: rest) scope pos) scope X.env pos' newDict false (eval iter X.env) use) Qf X.xe s := by
  have clo : ∀ y ∈ scope.names, y.2 = .free → ∃ c, X.env.cells.lookup y.1 = some c := fun y hy e => I.ok.has _ (ok.free y hy e)
  refine wpAny_comprehension_free (use := use) rfl hs (closure_ok clo) ok.kind (fun y hy e => (ok.uniq y hy).trans (by rw [e])) ?_
  refine wpAny_mono (hi.run pins s σ H _ I h) (fun v0 s1 q1 => wpAny_mono q1 (fun itv s2 q2 => ?_) fun _ _ z => z) fun _ _ z => z
  obtain ⟨it, fp, tn, J, H2, rfl, I2, T, st2, f2, q⟩ := q2
  refine wpAny_newObj_type (newEnv_comp ?_)
  have fr : H2 s2.heap.objs.size = none := I2.hok.fresh (Nat.le_refl _)
  have q := q s2.heap.objs.size fr
  -- the state with the new dict in it
  let o0 : Obj := { cls := .type "dict", data := .dict #[] }
  let s3 : Shared := { s2 with heap := s2.heap.push o0 }
  let H3 : Hp := upd H2 s2.heap.objs.size (.dT [])
  have I3 : Inv X pins σ H3 s3 := I2.laid (t' := s2.toks) (fun _ _ e => Heap.get?_push_of_some _ e) (Nat.le_refl _) (dt_empty s2.heap I2.big)
  have hsz : s3.heap.objs.size = s2.heap.objs.size + 1 := Heap.size_push ..
  have old : ∀ b ∈ fp, b < s2.heap.objs.size := fun b hb => by
    obtain ⟨o, e, _⟩ := T.obj _ _ st2 b hb
    exact Heap.lt_size e
  have f3 : ∀ b ∈ fp, FpOk X pins H3 b ∧ b < s3.heap.objs.size := fun b hb => by
    have l := old b hb
    exact ⟨⟨(upd_ne (Nat.ne_of_lt l)).trans (f2 b hb).1, (f2 b hb).2⟩, by rw [hsz]; exact Nat.lt_succ_of_lt l⟩
  have I4 := block_start I3 ok hN f3
  have st4 : tn 0 (pushCells (s3.heap.push o0) scope.names) := T.keep _ _ _ st2 fun b _ o e => pushCells_keeps _ _ _ _ (Heap.get?_push_of_some _ (Heap.get?_push_of_some _ e))
  let cl := cellsFrom (s3.heap.objs.size + 1) scope.names (cloFrom X.env.cells scope.names [])
  let Y : Cx := X.blk s3 H3 scope (compEnvC scope cl s3.heap.objs.size X.env) fp
  let s4 : Shared := { s3 with heap := pushCells (s3.heap.push o0) scope.names }
  have I4 : Inv Y [] (L2.wipe σ (own.map (·.2))) H3 s4 := I4
  have f4 : ∀ b ∈ fp, FpOk Y [] H3 b := fun b hb => ⟨(f3 b hb).1.1, (I4.ok.exf b hb).1, I4.ok.exfs b hb, .inl hb, fun x c e => (I4.ok.exf b hb).2 x c e, fun p hp => absurd (show p ∈ ([] : List (Addr × Obj)) ++ [] from hp) (by simp)⟩
  have loop : codeAny (model X.prog X.w) X.A (.compLoop (.DictComp kx vx (⟨tg, iter, ifs, 0⟩ :: rest) scope pos) 0 (.ref it) (.ref s2.heap.objs.size) Y.env) (compPost (model X.prog X.w) X.A X.xe use Qf (.ref s2.heap.objs.size) s3.heap.objs.size) s4 := by
    refine level_ok (Y := Y) (Qd := fun H' => Q (.ref s2.heap.objs.size) H') rfl hc (fun z => hturn z _ _) (hg s3 H3 _ cl fp) (ht s3 H3 _ cl fp) (ha s3 H3 _ cl fp _) T I4 st4 f4 q fun s6 H6 I6 q6 => ?_
    have I7 : Inv X pins σ H6 s6 := I3.call' (ch := fp) I6.os I6.base I6.hok I6.bare fun b hb => ⟨(f3 b hb).1.2.2.2.1, (f3 b hb).1.2.1, (f3 b hb).1.2.2.2.2.1, (f3 b hb).1.2.2.2.2.2⟩
    have nC : H6 s3.heap.objs.size = none := I6.free
    obtain ⟨m, hn, _⟩ := I6.loc
    exact hR _ _ s6 m H6 I7 q6 hn (I3.fpOk (Nat.le_refl _) nC)
  exact codeAny_compStart_dict loop (T.self X.A 0 _ _ _ st4 loop)
/-- as a value -/
theorem pe_dcT {kx vx tg iter : Expr} {ifs : List Expr} {rest : List Comprehension} {scope : Scope} {own : List (Str × Nat)} {pos : Pos} {wi : TI} {g : TG} {tt : TT} {ta : Addr → TAct} {act : Addr → Env → Sem PySem.Fin → Sem PySem.Fin}
    (hc : X.calm = true) (hN : X.N.Nodup) (hi : PI X tg iter wi) (ok : BlkOk X.N X.env.scope scope own)
    (hg : ∀ (s : Shared) (H : Hp) (C : Addr) (cl : List (Str × Addr)) (fp : List Addr), PG (X.blk s H scope (compEnvC scope cl C X.env) fp) tg g)
    (ht : ∀ (s : Shared) (H : Hp) (C : Addr) (cl : List (Str × Addr)) (fp : List Addr), PTs (X.blk s H scope (compEnvC scope cl C X.env) fp) ifs tt)
    (ha : ∀ (s : Shared) (H : Hp) (C : Addr) (cl : List (Str × Addr)) (fp : List Addr) (D : Addr), PAct (X.blk s H scope (compEnvC scope cl C X.env) fp) (own.map (·.2)) (act D (compEnvC scope cl C X.env)) (ta D))
    (hturn : ∀ (it : Value) (D : Addr) (env : Env), compTurn (.DictComp kx vx (⟨tg, iter, ifs, 0⟩ :: rest) scope pos) 0 it (.ref D) env = turnOf (.DictComp kx vx (⟨tg, iter, ifs, 0⟩ :: rest) scope pos) 0 iter.pos tg ifs (act D env) it (.ref D) env)
    (hs : ∀ x, foldedSetIterable iter X.env x = pure x) :
    PE X (.DictComp kx vx (⟨tg, iter, ifs, 0⟩ :: rest) scope pos) (tDcT wi g tt ta (own.map (·.2))) := by
  refine ⟨fun pins s σ H Q I h => ?_⟩
  rw [arm_eval_DictComp]
  refine dcT_core (use := none) (Qf := EP X pins σ Q) hc hN hi ok hg ht ha hturn hs I h fun D C s' m H' I' q hn f => ?_
  obtain ⟨g0, g1, g2, g3, g4, g5⟩ := f
  exact ⟨m, hn, fun h'' sb => ⟨.ref D, H', I'.turned (t' := s'.toks) (fun b o hb e => (sb.2 b hb).trans e) g0 g1 g3 g4 g5, rfl, q⟩⟩
/-- stored straight -/
theorem ps_setDcT {i : Nat} {y : Str} {py spos : Pos} {kx vx tg iter : Expr} {ifs : List Expr} {rest : List Comprehension} {scope : Scope} {own : List (Str × Nat)} {pos : Pos} {wi : TI} {g : TG} {tt : TT} {ta : Addr → TAct} {act : Addr → Env → Sem PySem.Fin → Sem PySem.Fin}
    (hc : X.calm = true) (hN : X.N.Nodup) (hi : PI X tg iter wi) (ok : BlkOk X.N X.env.scope scope own)
    (hg : ∀ (s : Shared) (H : Hp) (C : Addr) (cl : List (Str × Addr)) (fp : List Addr), PG (X.blk s H scope (compEnvC scope cl C X.env) fp) tg g)
    (ht : ∀ (s : Shared) (H : Hp) (C : Addr) (cl : List (Str × Addr)) (fp : List Addr), PTs (X.blk s H scope (compEnvC scope cl C X.env) fp) ifs tt)
    (ha : ∀ (s : Shared) (H : Hp) (C : Addr) (cl : List (Str × Addr)) (fp : List Addr) (D : Addr), PAct (X.blk s H scope (compEnvC scope cl C X.env) fp) (own.map (·.2)) (act D (compEnvC scope cl C X.env)) (ta D))
    (hturn : ∀ (it : Value) (D : Addr) (env : Env), compTurn (.DictComp kx vx (⟨tg, iter, ifs, 0⟩ :: rest) scope pos) 0 it (.ref D) env = turnOf (.DictComp kx vx (⟨tg, iter, ifs, 0⟩ :: rest) scope pos) 0 iter.pos tg ifs (act D env) it (.ref D) env)
    (hs : ∀ x, foldedSetIterable iter X.env x = pure x)
    (hy : X.N[i]? = some y) (hyl : X.env.scope.names.lookup y = some .local) (hsw : swapsWith (.DictComp kx vx (⟨tg, iter, ifs, 0⟩ :: rest) scope pos) (some (.Name y py)) spos.line X.env = pure true) :
    PS X (.Assign [.Name y py] (.DictComp kx vx (⟨tg, iter, ifs, 0⟩ :: rest) scope pos) spos) (tAsg (tDcT wi g tt ta (own.map (·.2))) (gName i)) := by
  refine ⟨fun pins s σ H En I h => ?_⟩
  rw [exec_Assign_Name_used _ _ _ _ hsw]
  have h : tDcT wi g tt ta (own.map (·.2)) σ H (fun x H1 => gName i x σ H1 En.nx) := h
  refine wpAny_bind (wpAny_standAt (wpAny_bind ?_))
  show wpAny _ X.A (do let _ ← comprehension (.DictComp kx vx (⟨tg, iter, ifs, 0⟩ :: rest) scope pos) scope X.env (firstIterPos (⟨tg, iter, ifs, 0⟩ :: rest) pos) newDict false (eval iter X.env) (some (assign (.Name y py) X.env))) _ _ s
  refine wpAny_bind (wpAny_mono (dcT_core (use := some (assign (.Name y py) X.env)) (Qf := fun _ s' => SP X pins En .next s') hc hN hi ok hg ht ha hturn hs I h fun D C s' m H' I' q hn f => ?_) (fun _ s' hq => wpAny_pure (wpAny_pure hq)) fun _ _ z => z)
  show wpAny _ _ (assign (.Name y py) X.env (.ref D)) _ _ _
  refine wpAny_assign_Name (store_ok2 (v := V.ref D) I' hN hy (.inl hyl) rfl (fun s2 I2 ⟨a, sb, ha⟩ => ?_) (.inr hyl))
  obtain ⟨g0, g1, g2, g3, g4, g5⟩ := f
  have hne : C ≠ a := fun e => ha.elim (fun z => g1 (e.trans z)) fun z => g4 y a z e.symm
  exact ⟨m, hn.sameBut sb hne, fun h3 sb3 => ⟨_, H', I2.turned (t' := s2.toks) (fun b o hb e => (sb3.2 b hb).trans e) g0 g1 g3 g4 g5, q⟩⟩
end
end PL
end
section
set_option linter.all false
set_option maxRecDepth 100000
set_option maxHeartbeats 4000000
set_option autoImplicit false
namespace PL
open PySem PySem.Spec PyProof.Rows L2
def ItiT (d : Addr) (o : Obj) (kvs : List (List Key × V)) : It :=
  ⟨fun i H => H d = some (.frz o (.dT kvs)) ∧ i < kvs.length,
   fun i H x H' => ∃ (T q : Addr) (k : List Key) (v : V), kvs[i]? = some (k, v) ∧ H q = some (.tup (k.map kV)) ∧ x = .ref T ∧ H T = none ∧ H' = upd H T (.tup [.ref q, v]),
   fun i H => H d = some (.frz o (.dT kvs)) ∧ kvs.length ≤ i⟩
section
variable {X : Cx} {pins : List (Addr × Obj)} {σ : L2.St} {H : Hp} {s : Shared} {d : Addr} {o : Obj}
theorem frz_pairs {kvs : List (List Key × V)} (I : Inv X pins σ H s) (h : H d = some (.frz o (.dT kvs))) :
    (d == sysModules) = false ∧ ∃ (es : Array DictEntry) (ep : Nat), o.data = .dict es ep ∧ DT.Raw s.heap d es ep ∧ es.size = kvs.length ∧
      ∀ (i : Nat) (k : List Key) (v : V), kvs[i]? = some (k, v) → ∃ (en : DictEntry) (q : Addr), es[i]? = some en ∧ en.key = .ref q ∧ H q = some (.tup (k.map kV)) ∧ RelV v en.val := by
  obtain ⟨hd, z, hs, xs, pr, o', es, ep, ho, hx, hdt, he, _⟩ := I.hok d _ h
  have eo : o' = o := Option.some.inj (ho.symm.trans hd)
  subst eo
  refine ⟨hs, es, ep, hdt, ⟨o', ho, hx, hdt⟩, by rw [size_of_entries he]; exact (Paired.length pr).symm, fun i k v e => ?_⟩
  obtain ⟨b, hb, e1, e2, e3⟩ := paired_get pr e
  refine ⟨_, b.2.1, (entry_at he i).trans (by rw [hb]; rfl), rfl, e2, ?_⟩
  first | exact e3 | exact e3.1 | exact e3.2
end
theorem turn_itT {P : Program} {w : World} {K : PySem.W.Frag} {d : Addr} {o : Obj} {es : Array DictEntry} {ep : Nat} {kvs : List (List Key × V)} {elts : List Expr} {kk : Nat} {tpos : Pos} (it : Addr) (hod : o.data = .dict es ep) :
    Turn P w K (.Tuple elts kk tpos) (ItiT d o kvs) [it] it (fun i h => ∃ a b, IsItemIter h it d i kvs.length ep a b) where
  mem := List.mem_singleton.mpr rfl
  obj := fun i h ⟨a, b, e⟩ c hc => by
    cases List.mem_singleton.mp hc
    exact ⟨_, e, fun v z => nomatch z⟩
  keep := fun i h h' ⟨a, b, e⟩ k => ⟨a, b, k it (List.mem_singleton.mpr rfl) _ e⟩
  item := fun X hP hw hK hc i pins s σ H E I hf ⟨a, b, e⟩ ⟨hd, hi⟩ => by
    subst hP hw hK
    obtain ⟨hs, es', ep', hdt, raw, hsz, ent⟩ := frz_pairs I hd
    have e2 := hod.symm.trans hdt
    cases e2
    obtain ⟨k, v⟩ : List Key × V := kvs[i]
    have hkv : kvs[i]? = some (kvs[i].1, kvs[i].2) := List.getElem?_eq_getElem hi
    obtain ⟨en, q, hen, hkey, hq, rv⟩ := ent i _ _ hkv
    obtain ⟨hie, hen⟩ := Array.getElem?_eq_some_iff.mp hen
    subst hen
    have hlt : it < s.heap.objs.size := Heap.lt_size e
    rw [← hsz] at e
    refine DT.nextI e raw hie fun h1 out tup sz old => ⟨_, rfl, ?_⟩
    refine wpAny_letOwnedTupleGo_items (s := { s with heap := h1 }) out fun h2 it2 sb => ?_
    have t2 : h2.get? s.heap.objs.size = some { cls := .type "tuple", data := .seq #[es[i].key, es[i].val] } := (sb.2 _ (Nat.ne_of_gt hlt)).trans tup
    have new : ObjOk X.prog X.w (upd H s.heap.objs.size (.tup [.ref q, kvs[i].2])) h2 s.heap.objs.size (.tup [.ref q, kvs[i].2]) :=
      ⟨(by decide : 2 ≤ sizeLine), [es[i].key, es[i].val], .cons hkey (.cons rv .nil), ⟨_, t2, rfl, _, rfl⟩⟩
    have I1 := I.turnedNew (t' := s.toks) (ch := [it]) (fun c ob hb z => (sb.2 c (fun q => hb (List.mem_singleton.mpr q))).trans (old c ob (fun q => hb (List.mem_singleton.mpr q)) z)) hf (Nat.le_refl _) new
    rw [hsz] at it2
    exact ⟨.ref s.heap.objs.size, _, I1, rfl, ⟨_, q, _, _, hkv, hq, rfl, I.hok.fresh (Nat.le_refl _), rfl⟩, ⟨_, _, it2⟩, fun c hb => by
      cases List.mem_singleton.mp hb
      rw [upd_ne (Nat.ne_of_lt hlt)]
      exact (hf it (List.mem_singleton.mpr rfl)).1⟩
  done := fun X hP hw hK hc i pins s σ H E I hf ⟨a, b, e⟩ ⟨hd, hi⟩ => by
    subst hP hw hK
    obtain ⟨hs, es', ep', hdt, raw, hsz, ent⟩ := frz_pairs I hd
    have e2 := hod.symm.trans hdt
    cases e2
    obtain ⟨f0, f1, f2, f3, f4, f5⟩ := hf it (List.mem_singleton.mpr rfl)
    rw [← hsz] at e
    exact DT.endI (I.ok.hd hc) e raw (by omega) fun h' eb => ⟨rfl, I.turned (t' := s.toks) (fun c ob hb z => eb c ob hb z) f0 f1 f3 f4 f5⟩
  self := fun A i s Q E ⟨_, _, e⟩ h => PySem.W.kcp_self e h
/-- .. in e.items(), e a dict that is nobody's; it is locked here -/
def iItemsT (td : TE) : TI := fun σ H R => td σ H fun x H1 => ∃ d kvs, x = .ref d ∧ H1 d = some (.dT kvs) ∧ ∀ o, R (ItiT d o kvs) (upd H1 d (.frz o (.dT kvs)))
theorem pi_itemsT {X : Cx} {e : Expr} {td : TE} {elts : List Expr} {kk : Nat} {tpos apos cpos : Pos} (he : PE X e td) (hbase : attributeBase e "items" X.env (eval e X.env) = eval e X.env) (hline : (apos.endLine == cpos.line) = true) :
    PI X (.Tuple elts kk tpos) (.Call (.Attribute e "items" apos) [] [] cpos) (iItemsT td) := by
  refine ⟨fun pins s σ H R I h => ?_⟩
  refine wpAny_Call_method (T := "dict") (id := "dict.items") hbase rfl hline F.plainAttrs_dict F.slot_dict_items F.type_dict_items (wpAny_mono (he.run pins s σ H _ I h) (fun u s1 ⟨x, H1, I1, rx, d, kvs, ex, hd, q⟩ => ?_) fun _ _ z => z)
  subst ex
  cases (show u = Value.ref d from rx)
  obtain ⟨o, I2⟩ := I1.lock hd True.intro
  have q := q o
  obtain ⟨hs, es, ep, hdt, raw, hsz, ent⟩ := frz_pairs I2 upd_same
  refine ⟨raw.typeIs, ?_, ?_⟩
  · obtain ⟨o1, h1, h2, h3⟩ := raw
    exact fun a e => by cases e; first | exact ⟨o1, h1, h2.2.1⟩ | exact ⟨o1, h1, h2.2.2⟩ | exact ⟨o1, h1, h2.1⟩
  · have I3 : Inv X pins σ (upd H1 d (.frz o (.dT kvs))) { s1 with heap := s1.heap.push { cls := .type "dict_items", data := .fields #[.ref d] } } := I2.kept (t' := s1.toks) fun b ob q => Heap.get?_push_of_some _ q
    have fin : wpAny (model X.prog X.w) X.A (pyIter (.ref s1.heap.objs.size)) (PIE X pins σ (.Tuple elts kk tpos) R) X.xe { s1 with heap := s1.heap.push { cls := .type "dict_items", data := .fields #[.ref d] } } :=
      DT.iterI (d := d) ⟨_, Heap.get?_push_size _ rfl, rfl, rfl⟩ (raw.push _) (pi_one (tk := s1.toks) I3 _ (turn_itT _ hdt) ⟨.none, .none, by rw [← hsz]; exact Heap.get?_push_size _ rfl⟩ q)
    show wpAny _ _ (callWith cpos (.builtin "dict.items") [.ref d] [] []) _ X.xe s1
    exact method_meetsIn F.slot_dict_items F.entry_dict_items rfl (PySem.evalArgs_none ⟨rfl, raw.typeIs, F.args_dict_items_1 _, _, DT.meetsItems (es := es) (ep := ep) hs, raw, fin⟩)
end PL
end
section
set_option linter.all false
set_option maxRecDepth 100000
set_option maxHeartbeats 4000000
set_option autoImplicit false
namespace PL
open PySem PySem.Spec PyProof.Rows L2
section
variable {F : Fr0} {μ μ' : List Addr} {oa : Nat → Option Addr} {ds : List Sl} {M M' : MS} {σ : L2.St} {H H' J J' : Hp} {kk : Nat} {A : Addr} {o : HO}
theorem inl_map_inj {a b : List Int} (h : a.map (Sum.inl (β := Str)) = b.map Sum.inl) : a = b := by
  induction a generalizing b with
  | nil => cases b with
    | nil => rfl
    | cons _ _ => cases h
  | cons x a ih => cases b with
    | nil => cases h
    | cons y b =>
      rw [List.map_cons, List.map_cons, List.cons.injEq] at h
      rw [Sum.inl.inj h.1, ih h.2]
theorem zip_any {ks : List (List Int)} {k : List Int} : ∀ {vs : List V}, ks.length = vs.length → (((kT ks).zip vs).any fun kv => decide (kv.1 = k.map Sum.inl)) = decide (k ∈ ks) := by
  induction ks with
  | nil => intro vs h; simp [kT]
  | cons a ks ih =>
    intro vs h
    cases vs with
    | nil => cases h
    | cons v vs =>
      have e : (kT (a :: ks)).zip (v :: vs) = (a.map Sum.inl, v) :: (kT ks).zip vs := rfl
      rw [e, List.any_cons, ih (by simpa using h)]
      by_cases ha : a = k
      · subst ha; simp
      · have h2 : ¬ k = a := fun e => ha e.symm
        have h1 : ¬ (a.map (Sum.inl (β := Str)) = k.map Sum.inl) := fun e => ha (inl_map_inj e)
        simp [h1, h2]
theorem zip_repl {ks : List (List Int)} {k : List Int} {z : V} : ∀ {vs : List V}, ks.length = vs.length →
    ((kT ks).zip vs).map (fun kv => if kv.1 = k.map Sum.inl then (kv.1, z) else kv) = (kT ks).zip ((ks.zip vs).map fun q => if q.1 = k then z else q.2) := by
  induction ks with
  | nil => intro vs h; rfl
  | cons a ks ih =>
    intro vs h
    cases vs with
    | nil => cases h
    | cons v vs =>
      have e : (kT (a :: ks)).zip (v :: vs) = (a.map Sum.inl, v) :: (kT ks).zip vs := rfl
      rw [e, List.map_cons, ih (by simpa using h), List.zip_cons_cons, List.map_cons]
      have e2 : ∀ (u : V) (us : List V), (kT (a :: ks)).zip (u :: us) = (a.map Sum.inl, u) :: (kT ks).zip us := fun _ _ => rfl
      rw [e2]
      by_cases ha : a = k
      · subst ha; simp
      · have h1 : ¬ (a.map (Sum.inl (β := Str)) = k.map Sum.inl) := fun e => ha (inl_map_inj e)
        simp [h1, ha]
theorem rep_repl {p : Pl} {κ : Type} [DecidableEq κ] {k : κ} {x : D} {z : V} (hx : Rep p x z) : ∀ {ks : List κ} {xs : List D} {vs : List V}, ks.length = vs.length → RepL p xs vs →
    RepL p ((ks.zip xs).map fun q => if q.1 = k then x else q.2) ((ks.zip vs).map fun q => if q.1 = k then z else q.2)
  | [], xs, vs, _, _ => rfl
  | a :: ks, [], vs, h, r => by rw [show vs = [] from r] at h; cases h
  | a :: ks, y :: xs, _, h, ⟨v, r, e, h1, h2⟩ => by
    subst e
    rw [List.zip_cons_cons, List.zip_cons_cons, List.map_cons, List.map_cons]
    refine ⟨_, _, rfl, ?_, rep_repl hx (by simpa using h) h2⟩
    show Rep p (if a = k then x else y) (if a = k then z else v)
    split
    · exact hx
    · exact h1
theorem kT_snoc (ks : List (List Int)) (k : List Int) : kT (ks ++ [k]) = kT ks ++ [k.map Sum.inl] := by unfold kT; rw [List.map_append]; rfl
/-- a dict's item put -/
theorem own_put {p q : Pl} {ks : List (List Int)} {xs : List D} {k : List Int} {x : D} {z : V} {vs : List V} (hq : Evo p q) (hl : ks.length = vs.length) (r : RepL p xs vs) (hx : Rep p x z) (hA : q.H A = some (.dT (putK ((kT ks).zip vs) (k.map Sum.inl) z))) :
    Own q (.dT (putT ks xs k x).1 (putT ks xs k x).2) A := by
  have hxl := r.length
  unfold putK at hA
  rw [zip_any hl] at hA
  unfold putT putD
  by_cases hm : k ∈ ks
  · rw [if_pos (by simpa using hm), zip_repl hl] at hA
    rw [if_pos hm]
    exact ⟨_, hA, by simp [hl], (rep_repl hx hl r).mono hq⟩
  · rw [if_neg (by simpa using hm)] at hA
    rw [if_neg hm]
    refine ⟨vs ++ [z], ?_, by simp [hl], (r.append (ys := [x]) (ws := [z]) ⟨z, [], rfl, hx, rfl⟩).mono hq⟩
    rw [hA, kT_snoc, List.zip_append (by unfold kT; rw [List.length_map]; exact hl)]; rfl
theorem zip_anyI {ks : List Int} {k : Int} : ∀ {vs : List V}, ks.length = vs.length → (((kI ks).zip vs).any fun kv => decide (kv.1 = Sum.inl k)) = decide (k ∈ ks) := by
  induction ks with
  | nil => intro vs h; simp [kI]
  | cons a ks ih =>
    intro vs h
    cases vs with
    | nil => cases h
    | cons v vs =>
      have e : (kI (a :: ks)).zip (v :: vs) = (Sum.inl a, v) :: (kI ks).zip vs := rfl
      rw [e, List.any_cons, ih (by simpa using h)]
      by_cases ha : a = k
      · subst ha; simp
      · have h2 : ¬ k = a := fun e => ha e.symm
        simp [ha, h2]
theorem zip_replI {ks : List Int} {k : Int} {z : V} : ∀ {vs : List V}, ks.length = vs.length →
    ((kI ks).zip vs).map (fun kv => if kv.1 = Sum.inl k then (kv.1, z) else kv) = (kI ks).zip ((ks.zip vs).map fun q => if q.1 = k then z else q.2) := by
  induction ks with
  | nil => intro vs h; rfl
  | cons a ks ih =>
    intro vs h
    cases vs with
    | nil => cases h
    | cons v vs =>
      have e2 : ∀ (u : V) (us : List V), (kI (a :: ks)).zip (u :: us) = (Sum.inl a, u) :: (kI ks).zip us := fun _ _ => rfl
      rw [e2, List.map_cons, ih (by simpa using h), List.zip_cons_cons, List.map_cons, e2]
      by_cases ha : a = k
      · subst ha; simp
      · simp [ha]
theorem own_putI {p q : Pl} {ks : List Int} {xs : List D} {k : Int} {x : D} {z : V} {vs : List V} (hq : Evo p q) (hl : ks.length = vs.length) (r : RepL p xs vs) (hx : Rep p x z) (hA : q.H A = some (.dK (putK ((kI ks).zip vs) (Sum.inl k) z))) :
    Own q (.dI (putI ks xs k x).1 (putI ks xs k x).2) A := by
  have hxl := r.length
  unfold putK at hA
  rw [zip_anyI hl] at hA
  unfold putI putD
  by_cases hm : k ∈ ks
  · rw [if_pos (by simpa using hm), zip_replI hl] at hA
    rw [if_pos hm]
    exact ⟨_, hA, by simp [hl], (rep_repl hx hl r).mono hq⟩
  · rw [if_neg (by simpa using hm)] at hA
    rw [if_neg hm]
    refine ⟨vs ++ [z], ?_, by simp [hl], (r.append (ys := [x]) (ws := [z]) ⟨z, [], rfl, hx, rfl⟩).mono hq⟩
    rw [hA, show kI (ks ++ [k]) = kI ks ++ [Sum.inl k] by unfold kI; rw [List.map_append]; rfl, List.zip_append (by unfold kI; rw [List.length_map]; exact hl)]; rfl
theorem put_len {κ : Type} [DecidableEq κ] (ks : List κ) (vs : List D) (k : κ) (x : D) : ks.length ≤ (putD ks vs k x).1.length := by
  unfold putD
  split
  · exact Nat.le_refl _
  · show ks.length ≤ (ks ++ [k]).length
    rw [List.length_append]; omega
/-- the dict at A that no name holds yet -/
structure Acc (F : Fr0) (oa : Nat → Option Addr) (kk : Nat) (A : Addr) (acc : List (List Int) × List D) (μ : List Addr) (ds : List Sl) (M : MS) (σ : L2.St) (J : Hp) : Prop where
  rl : Rl F μ (oaP oa kk A) ds M σ J
  own : Own (F.pl μ (oaP oa kk A) J) (.dT acc.1 acc.2) A
theorem Acc.start (r : Rl F μ oa ds M σ H) (hk : oa kk = none) (hA : H A = none) : Acc F oa kk A ([], []) μ ds M σ (upd H A (.dT [])) :=
  ⟨r.lay hk hA, [], upd_same, rfl, rfl⟩
theorem oaP_at {oa : Nat → Option Addr} {kk : Nat} {A : Addr} : oaP oa kk A kk = some A := by unfold oaP; rw [if_pos rfl]
theorem Acc.notμ {acc : List (List Int) × List D} (c : Acc F oa kk A acc μ ds M σ J) : A ∉ μ := (c.rl.ofr kk A oaP_at).2.1
theorem Acc.inN {acc : List (List Int) × List D} (c : Acc F oa kk A acc μ ds M σ J) : NN F μ (oaP oa kk A) A := .inr (.inr ⟨kk, oaP_at⟩)
/-- a step that leaves all but the shared lists -/
theorem Acc.step {acc : List (List Int) × List D} (c : Acc F oa kk A acc μ ds M σ J) (ev : EvE μ J μ' J') (m : MR (F.pl μ' (oaP oa kk A) J') M') (hd : ∀ a, NN F μ' (oaP oa kk A) a → ∃ o, J' a = some o) : Acc F oa kk A acc μ' ds M' σ J' := by
  obtain ⟨u, hu⟩ := c.own.some
  exact ⟨c.rl.step ev m hd, c.own.mono ev.evo ((ev.keep A u hu c.notμ).trans hu.symm)⟩
/-- an item -/
theorem Acc.put {acc : List (List Int) × List D} {k : List Int} {x : D} {z : V} (c : Acc F oa kk A acc μ ds M σ J) (hn : ∀ d, ds[kk]? ≠ some (.ow d)) (hz : acc.1.length ≤ LIM) (hx : Rep (F.pl μ (oaP oa kk A) J) x z) :
    ∃ kvs : List (List Key × V), J A = some (.dT kvs) ∧ kvs.length < sizeLine ∧ Acc F oa kk A (putT acc.1 acc.2 k x) μ ds M σ (upd J A (.dT (putK kvs (k.map Sum.inl) z))) := by
  obtain ⟨vs, h1, h2, h3⟩ := c.own
  have e : Evo (F.pl μ (oaP oa kk A) J) (F.pl μ (oaP oa kk A) (upd J A (.dT (putK ((kT acc.1).zip vs) (k.map Sum.inl) z)))) := evo_wr (p := F.pl μ (oaP oa kk A) J) c.inN
  refine ⟨_, h1, ?_, c.rl.put oaP_at hn, own_put e h2 h3 hx upd_same⟩
  rw [List.length_zip, show (kT acc.1).length = acc.1.length by unfold kT; rw [List.length_map], ← h2, Nat.min_self, sizeLine_eq]
  unfold LIM at hz
  omega
/-- its end -/
theorem Acc.fin {acc : List (List Int) × List D} {Hs : Hp} (c : Acc F oa kk A acc μ ds M σ J) (hk : oa kk = none) (hw : ∀ i d, ds[i]? = some (.ow d) → ∃ a, oa i = some a) (hA : Hs A = none) :
    Rl F μ oa ds M σ J ∧ RVk (F.pl μ oa J) Hs M (.dT acc.1 acc.2, .fr) (.ref A) := by
  refine ⟨c.rl.drop hk hw, A, rfl, hA, fun n => ?_, ?_, ?_⟩
  · rcases (show NN F μ oa A from n) with n | n | ⟨j, n⟩
    · exact (c.rl.ofr kk A oaP_at).2.2 n
    · exact c.notμ n
    · have := c.rl.inj j kk A (by unfold oaP; rw [if_neg (fun e => by rw [e, hk] at n; cases n)]; exact n) oaP_at
      rw [this, hk] at n; cases n
  · rw [← pl_oaP hk]; exact c.own
  · rw [← pl_oaP hk]; exact c.rl.mr
end
end PL
end
section
set_option linter.all false
set_option maxRecDepth 100000
set_option maxHeartbeats 4000000
set_option autoImplicit false
namespace PL
open PySem PySem.Spec PyProof.Rows L2
theorem nox_bind {α β : Type} {r : R α} {k : α → MS → R β} {b : β} {N : MS} (h : r.nox.bind k = .ok b N) : ∃ a M, r = .ok a M ∧ k a M = .ok b N := by
  cases r with
  | ok a M => exact ⟨a, M, rfl, h⟩
  | exc e M => cases h
  | stuck => cases h
theorem dcKL_cons {bnd : D → Option (List Sl)} {c : List Sl → MS → R Bool} {f g : SVal} {x : D} {xs : List D} {acc fin : List (List Int) × List D} {M N : MS} (h : dcKL bnd c f g (x :: xs) acc M = .ok fin N) :
    ∃ ds b M1, bnd x = some ds ∧ c ds M = .ok b M1 ∧ ((b = false ∧ dcKL bnd c f g xs acc M1 = .ok fin N) ∨ (b = true ∧ ∃ ys kk M2 v M3, f ds M1 = .ok (.tup ys, .fz) M2 ∧ ints? ys = some kk ∧ g ds M2 = .ok v M3 ∧ v.2 ≠ .bo ∧ dcKL bnd c f g xs (putT acc.1 acc.2 kk v.1) M3 = .ok fin N)) := by
  simp only [dcKL] at h
  cases hb : bnd x with
  | none => rw [hb] at h; cases h
  | some ds =>
    rw [hb] at h
    dsimp only at h
    obtain ⟨b, M1, hc, h⟩ := nox_bind h
    refine ⟨ds, b, M1, rfl, hc, ?_⟩
    cases b with
    | false => exact .inl ⟨rfl, by simpa using h⟩
    | true =>
      rw [if_pos rfl] at h
      obtain ⟨k, M2, hf, h⟩ := nox_bind h
      obtain ⟨kd, ko⟩ := k
      cases ko <;> first | (cases h; done) | skip
      cases kd <;> first | (cases h; done) | skip
      rename_i ys
      simp only [keyT] at h
      cases hk : ints? ys with
      | none => rw [hk] at h; cases h
      | some kk =>
        rw [hk] at h
        dsimp only at h
        obtain ⟨v, M3, hg, h⟩ := nox_bind h
        by_cases hv : v.2 = .bo
        · rw [if_pos hv] at h; cases h
        · rw [if_neg hv] at h
          exact .inr ⟨rfl, ys, kk, M2, v, M3, hf, hk, hg, hv, h⟩
theorem dcKL_len {bnd : D → Option (List Sl)} {c : List Sl → MS → R Bool} {f g : SVal} {fin : List (List Int) × List D} {N : MS} : ∀ {xs : List D} {acc : List (List Int) × List D} {M : MS}, dcKL bnd c f g xs acc M = .ok fin N → acc.1.length ≤ fin.1.length
  | [], acc, M, h => by cases h; exact Nat.le_refl _
  | x :: xs, acc, M, h => by
    obtain ⟨ds, b, M1, _, _, h⟩ := dcKL_cons h
    rcases h with ⟨_, h⟩ | ⟨_, ys, kk, M2, v, M3, _, _, _, _, h⟩
    · exact dcKL_len h
    · exact Nat.le_trans (put_len _ _ _ _) (dcKL_len h)
theorem dcOL_cons {bnd : D → Option (List Sl)} {it2 : List Sl → MS → R (List D)} {inn : List Sl → List D → List (List Int) × List D → MS → R (List (List Int) × List D)} {x : D} {xs : List D} {acc fin : List (List Int) × List D} {M N : MS} (h : dcOL bnd it2 inn (x :: xs) acc M = .ok fin N) :
    ∃ ds ys M1 acc2 M2, bnd x = some ds ∧ it2 ds M = .ok ys M1 ∧ inn ds ys acc M1 = .ok acc2 M2 ∧ dcOL bnd it2 inn xs acc2 M2 = .ok fin N := by
  simp only [dcOL] at h
  cases hb : bnd x with
  | none => rw [hb] at h; cases h
  | some ds =>
    rw [hb] at h
    dsimp only at h
    obtain ⟨ys, M1, h1, h⟩ := nox_bind h
    obtain ⟨acc2, M2, h2, h⟩ := nox_bind h
    exact ⟨ds, ys, M1, acc2, M2, rfl, h1, h2, h⟩
theorem dcOL_len {bnd : D → Option (List Sl)} {it2 : List Sl → MS → R (List D)} {b2 : List Sl → D → Option (List Sl)} {c : List Sl → MS → R Bool} {f g : SVal} {fin : List (List Int) × List D} {N : MS} : ∀ {xs : List D} {acc : List (List Int) × List D} {M : MS},
    dcOL bnd it2 (fun ds1 => dcKL (b2 ds1) c f g) xs acc M = .ok fin N → acc.1.length ≤ fin.1.length
  | [], acc, M, h => by cases h; exact Nat.le_refl _
  | x :: xs, acc, M, h => by
    obtain ⟨ds, ys, M1, acc2, M2, _, _, h2, h⟩ := dcOL_cons h
    exact Nat.le_trans (dcKL_len h2) (dcOL_len h)
section
variable {F : Fr0} {W : WX} {σ : L2.St} {H : Hp}
abbrev W0 : WX := fun _ _ _ _ => False
theorem WalkD.sure {J : It} {xs : List D} {Gd : Pl → Prop} {ad : Addr → Prop} (w : WalkD F true J xs Gd ad) {p q : Pl} (g : Gd p) (e : Evo p q) : Gd q := w.gen p q g e fun a h => absurd h (w.sv rfl a)
/-- the reading -/
theorem c_dc2 {own own1 : List Nat} {t1 t2 : TGt} {it1 it2 : List Sl → MS → R (List D)} {c : List Sl → MS → R Bool} {f g : SVal} {Q : V → Hp → Prop} (s1 : TGt.sub t1 own = true) (s2 : TGt.sub t2 own1 = true)
    (h : rE F W relV (kDc2 own own1 t1 t2 it1 it2 c f g) σ H Q) :
    tDcT (rE F W (relI F true) it1) (rG F t1) tYes (fun D => tDeep (rE F W0 (relI F true) it2) (rG F t2) (rE F W0 relEq c) (tPut (rE F W0 relV f) (rE F W0 relV g) D) own1) own σ H Q := by
  obtain ⟨μ, oa, ds, M, q⟩ := h
  refine ⟨μ, oa, ds, M, (q.bind (Rel := relI F true) back_v).imp fun J H1 ⟨xs, μ1, M1, ev1, ⟨Gd, ad, wd, gd⟩, q1⟩ => fun A hA => ?_⟩
  have rl1 := q1.rl
  have qq := q1.2
  dsimp only at qq
  cases hr : dcOL (fun d => bindT t1 d (wipeD own ds)) it2 (fun ds1 => dcKL (fun d => bindT t2 d (wipeD own1 ds1)) c f g) xs ([], []) M1 with
  | stuck => rw [hr] at qq; exact qq.elim
  | exc e N => rw [hr] at qq; exact qq.elim
  | ok fin M2 =>
    rw [hr] at qq
    simp only [R.nox_ok, R.bind_ok] at qq
    by_cases hl : fin.1.length ≤ LIM
    · rw [if_pos hl] at qq
      obtain ⟨b, hb⟩ := rl1.fin
      have hk : oa (b + ds.length) = none := hb _ (by omega)
      generalize hkk : b + ds.length = kk at hk
      have hno : ∀ (ds' : List Sl), ds'.length = ds.length → ∀ d, ds'[kk]? ≠ some (.ow d) := fun ds' hl d e => by
        have := (List.getElem?_eq_some_iff.mp e).1
        omega
      have hwo : ∀ i d, ds[i]? = some (.ow d) → ∃ a, oa i = some a := fun i d e => let ⟨a, h1, _⟩ := rl1.ow i d e; ⟨a, h1⟩
      have a0 : Acc F oa kk A ([], []) μ1 ds M1 σ (upd H1 A (.dT [])) := Acc.start rl1 hk hA
      have ev0 : EvE μ1 H1 μ1 (upd H1 A (.dT [])) := EvE.alloc rl1 hA
      have gd0 : Gd (F.pl μ1 (oaP oa kk A) (upd H1 A (.dT []))) := wd.sure gd (by rw [pl_oaP hk]; exact evo_but_upd (p := F.pl μ1 oa H1) hA)
      let St : Nat → Hp → Prop := fun i J' => i ≤ xs.length ∧ ∃ μ' M' acc, Acc F oa kk A acc μ' ds M' σ J' ∧ EvE μ1 H1 μ' J' ∧ Gd (F.pl μ' (oaP oa kk A) J') ∧
        dcOL (fun d => bindT t1 d (wipeD own ds)) it2 (fun ds1 => dcKL (fun d => bindT t2 d (wipeD own1 ds1)) c f g) (xs.drop i) acc M' = .ok fin M2
      refine ⟨fun i n J' => n = xs.length - i ∧ St i J', ⟨xs.length, by simp, Nat.zero_le _, μ1, M1, ([], []), a0, ev0, gd0, hr⟩, ?_⟩
      rintro i n J' ⟨rfl, hi, μ', M', acc, ac, ev, gd', hrest⟩
      by_cases hlt : i < xs.length
      · refine .inr ⟨wd.go _ i gd' hlt, St (i + 1), fun J2 s => ⟨xs.length - (i + 1), by omega, rfl, s⟩, fun x J2 hy => ?_⟩
        have hx : xs[i]? = some xs[i] := by simp [hlt]
        rw [List.drop_eq_getElem_cons hlt] at hrest
        obtain ⟨ds1, ys, M3, acc2, M4, hb1, hit, hin, hout⟩ := dcOL_cons hrest
        obtain ⟨ev3, r3, rp3⟩ := wd.yld μ' (oaP oa kk A) ds M' σ J' i xs[i] x J2 ac.rl gd' hx hy
        have ac3 : Acc F oa kk A acc μ' ds M' σ J2 := ac.step ev3 r3.mr r3.dom
        refine ⟨μ', oaP oa kk A, wipeD own ds, M', xs[i], ds1, r3.wipe own, rp3, hb1, fun σ1 r4 hw => ⟨(hw own s1).trans wipe_wipe, ?_⟩⟩
        simp only [tYes, if_true]
        have len1 : ds1.length = ds.length := by
          have h1 := r4.len
          have h2 := congrArg List.length (hw own s1)
          rw [L2.wipe_length, L2.wipe_length, L2.wipe_length] at h2
          rw [← h1, h2]; exact ac.rl.len
        refine ⟨μ', oaP oa kk A, ds1, M', r4, ?_⟩
        rw [hit]
        intro J1 μ4 J4 ev4 r5 ⟨Gd1, ad1, wd1, gd1⟩
        have ac4 : Acc F oa kk A acc μ4 ds M3 σ J4 := ac3.step ev4 r5.mr r5.dom
        have gd4 := wd.ev (wd.ev gd' ev3) ev4
        have ev14 := (ev.trans ev3).trans ev4
        -- the inner clause
        let Sn : Nat → Hp → Prop := fun j K' => j ≤ ys.length ∧ ∃ ν N acc', Acc F oa kk A acc' ν ds N σ K' ∧ Rl F ν (oaP oa kk A) ds1 N σ1 K' ∧ EvE μ1 H1 ν K' ∧ Gd (F.pl ν (oaP oa kk A) K') ∧ Gd1 (F.pl ν (oaP oa kk A) K') ∧
          dcKL (fun d => bindT t2 d (wipeD own1 ds1)) c f g (ys.drop j) acc' N = .ok acc2 M4
        refine ⟨fun j n K' => n = ys.length - j ∧ Sn j K', ⟨ys.length, by simp, Nat.zero_le _, μ4, M3, acc, ac4, r5, ev14, gd4, gd1, hin⟩, ?_⟩
        rintro j n K' ⟨rfl, hj, ν, N, acc', ac', rn, evn, gdn, gdn1, hks⟩
        by_cases hjl : j < ys.length
        · refine .inr ⟨wd1.go _ j gdn1 hjl, Sn (j + 1), fun K2 s => ⟨ys.length - (j + 1), by omega, rfl, s⟩, fun y K2 hy2 => ?_⟩
          have hyx : ys[j]? = some ys[j] := by simp [hjl]
          rw [List.drop_eq_getElem_cons hjl] at hks
          obtain ⟨ds2, bb, N1, hb2, hc, hd⟩ := dcKL_cons hks
          obtain ⟨ev6, r6, rp6⟩ := wd1.yld ν (oaP oa kk A) ds1 N σ1 K' j ys[j] y K2 rn gdn1 hyx hy2
          have ac6 : Acc F oa kk A acc' ν ds N σ K2 := ac'.step ev6 r6.mr r6.dom
          refine ⟨ν, oaP oa kk A, wipeD own1 ds1, N, ys[j], ds2, r6.wipe own1, rp6, hb2, fun σ2 r7 hw2 => ⟨(hw2 own1 s2).trans wipe_wipe, ν, oaP oa kk A, ds2, N, r7, ?_⟩⟩
          rw [hc]
          intro b' ν8 K8 ev8 r8 eb
          have eb : bb = b' := eb
          subst eb
          have ac8 : Acc F oa kk A acc' ν8 ds N1 σ K8 := ac6.step ev8 r8.mr r8.dom
          have rn8 : Rl F ν8 (oaP oa kk A) ds1 N1 σ1 K8 := r6.step ev8 r8.mr r8.dom
          have gd8 := wd.ev (wd.ev gdn ev6) ev8
          have gd81 := wd1.ev (wd1.ev gdn1 ev6) ev8
          have ev18 := (evn.trans ev6).trans ev8
          rcases hd with ⟨rfl, hd⟩ | ⟨rfl, zs, key, N2, v, N3, hf, hki, hg, hv, hd⟩
          · rw [if_neg Bool.false_ne_true]
            exact ⟨hjl, ν8, N1, acc', ac8, rn8, ev18, gd8, gd81, hd⟩
          · rw [if_pos rfl]
            refine ⟨ν8, oaP oa kk A, ds2, N1, r8, ?_⟩
            rw [hf]
            intro yk ν9 K9 ev9 r9 rk
            obtain ⟨bq, vs, rfl, hbN, hbq, hvs⟩ := rk
            obtain ⟨rfl, _⟩ := RepL.ints_of hvs hki
            refine ⟨ν9, oaP oa kk A, ds2, N2, r9, ?_⟩
            rw [hg]
            intro z ν10 K10 ev10 r10 rv
            have ac10 : Acc F oa kk A acc' ν10 ds N3 σ K10 := (ac8.step ev9 r9.mr r9.dom).step ev10 r10.mr r10.dom
            have rn10 : Rl F ν10 (oaP oa kk A) ds1 N3 σ1 K10 := (rn8.step ev9 r9.mr r9.dom).step ev10 r10.mr r10.dom
            have hbK : K10 bq = some (.tup (key.map V.int)) := ev10.keep bq _ hbq fun hm => hbN (.inr (.inl hm))
            have hz : acc'.1.length ≤ LIM := Nat.le_trans (Nat.le_trans (put_len _ _ key v.1) (dcKL_len hd)) (Nat.le_trans (dcOL_len hout) hl)
            obtain ⟨kvs, p1, p2, p3⟩ := ac10.put (k := key) (hno ds rfl) hz (rv.rep hv)
            have e11 : Evo (F.pl ν10 (oaP oa kk A) K10) (F.pl ν10 (oaP oa kk A) (upd K10 A (.dT (putK kvs (key.map Sum.inl) z)))) := evo_wr (p := F.pl ν10 (oaP oa kk A) K10) ac10.inN
            refine ⟨kvs, key.map Sum.inl, bq, rfl, by rw [List.map_map]; exact hbK, p1, p2, hjl, ν10, N3, _, p3, rn10.put oaP_at (hno ds1 len1), ?_, ?_, ?_, hd⟩
            · exact ((ev18.trans ev9).trans ev10).put hA
            · exact wd.sure (wd.ev (wd.ev gd8 ev9) ev10) e11
            · exact wd1.sure (wd1.ev (wd1.ev gd81 ev9) ev10) e11
        · have e : j = ys.length := by omega
          subst e
          rw [List.drop_length] at hks
          cases (show R.ok acc' N = R.ok acc2 M4 from hks)
          exact .inl ⟨wd1.stop _ gdn1, hlt, ν, _, _, ac', evn, gdn, hout⟩
      · have e : i = xs.length := by omega
        subst e
        refine .inl ⟨wd.stop _ gd', ?_⟩
        rw [List.drop_length] at hrest
        cases (show R.ok acc M' = R.ok fin M2 from hrest)
        obtain ⟨rf, rv⟩ := ac.fin (Hs := H1) hk hwo hA
        exact qq (.ref A) μ' J' ev rf rv
    · rw [if_neg hl] at qq; exact qq.elim
end
end PL
end
section
set_option linter.all false
set_option maxRecDepth 100000
set_option maxHeartbeats 4000000
set_option autoImplicit false
namespace PL
open PySem PySem.Spec PyProof.Rows L2
theorem dcIL_cons {bnd : D → Option (List Sl)} {g : SVal} {k : List Int} {ks : List (List Int)} {v : D} {vs : List D} {acc fin : List (List Int) × List D} {M N : MS} (h : dcIL bnd g (k :: ks) (v :: vs) acc M = .ok fin N) :
    ∃ ds x M1, bnd v = some ds ∧ g ds M = .ok x M1 ∧ x.2 ≠ .bo ∧ dcIL bnd g ks vs (putT acc.1 acc.2 k x.1) M1 = .ok fin N := by
  simp only [dcIL] at h
  cases hb : bnd v with
  | none => rw [hb] at h; cases h
  | some ds =>
    rw [hb] at h
    dsimp only at h
    obtain ⟨x, M1, hg, h⟩ := nox_bind h
    by_cases hv : x.2 = .bo
    · rw [if_pos hv] at h; cases h
    · rw [if_neg hv] at h
      exact ⟨ds, x, M1, rfl, hg, hv, h⟩
theorem dcIL_len {bnd : D → Option (List Sl)} {g : SVal} {fin : List (List Int) × List D} {N : MS} : ∀ {ks : List (List Int)} {vs : List D} {acc : List (List Int) × List D} {M : MS}, dcIL bnd g ks vs acc M = .ok fin N → acc.1.length ≤ fin.1.length
  | [], [], acc, M, h => by cases h; exact Nat.le_refl _
  | [], _ :: _, acc, M, h => by cases h; exact Nat.le_refl _
  | _ :: _, [], acc, M, h => by cases h; exact Nat.le_refl _
  | k :: ks, v :: vs, acc, M, h => by
    obtain ⟨ds, x, M1, _, _, _, h⟩ := dcIL_cons h
    exact Nat.le_trans (put_len _ _ _ _) (dcIL_len h)
theorem TGt.sub_of {own : List Nat} : ∀ {t : TGt}, (∀ i ∈ t.names, i ∈ own) → TGt.sub t own = true
  | .nm i, h => by simpa [TGt.sub] using h i (by simp [TGt.names])
  | .tp ts, h => by unfold TGt.sub; exact TGt.sub_of (t := ts) h
  | .nil, _ => rfl
  | .cons t r, h => by
    unfold TGt.sub
    rw [TGt.sub_of (t := t) fun i hi => h i (by unfold TGt.names; exact List.mem_append_left _ hi), TGt.sub_of (t := r) fun i hi => h i (by unfold TGt.names; exact List.mem_append_right _ hi)]; rfl
theorem TGt.sub_names (t : TGt) : TGt.sub t t.names = true := TGt.sub_of fun _ h => h
section
variable {F : Fr0} {W : WX} {σ : L2.St} {H : Hp} {μ : List Addr} {oa : Nat → Option Addr} {ds : List Sl} {M : MS}
theorem Rl.setNo (r : Rl F μ oa ds M σ H) {i : Nat} {v : Option V} (h : ∀ d, ds[i]? ≠ some (.fz d) ∧ ds[i]? ≠ some (.ow d)) : Rl F μ oa ds M (σ.set i v) H := by
  refine ⟨by rw [List.length_set]; exact r.len, fun j d e => ?_, fun j d e => ?_, r.inj, r.ofr, r.mr, r.dom, r.keep, r.pre, r.fin⟩
  · have : i ≠ j := fun z => (h d).1 (by rw [z]; exact e)
    rw [List.getElem?_set_ne this]; exact r.fz j d e
  · have : i ≠ j := fun z => (h d).2 (by rw [z]; exact e)
    rw [List.getElem?_set_ne this]; exact r.ow j d e
/-- a tuple is no shared list -/
theorem Rl.tup_notμ (r : Rl F μ oa ds M σ H) {q : Addr} {vs : List V} (h : H q = some (.tup vs)) : q ∉ μ := fun hm => by
  obtain ⟨n, hn⟩ := List.mem_iff_getElem?.mp hm
  have hl := r.mr.len
  have hn' : n < M.length := by
    have := (List.getElem?_eq_some_iff.mp hn).1
    have hl : μ.length = M.length := hl
    omega
  obtain ⟨ws, e, _⟩ := r.mr.cell n q M[n] hn (List.getElem?_eq_getElem hn')
  have e : H q = some (.lst ws) := e
  rw [h] at e; cases e
theorem wipe_at {σ1 σ2 : L2.St} {own : List Nat} {i : Nat} {v : V} (h : L2.wipe σ1 own = L2.wipe σ2 own) (hi : i ∉ own) (e : σ2[i]? = some (some v)) : σ1[i]? = some (some v) := by
  rw [← wipe_out (vs := own) hi, h, wipe_out hi]; exact e
theorem c_dcI {own : List Nat} {i : Nat} {tv : TGt} {f g : SVal} {Q : V → Hp → Prop} (hi : i ∈ own) (s2 : TGt.sub tv own = true) (hni : i ∉ tv.names) (hlen : i < σ.length)
    (h : rE F W relV (kDcI own tv f g) σ H Q) :
    tDcT (iItemsT (rE F W relV f)) (gTup F.K 2 (gCons (gName i) (gCons (rG F tv) gNil))) tYes (fun D => tPut (tVar i) (rE F W0 relV g) D) own σ H Q := by
  obtain ⟨μ, oa, ds, M, r0, qh⟩ := h
  refine ⟨μ, oa, ds, M, r0, ?_⟩
  cases ef : f ds M with
  | stuck => unfold kDcI at qh; rw [ef] at qh; exact qh
  | exc e M' => unfold kDcI at qh; rw [ef] at qh; exact qh
  | ok v1 M1 =>
  unfold kDcI at qh
  rw [ef] at qh
  intro x μ1 H1 ev1 rl1 rx
  have qq := qh
  obtain ⟨d1, k1⟩ := v1
  simp only [R.bind_ok] at qq
  cases d1 <;> first | exact qq.elim | skip
  rename_i ks xs
  cases k1 <;> first | exact qq.elim | skip
  dsimp only at qq
  obtain ⟨d, rfl, hHd, hdN, ⟨vs, hd, hlv, hrep⟩, hmr⟩ := rx
  have hd : H1 d = some (.dT ((kT ks).zip vs)) := hd
  refine ⟨d, _, rfl, hd, fun o A hA => ?_⟩
  -- the dict locked
  have hdμ : d ∉ μ1 := fun hm => hdN (.inr (.inl hm))
  let H2 : Hp := upd H1 d (.frz o (.dT ((kT ks).zip vs)))
  have ev2 : EvE μ H μ1 H2 := ev1.put hHd
  have eb : Evo ((F.pl μ1 oa H1).but d) (F.pl μ1 oa H2) := Evo.trans (evo_wr (p := (F.pl μ1 oa H1).but d) (A := d) (o := .frz o (.dT ((kT ks).zip vs))) (.inr rfl)) (show Evo ((F.pl μ1 oa H2).but d) (F.pl μ1 oa H2) from evo_unbut)
  have mr2 : MR (F.pl μ1 oa H2) M1 := ⟨hmr.len, hmr.nd, rl1.mr.inN, fun n b ys h1 h2 => by
    have hb : b ≠ d := fun z => hdμ (by rw [← z]; exact List.mem_of_getElem? h1)
    exact (hmr.cell n b ys h1 h2).mono eb (upd_ne hb)⟩
  have dom2 : ∀ a, NN F μ1 oa a → ∃ o, H2 a = some o := fun a ha => by
    by_cases z : a = d
    · rw [z]; exact ⟨_, upd_same⟩
    · obtain ⟨u, hu⟩ := rl1.dom a ha
      exact ⟨u, (upd_ne z).trans hu⟩
  have rl2 : Rl F μ1 oa ds M1 σ H2 := r0.step ev2 mr2 dom2
  have rep2 : RepL (F.pl μ1 oa H2) xs vs := hrep.mono eb
  have hd2 : H2 d = some (.frz o (.dT ((kT ks).zip vs))) := upd_same
  have hkl : (kT ks).length = ks.length := by unfold kT; rw [List.length_map]
  have hxl := rep2.length
  have hzl : ((kT ks).zip vs).length = ks.length := by rw [List.length_zip, hkl, ← hlv, Nat.min_self]
  cases hr : dcIL (fun d => bindT tv d (wipeD own ds)) g ks xs ([], []) M1 with
  | stuck => rw [hr] at qq; exact qq.elim
  | exc e N => rw [hr] at qq; exact qq.elim
  | ok fin M2 =>
    rw [hr] at qq
    simp only [R.nox_ok, R.bind_ok] at qq
    by_cases hl : fin.1.length ≤ LIM
    · rw [if_pos hl] at qq
      obtain ⟨b, hb⟩ := rl2.fin
      have hk : oa (b + ds.length) = none := hb _ (by omega)
      generalize hkk : b + ds.length = kk at hk
      have hno : ∀ d, ds[kk]? ≠ some (.ow d) := fun d e => by
        have := (List.getElem?_eq_some_iff.mp e).1
        omega
      have hwo : ∀ i d, ds[i]? = some (.ow d) → ∃ a, oa i = some a := fun i d e => let ⟨a, h1, _⟩ := rl2.ow i d e; ⟨a, h1⟩
      have a0 : Acc F oa kk A ([], []) μ1 ds M1 σ (upd H2 A (.dT [])) := Acc.start rl2 hk hA
      have hA' : H2 A = none := hA
      have hAd : A ≠ d := fun z => by rw [z] at hA'; rw [hd2] at hA'; cases hA'
      have ev0 : EvE μ1 H2 μ1 (upd H2 A (.dT [])) := EvE.alloc rl2 hA
      have e0 : Evo (F.pl μ1 oa H2) (F.pl μ1 (oaP oa kk A) (upd H2 A (.dT []))) := by rw [pl_oaP hk]; exact evo_but_upd (p := F.pl μ1 oa H2) hA
      have lds : i < ds.length := by rw [← rl2.len]; exact hlen
      have hno_i : ∀ d, (wipeD own ds)[i]? ≠ some (.fz d) ∧ (wipeD own ds)[i]? ≠ some (.ow d) := fun d => by
        rw [wipeD_get, if_pos ⟨hi, lds⟩]
        exact ⟨fun e => (by cases e), fun e => (by cases e)⟩
      let St : Nat → Hp → Prop := fun n J' => n ≤ ks.length ∧ ∃ μ' M' acc, Acc F oa kk A acc μ' ds M' σ J' ∧ EvE μ1 H2 μ' J' ∧ J' d = some (.frz o (.dT ((kT ks).zip vs))) ∧ RepL (F.pl μ' (oaP oa kk A) J') xs vs ∧
        dcIL (fun d => bindT tv d (wipeD own ds)) g (ks.drop n) (xs.drop n) acc M' = .ok fin M2
      refine ⟨fun n m J' => m = ks.length - n ∧ St n J', ⟨ks.length, by simp, Nat.zero_le _, μ1, M1, ([], []), a0, ev0, (upd_ne (Ne.symm hAd)).trans hd2, rep2.mono e0, hr⟩, ?_⟩
      rintro n m J' ⟨rfl, hn, μ', M', acc, ac, ev, hdJ, hrJ, hrest⟩
      by_cases hlt : n < ks.length
      · have hltx : n < xs.length := by omega
        have hltv : n < vs.length := by omega
        refine .inr ⟨⟨hdJ, by omega⟩, St (n + 1), fun J2 s => ⟨ks.length - (n + 1), by omega, rfl, s⟩, fun x J2 hy => ?_⟩
        rw [List.drop_eq_getElem_cons hlt, List.drop_eq_getElem_cons hltx] at hrest
        obtain ⟨ds1, xv, M3, hb1, hg, hv, hout⟩ := dcIL_cons hrest
        obtain ⟨T, kq, k, v, hkv, hkq, rfl, hT, rfl⟩ := hy
        -- the item
        have hkvs : ((kT ks).zip vs)[n]? = some (ks[n].map Sum.inl, vs[n]) := by
          refine List.getElem?_zip_eq_some.mpr ⟨?_, List.getElem?_eq_getElem hltv⟩
          unfold kT
          rw [List.getElem?_map, List.getElem?_eq_getElem hlt]; rfl
        rw [hkvs] at hkv
        cases hkv
        have ev3 : EvE μ' J' μ' (upd J' T (.tup [.ref kq, vs[n]])) := EvE.alloc ac.rl hT
        have r3 : Rl F μ' (oaP oa kk A) ds M' σ (upd J' T (.tup [.ref kq, vs[n]])) := ac.rl.alloc hT
        have ac3 := ac.step ev3 r3.mr r3.dom
        generalize hJ2 : upd J' T (.tup [.ref kq, vs[n]]) = J2 at ev3 r3 ac3
        have hTt : J2 T = some (.tup [.ref kq, vs[n]]) := by rw [← hJ2]; exact upd_same
        have hq2 : J2 kq = some (.tup ((ks[n].map Sum.inl).map kV)) := ev3.keep kq _ hkq (ac.rl.tup_notμ hkq)
        have hd3 : J2 d = some (.frz o (.dT ((kT ks).zip vs))) := ev3.keep d _ hdJ fun hm => by
          obtain ⟨t, e1, f1⟩ := ev.pre
          rw [e1] at hm
          rcases List.mem_append.mp hm with hm | hm
          · exact hdμ hm
          · rw [f1 d hm] at hd2; cases hd2
        have hr3 := hrJ.mono ev3.evo
        have rpv : Rep (F.pl μ' (oaP oa kk A) J2) xs[n] vs[n] := by
          obtain ⟨v', h1, h2⟩ := hr3.get (List.getElem?_eq_getElem hltx)
          rw [List.getElem?_eq_getElem hltv] at h1; cases h1; exact h2
        have rw1 : Rl F μ' (oaP oa kk A) (wipeD own ds) M' ((L2.wipe σ own).set i (some (.ref kq))) J2 := (r3.wipe own).setNo hno_i
        refine ⟨T, [.ref kq, vs[n]], rfl, .of hTt, rfl, .ref kq, [vs[n]], rfl, vs[n], [], rfl, μ', oaP oa kk A, wipeD own ds, M', xs[n], ds1, rw1, rpv, hb1, fun σ1 r4 hw => ⟨rfl, ?_, ?_⟩⟩
        · exact (hw own s2).trans ((wipe_set hi).trans wipe_wipe)
        · simp only [tYes, if_true]
          have hσi : σ1[i]? = some (some (.ref kq)) := wipe_at (hw tv.names tv.sub_names) hni (List.getElem?_set_self (by rw [L2.wipe_length]; exact hlen))
          refine ⟨.ref kq, hσi, μ', oaP oa kk A, ds1, M', r4, ?_⟩
          rw [hg]
          intro z μ5 J5 ev5 r5 rv
          have ac5 : Acc F oa kk A acc μ5 ds M3 σ J5 := ac3.step ev5 r5.mr r5.dom
          have hz : acc.1.length ≤ LIM := Nat.le_trans (Nat.le_trans (put_len _ _ ks[n] xv.1) (dcIL_len hout)) hl
          obtain ⟨kvs, p1, p2, p3⟩ := ac5.put (k := ks[n]) hno hz (rv.rep hv)
          have e5 : Evo (F.pl μ5 (oaP oa kk A) J5) (F.pl μ5 (oaP oa kk A) (upd J5 A (.dT (putK kvs (ks[n].map Sum.inl) z)))) := evo_wr (p := F.pl μ5 (oaP oa kk A) J5) ac5.inN
          have hd5 : J5 d = some (.frz o (.dT ((kT ks).zip vs))) := ev5.keep d _ hd3 fun hm => by
            obtain ⟨t, e1, f1⟩ := ev.pre
            rw [e1] at hm
            rcases List.mem_append.mp hm with hm | hm
            · exact hdμ hm
            · rw [f1 d hm] at hd2; cases hd2
          have hq5 : J5 kq = some (.tup ((ks[n].map Sum.inl).map kV)) := ev5.keep kq _ hq2 (r3.tup_notμ hq2)
          refine ⟨kvs, ks[n].map Sum.inl, kq, rfl, hq5, p1, p2, hlt, μ5, M3, _, p3, ?_, (upd_ne (Ne.symm hAd)).trans hd5, (hr3.mono ev5.evo).mono e5, hout⟩
          exact ((ev.trans ev3).trans ev5).put hA
      · have e : n = ks.length := by omega
        subst e
        refine .inl ⟨⟨hdJ, by omega⟩, ?_⟩
        rw [List.drop_length, List.drop_of_length_le (by omega)] at hrest
        cases (show R.ok acc M' = R.ok fin M2 from hrest)
        obtain ⟨rf, rv⟩ := ac.fin (Hs := H) hk hwo (ev2.back hA)
        exact qq (.ref A) μ' J' (ev2.trans ev) rf rv
    · rw [if_neg hl] at qq; exact qq.elim
end
end PL
end
section
set_option linter.all false
set_option maxRecDepth 100000
set_option maxHeartbeats 4000000
set_option autoImplicit false
namespace PL
open PySem PySem.Spec PyProof.Rows L2
section
variable {X : Cx} {m : MC} {F : Fr0} {W : WX} {G : Nat → Fn} {lv : Nat}
theorem s_dct0 {pos : Pos} : PE X (.Dict [] [] pos) (rE F W relV fun _ M => .ok (.dT [] [], .fr) M) :=
  PE.mono pe_dnewT fun σ H Q ⟨μ, oa, ds, M, r, q⟩ p hp => q (.ref p) μ _ (EvE.alloc r hp) (r.alloc hp) (RVk.new r (EvE.refl r) hp ⟨[], upd_same, rfl, rfl⟩)
theorem s_dcti0 {pos : Pos} : PE X (.Dict [] [] pos) (rE F W relV fun _ M => .ok (.dI [] [], .fr) M) :=
  PE.mono pe_dnewK fun σ H Q ⟨μ, oa, ds, M, r, q⟩ p hp => q (.ref p) μ _ (EvE.alloc r hp) (r.alloc hp) (RVk.new r (EvE.refl r) hp ⟨[], upd_same, rfl, rfl⟩)
theorem blk_xe (s : Shared) (H : Hp) (scope : Scope) (ce : Env) (fp : List Addr) : (X.blk s H scope ce fp).xe = fun _ _ => False := rfl
/-- what the rules for both forms need -/
structure Dc2 (X : Cx) (m : MC) (F : Fr0) (own own1 : List Nat) (t1 t2 : TGt) (it1 it2 : List Sl → MS → R (List D)) (c : List Sl → MS → R Bool) (f g : SVal) (kx vx t it tt itt : Expr) (ifs : List Expr) (scope : Scope) (W : WX) : Prop where
  h1 : blkC m.N m.sc scope (ownOk m.N scope own) = true
  h2 : (ownOk m.N scope own).map (·.2) = own
  h3 : mTg m.N (stB scope) t1 t = true
  h4 : TGt.sub t1 own = true
  h5 : mTg m.N (stB scope) t2 tt = true
  h6 : TGt.sub t2 own1 = true
  h7 : ∀ i ∈ own1, i ∈ own
  hi : PI X t it (rE F W (relI F true) it1)
  hi2 : ∀ (s : Shared) (H : Hp) (C : Addr) (cl : List (Str × Addr)) (fp : List Addr), PI (X.blk s H scope (compEnvC scope cl C X.env) fp) tt itt (rE F W0 (relI F true) it2)
  hc : ∀ (s : Shared) (H : Hp) (C : Addr) (cl : List (Str × Addr)) (fp : List Addr), PTs (X.blk s H scope (compEnvC scope cl C X.env) fp) ifs (rE F W0 relEq c)
  hk : ∀ (s : Shared) (H : Hp) (C : Addr) (cl : List (Str × Addr)) (fp : List Addr), PE (X.blk s H scope (compEnvC scope cl C X.env) fp) kx (rE F W0 relV f)
  hv : ∀ (s : Shared) (H : Hp) (C : Addr) (cl : List (Str × Addr)) (fp : List Addr), PE (X.blk s H scope (compEnvC scope cl C X.env) fp) vx (rE F W0 relV g)
  hs : ∀ x, foldedSetIterable it X.env x = pure x
  hs2 : ∀ env x, foldedSetIterable itt env x = pure x
theorem s_dc2 (g0 : XG X m F W G lv) {own own1 : List Nat} {t1 t2 : TGt} {it1 it2 : List Sl → MS → R (List D)} {c : List Sl → MS → R Bool} {f g : SVal} {kx vx t it tt itt : Expr} {ifs : List Expr} {scope : Scope} {pos : Pos} (d : Dc2 X m F own own1 t1 t2 it1 it2 c f g kx vx t it tt itt ifs scope W) :
    PE X (.DictComp kx vx [⟨t, it, [], 0⟩, ⟨tt, itt, ifs, 0⟩] scope pos) (rE F W relV (kDc2 own own1 t1 t2 it1 it2 c f g)) := by
  have ok : BlkOk X.N X.env.scope scope (ownOk m.N scope own) := by rw [g0.N, g0.sc]; exact blkOk_by d.h1
  have p := pe_dcT (pos := pos) (rest := [⟨tt, itt, ifs, 0⟩]) (g := rG F t1) (tt := tYes) (ta := fun D => tDeep (rE F W0 (relI F true) it2) (rG F t2) (rE F W0 relEq c) (tPut (rE F W0 relV f) (rE F W0 relV g) D) own1)
    g0.calm g0.nd d.hi ok (fun s H C cl fp => have gb := g0.blk s H scope C cl fp; s_tg (F := F) (N := m.N) (st := stB scope) gb.N gb.K gb.nd gb.calm (g0.blkSt s H scope C cl fp) t1 t d.h3)
    (fun s H C cl fp => pts_nil)
    (act := fun D env => deepThen (.DictComp kx vx [⟨t, it, [], 0⟩, ⟨tt, itt, ifs, 0⟩] scope pos) itt (.ref D) env)
    (fun s H C cl fp D => have gb := g0.blk s H scope C cl fp
      pact_deep rfl gb.calm (by rw [d.h2]; exact d.h7) (d.hi2 s H C cl fp) (s_tg (F := F) (N := m.N) (st := stB scope) gb.N gb.K gb.nd gb.calm (g0.blkSt s H scope C cl fp) t2 tt d.h5) (d.hc s H C cl fp)
        (pact_put rfl (by have := gb.hu; omega) (d.hk s H C cl fp) (d.hv s H C cl fp)) d.hs2)
    (fun z D env => turn_out kx vx t it tt itt [] ifs scope pos z D env) d.hs
  rw [d.h2] at p
  exact PE.mono p fun σ H Q q => c_dc2 d.h4 d.h6 q
structure DcI (X : Cx) (m : MC) (F : Fr0) (own : List Nat) (i : Nat) (tv : TGt) (f g : SVal) (kn y : Str) (vx t2 e : Expr) (scope : Scope) (W : WX) : Prop where
  h1 : blkC m.N m.sc scope (ownOk m.N scope own) = true
  h2 : (ownOk m.N scope own).map (·.2) = own
  hk : nmB (m.blk scope) i kn = true
  hy : m.N[i]? = some y
  hst : stB scope y = true
  h3 : mTg m.N (stB scope) tv t2 = true
  h4 : TGt.sub tv own = true
  h5 : i ∈ own
  h6 : i ∉ tv.names
  he : PE X e (rE F W relV f)
  hv : ∀ (s : Shared) (H : Hp) (C : Addr) (cl : List (Str × Addr)) (fp : List Addr), PE (X.blk s H scope (compEnvC scope cl C X.env) fp) vx (rE F W0 relV g)
  hb : attributeBase e "items" X.env (eval e X.env) = eval e X.env
/-- the target of an item: the key's name, and what the value goes to -/
theorem pg_item (g0 : XG X m F W G lv) {own : List Nat} {i : Nat} {tv : TGt} {f g : SVal} {kn y : Str} {vx t2 e : Expr} {scope : Scope} (d : DcI X m F own i tv f g kn y vx t2 e scope W) {kt : Nat} {py pt : Pos} (s : Shared) (H : Hp) (C : Addr) (cl : List (Str × Addr)) (fp : List Addr) :
    PG (X.blk s H scope (compEnvC scope cl C X.env) fp) (.Tuple [.Name y py, t2] kt pt) (gTup F.K 2 (gCons (gName i) (gCons (rG F tv) gNil))) := by
  have gb := g0.blk s H scope C cl fp
  have so := g0.blkSt s H scope C cl fp
  have p1 := pg_name (X := X.blk s H scope (compEnvC scope cl C X.env) fp) (pos := py) (x := y) gb.nd (by rw [gb.N]; exact d.hy) (so.loc y d.hst) (so.fn y d.hst)
  have p2 := s_tg (F := F) (N := m.N) (st := stB scope) gb.N gb.K gb.nd gb.calm so tv t2 d.h3
  have ns : NoSt [Expr.Name y py, t2] := by
    intro z hz w q e
    rcases List.mem_cons.mp hz with h | h
    · rw [h] at e; cases e
    · rw [show z = t2 by simpa using h] at e
      have := d.h3
      rw [e] at this
      cases tv <;> simp [mTg] at this
  obtain ⟨l1, l2⟩ := assign_len (env := (X.blk s H scope (compEnvC scope cl C X.env) fp).env) ns
  have eK : (X.blk s H scope (compEnvC scope cl C X.env) fp).K = F.K := gb.K
  rw [← eK]
  exact pg_tup gb.calm (pgs_cons p1 (pgs_cons p2 pgs_nil (assign_cons ns.tail)) (assign_cons ns)) l1 l2
theorem s_dcI (g0 : XG X m F W G lv) {own : List Nat} {i : Nat} {tv : TGt} {f g : SVal} {kn y : Str} {vx t2 e : Expr} {scope : Scope} (d : DcI X m F own i tv f g kn y vx t2 e scope W) {kt : Nat} {kp py pt ap cp pos : Pos} (hl : (ap.endLine == cp.line) = true) :
    PE X (.DictComp (.Name kn kp) vx [⟨.Tuple [.Name y py, t2] kt pt, .Call (.Attribute e "items" ap) [] [] cp, [], 0⟩] scope pos) (rE F W relV (kDcI own tv f g)) := by
  have ok : BlkOk X.N X.env.scope scope (ownOk m.N scope own) := by rw [g0.N, g0.sc]; exact blkOk_by d.h1
  have p := pe_dcT (pos := pos) (rest := []) (tg := .Tuple [.Name y py, t2] kt pt) (tt := tYes) (ta := fun D => tPut (tVar i) (rE F W0 relV g) D) g0.calm g0.nd (pi_itemsT d.he d.hb hl) ok (fun s H C cl fp => pg_item g0 d s H C cl fp) (fun s H C cl fp => pts_nil)
    (act := fun D env => putThen (.Name kn kp) vx D env)
    (fun s H C cl fp D => have gb := g0.blk s H scope C cl fp
      pact_put rfl (by have := gb.hu; omega) (by
        have hk := d.hk
        unfold nmB at hk
        simp only [Bool.and_eq_true, decide_eq_true_eq, Bool.not_eq_true'] at hk
        exact pe_var (by rw [gb.N]; exact hk.1.1.1) (gb.vis hk.1.1.2) hk.1.2 hk.2) (d.hv s H C cl fp))
    (fun z D env => turn_one _ vx _ _ [] scope pos z D env) (fun _ => rfl)
  rw [d.h2] at p
  refine ⟨fun pins s σ H Q I q => p.run pins s σ H Q I (c_dcI d.h5 d.h4 d.h6 ?_ q)⟩
  rw [I.len, g0.N]
  exact (List.getElem?_eq_some_iff.mp d.hy).1
end
end PL
end
section
set_option linter.all false
set_option maxRecDepth 100000
set_option maxHeartbeats 2000000
set_option autoImplicit false
namespace PL
open PySem PySem.Spec PyProof.Rows L2
theorem mE_noStar (m : MC) (c : CE) (y : Expr) (p : Pos) : mE m c (.Starred y p) = false := by
  induction c generalizing m <;> simp_all [mE]
theorem mE_noSet (m : MC) (c : CE) (y : List Expr) (k : Nat) (p : Pos) : mE m c (.Set y k p) = false := by
  induction c generalizing m <;> simp_all [mE]
theorem mE_noSlice (m : MC) (c : CE) (a b d : Option Expr) (p : Pos) : mE m c (.Slice a b d p) = false := by
  induction c generalizing m <;> simp_all [mE]
theorem mE_sl {m : MC} {c : CE} {x : Expr} (h : mE m c x = true) : isSl x = false := by
  cases x <;> first | rfl | (rw [mE_noSlice] at h; cases h)
theorem mA_st (m : MC) : ∀ (c : CE) (xs : List Expr), mA m c xs = true → NoSt xs
  | .anil, [], _ => fun e he => by simp at he
  | .anil, _ :: _, h => by simp [mA] at h
  | .acons a r, [], h => by simp [mA] at h
  | .acons a r, x :: xs, h => by
    simp only [mA, Bool.and_eq_true] at h
    intro e he y p q
    rcases List.mem_cons.mp he with z | z
    · rw [q] at z
      rw [← z, mE_noStar] at h
      cases h.1
    · exact mA_st m r xs h.2 e z y p q
  | .var _, xs, h => by cases xs <;> simp [mA] at h
  | .lit _, xs, h => by cases xs <;> simp [mA] at h
  | .glob _ _, xs, h => by cases xs <;> simp [mA] at h
  | .bin _ _ _, xs, h => by cases xs <;> simp [mA] at h
  | .neg _, xs, h => by cases xs <;> simp [mA] at h
  | .cmp _ _ _, xs, h => by cases xs <;> simp [mA] at h
  | .chain _ _ _ _ _, xs, h => by cases xs <;> simp [mA] at h
  | .and _, xs, h => by cases xs <;> simp [mA] at h
  | .or _, xs, h => by cases xs <;> simp [mA] at h
  | .not _, xs, h => by cases xs <;> simp [mA] at h
  | .ife _ _ _, xs, h => by cases xs <;> simp [mA] at h
  | .tup _, xs, h => by cases xs <;> simp [mA] at h
  | .lst _, xs, h => by cases xs <;> simp [mA] at h
  | .idx _ _, xs, h => by cases xs <;> simp [mA] at h
  | .slc _ _ _, xs, h => by cases xs <;> simp [mA] at h
  | .call _ _, xs, h => by cases xs <;> simp [mA] at h
  | .callK _ _ _, xs, h => by cases xs <;> simp [mA] at h
  | .callD _ _ _, xs, h => by cases xs <;> simp [mA] at h
  | .bi _ _, xs, h => by cases xs <;> simp [mA] at h
  | .mt _ _ _, xs, h => by cases xs <;> simp [mA] at h
  | .lz _ _, xs, h => by cases xs <;> simp [mA] at h
  | .lc _ _ _ _ _ _, xs, h => by cases xs <;> simp [mA] at h
  | .dcI _ _ _ _ _, xs, h => by cases xs <;> simp [mA] at h
  | .dc2 _ _ _ _ _ _ _ _ _, xs, h => by cases xs <;> simp [mA] at h
  | .dct0, xs, h => by cases xs <;> simp [mA] at h
  | .dcti0, xs, h => by cases xs <;> simp [mA] at h
  | .dct1 _ _, xs, h => by cases xs <;> simp [mA] at h
  | .fstr _, xs, h => by cases xs <;> simp [mA] at h
  | .cell _, xs, h => by cases xs <;> simp [mA] at h
  | .fzE _, xs, h => by cases xs <;> simp [mA] at h
  | .none, xs, h => by cases xs <;> simp [mA] at h
theorem fsi {x : Expr} (h : ∀ y k p, x ≠ .Set y k p) (env : Env) (v : Value) : foldedSetIterable x env v = pure v := by
  cases x <;> first | rfl | exact absurd rfl (h _ _ _)
theorem mIt_noSet {m : MC} {ik : IK} {t : Expr} {c : CE} {x : Expr} (h : mIt m ik t c x = true) : ∀ y k p, x ≠ .Set y k p := by
  intro y k p e
  subst e
  unfold mIt at h
  split at h
  · cases ik <;> simp at h
    rw [mE_noSet] at h; cases h
  · cases ik <;> simp at h
  · cases h
def SndE (G : Nat → Fn) (c : CE) : Prop := ∀ (X : Cx) (m : MC) (F : Fr0) (W : WX) (lv : Nat), XG X m F W G lv → ∀ x, mE m c x = true → PE X x (rE F W relV (den G c).e)
structure Snd (G : Nat → Fn) (c : CE) : Prop where
  e : SndE G c
  t : ∀ (X : Cx) (m : MC) (F : Fr0) (W : WX) (lv : Nat), XG X m F W G lv → ∀ x, mE m c x = true → PT X x (rE F W relEq (den G c).t)
  a : ∀ (X : Cx) (m : MC) (F : Fr0) (W : WX) (lv : Nat), XG X m F W G lv → ∀ xs, mA m c xs = true → PA X xs (rE F W relA (den G c).a)
  p : ∀ (X : Cx) (m : MC) (F : Fr0) (W : WX) (lv : Nat), XG X m F W G lv → ∀ o, mP m c o = true → PO X o (rE F W relEq (den G c).p)
  n : ∀ (X : Cx) (m : MC) (F : Fr0) (W : WX) (lv : Nat), XG X m F W G lv → ∀ x xs pos, mA m c (x :: xs) = true → PE X (.BoolOp .And (x :: xs) pos) (rE F W relV (den G c).ne) ∧ PE X (.BoolOp .Or (x :: xs) pos) (rE F W relV (den G c).oe) ∧
    PW X (.BoolOp .And (x :: xs) pos) (rE F W relEq (den G c).nt) ∧ PW X (.BoolOp .Or (x :: xs) pos) (rE F W relEq (den G c).ot)
  i : ∀ (X : Cx) (m : MC) (F : Fr0) (W : WX) (lv : Nat), XG X m F W G lv → ∀ xs, mIf m c xs = true → PTs X xs (rE F W relEq (den G c).nt)
  h1 : ∀ b, c = .acons b .anil → SndE G b
theorem PT.of_pw {X : Cx} {x : Expr} {t : TT} (h : PW X x t) : PT X x t := ⟨fun pins s σ H Q I q => h.run _ pins s σ H Q I q⟩
theorem pt_nope {X : Cx} {F : Fr0} {W : WX} {x : Expr} : PT X x (rE F W relEq (nope (α := Bool))) := ⟨fun pins s σ H Q I ⟨μ, oa, ds, M, r, q⟩ => q.elim⟩
theorem pe_nope {X : Cx} {F : Fr0} {W : WX} {x : Expr} : PE X x (rE F W relV (nope (α := RV))) := ⟨fun pins s σ H Q I ⟨μ, oa, ds, M, r, q⟩ => q.elim⟩
theorem t_tru {X : Cx} {F : Fr0} {W : WX} {x : Expr} {f : SVal} (ha : PE X x (rE F W relV f)) (he : ∀ whole, isTrue x X.env whole = (do let v ← whole; standAt x.pos; holding [v] (truthy v))) : PT X x (rE F W relEq (asT f)) :=
  PT.mono (pt_truth ha he) fun σ H Q h => rE_truth h
/-- a core term that is a value alone -/
theorem Snd.val {G : Nat → Fn} {c : CE} {f : SVal} (hd : den G c = Sm.of f) (he : SndE G c) (ht : ∀ (X : Cx) (m : MC) (F : Fr0) (W : WX) (lv : Nat), XG X m F W G lv → ∀ x, mE m c x = true → PT X x (rE F W relEq (den G c).t))
    (hA : ∀ m xs, mA m c xs = false) (hp : ∀ (X : Cx) (m : MC) (F : Fr0) (W : WX) (lv : Nat), XG X m F W G lv → ∀ o, mP m c o = true → PO X o (rE F W relEq (den G c).p)) (hI : ∀ m xs, mIf m c xs = false) (h1 : ∀ b, c ≠ .acons b .anil) : Snd G c where
  e := he
  t := ht
  a := fun X m F W lv g xs h => by rw [hA] at h; cases h
  p := hp
  n := fun X m F W lv g x xs pos h => by rw [hA] at h; cases h
  i := fun X m F W lv g xs h => by rw [hI] at h; cases h
  h1 := fun b e => absurd e (h1 b)
theorem p_no {G : Nat → Fn} {c : CE} (h : ∀ m o, mP m c o = false) : ∀ (X : Cx) (m : MC) (F : Fr0) (W : WX) (lv : Nat), XG X m F W G lv → ∀ o, mP m c o = true → PO X o (rE F W relEq (den G c).p) :=
  fun X m F W lv g o q => by rw [h] at q; cases q
end PL
end
section
set_option linter.all false
set_option maxRecDepth 100000
set_option maxHeartbeats 4000000
set_option autoImplicit false
namespace PL
open PySem PySem.Spec PyProof.Rows L2
section
variable {G : Nat → Fn}
theorem snd_var {i : Nat} : Snd G (.var i) := by
  have he : SndE G (.var i) := by
    intro X m F W lv g x h
    cases x <;> first | (simp [mE] at h; done) | exact s_var g h
  refine Snd.val rfl he (fun X m F W lv g x h => t_tru (he X m F W lv g x h) (by cases x <;> first | (simp [mE] at h; done) | exact fun _ => rfl)) (by intro m xs; cases xs <;> simp [mA]) (fun X m F W lv g o h => ?_) (by intro m xs; cases xs <;> simp [mIf]) (by intro b e; cases e)
  cases o with
  | none => simp [mP] at h
  | some x => cases x <;> first | (simp [mP] at h; done) | exact p_some (s_var g h)
theorem snd_lit {d : D} : Snd G (.lit d) := by
  have he : SndE G (.lit d) := by
    intro X m F W lv g x h
    cases x <;> first | (simp [mE] at h; done) | exact s_lit h
  refine Snd.val rfl he (fun X m F W lv g x h => t_tru (he X m F W lv g x h) (by cases x <;> first | (simp [mE] at h; done) | exact fun _ => rfl)) (by intro m xs; cases xs <;> simp [mA]) (fun X m F W lv g o h => ?_) (by intro m xs; cases xs <;> simp [mIf]) (by intro b e; cases e)
  cases o with
  | none => simp [mP] at h
  | some x => cases x <;> first | (simp [mP] at h; done) | exact p_some (s_lit h)
theorem snd_glob {s : String} {d : D} : Snd G (.glob s d) := by
  have he : SndE G (.glob s d) := by
    intro X m F W lv g x h
    cases x <;> first | (simp [mE] at h; done) | exact s_glob g h
  exact Snd.val rfl he (fun X m F W lv g x h => t_tru (he X m F W lv g x h) (by cases x <;> first | (simp [mE] at h; done) | exact fun _ => rfl)) (by intro m xs; cases xs <;> simp [mA]) (p_no (by intro m o; cases o <;> simp [mP])) (by intro m xs; cases xs <;> simp [mIf]) (by intro b e; cases e)
theorem snd_bin {op : BOp} {a b : CE} (ha : Snd G a) (hb : Snd G b) : Snd G (.bin op a b) := by
  have he : SndE G (.bin op a b) := by
    intro X m F W lv g x h
    cases x <;> first | (simp [mE] at h; done) | skip
    simp only [mE, Bool.and_eq_true, decide_eq_true_eq] at h
    obtain ⟨⟨h1, h2⟩, h3⟩ := h
    subst h1
    exact s_bin g (ha.e X m F W lv g _ h2) (hb.e X m F W lv g _ h3)
  refine Snd.val rfl he (fun X m F W lv g x h => t_tru (he X m F W lv g x h) (by cases x <;> first | (simp [mE] at h; done) | exact fun _ => rfl)) (by intro m xs; cases xs <;> simp [mA]) (fun X m F W lv g o h => ?_) (by intro m xs; cases xs <;> simp [mIf]) (by intro b e; cases e)
  cases o with
  | none => simp [mP] at h
  | some x => cases x <;> first | (simp [mP] at h; done) | exact p_some (he X m F W lv g _ (by simpa [mE, mP] using h))
theorem isTrue_neg {X : Cx} {o : UnaryOp} {y : Expr} {p : Pos} (h : o = .USub) : ∀ whole, isTrue (.UnaryOp o y p) X.env whole = (do let v ← whole; standAt (Expr.UnaryOp o y p).pos; holding [v] (truthy v)) := by
  subst h; exact fun _ => rfl
theorem snd_neg {a : CE} (ha : Snd G a) : Snd G (.neg a) := by
  have he : SndE G (.neg a) := by
    intro X m F W lv g x h
    cases x <;> first | (simp [mE] at h; done) | skip
    simp only [mE, Bool.and_eq_true, decide_eq_true_eq] at h
    obtain ⟨h1, h2⟩ := h
    subst h1
    exact s_neg g (ha.e X m F W lv g _ h2)
  refine Snd.val rfl he (fun X m F W lv g x h => t_tru (he X m F W lv g x h) (by
    cases x <;> first | (simp [mE] at h; done) | skip
    simp only [mE, Bool.and_eq_true, decide_eq_true_eq] at h
    exact isTrue_neg h.1)) (by intro m xs; cases xs <;> simp [mA]) (fun X m F W lv g o h => ?_) (by intro m xs; cases xs <;> simp [mIf]) (by intro b e; cases e)
  cases o with
  | none => simp [mP] at h
  | some x => cases x <;> first | (simp [mP] at h; done) | exact p_some (he X m F W lv g _ (by simpa [mE, mP] using h))
theorem cmp_shape {m : MC} {op : COp} {a b : CE} {x : Expr} (h : mE m (.cmp op a b) x = true) : ∃ y z p, x = .Compare y [cop op] [z] p ∧ mE m a y = true ∧ mE m b z = true ∧ behindInMarks (cop op) z = false := by
  cases x <;> first | (simp [mE] at h; done) | skip
  rename_i y os zs p
  match os, zs with
  | [o], [z] =>
    simp only [mE, Bool.and_eq_true, decide_eq_true_eq, Bool.not_eq_true'] at h
    obtain ⟨⟨⟨h1, h2⟩, h3⟩, h4⟩ := h
    subst h1
    exact ⟨y, z, p, rfl, h2, h3, h4⟩
  | [], _ => simp [mE] at h
  | _ :: _ :: _, _ => simp [mE] at h
  | [_], [] => simp [mE] at h
  | [_], _ :: _ :: _ => simp [mE] at h
theorem snd_cmp {op : COp} {a b : CE} (ha : Snd G a) (hb : Snd G b) : Snd G (.cmp op a b) := by
  refine Snd.val rfl (fun X m F W lv g x h => ?_) (fun X m F W lv g x h => ?_) (by intro m xs; cases xs <;> simp [mA]) (p_no (by intro m o; cases o <;> simp [mP])) (by intro m xs; cases xs <;> simp [mIf]) (by intro b e; cases e)
  · obtain ⟨y, z, p, rfl, h1, h2, h3⟩ := cmp_shape h
    exact s_cmp g (ha.e X m F W lv g _ h1) (hb.e X m F W lv g _ h2) h3
  · obtain ⟨y, z, p, rfl, h1, h2, h3⟩ := cmp_shape h
    exact t_cmp g (ha.e X m F W lv g _ h1) (hb.e X m F W lv g _ h2) h3
theorem chain_shape {m : MC} {o1 o2 : COp} {a b c : CE} {x : Expr} (h : mE m (.chain o1 o2 a b c) x = true) : ∃ y z u p, x = .Compare y [cop o1, cop o2] [z, u] p ∧ mE m a y = true ∧ mE m b z = true ∧ mE m c u = true ∧ lastMarks [cop o1, cop o2] [z, u] = false := by
  cases x <;> first | (simp [mE] at h; done) | skip
  rename_i y os zs p
  match os, zs with
  | [o, o'], [z, u] =>
    simp only [mE, Bool.and_eq_true, decide_eq_true_eq, Bool.not_eq_true'] at h
    obtain ⟨⟨⟨⟨⟨h1, h2⟩, h3⟩, h4⟩, h5⟩, h6⟩ := h
    subst h1 h2
    exact ⟨y, z, u, p, rfl, h3, h4, h5, h6⟩
  | [], _ => simp [mE] at h
  | [_], _ => simp [mE] at h
  | _ :: _ :: _ :: _, _ => simp [mE] at h
  | [_, _], [] => simp [mE] at h
  | [_, _], [_] => simp [mE] at h
  | [_, _], _ :: _ :: _ :: _ => simp [mE] at h
theorem snd_chain {o1 o2 : COp} {a b c : CE} (ha : Snd G a) (hb : Snd G b) (hc : Snd G c) : Snd G (.chain o1 o2 a b c) := by
  refine Snd.val rfl (fun X m F W lv g x h => ?_) (fun X m F W lv g x h => ?_) (by intro m xs; cases xs <;> simp [mA]) (p_no (by intro m o; cases o <;> simp [mP])) (by intro m xs; cases xs <;> simp [mIf]) (by intro b e; cases e)
  · obtain ⟨y, z, u, p, rfl, h1, h2, h3, h4⟩ := chain_shape h
    exact s_chain g (ha.e X m F W lv g _ h1) (hb.e X m F W lv g _ h2) (hc.e X m F W lv g _ h3) h4
  · obtain ⟨y, z, u, p, rfl, h1, h2, h3, h4⟩ := chain_shape h
    exact t_chain g (ha.e X m F W lv g _ h1) (hb.e X m F W lv g _ h2) (hc.e X m F W lv g _ h3) h4
theorem Snd.valT {c : CE} {f : SVal} {t : List Sl → MS → R Bool} (hd : den G c = Sm.ofT f t) (he : SndE G c) (ht : ∀ (X : Cx) (m : MC) (F : Fr0) (W : WX) (lv : Nat), XG X m F W G lv → ∀ x, mE m c x = true → PT X x (rE F W relEq (den G c).t))
    (hA : ∀ m xs, mA m c xs = false) (hp : ∀ m o, mP m c o = false) (hI : ∀ m xs, mIf m c xs = false) (h1 : ∀ b, c ≠ .acons b .anil) : Snd G c where
  e := he
  t := ht
  a := fun X m F W lv g xs h => by rw [hA] at h; cases h
  p := p_no hp
  n := fun X m F W lv g x xs pos h => by rw [hA] at h; cases h
  i := fun X m F W lv g xs h => by rw [hI] at h; cases h
  h1 := fun b e => absurd e (h1 b)
theorem mA_ne {m : MC} {c : CE} (h : mA m c [] = true) : c = .anil := by
  cases c <;> first | rfl | (simp [mA] at h)
theorem bop_shape {m : MC} {es : CE} {x : Expr} (h : mE m (.and es) x = true ∨ mE m (.or es) x = true) : ∃ op xs p, x = .BoolOp op xs p ∧ mA m es xs = true := by
  rcases h with h | h
  · cases x <;> first | (simp [mE] at h; done) | skip
    rename_i op xs p
    cases op <;> first | (simp [mE] at h; done) | exact ⟨_, xs, p, rfl, by simpa [mE] using h⟩
  · cases x <;> first | (simp [mE] at h; done) | skip
    rename_i op xs p
    cases op <;> first | (simp [mE] at h; done) | exact ⟨_, xs, p, rfl, by simpa [mE] using h⟩
theorem and_shape {m : MC} {es : CE} {x : Expr} (h : mE m (.and es) x = true) : ∃ xs p, x = .BoolOp .And xs p ∧ mA m es xs = true := by
  obtain ⟨op, xs, p, rfl, h2⟩ := bop_shape (.inl h)
  cases op <;> first | (simp [mE] at h; done) | exact ⟨xs, p, rfl, h2⟩
theorem or_shape {m : MC} {es : CE} {x : Expr} (h : mE m (.or es) x = true) : ∃ xs p, x = .BoolOp .Or xs p ∧ mA m es xs = true := by
  obtain ⟨op, xs, p, rfl, h2⟩ := bop_shape (.inr h)
  cases op <;> first | (simp [mE] at h; done) | exact ⟨xs, p, rfl, h2⟩
theorem snd_and {es : CE} (hs : Snd G es) : Snd G (.and es) := by
  refine Snd.valT rfl (fun X m F W lv g x h => ?_) (fun X m F W lv g x h => ?_) (by intro m xs; cases xs <;> simp [mA]) (by intro m o; cases o <;> simp [mP]) (by intro m xs; cases xs <;> simp [mIf]) (by intro b e; cases e)
  · obtain ⟨xs, p, rfl, h2⟩ := and_shape h
    cases xs with
    | nil => rw [mA_ne h2]; exact pe_nope
    | cons y ys => exact (hs.n X m F W lv g y ys p h2).1
  · obtain ⟨xs, p, rfl, h2⟩ := and_shape h
    cases xs with
    | nil => rw [mA_ne h2]; exact pt_nope
    | cons y ys => exact PT.of_pw (hs.n X m F W lv g y ys p h2).2.2.1
theorem snd_or {es : CE} (hs : Snd G es) : Snd G (.or es) := by
  refine Snd.valT rfl (fun X m F W lv g x h => ?_) (fun X m F W lv g x h => ?_) (by intro m xs; cases xs <;> simp [mA]) (by intro m o; cases o <;> simp [mP]) (by intro m xs; cases xs <;> simp [mIf]) (by intro b e; cases e)
  · obtain ⟨xs, p, rfl, h2⟩ := or_shape h
    cases xs with
    | nil => rw [mA_ne h2]; exact pe_nope
    | cons y ys => exact (hs.n X m F W lv g y ys p h2).2.1
  · obtain ⟨xs, p, rfl, h2⟩ := or_shape h
    cases xs with
    | nil => rw [mA_ne h2]; exact pt_nope
    | cons y ys => exact PT.of_pw (hs.n X m F W lv g y ys p h2).2.2.2
theorem snd_not {a : CE} (ha : Snd G a) : Snd G (.not a) := by
  refine Snd.valT rfl (fun X m F W lv g x h => ?_) (fun X m F W lv g x h => ?_) (by intro m xs; cases xs <;> simp [mA]) (by intro m o; cases o <;> simp [mP]) (by intro m xs; cases xs <;> simp [mIf]) (by intro b e; cases e)
  · cases x <;> first | (simp [mE] at h; done) | skip
    simp only [mE, Bool.and_eq_true, decide_eq_true_eq] at h
    obtain ⟨h1, h2⟩ := h
    subst h1
    exact s_not (ha.e X m F W lv g _ h2)
  · cases x <;> first | (simp [mE] at h; done) | skip
    simp only [mE, Bool.and_eq_true, decide_eq_true_eq] at h
    obtain ⟨h1, h2⟩ := h
    subst h1
    exact t_not (ha.t X m F W lv g _ h2)
theorem snd_ife {c a b : CE} (hc : Snd G c) (ha : Snd G a) (hb : Snd G b) : Snd G (.ife c a b) := by
  refine Snd.valT rfl (fun X m F W lv g x h => ?_) (fun X m F W lv g x h => pt_nope) (by intro m xs; cases xs <;> simp [mA]) (by intro m o; cases o <;> simp [mP]) (by intro m xs; cases xs <;> simp [mIf]) (by intro b e; cases e)
  cases x <;> first | (simp [mE] at h; done) | skip
  simp only [mE, Bool.and_eq_true] at h
  exact s_ife (hc.t X m F W lv g _ h.1.1) (ha.e X m F W lv g _ h.1.2) (hb.e X m F W lv g _ h.2)
theorem snd_tup {es : CE} (hs : Snd G es) : Snd G (.tup es) := by
  have he : SndE G (.tup es) := by
    intro X m F W lv g x h
    cases x <;> first | (simp [mE] at h; done) | skip
    exact s_tup (hs.a X m F W lv g _ (by simpa [mE] using h))
  exact Snd.val rfl he (fun X m F W lv g x h => t_tru (he X m F W lv g x h) (by cases x <;> first | (simp [mE] at h; done) | exact fun _ => rfl)) (by intro m xs; cases xs <;> simp [mA]) (p_no (by intro m o; cases o <;> simp [mP])) (by intro m xs; cases xs <;> simp [mIf]) (by intro b e; cases e)
theorem snd_lst {es : CE} (hs : Snd G es) : Snd G (.lst es) := by
  have he : SndE G (.lst es) := by
    intro X m F W lv g x h
    cases x <;> first | (simp [mE] at h; done) | skip
    exact s_lst (hs.a X m F W lv g _ (by simpa [mE] using h))
  exact Snd.val rfl he (fun X m F W lv g x h => t_tru (he X m F W lv g x h) (by cases x <;> first | (simp [mE] at h; done) | exact fun _ => rfl)) (by intro m xs; cases xs <;> simp [mA]) (p_no (by intro m o; cases o <;> simp [mP])) (by intro m xs; cases xs <;> simp [mIf]) (by intro b e; cases e)
theorem snd_idx {a b : CE} (ha : Snd G a) (hb : Snd G b) : Snd G (.idx a b) := by
  have he : SndE G (.idx a b) := by
    intro X m F W lv g x h
    cases x <;> first | (simp [mE] at h; done) | skip
    simp only [mE, Bool.and_eq_true, Bool.not_eq_true'] at h
    exact s_idx g (ha.e X m F W lv g _ h.1.1) (hb.e X m F W lv g _ h.1.2) h.2
  exact Snd.val rfl he (fun X m F W lv g x h => t_tru (he X m F W lv g x h) (by cases x <;> first | (simp [mE] at h; done) | exact fun _ => rfl)) (by intro m xs; cases xs <;> simp [mA]) (p_no (by intro m o; cases o <;> simp [mP])) (by intro m xs; cases xs <;> simp [mIf]) (by intro b e; cases e)
theorem slc_shape {m : MC} {a b c : CE} {x : Expr} (h : mE m (.slc a b c) x = true) : ∃ y l u p p2, x = .Subscript y (.Slice l u none p2) p ∧ mE m a y = true ∧ mP m b l = true ∧ mP m c u = true := by
  cases x <;> first | (simp [mE] at h; done) | skip
  rename_i y z p
  cases z <;> first | (simp [mE] at h; done) | skip
  rename_i l u st p2
  cases st with
  | some _ => simp [mE] at h
  | none =>
    simp only [mE, Bool.and_eq_true] at h
    exact ⟨y, l, u, p, p2, rfl, h.1.1, h.1.2, h.2⟩
theorem snd_slc {a b c : CE} (ha : Snd G a) (hb : Snd G b) (hc : Snd G c) : Snd G (.slc a b c) := by
  have he : SndE G (.slc a b c) := by
    intro X m F W lv g x h
    obtain ⟨y, l, u, p, p2, rfl, h1, h2, h3⟩ := slc_shape h
    exact s_slc g (ha.e X m F W lv g _ h1) (hb.p X m F W lv g _ h2) (hc.p X m F W lv g _ h3)
  exact Snd.val rfl he (fun X m F W lv g x h => t_tru (he X m F W lv g x h) (by cases x <;> first | (simp [mE] at h; done) | exact fun _ => rfl)) (by intro m xs; cases xs <;> simp [mA]) (p_no (by intro m o; cases o <;> simp [mP])) (by intro m xs; cases xs <;> simp [mIf]) (by intro b e; cases e)
end
end PL
end
section
set_option linter.all false
set_option maxRecDepth 100000
set_option maxHeartbeats 4000000
set_option autoImplicit false
namespace PL
open PySem PySem.Spec PyProof.Rows L2
section
variable {G : Nat → Fn}
theorem snd_no {c : CE} {S : Sm} (h : ∀ m x, mE m c x = false) (hA : ∀ m xs, mA m c xs = false) (hp : ∀ m o, mP m c o = false) (hI : ∀ m xs, mIf m c xs = false) (h1 : ∀ b, c ≠ .acons b .anil) : Snd G c where
  e := fun X m F W lv g x q => by rw [h] at q; cases q
  t := fun X m F W lv g x q => by rw [h] at q; cases q
  a := fun X m F W lv g xs h => by rw [hA] at h; cases h
  p := p_no hp
  n := fun X m F W lv g x xs pos h => by rw [hA] at h; cases h
  i := fun X m F W lv g xs h => by rw [hI] at h; cases h
  h1 := fun b e => absurd e (h1 b)
theorem isTrue_call {X : Cx} {f : Expr} {xs : List Expr} {ks : List Keyword} {p : Pos} : ∀ whole, isTrue (.Call f xs ks p) X.env whole = (do let v ← whole; standAt (Expr.Call f xs ks p).pos; holding [v] (truthy v)) := fun _ => rfl
/-- a value that is a call -/
theorem Snd.callv {c : CE} {f : SVal} (hd : den G c = Sm.of f) (he : SndE G c) (sh : ∀ m x, mE m c x = true → ∃ y xs ks p, x = .Call y xs ks p)
    (hA : ∀ m xs, mA m c xs = false) (hp : ∀ m o, mP m c o = false) (hI : ∀ m xs, mIf m c xs = false) (h1 : ∀ b, c ≠ .acons b .anil) : Snd G c :=
  Snd.val hd he (fun X m F W lv g x h => by
    obtain ⟨y, xs, ks, p, rfl⟩ := sh m x h
    have q := he X m F W lv g _ h
    rw [hd] at q ⊢
    exact t_tru q isTrue_call) hA (p_no hp) hI h1
theorem call_shape {m : MC} {f : Nat} {es : CE} {x : Expr} (h : mE m (.call f es) x = true) : ∃ y p xs q, x = .Call (.Name y p) xs [] q ∧ y = m.fn f ∧ glB m.sc y = true ∧ f ∈ m.fs ∧ posB m f = true ∧ mA m es xs = true := by
  cases x <;> first | (simp [mE] at h; done) | skip
  rename_i y xs ks p
  cases y <;> first | (simp [mE] at h; done) | skip
  cases ks <;> first | (simp [mE] at h; done) | skip
  simp only [mE, Bool.and_eq_true, decide_eq_true_eq] at h
  exact ⟨_, _, _, _, rfl, h.1.1.1.1, h.1.1.1.2, h.1.1.2, h.1.2, h.2⟩
theorem snd_call {f : Nat} {es : CE} (hs : Snd G es) : Snd G (.call f es) := by
  refine Snd.callv rfl (fun X m F W lv g x h => ?_) (fun m x h => by obtain ⟨y, p, xs, q, rfl, _⟩ := call_shape h; exact ⟨_, _, _, _, rfl⟩) (by intro m xs; cases xs <;> simp [mA]) (by intro m o; cases o <;> simp [mP]) (by intro m xs; cases xs <;> simp [mIf]) (by intro b e; cases e)
  obtain ⟨y, p, xs, q, rfl, h1, h2, h3, h4, h5⟩ := call_shape h
  cases xs with
  | nil =>
    have := mA_ne h5
    subst this
    exact s_call0 g h1 h2 h3 h4 fun _ _ => rfl
  | cons z zs => exact s_call g h1 h2 h3 h4 (hs.a X m F W lv g _ h5) (mA_st m es _ h5)
theorem callD_shape {m : MC} {f : Nat} {es : CE} {d : D} {x : Expr} (h : mE m (.callD f es d) x = true) : ∃ y p x1 xs q, x = .Call (.Name y p) (x1 :: xs) [] q ∧ y = m.fn f ∧ glB m.sc y = true ∧ f ∈ m.fs ∧ dfB m f d = true ∧ mA m es (x1 :: xs) = true := by
  cases x <;> first | (simp [mE] at h; done) | skip
  rename_i y xs ks p
  cases y <;> first | (simp [mE] at h; done) | skip
  cases ks <;> first | (simp [mE] at h; done) | skip
  cases xs <;> first | (simp [mE] at h; done) | skip
  simp only [mE, Bool.and_eq_true, decide_eq_true_eq] at h
  exact ⟨_, _, _, _, _, rfl, h.1.1.1.1, h.1.1.1.2, h.1.1.2, h.1.2, h.2⟩
theorem snd_callD {f : Nat} {es : CE} {d : D} (hs : Snd G es) : Snd G (.callD f es d) := by
  refine Snd.callv rfl (fun X m F W lv g x h => ?_) (fun m x h => by obtain ⟨y, p, x1, xs, q, rfl, _⟩ := callD_shape h; exact ⟨_, _, _, _, rfl⟩) (by intro m xs; cases xs <;> simp [mA]) (by intro m o; cases o <;> simp [mP]) (by intro m xs; cases xs <;> simp [mIf]) (by intro b e; cases e)
  obtain ⟨y, p, x1, xs, q, rfl, h1, h2, h3, h4, h5⟩ := callD_shape h
  exact s_callD g h1 h2 h3 h4 (hs.a X m F W lv g _ h5) (mA_st m es _ h5)
theorem callK_shape {m : MC} {f : Nat} {es kw : CE} {x : Expr} (h : mE m (.callK f es kw) x = true) : ∃ y p x1 xs k v kp q, x = .Call (.Name y p) (x1 :: xs) [⟨some k, v, kp⟩] q ∧ y = m.fn f ∧ glB m.sc y = true ∧ f ∈ m.fs ∧ bkB m f k = true ∧ mA m es (x1 :: xs) = true ∧ mE m kw v = true := by
  cases x <;> first | (simp [mE] at h; done) | skip
  rename_i y xs ks p
  cases y <;> first | (simp [mE] at h; done) | skip
  cases xs <;> first | (simp [mE] at h; done) | skip
  match ks with
  | [] => simp [mE] at h
  | _ :: _ :: _ => simp [mE] at h
  | [⟨none, _, _⟩] => simp [mE] at h
  | [⟨some k, v, kp⟩] =>
    simp only [mE, Bool.and_eq_true, decide_eq_true_eq] at h
    exact ⟨_, _, _, _, k, v, kp, _, rfl, h.1.1.1.1.1, h.1.1.1.1.2, h.1.1.1.2, h.1.1.2, h.1.2, h.2⟩
theorem snd_callK {f : Nat} {es kw : CE} (hs : Snd G es) (hk : Snd G kw) : Snd G (.callK f es kw) := by
  refine Snd.callv rfl (fun X m F W lv g x h => ?_) (fun m x h => by obtain ⟨y, p, x1, xs, k, v, kp, q, rfl, _⟩ := callK_shape h; exact ⟨_, _, _, _, rfl⟩) (by intro m xs; cases xs <;> simp [mA]) (by intro m o; cases o <;> simp [mP]) (by intro m xs; cases xs <;> simp [mIf]) (by intro b e; cases e)
  obtain ⟨y, p, x1, xs, k, v, kp, q, rfl, h1, h2, h3, h4, h5, h6⟩ := callK_shape h
  exact s_callK g h1 h2 h3 h4 (hs.a X m F W lv g _ h5) (mA_st m es _ h5) (hk.e X m F W lv g _ h6)
theorem isi_shape {m : MC} {ts : List Ty} {es : CE} {x : Expr} (h : mE m (.bi (.isi ts) es) x = true) : ∃ y p e t q, x = .Call (.Name y p) [e, t] [] q ∧ y = ("isinstance" : Str) ∧ glB m.sc y = true ∧ mA m es [e] = true ∧ tysB m.sc ts t = true := by
  cases x <;> first | (simp [mE] at h; done) | skip
  rename_i y xs ks p
  cases y <;> first | (simp [mE] at h; done) | skip
  cases ks <;> first | (simp [mE] at h; done) | skip
  match xs with
  | [] => simp [mE] at h
  | [_] => simp [mE, biN] at h
  | _ :: _ :: _ :: _ => simp [mE, biN] at h
  | [e, t] =>
    simp only [mE, Bool.and_eq_true, beq_iff_eq] at h
    exact ⟨_, _, _, _, _, rfl, h.1.1.1, h.1.1.2, h.1.2, h.2⟩
theorem bi_shape {m : MC} {b : BI} {es : CE} {x : Expr} (hb : ∀ ts, b ≠ .isi ts) (h : mE m (.bi b es) x = true) : ∃ y p x1 xs q, x = .Call (.Name y p) (x1 :: xs) [] q ∧ y = (biN b : Str) ∧ (biN b != "isinstance") = true ∧ glB m.sc y = true ∧ mA m es (x1 :: xs) = true := by
  cases x <;> first | (cases b <;> simp [mE] at h; done) | skip
  rename_i y xs ks p
  cases y <;> first | (cases b <;> simp [mE] at h; done) | skip
  cases ks <;> first | (cases b <;> simp [mE] at h; done) | skip
  cases xs <;> first | (cases b <;> simp [mE] at h; done) | skip
  cases b <;> first | exact absurd rfl (hb _) | skip
  all_goals
    simp only [mE, Bool.and_eq_true, beq_iff_eq] at h
    exact ⟨_, _, _, _, _, rfl, h.1.1.1, h.1.1.2, h.1.2, h.2⟩
theorem snd_bi {b : BI} {es : CE} (hs : Snd G es) : Snd G (.bi b es) := by
  by_cases hb : ∃ ts, b = .isi ts
  · obtain ⟨ts, rfl⟩ := hb
    refine Snd.callv rfl (fun X m F W lv g x h => ?_) (fun m x h => by obtain ⟨y, p, e, t, q, rfl, _⟩ := isi_shape h; exact ⟨_, _, _, _, rfl⟩) (by intro m xs; cases xs <;> simp [mA]) (by intro m o; cases o <;> simp [mP]) (by intro m xs; cases xs <;> simp [mIf]) (by intro b e; cases e)
    obtain ⟨y, p, e, t, q, rfl, h1, h2, h3, h4⟩ := isi_shape h
    have ns := mA_st m es _ h3
    cases es <;> first | (simp [mA] at h3; done) | skip
    rename_i e1 r
    simp only [mA, Bool.and_eq_true] at h3
    have := mA_ne h3.2
    subst this
    exact s_isi g h1 h2 ns (hs.h1 e1 rfl X m F W lv g _ h3.1) h4
  · have hb : ∀ ts, b ≠ .isi ts := fun ts e => hb ⟨ts, e⟩
    refine Snd.callv rfl (fun X m F W lv g x h => ?_) (fun m x h => by obtain ⟨y, p, e, t, q, rfl, _⟩ := bi_shape hb h; exact ⟨_, _, _, _, rfl⟩) (by intro m xs; cases xs <;> simp [mA]) (by intro m o; cases o <;> simp [mP]) (by intro m xs; cases xs <;> simp [mIf]) (by intro b e; cases e)
    obtain ⟨y, p, x1, xs, q, rfl, h1, h2, h3, h4⟩ := bi_shape hb h
    exact s_bi g h1 hb h2 h3 (hs.a X m F W lv g _ h4) (mA_st m es _ h4)
theorem lz_shape {m : MC} {a b : CE} {x : Expr} (h : mE m (.lz a b) x = true) : ∃ l p z p2 y u p3 p4, x = .Call (.Name l p) [.Call (.Name z p2) [y, u] [] p3] [] p4 ∧ l = ("list" : Str) ∧ glB m.sc l = true ∧ z = ("zip" : Str) ∧ glB m.sc z = true ∧ mE m a y = true ∧ mE m b u = true := by
  cases x <;> first | (simp [mE] at h; done) | skip
  rename_i y xs ks p
  cases y <;> first | (simp [mE] at h; done) | skip
  cases ks <;> first | (simp [mE] at h; done) | skip
  match xs with
  | [] => simp [mE] at h
  | _ :: _ :: _ => simp [mE] at h
  | [i] =>
    cases i <;> first | (simp [mE] at h; done) | skip
    rename_i z zs kz pz
    cases z <;> first | (simp [mE] at h; done) | skip
    cases kz <;> first | (simp [mE] at h; done) | skip
    match zs with
    | [] => simp [mE] at h
    | [_] => simp [mE] at h
    | _ :: _ :: _ :: _ => simp [mE] at h
    | [u, v] =>
      simp only [mE, Bool.and_eq_true, beq_iff_eq] at h
      exact ⟨_, _, _, _, _, _, _, _, rfl, h.1.1.1.1.1, h.1.1.1.1.2, h.1.1.1.2, h.1.1.2, h.1.2, h.2⟩
theorem snd_lz {a b : CE} (ha : Snd G a) (hb : Snd G b) : Snd G (.lz a b) := by
  refine Snd.callv rfl (fun X m F W lv g x h => ?_) (fun m x h => by obtain ⟨l, p, z, p2, y, u, p3, p4, rfl, _⟩ := lz_shape h; exact ⟨_, _, _, _, rfl⟩) (by intro m xs; cases xs <;> simp [mA]) (by intro m o; cases o <;> simp [mP]) (by intro m xs; cases xs <;> simp [mIf]) (by intro b e; cases e)
  obtain ⟨l, p, z, p2, y, u, p3, p4, rfl, h1, h2, h3, h4, h5, h6⟩ := lz_shape h
  have ns : NoSt [y, u] := by
    intro e he q w z
    rcases List.mem_cons.mp he with i | i
    · rw [z] at i; rw [← i, mE_noStar] at h5; cases h5
    · have i : e = u := by simpa using i
      rw [z] at i; rw [← i, mE_noStar] at h6; cases h6
  exact s_lz g h1 h2 h3 h4 ns (ha.e X m F W lv g _ h5) (hb.e X m F W lv g _ h6)
theorem mIt_ok {st : Bool} {es : CE} (hs : Snd G es) (h2 : ∀ a r, es = .acons a r → Snd G a ∧ Snd G r) (X : Cx) (m : MC) (F : Fr0) (W : WX) (lv : Nat) (g : XG X m F W G lv) (ik : IK) (t x : Expr) (h : mIt m ik t es x = true) : PI X t x (rE F W (relI F st) (kItS st ik (den G es).a)) := by
  unfold mIt at h
  split at h
  · rename_i a
    have ha := hs.h1 a rfl X m F W lv g
    have hd : (den G (.acons a .anil)).a = kCons (den G a).e argN := rfl
    rw [hd]
    split at h
    · exact i_seq g (ha _ h)
    · rename_i r p y q
      simp only [Bool.and_eq_true, beq_iff_eq] at h
      exact i_rng1 g h.1.1 h.1.2 (fun e he z w i => by rw [show e = y by simpa using he] at i; rw [i, mE_noStar] at h; cases h.2) (ha _ h.2)
    · rename_i r p y q
      simp only [Bool.and_eq_true, beq_iff_eq] at h
      exact i_enm g h.1.1.1 h.1.1.2 h.1.2 (fun e he z w i => by rw [show e = y by simpa using he] at i; rw [i, mE_noStar] at h; cases h.2) (ha _ h.2)
    · cases h
  · rename_i a b
    obtain ⟨sa, sr⟩ := h2 _ _ rfl
    have ha := sa.e X m F W lv g
    have hb := sr.h1 b rfl X m F W lv g
    have hd : (den G (.acons a (.acons b .anil))).a = kCons (den G a).e (kCons (den G b).e argN) := rfl
    rw [hd]
    have ns : ∀ {y z : Expr}, mE m a y = true → mE m b z = true → NoSt [y, z] := fun {y z} h1 h2 e he u w i => by
      rcases List.mem_cons.mp he with j | j
      · rw [i] at j; rw [← j, mE_noStar] at h1; cases h1
      · rw [show e = z by simpa using j] at i; rw [i, mE_noStar] at h2; cases h2
    split at h
    · simp only [Bool.and_eq_true, beq_iff_eq] at h
      exact i_rng2 g h.1.1.1 h.1.1.2 (ns h.1.2 h.2) (ha _ h.1.2) (hb _ h.2)
    · simp only [Bool.and_eq_true, beq_iff_eq] at h
      exact i_zip g h.1.1.1.1 h.1.1.1.2 h.1.1.2 (ns h.1.2 h.2) (ha _ h.1.2) (hb _ h.2)
    · cases h
  · cases h
theorem lc_shape {m : MC} {own : List Nat} {tg : TGt} {ik : IK} {its cond elt : CE} {x : Expr} (h : mE m (.lc own tg ik its cond elt) x = true) : ∃ e t it ifs scope p, x = .ListComp e [⟨t, it, ifs, 0⟩] scope p ∧ blkC m.N m.sc scope (ownOk m.N scope own) = true ∧ (ownOk m.N scope own).map (·.2) = own ∧
    mTg m.N (stB scope) tg t = true ∧ TGt.sub tg own = true ∧ mIt m ik t its it = true ∧ mIf (m.blk scope) cond ifs = true ∧ mE (m.blk scope) elt e = true := by
  cases x <;> first | (simp [mE] at h; done) | skip
  rename_i e gs scope p
  match gs with
  | [] => simp [mE] at h
  | _ :: _ :: _ => simp [mE] at h
  | [⟨t, it, ifs, k⟩] =>
    match k with
    | .negSucc k => simp [mE] at h
    | .ofNat (k + 1) =>
      unfold mE at h
      split at h <;> first | cases h | skip
      all_goals (rename_i e; cases e)
    | .ofNat 0 =>
      replace h : mE m (.lc own tg ik its cond elt) (.ListComp e [⟨t, it, ifs, 0⟩] scope p) = true := h
      simp only [mE, Bool.and_eq_true, decide_eq_true_eq] at h
      exact ⟨e, t, it, ifs, scope, p, rfl, h.1.1.1.1.1.1, h.1.1.1.1.1.2, h.1.1.1.1.2, h.1.1.1.2, h.1.1.2, h.1.2, h.2⟩
theorem snd_lc {own : List Nat} {tg : TGt} {ik : IK} {its cond elt : CE} (hi : Snd G its) (hi2 : ∀ a r, its = .acons a r → Snd G a ∧ Snd G r) (hc : Snd G cond) (he : Snd G elt) : Snd G (.lc own tg ik its cond elt) := by
  have hE : SndE G (.lc own tg ik its cond elt) := by
    intro X m F W lv g x h
    obtain ⟨e, t, it, ifs, scope, p, rfl, h1, h2, h3, h4, h5, h6, h7⟩ := lc_shape h
    exact s_lc g h1 h2 h3 h4 (mIt_ok (st := false) hi hi2 X m F W lv g ik t it h5) (fun s H C cl fp => hc.i _ _ F _ lv (g.blk s H scope C cl fp) _ h6) (fun s H C cl fp => he.e _ _ F _ lv (g.blk s H scope C cl fp) _ h7) (fsi (mIt_noSet h5) _)
  refine Snd.val rfl hE (fun X m F W lv g x h => ?_) (by intro m xs; cases xs <;> simp [mA]) (p_no (by intro m o; cases o <;> simp [mP])) (by intro m xs; cases xs <;> simp [mIf]) (by intro b e; cases e)
  have q := hE X m F W lv g x h
  obtain ⟨e, t, it, ifs, scope, p, rfl, _⟩ := lc_shape h
  exact t_tru q fun _ => rfl
theorem snd_cell {a : CE} (ha : Snd G a) : Snd G (.cell a) := by
  exact Snd.valT rfl (fun X m F W lv g x h => s_cell (ha.e X m F W lv g x (by simpa [mE] using h))) (fun X m F W lv g x h => pt_nope) (by intro m xs; cases xs <;> simp [mA]) (by intro m o; cases o <;> simp [mP]) (by intro m xs; cases xs <;> simp [mIf]) (by intro b e; cases e)
theorem snd_fzE {a : CE} (ha : Snd G a) : Snd G (.fzE a) := by
  exact Snd.valT rfl (fun X m F W lv g x h => s_fzE (ha.e X m F W lv g x (by simpa [mE] using h))) (fun X m F W lv g x h => pt_nope) (by intro m xs; cases xs <;> simp [mA]) (by intro m o; cases o <;> simp [mP]) (by intro m xs; cases xs <;> simp [mIf]) (by intro b e; cases e)
theorem snd_none : Snd G .none where
  e := fun X m F W lv g x q => by simp [mE] at q
  t := fun X m F W lv g x q => by simp [mE] at q
  a := fun X m F W lv g xs h => by cases xs <;> simp [mA] at h
  p := fun X m F W lv g o h => by
    cases o with
    | none => exact p_none
    | some _ => simp [mP] at h
  n := fun X m F W lv g x xs pos h => by simp [mA] at h
  i := fun X m F W lv g xs h => by
    cases xs with
    | nil => exact pts_of pts_nil fun σ H Q ⟨μ, oa, ds, M, q⟩ => q.2 true μ H (EvE.refl q.1) q.1 rfl
    | cons _ _ => simp [mIf] at h
  h1 := fun b e => by cases e
theorem snd_anil : Snd G .anil where
  e := fun X m F W lv g x q => by simp [mE] at q
  t := fun X m F W lv g x q => by simp [mE] at q
  a := fun X m F W lv g xs h => by
    cases xs with
    | nil => exact a_nil
    | cons _ _ => simp [mA] at h
  p := p_no (by intro m o; cases o <;> simp [mP])
  n := fun X m F W lv g x xs pos h => by simp [mA] at h
  i := fun X m F W lv g xs h => by cases xs <;> simp [mIf] at h
  h1 := fun b e => by cases e
theorem den_nil {m : MC} {c : CE} {x : Expr} {xs : List Expr} (h : mA m c (x :: xs) = true) : (den G c).nil = false := by
  cases c <;> first | rfl | (simp [mA] at h)
theorem snd_acons {e r : CE} (he : Snd G e) (hr : Snd G r) : Snd G (.acons e r) where
  e := fun X m F W lv g x q => by simp [mE] at q
  t := fun X m F W lv g x q => by simp [mE] at q
  a := fun X m F W lv g xs h => by
    have ns := mA_st m _ _ h
    cases xs with
    | nil => simp [mA] at h
    | cons x xs =>
      simp only [mA, Bool.and_eq_true] at h
      exact a_cons (he.e X m F W lv g _ h.1) (hr.a X m F W lv g _ h.2) (noSt_cons ns)
  p := p_no (by intro m o; cases o <;> simp [mP])
  n := fun X m F W lv g x xs pos h => by
    simp only [mA, Bool.and_eq_true] at h
    have e1 := he.e X m F W lv g _ h.1
    have t1 := he.t X m F W lv g _ h.1
    cases xs with
    | nil =>
      have := mA_ne h.2
      subst this
      exact ⟨pe_one e1, pe_one e1, pw_and1 t1, pw_or1 t1⟩
    | cons y ys =>
      obtain ⟨q1, q2, q3, q4⟩ := hr.n X m F W lv g y ys pos h.2
      have hn : (den G r).nil = false := den_nil h.2
      have d1 : (den G (.acons e r)).ne = kAnd (den G e).e (den G r).ne := by
        show (if (den G r).nil = true then _ else _) = _
        rw [hn]; rfl
      have d2 : (den G (.acons e r)).oe = kOr (den G e).e (den G r).oe := by
        show (if (den G r).nil = true then _ else _) = _
        rw [hn]; rfl
      have d3 : (den G (.acons e r)).nt = kAndT (den G e).t (den G r).nt := by
        show (if (den G r).nil = true then _ else _) = _
        rw [hn]; rfl
      have d4 : (den G (.acons e r)).ot = kOrT (den G e).t (den G r).ot := by
        show (if (den G r).nil = true then _ else _) = _
        rw [hn]; rfl
      rw [d1, d2, d3, d4]
      exact ⟨s_and e1 q1, s_or e1 q2, t_and t1 q3, t_or t1 q4⟩
  i := fun X m F W lv g xs h => by
    cases r <;> first | (cases xs <;> simp [mIf] at h; done) | skip
    match xs with
    | [] => simp [mIf] at h
    | _ :: _ :: _ => simp [mIf] at h
    | [x] => exact pts_one (he.t X m F W lv g _ (by simpa [mIf] using h))
  h1 := fun b q => by cases q; exact he.e
theorem gens2_eq {gs : List Comprehension} {t it tt itt : Expr} {ifs : List Expr} (h : gens2 gs = some (t, it, tt, itt, ifs)) : gs = [⟨t, it, [], 0⟩, ⟨tt, itt, ifs, 0⟩] := by
  unfold gens2 at h
  split at h
  · split at h
    · rename_i hk
      obtain ⟨rfl, rfl⟩ := hk
      cases h; rfl
    · cases h
  · cases h
theorem itemsSh_eq {kx : Expr} {gs : List Comprehension} {kn y : Str} {t2 e : Expr} (h : itemsSh kx gs = some (kn, y, t2, e)) : ∃ kp py kt pt ap cp, kx = .Name kn kp ∧ gs = [⟨.Tuple [.Name y py, t2] kt pt, .Call (.Attribute e "items" ap) [] [] cp, [], 0⟩] ∧ (ap.endLine == cp.line) = true := by
  unfold itemsSh at h
  split at h
  · split at h
    · rename_i hk
      obtain ⟨rfl, rfl, hl⟩ := hk
      cases h
      exact ⟨_, _, _, _, _, _, rfl, rfl, hl⟩
    · cases h
  · cases h
theorem dc2_shape {m : MC} {own own1 : List Nat} {t1 t2 : TGt} {i1 i2 cond key val : CE} {x : Expr} (h : mE m (.dc2 own own1 t1 i1 t2 i2 cond key val) x = true) : ∃ kx vx t it tt itt ifs scope p, x = .DictComp kx vx [⟨t, it, [], 0⟩, ⟨tt, itt, ifs, 0⟩] scope p ∧
    blkC m.N m.sc scope (ownOk m.N scope own) = true ∧ (ownOk m.N scope own).map (·.2) = own ∧ mTg m.N (stB scope) t1 t = true ∧ TGt.sub t1 own = true ∧ mIt m .seq t i1 it = true ∧ mTg m.N (stB scope) t2 tt = true ∧ TGt.sub t2 own1 = true ∧ (∀ i ∈ own1, i ∈ own) ∧
    mIt (m.blk scope) .seq tt i2 itt = true ∧ mIf (m.blk scope) cond ifs = true ∧ mE (m.blk scope) key kx = true ∧ mE (m.blk scope) val vx = true := by
  cases x <;> first | (simp [mE] at h; done) | skip
  rename_i kx vx gs scope p
  rw [mE] at h
  cases hg : gens2 gs with
  | none => rw [hg] at h; cases h
  | some q =>
    obtain ⟨t, it, tt, itt, ifs⟩ := q
    rw [hg] at h
    have := gens2_eq hg
    subst this
    simp only [Bool.and_eq_true, decide_eq_true_eq, List.all_eq_true] at h
    obtain ⟨⟨⟨⟨⟨⟨⟨⟨⟨⟨⟨a1, a2⟩, a3⟩, a4⟩, a5⟩, a6⟩, a7⟩, a8⟩, a9⟩, a10⟩, a11⟩, a12⟩ := h
    exact ⟨kx, vx, t, it, tt, itt, ifs, scope, p, rfl, a1, a2, a3, a4, a5, a6, a7, a8, a9, a10, a11, a12⟩
theorem dc2_ok {m : MC} {X : Cx} {F : Fr0} {W : WX} {lv : Nat} {own own1 : List Nat} {t1 t2 : TGt} {i1 i2 cond key val : CE} {kx vx t it tt itt : Expr} {ifs : List Expr} {scope : Scope} (g : XG X m F W G lv)
    (s1 : Snd G i1) (s1' : ∀ a r, i1 = .acons a r → Snd G a ∧ Snd G r) (s2 : Snd G i2) (s2' : ∀ a r, i2 = .acons a r → Snd G a ∧ Snd G r) (sc : Snd G cond) (sk : Snd G key) (sv : Snd G val)
    (h : blkC m.N m.sc scope (ownOk m.N scope own) = true ∧ (ownOk m.N scope own).map (·.2) = own ∧ mTg m.N (stB scope) t1 t = true ∧ TGt.sub t1 own = true ∧ mIt m .seq t i1 it = true ∧ mTg m.N (stB scope) t2 tt = true ∧ TGt.sub t2 own1 = true ∧ (∀ i ∈ own1, i ∈ own) ∧
      mIt (m.blk scope) .seq tt i2 itt = true ∧ mIf (m.blk scope) cond ifs = true ∧ mE (m.blk scope) key kx = true ∧ mE (m.blk scope) val vx = true) :
    Dc2 X m F own own1 t1 t2 (kIterF .seq (den G i1).a) (kIterF .seq (den G i2).a) (den G cond).nt (den G key).e (den G val).e kx vx t it tt itt ifs scope W := by
  obtain ⟨a1, a2, a3, a4, a5, a6, a7, a8, a9, a10, a11, a12⟩ := h
  exact ⟨a1, a2, a3, a4, a6, a7, a8, mIt_ok (st := true) s1 s1' X m F W lv g .seq t it a5, fun s H C cl fp => mIt_ok (st := true) s2 s2' _ _ F _ lv (g.blk s H scope C cl fp) .seq tt itt a9, fun s H C cl fp => sc.i _ _ F _ lv (g.blk s H scope C cl fp) _ a10,
    fun s H C cl fp => sk.e _ _ F _ lv (g.blk s H scope C cl fp) _ a11, fun s H C cl fp => sv.e _ _ F _ lv (g.blk s H scope C cl fp) _ a12, fsi (mIt_noSet a5) _, fun env => fsi (mIt_noSet a9) env⟩
theorem snd_dc2 {own own1 : List Nat} {t1 t2 : TGt} {i1 i2 cond key val : CE} (s1 : Snd G i1) (s1' : ∀ a r, i1 = .acons a r → Snd G a ∧ Snd G r) (s2 : Snd G i2) (s2' : ∀ a r, i2 = .acons a r → Snd G a ∧ Snd G r) (sc : Snd G cond) (sk : Snd G key) (sv : Snd G val) :
    Snd G (.dc2 own own1 t1 i1 t2 i2 cond key val) := by
  have hE : SndE G (.dc2 own own1 t1 i1 t2 i2 cond key val) := by
    intro X m F W lv g x h
    obtain ⟨kx, vx, t, it, tt, itt, ifs, scope, p, rfl, hh⟩ := dc2_shape h
    exact s_dc2 g (dc2_ok g s1 s1' s2 s2' sc sk sv hh)
  refine Snd.val rfl hE (fun X m F W lv g x h => ?_) (by intro m xs; cases xs <;> simp [mA]) (p_no (by intro m o; cases o <;> simp [mP])) (by intro m xs; cases xs <;> simp [mIf]) (by intro b e; cases e)
  have q := hE X m F W lv g x h
  obtain ⟨kx, vx, t, it, tt, itt, ifs, scope, p, rfl, h⟩ := dc2_shape h
  exact t_tru q fun _ => rfl
theorem dcI_shape {m : MC} {own : List Nat} {i : Nat} {tv : TGt} {its val : CE} {x : Expr} (h : mE m (.dcI own i tv its val) x = true) : ∃ kn kp y py t2 kt pt e ap cp vx scope p, x = .DictComp (.Name kn kp) vx [⟨.Tuple [.Name y py, t2] kt pt, .Call (.Attribute e "items" ap) [] [] cp, [], 0⟩] scope p ∧ (ap.endLine == cp.line) = true ∧
    blkC m.N m.sc scope (ownOk m.N scope own) = true ∧ (ownOk m.N scope own).map (·.2) = own ∧ nmB (m.blk scope) i kn = true ∧ m.N[i]? = some y ∧ stB scope y = true ∧ mTg m.N (stB scope) tv t2 = true ∧ TGt.sub tv own = true ∧ i ∈ own ∧ i ∉ tv.names ∧ isCallA e = true ∧ mE m its e = true ∧ mE (m.blk scope) val vx = true := by
  cases x <;> first | (simp [mE] at h; done) | skip
  rename_i kx vx gs scope p
  rw [mE] at h
  cases hg : itemsSh kx gs with
  | none => rw [hg] at h; cases h
  | some q =>
    obtain ⟨kn, y, t2, e⟩ := q
    rw [hg] at h
    obtain ⟨kp, py, kt, pt, ap, cp, rfl, rfl, hl⟩ := itemsSh_eq hg
    simp only [Bool.and_eq_true, decide_eq_true_eq] at h
    obtain ⟨⟨⟨⟨⟨⟨⟨⟨⟨⟨⟨a1, a2⟩, a3⟩, a4⟩, a5⟩, a6⟩, a7⟩, a8⟩, a9⟩, a10⟩, a11⟩, a12⟩ := h
    exact ⟨kn, kp, y, py, t2, kt, pt, e, ap, cp, vx, scope, p, rfl, hl, a1, a2, a3, a4, a5, a6, a7, a8, a9, a10, a11, a12⟩
theorem callA_base {e : Expr} (h : isCallA e = true) (env : Env) (w : Sem Value) : attributeBase e "items" env w = w := by
  unfold isCallA at h
  split at h
  · rfl
  · cases h
theorem dcI_ok {m : MC} {X : Cx} {F : Fr0} {W : WX} {lv : Nat} {own : List Nat} {i : Nat} {tv : TGt} {its val : CE} {kn y : Str} {t2 e vx : Expr} {scope : Scope} (g : XG X m F W G lv) (si : Snd G its) (sv : Snd G val)
    (h : blkC m.N m.sc scope (ownOk m.N scope own) = true ∧ (ownOk m.N scope own).map (·.2) = own ∧ nmB (m.blk scope) i kn = true ∧ m.N[i]? = some y ∧ stB scope y = true ∧ mTg m.N (stB scope) tv t2 = true ∧ TGt.sub tv own = true ∧ i ∈ own ∧ i ∉ tv.names ∧ isCallA e = true ∧ mE m its e = true ∧ mE (m.blk scope) val vx = true) :
    DcI X m F own i tv (den G its).e (den G val).e kn y vx t2 e scope W := by
  obtain ⟨a1, a2, a3, a4, a5, a6, a7, a8, a9, a10, a11, a12⟩ := h
  exact ⟨a1, a2, a3, a4, a5, a6, a7, a8, a9, si.e X m F W lv g _ a11, fun s H C cl fp => sv.e _ _ F _ lv (g.blk s H scope C cl fp) _ a12, callA_base a10 _ _⟩
theorem snd_dcI {own : List Nat} {i : Nat} {tv : TGt} {its val : CE} (si : Snd G its) (sv : Snd G val) : Snd G (.dcI own i tv its val) := by
  have hE : SndE G (.dcI own i tv its val) := by
    intro X m F W lv g x h
    obtain ⟨kn, kp, y, py, t2, kt, pt, e, ap, cp, vx, scope, p, rfl, hl, hh⟩ := dcI_shape h
    exact s_dcI g (dcI_ok g si sv hh) hl
  refine Snd.val rfl hE (fun X m F W lv g x h => ?_) (by intro m xs; cases xs <;> simp [mA]) (p_no (by intro m o; cases o <;> simp [mP])) (by intro m xs; cases xs <;> simp [mIf]) (by intro b e; cases e)
  have q := hE X m F W lv g x h
  obtain ⟨kn, kp, y, py, t2, kt, pt, e, ap, cp, vx, scope, p, rfl, hl, h⟩ := dcI_shape h
  exact t_tru q fun _ => rfl
theorem dict_shape {m : MC} {x : Expr} (h : mE m .dct0 x = true ∨ mE m .dcti0 x = true) : ∃ p, x = .Dict [] [] p := by
  cases x <;> first | (simp [mE] at h; done) | skip
  rename_i ks vs p
  cases ks <;> cases vs <;> first | exact ⟨p, rfl⟩ | (simp [mE] at h)
theorem snd_dct0 : Snd G .dct0 := by
  refine Snd.val rfl (fun X m F W lv g x h => ?_) (fun X m F W lv g x h => ?_) (by intro m xs; cases xs <;> simp [mA]) (p_no (by intro m o; cases o <;> simp [mP])) (by intro m xs; cases xs <;> simp [mIf]) (by intro b e; cases e)
  · obtain ⟨p, rfl⟩ := dict_shape (.inl h); exact s_dct0
  · obtain ⟨p, rfl⟩ := dict_shape (.inl h); exact t_tru s_dct0 fun _ => rfl
theorem snd_dcti0 : Snd G .dcti0 := by
  refine Snd.val rfl (fun X m F W lv g x h => ?_) (fun X m F W lv g x h => ?_) (by intro m xs; cases xs <;> simp [mA]) (p_no (by intro m o; cases o <;> simp [mP])) (by intro m xs; cases xs <;> simp [mIf]) (by intro b e; cases e)
  · obtain ⟨p, rfl⟩ := dict_shape (.inr h); exact s_dcti0
  · obtain ⟨p, rfl⟩ := dict_shape (.inr h); exact t_tru s_dcti0 fun _ => rfl
/-- every core term is sound -/
theorem snd_all : ∀ c : CE, Snd G c
  | .var i => snd_var
  | .lit d => snd_lit
  | .glob s d => snd_glob
  | .bin op a b => snd_bin (snd_all a) (snd_all b)
  | .neg a => snd_neg (snd_all a)
  | .cmp op a b => snd_cmp (snd_all a) (snd_all b)
  | .chain o1 o2 a b c => snd_chain (snd_all a) (snd_all b) (snd_all c)
  | .and es => snd_and (snd_all es)
  | .or es => snd_or (snd_all es)
  | .not a => snd_not (snd_all a)
  | .ife c a b => snd_ife (snd_all c) (snd_all a) (snd_all b)
  | .tup es => snd_tup (snd_all es)
  | .lst es => snd_lst (snd_all es)
  | .idx a b => snd_idx (snd_all a) (snd_all b)
  | .slc a b c => snd_slc (snd_all a) (snd_all b) (snd_all c)
  | .call f es => snd_call (snd_all es)
  | .callK f es kw => snd_callK (snd_all es) (snd_all kw)
  | .callD f es d => snd_callD (snd_all es)
  | .bi b es => snd_bi (snd_all es)
  | .lz a b => snd_lz (snd_all a) (snd_all b)
  | .lc own tg ik its cond elt => snd_lc (snd_all its) (fun a r e => match its, e with | .acons _ _, rfl => ⟨snd_all _, snd_all _⟩) (snd_all cond) (snd_all elt)
  | .cell a => snd_cell (snd_all a)
  | .fzE a => snd_fzE (snd_all a)
  | .none => snd_none
  | .anil => snd_anil
  | .acons e r => snd_acons (snd_all e) (snd_all r)
  | .mt m o es => snd_no (S := Sm.of nope) (by intro m x; cases x <;> simp [mE]) (by intro m xs; cases xs <;> simp [mA]) (by intro m o; cases o <;> simp [mP]) (by intro m xs; cases xs <;> simp [mIf]) (by intro b e; cases e)
  | .dcI own i tv its val => snd_dcI (snd_all its) (snd_all val)
  | .dc2 own own1 t1 i1 t2 i2 cond key val => snd_dc2 (snd_all i1) (fun a r e => match i1, e with | .acons _ _, rfl => ⟨snd_all _, snd_all _⟩) (snd_all i2) (fun a r e => match i2, e with | .acons _ _, rfl => ⟨snd_all _, snd_all _⟩) (snd_all cond) (snd_all key) (snd_all val)
  | .dct0 => snd_dct0
  | .dcti0 => snd_dcti0
  | .dct1 _ _ => snd_no (S := Sm.of nope) (by intro m x; cases x <;> simp [mE]) (by intro m xs; cases xs <;> simp [mA]) (by intro m o; cases o <;> simp [mP]) (by intro m xs; cases xs <;> simp [mIf]) (by intro b e; cases e)
  | .fstr _ => snd_no (S := Sm.of nope) (by intro m x; cases x <;> simp [mE]) (by intro m xs; cases xs <;> simp [mA]) (by intro m o; cases o <;> simp [mP]) (by intro m xs; cases xs <;> simp [mIf]) (by intro b e; cases e)
end
end PL
end
section
set_option linter.all false
set_option maxRecDepth 100000
set_option maxHeartbeats 4000000
set_option autoImplicit false
namespace PL
open PySem PySem.Spec PyProof.Rows L2
/-- what is wanted behind a statement that began at p -/
def oK (F : Fr0) (W : WX) (En : Ends) (p : Pl) : Out → Prop
  | .next ds M => ∀ μ oa σ H, Rl F μ oa ds M σ H → Evo p (F.pl μ oa H) → En.nx σ H
  | .brk ds M => ∀ μ oa σ H, Rl F μ oa ds M σ H → Evo p (F.pl μ oa H) → En.bk σ H
  | .cont ds M => ∀ μ oa σ H, Rl F μ oa ds M σ H → Evo p (F.pl μ oa H) → En.ct σ H
  | .ret v M => ∀ μ oa ds σ H x, Rl F μ oa ds M σ H → RVk (F.pl μ oa H) F.H0 M v x → En.rt x H
  | .exc e ds M => ∀ μ oa σ H c od, Rl F μ oa ds M σ H → ExV F e c od H → W c od σ H
  | .stuck => False
def rS (F : Fr0) (W : WX) (f : List Sl → MS → Out) : TS := fun En σ H => ∃ μ oa ds M, Rl F μ oa ds M σ H ∧ oK F W En (F.pl μ oa H) (f ds M)
section
variable {F : Fr0} {W : WX} {En : Ends} {μ μ' : List Addr} {oa oa' : Nat → Option Addr} {ds ds' : List Sl} {M M' : MS} {σ σ' : L2.St} {H H' Hs : Hp} {p q : Pl}
theorem oK.from {o : Out} (h : oK F W En p o) (e : Evo p q) : oK F W En q o := by
  cases o with
  | next ds M => exact fun μ oa σ H r z => h μ oa σ H r (e.trans z)
  | brk ds M => exact fun μ oa σ H r z => h μ oa σ H r (e.trans z)
  | cont ds M => exact fun μ oa σ H r z => h μ oa σ H r (e.trans z)
  | ret v M => exact h
  | exc e ds M => exact h
  | stuck => exact h
theorem oK.ends {En' : Ends} {o : Out} (h : oK F W En p o) (h1 : ∀ σ H, En.nx σ H → En'.nx σ H) (h2 : ∀ x H, En.rt x H → En'.rt x H) (h3 : ∀ σ H, En.bk σ H → En'.bk σ H) (h4 : ∀ σ H, En.ct σ H → En'.ct σ H) : oK F W En' p o := by
  cases o with
  | next ds M => exact fun μ oa σ H r z => h1 _ _ (h μ oa σ H r z)
  | brk ds M => exact fun μ oa σ H r z => h3 _ _ (h μ oa σ H r z)
  | cont ds M => exact fun μ oa σ H r z => h4 _ _ (h μ oa σ H r z)
  | ret v M => exact fun μ oa ds σ H x r z => h2 _ _ (h μ oa ds σ H x r z)
  | exc e ds M => exact h
  | stuck => exact h
/-- a value first -/
theorem then_K {α β : Type} {Rel : RelT α β} {f : List Sl → MS → R α} {g : α → MS → Out} (r : Rl F μ oa ds M σ H) (h : oK F W En (F.pl μ oa H) ((f ds M).then ds g)) :
    rK F W Rel f μ oa ds M σ H fun x H1 => ∃ v μ1 M1, EvE μ H μ1 H1 ∧ Rl F μ1 oa ds M1 σ H1 ∧ Rel (F.pl μ1 oa H1) H M1 v x ∧ oK F W En (F.pl μ oa H) (g v M1) := by
  refine ⟨r, ?_⟩
  cases e : f ds M with
  | stuck => rw [e] at h; exact h
  | exc x M' => rw [e] at h; exact fun μ' H' c od ev r' z => h μ' oa σ H' c od r' z
  | ok v M1 =>
    rw [e] at h
    exact fun x μ1 H1 ev r1 rv => ⟨v, μ1, M1, ev, r1, rv, h⟩
theorem Rl.H0none (r : Rl F μ oa ds M σ H) {a : Addr} (h : H a = none) : F.H0 a = none := by
  cases q : F.H0 a with
  | none => rfl
  | some o =>
    obtain ⟨t, e, f⟩ := r.pre
    by_cases hm : a ∈ F.μ0
    · obtain ⟨o', z⟩ := r.dom a (.inr (.inl (by rw [e]; exact List.mem_append_left _ hm)))
      rw [h] at z; cases z
    · have := r.keep a o q hm
      rw [h] at this; cases this
/-- names forgotten -/
theorem Rl.wipeD (r : Rl F μ oa ds M σ H) (vs : List Nat) : Rl F μ oa (wipeD vs ds) M σ H := by
  refine ⟨by rw [wipeD_length]; exact r.len, fun j e z => ?_, fun j e z => ?_, r.inj, r.ofr, r.mr, r.dom, r.keep, r.pre, r.fin⟩
  · rw [wipeD_get] at z
    split at z
    · cases z
    · exact r.fz j e z
  · rw [wipeD_get] at z
    split at z
    · cases z
    · exact r.ow j e z
theorem set_wipe (ds : List Sl) (i : Nat) : ds.set i .no = PL.wipeD [i] ds := rfl
/-- i's place given up -/
def oaN (oa : Nat → Option Addr) (i : Nat) : Nat → Option Addr := fun j => if j = i then none else oa j
theorem NN_oaN {i : Nat} {a : Addr} (h : NN F μ (oaN oa i) a) : NN F μ oa a := by
  rcases h with h | h | ⟨j, h⟩
  · exact .inl h
  · exact .inr (.inl h)
  · refine .inr (.inr ⟨j, ?_⟩)
    unfold oaN at h
    split at h
    · cases h
    · exact h
theorem evo_less {oa oa' : Nat → Option Addr} (h : ∀ a, NN F μ oa' a → NN F μ oa a) : Evo (F.pl μ oa H) (F.pl μ oa' H) := ⟨rfl, fun b o e n => ⟨e, fun n' => n (h b n')⟩, fun _ _ h => h⟩
theorem Rl.give (r : Rl F μ oa ds M σ H) (i : Nat) (hi : ∀ d, ds[i]? ≠ some (.ow d)) : Rl F μ (oaN oa i) ds M σ H := by
  have e : Evo (F.pl μ oa H) (F.pl μ (oaN oa i) H) := evo_less fun a => NN_oaN
  have old : ∀ j a, oaN oa i j = some a → oa j = some a := fun j a h => by
    unfold oaN at h
    split at h
    · cases h
    · exact h
  refine ⟨r.len, fun j d z => ?_, fun j d z => ?_, fun j k a h1 h2 => r.inj j k a (old _ _ h1) (old _ _ h2), fun j a h => r.ofr j a (old _ _ h), ⟨r.mr.len, r.mr.nd, fun b hb => .inr (.inl hb), fun n b xs h1 h2 => (r.mr.cell n b xs h1 h2).mono e rfl⟩, fun b hb => r.dom b (NN_oaN hb), r.keep, r.pre, ?_⟩
  · obtain ⟨v, h1, h2⟩ := r.fz j d z
    exact ⟨v, h1, h2.mono e⟩
  · obtain ⟨a, h1, h2, h3⟩ := r.ow j d z
    refine ⟨a, ?_, h2, h3.mono e rfl⟩
    unfold oaN
    rw [if_neg (fun q => hi d (by rw [← q]; exact z))]
    exact h1
  · obtain ⟨b, hb⟩ := r.fin
    refine ⟨b, fun j hj => ?_⟩
    unfold oaN
    split
    · rfl
    · exact hb j hj
/-- a name's own thing becomes data -/
theorem Rl.freeze {i : Nat} {d : D} (r : Rl F μ oa ds M σ H) (h : ds[i]? = some (.ow d)) : Rl F μ (oaN oa i) (ds.set i (.fz d)) M σ H ∧ Evo (F.pl μ oa H) (F.pl μ (oaN oa i) H) := by
  have e : Evo (F.pl μ oa H) (F.pl μ (oaN oa i) H) := evo_less fun a => NN_oaN
  have hl : i < ds.length := (List.getElem?_eq_some_iff.mp h).1
  have r1 : Rl F μ (oaN oa i) (ds.set i .no) M σ H := (r.wipeD [i]).give i fun d' z => by
    have z : (ds.set i .no)[i]? = some (.ow d') := z
    rw [List.getElem?_set_self hl] at z; cases z
  obtain ⟨a, h1, h2, h3⟩ := r.ow i d h
  obtain ⟨f1, f2, f3⟩ := r.ofr i a h1
  have hn : ¬ NN F μ (oaN oa i) a := by
    rintro (n | n | ⟨j, n⟩)
    · exact f3 n
    · exact f2 n
    · unfold oaN at n
      split at n
      · cases n
      · rename_i hj
        exact hj (r.inj j i a n h1)
  refine ⟨⟨by rw [List.length_set]; exact r.len, fun j d' z => ?_, fun j d' z => ?_, r1.inj, r1.ofr, r1.mr, r1.dom, r1.keep, r1.pre, r1.fin⟩, e⟩
  · rw [List.getElem?_set] at z
    split at z
    · rename_i hij
      subst hij
      try rw [if_pos hl] at z
      cases z
      exact ⟨.ref a, h2, Own.rep (h3.mono e rfl) hn⟩
    · rename_i hij
      exact r1.fz j d' (by rw [List.getElem?_set_ne hij]; exact z)
  · rw [List.getElem?_set] at z
    split at z
    · rename_i hij
      subst hij
      try rw [if_pos hl] at z
      cases z
    · rename_i hij
      exact r1.ow j d' (by rw [List.getElem?_set_ne hij]; exact z)
/-- a new thing becomes a name's own -/
theorem Rl.setOw {i : Nat} {d : D} {x : V} (r : Rl F μ oa ds M σ H) (ev : EvE μ H μ' H') (r1 : Rl F μ' oa ds M' σ H') (h : RVk (F.pl μ' oa H') H M' (d, .fr) x) :
    ∃ a, x = .ref a ∧ Rl F μ' (oaP oa i a) (ds.set i (.ow d)) M' (σ.set i (some x)) H' ∧ Evo (F.pl μ oa H) (F.pl μ' (oaP oa i a) H') := by
  obtain ⟨a, rfl, h0, hn, ho, hm⟩ := h
  have hN : ∀ b, NN F μ' (oaP oa i a) b → NN F μ' oa b ∨ b = a := fun b hb => by
    rcases hb with hb | hb | ⟨j, hb⟩
    · exact .inl (.inl hb)
    · exact .inl (.inr (.inl hb))
    · unfold oaP at hb
      split at hb
      · cases hb; exact .inr rfl
      · exact .inl (.inr (.inr ⟨j, hb⟩))
  have hN0 : ∀ b, NN F μ' oa b → ∃ o, H' b = some o := r1.dom
  have e : Evo (F.pl μ oa H) (F.pl μ' (oaP oa i a) H') := by
    have e1 := ev.evo (F := F) (oa := oa)
    refine ⟨rfl, fun b o q n => ⟨(e1.keep b o q n).1, fun n' => ?_⟩, e1.pre⟩
    rcases hN b n' with n' | n'
    · exact (e1.keep b o q n).2 n'
    · rw [n'] at q
      have q : H a = some o := q
      rw [h0] at q; cases q
  have eb : Evo ((F.pl μ' oa H').but a) (F.pl μ' (oaP oa i a) H') := ⟨rfl, fun b o q n => ⟨q, fun n' => n (hN b n')⟩, fun _ _ h => h⟩
  obtain ⟨oo, hoo⟩ := ho.some
  have hoo : H' a = some oo := hoo
  have anew : ∀ j, oa j ≠ some a := fun j hj => hn (.inr (.inr ⟨j, hj⟩))
  refine ⟨a, rfl, ⟨by rw [List.length_set, List.length_set]; exact r.len, fun j d' z => ?_, fun j d' z => ?_, fun j k b h1 h2 => ?_, fun j b h1 => ?_, ⟨r1.mr.len, r1.mr.nd, fun b hb => .inr (.inl hb), fun n b xs h1 h2 => (hm.cell n b xs h1 h2).mono eb rfl⟩, fun b hb => ?_, r1.keep, r1.pre, ?_⟩, e⟩
  · rw [List.getElem?_set] at z
    split at z
    · split at z <;> cases z
    · rename_i hij
      obtain ⟨v, h1, h2⟩ := r.fz j d' z
      exact ⟨v, by rw [List.getElem?_set_ne hij]; exact h1, h2.mono e⟩
  · rw [List.getElem?_set] at z
    split at z
    · rename_i hij
      subst hij
      split at z
      · rename_i hl
        cases z
        exact ⟨a, by unfold oaP; rw [if_pos rfl], by rw [List.getElem?_set_self (by rw [r.len]; exact hl)], ho.mono eb rfl⟩
      · cases z
    · rename_i hij
      obtain ⟨b, h1, h2, h3⟩ := r.ow j d' z
      have hb : b ∉ μ := (r.ofr j b h1).2.1
      obtain ⟨o, q⟩ := h3.some
      have q : H b = some o := q
      refine ⟨b, by unfold oaP; rw [if_neg (Ne.symm hij)]; exact h1, by rw [List.getElem?_set_ne hij]; exact h2, h3.mono e ((ev.keep b o q hb).trans q.symm)⟩
  · unfold oaP at h1 h2
    split at h1 <;> split at h2
    · rename_i e1 e2; rw [e1, e2]
    · cases h1; exact absurd h2 (anew k)
    · cases h2; exact absurd h1 (anew j)
    · exact r.inj j k b h1 h2
  · unfold oaP at h1
    split at h1
    · cases h1
      exact ⟨r.H0none h0, fun z => hn (.inr (.inl z)), fun z => hn (.inl z)⟩
    · exact r1.ofr j b h1
  · rcases hN b hb with hb | hb
    · exact r1.dom b hb
    · rw [hb]; exact ⟨oo, hoo⟩
  · obtain ⟨b, hb⟩ := r.fin
    refine ⟨max b (i + 1), fun j hj => ?_⟩
    unfold oaP
    rw [if_neg (by omega)]
    exact hb j (by omega)
/-- what is forbidden to data is written -/
theorem Rl.wr {a : Addr} {o : HO} (r : Rl F μ oa ds M σ H) (hN : NN F μ oa a) (hl : ds'.length = ds.length) (h1 : ∀ (i : Nat) (d : D), ds'[i]? = some (Sl.fz d) → ds[i]? = some (Sl.fz d))
    (h2 : ∀ (i : Nat) (d : D), ds'[i]? = some (Sl.ow d) → ∃ b, oa i = some b ∧ σ[i]? = some (some (V.ref b)) ∧ Own (F.pl μ oa (upd H a o)) d b) (mr : MR (F.pl μ oa (upd H a o)) M') (h0 : F.H0 a = none ∨ a ∈ F.μ0) : Rl F μ oa ds' M' σ (upd H a o) := by
  have e : Evo (F.pl μ oa H) (F.pl μ oa (upd H a o)) := evo_wr (p := F.pl μ oa H) hN
  refine ⟨by rw [hl]; exact r.len, fun i d z => ?_, h2, r.inj, r.ofr, mr, fun b hb => ?_, fun b u q hn => ?_, r.pre, r.fin⟩
  · obtain ⟨v, g1, g2⟩ := r.fz i d (h1 i d z)
    exact ⟨v, g1, g2.mono e⟩
  · by_cases z : b = a
    · rw [z]; exact ⟨o, upd_same⟩
    · rw [upd_ne z]; exact r.dom b hb
  · have : b ≠ a := fun z => by
      rw [z] at q hn
      rcases h0 with h0 | h0
      · rw [h0] at q; cases q
      · exact hn h0
    rw [upd_ne this]
    exact r.keep b u q hn
/-- a name's own thing is written -/
theorem Rl.wrOw {i : Nat} {a : Addr} {d d' : D} {o : HO} (r : Rl F μ oa ds M σ H) (hi : ds[i]? = some (.ow d)) (ha : oa i = some a) (hs : σ[i]? = some (some (V.ref a))) (hw : Own (F.pl μ oa (upd H a o)) d' a) :
    Rl F μ oa (ds.set i (.ow d')) M σ (upd H a o) ∧ Evo (F.pl μ oa H) (F.pl μ oa (upd H a o)) := by
  have hN : NN F μ oa a := .inr (.inr ⟨i, ha⟩)
  have e : Evo (F.pl μ oa H) (F.pl μ oa (upd H a o)) := evo_wr (p := F.pl μ oa H) hN
  refine ⟨r.wr hN (List.length_set ..) (fun j dj z => ?_) (fun j dj z => ?_) ⟨r.mr.len, r.mr.nd, r.mr.inN, fun n b xs h1 h2 => ?_⟩ (.inl (r.ofr i a ha).1), e⟩
  · rw [List.getElem?_set] at z
    split at z
    · split at z <;> cases z
    · exact z
  · rw [List.getElem?_set] at z
    split at z
    · rename_i hij
      subst hij
      split at z
      · cases z
        exact ⟨a, ha, hs, hw⟩
      · cases z
    · rename_i hij
      obtain ⟨b, g1, g2, g3⟩ := r.ow j dj z
      have : b ≠ a := fun q => by rw [q] at g1; exact hij (r.inj i j a ha g1)
      exact ⟨b, g1, g2, g3.mono e (upd_ne this)⟩
  · have : b ≠ a := fun q => (r.ofr i a ha).2.1 (by rw [← q]; exact List.mem_of_getElem? h1)
    exact (r.mr.cell n b xs h1 h2).mono e (upd_ne this)
/-- a shared list is written -/
theorem Rl.wrMs {n : Nat} {a : Addr} {xs : List D} {vs : List V} (r : Rl F μ oa ds M σ H) (ha : μ[n]? = some a) (hx : RepL (F.pl μ oa H) xs vs) :
    Rl F μ oa ds (M.set n xs) σ (upd H a (.lst vs)) ∧ Evo (F.pl μ oa H) (F.pl μ oa (upd H a (.lst vs))) := by
  have hm : a ∈ μ := List.mem_of_getElem? ha
  have hN : NN F μ oa a := .inr (.inl hm)
  have e : Evo (F.pl μ oa H) (F.pl μ oa (upd H a (.lst vs))) := evo_wr (p := F.pl μ oa H) hN
  refine ⟨r.wr hN rfl (fun j dj z => z) (fun j dj z => ?_) ⟨by rw [List.length_set]; exact r.mr.len, r.mr.nd, r.mr.inN, fun k b ys h1 h2 => ?_⟩ ?_, e⟩
  · obtain ⟨b, g1, g2, g3⟩ := r.ow j dj z
    have : b ≠ a := fun q => (r.ofr j b g1).2.1 (by rw [q]; exact hm)
    exact ⟨b, g1, g2, g3.mono e (upd_ne this)⟩
  · rw [List.getElem?_set] at h2
    split at h2
    · rename_i hk
      subst hk
      split at h2
      · cases h2
        have h1 : μ[n]? = some b := h1
        rw [ha] at h1
        cases h1
        exact ⟨vs, upd_same, hx.mono e⟩
      · cases h2
    · rename_i hk
      have : b ≠ a := fun q => by
        rw [q] at h1
        have h1 : μ[k]? = some a := h1
        exact hk ((List.getElem?_inj (List.getElem?_eq_some_iff.mp ha).1 r.mr.nd).mp (ha.trans h1.symm))
      exact (r.mr.cell k b ys h1 h2).mono e (upd_ne this)
  · obtain ⟨t, e1, f1⟩ := r.pre
    rw [e1] at hm
    rcases List.mem_append.mp hm with z | z
    · exact .inr z
    · exact .inl (f1 a z)
end
end PL
end
section
set_option linter.all false
set_option maxRecDepth 100000
set_option maxHeartbeats 4000000
set_option autoImplicit false
namespace PL
open PySem PySem.Spec PyProof.Rows L2
structure XS (X : Cx) (m : MC) (F : Fr0) (W : WX) (G : Nat → Fn) (lv : Nat) : Prop extends XG X m F W G lv where
  kind : X.env.scope.kind = .function
  own : PassesOwn (model X.prog X.w) X.A X.env X.xe
  st : StOk X (stB m.sc)
theorem PS.mono {X : Cx} {e : Stmt} {t t' : TS} (h : PS X e t) (i : ∀ D σ H, t' D σ H → t D σ H) : PS X e t' := ⟨fun pins s σ H D I q => h.run pins s σ H D I (i D σ H q)⟩
theorem PSs.mono {X : Cx} {e : List Stmt} {t t' : TS} (h : PSs X e t) (i : ∀ D σ H, t' D σ H → t D σ H) : PSs X e t' := ⟨fun pins s σ H D I q => h.run pins s σ H D I (i D σ H q)⟩
theorem sw_no {x : Expr} (h : isCompB x = false) (t : Option Expr) (l : Nat) (env : Env) : swapsWith x t l env = pure false := by
  cases x <;> first | rfl | cases h
section
variable {X : Cx} {m : MC} {F : Fr0} {W : WX} {G : Nat → Fn} {lv : Nat}
theorem x_expr {x : Expr} {f : SVal} {pos : Pos} (he : PE X x (rE F W relV f)) (hc : isCompB x = false) : PS X (.Expr x pos) (rS F W fun ds M => (f ds M).then ds fun _ M1 => .next ds M1) :=
  PS.mono (ps_expr he (sw_no hc _ _ _)) fun D σ H ⟨μ, oa, ds, M, r, q⟩ => ⟨μ, oa, ds, M, (then_K (Rel := relV) r q).imp fun v H1 ⟨d, μ1, M1, ev, r1, rv, k⟩ => k μ1 oa σ H1 r1 ev.evo⟩
theorem x_ret {x : Expr} {f : SVal} {pos : Pos} (he : PE X x (rE F W relV f)) : PS X (.Return (some x) pos) (rS F W (xRet f)) := by
  refine PS.mono (ps_ret he) fun D σ H ⟨μ, oa, ds, M, r, q⟩ => ⟨μ, oa, ds, M, (then_K (Rel := relV) r q).imp fun v H1 ⟨d, μ1, M1, ev, r1, rv, k⟩ => ?_⟩
  split at k
  · exact k.elim
  · refine k μ1 oa ds σ H1 v r1 ?_
    obtain ⟨d, kd⟩ := d
    cases kd with
    | fz => exact rv
    | fr =>
      obtain ⟨a, e, h0, h1, h2⟩ := rv
      exact ⟨a, e, r.H0none h0, h1, h2⟩
    | bo => rename_i hb; exact absurd rfl hb
theorem x_retN {pos : Pos} : PS X (.Return none pos) (rS F W fun _ M => .ret (.non, .fz) M) :=
  PS.mono ps_retN fun D σ H ⟨μ, oa, ds, M, r, q⟩ => q μ oa ds σ H .non r rfl
theorem x_retV (g : XG X m F W G lv) {i : Nat} {x : Str} {p pos : Pos} (h : nmB m i x = true) : PS X (.Return (some (.Name x p)) pos) (rS F W (xRetV i)) := by
  unfold nmB at h
  simp only [Bool.and_eq_true, Bool.not_eq_true', decide_eq_true_eq] at h
  refine PS.mono (ps_ret (pe_var (i := i) (by rw [g.N]; exact h.1.1.1) (g.vis h.1.1.2) h.1.2 h.2)) fun D σ H ⟨μ, oa, ds, M, r, q⟩ => ?_
  unfold xRetV at q
  cases e : ds[i]? with
  | none => rw [e] at q; exact q.elim
  | some s =>
    rw [e] at q
    cases s with
    | no => exact q.elim
    | fz d =>
      obtain ⟨v, h1, h2⟩ := r.fz i d e
      exact ⟨v, h1, q μ oa ds σ H v r h2⟩
    | ow d =>
      obtain ⟨a, h1, h2, h3⟩ := r.ow i d e
      refine ⟨.ref a, h2, ?_⟩
      obtain ⟨f1, f2, f3⟩ := r.ofr i a h1
      have r1 : Rl F μ (oaN oa i) (wipeD [i] ds) M σ H := (r.wipeD [i]).give i fun d' z => by
        rw [wipeD_get] at z
        split at z
        · cases z
        · rename_i hn; exact hn ⟨by simp, (List.getElem?_eq_some_iff.mp e).1⟩
      have hn : ¬ NN F μ (oaN oa i) a := by
        rintro (n | n | ⟨j, n⟩)
        · exact f3 n
        · exact f2 n
        · unfold oaN at n
          split at n
          · cases n
          · rename_i hj
            exact hj (r.inj j i a n h1)
      have eb : Evo (F.pl μ oa H) ((F.pl μ (oaN oa i) H).but a) := ⟨rfl, fun b o q n => ⟨q, fun n' => n (n'.elim NN_oaN fun z => by rw [z]; exact .inr (.inr ⟨i, h1⟩))⟩, fun _ _ h => h⟩
      exact q μ (oaN oa i) _ σ H (.ref a) r1 ⟨a, rfl, f1, hn, h3.mono eb rfl, ⟨r.mr.len, r.mr.nd, fun b hb => .inl (.inr (.inl hb)), fun n b xs h1 h2 => (r.mr.cell n b xs h1 h2).mono eb rfl⟩⟩
theorem x_pass {pos : Pos} : PS X (.Pass pos) (rS F W fun ds M => .next ds M) := PS.mono ps_pass fun D σ H ⟨μ, oa, ds, M, r, q⟩ => q μ oa σ H r (Evo.refl _)
theorem x_brk {pos : Pos} : PS X (.Break pos) (rS F W fun ds M => .brk ds M) := PS.mono ps_break fun D σ H ⟨μ, oa, ds, M, r, q⟩ => q μ oa σ H r (Evo.refl _)
theorem x_cont {pos : Pos} : PS X (.Continue pos) (rS F W fun ds M => .cont ds M) := PS.mono ps_continue fun D σ H ⟨μ, oa, ds, M, r, q⟩ => q μ oa σ H r (Evo.refl _)
theorem x_doc {z : Str} {j : Nat} {p pos : Pos} : PS X (.Expr (.Constant (.str z) j p) pos) (rS F W fun ds M => .next ds M) := PS.mono ps_doc fun D σ H ⟨μ, oa, ds, M, r, q⟩ => q μ oa σ H r (Evo.refl _)
theorem x_nil : PSs X [] (rS F W fun ds M => .next ds M) := PSs.mono pss_nil fun D σ H ⟨μ, oa, ds, M, r, q⟩ => q μ oa σ H r (Evo.refl _)
theorem x_cons {st : Stmt} {ss : List Stmt} {f g : List Sl → MS → Out} (h1 : PS X st (rS F W f)) (h2 : PSs X ss (rS F W g)) : PSs X (st :: ss) (rS F W fun ds M => (f ds M).andThen g) := by
  refine PSs.mono (pss_cons h1 h2) fun D σ H ⟨μ, oa, ds, M, r, q⟩ => ⟨μ, oa, ds, M, r, ?_⟩
  replace q : oK F W D (F.pl μ oa H) ((f ds M).andThen g) := q
  cases e : f ds M with
  | next ds' M' =>
    rw [e] at q
    exact fun μ1 oa1 σ1 H1 r1 e1 => ⟨μ1, oa1, ds', M', r1, oK.from q e1⟩
  | brk _ _ => rw [e] at q; exact q
  | cont _ _ => rw [e] at q; exact q
  | ret _ _ => rw [e] at q; exact q
  | exc _ _ _ => rw [e] at q; exact q
  | stuck => rw [e] at q; exact q
theorem x_kill {i : Nat} {ss : List Stmt} {f : List Sl → MS → Out} (h : PSs X ss (rS F W f)) : PSs X ss (rS F W fun ds M => f (ds.set i .no) M) :=
  PSs.mono h fun D σ H ⟨μ, oa, ds, M, r, q⟩ => ⟨μ, oa, _, M, r.wipeD [i], q⟩
theorem x_frz {i : Nat} {ss : List Stmt} {f : List Sl → MS → Out} (h : PSs X ss (rS F W f)) : PSs X ss (rS F W fun ds M => match ds[i]? with
    | some (.ow d) => f (ds.set i (.fz d)) M
    | some (.fz _) => f ds M
    | _ => .stuck) := by
  refine PSs.mono h fun D σ H ⟨μ, oa, ds, M, r, q⟩ => ?_
  dsimp only at q
  cases e : ds[i]? with
  | none => rw [e] at q; exact q.elim
  | some s =>
    rw [e] at q
    cases s with
    | no => exact q.elim
    | fz d => exact ⟨μ, oa, ds, M, r, q⟩
    | ow d =>
      obtain ⟨r1, e1⟩ := r.freeze e
      exact ⟨μ, _, _, M, r1, oK.from q e1⟩
theorem put_ok {i : Nat} {v : RV} {x : V} {ds ds1 : List Sl} {M M1 : MS} {μ μ1 : List Addr} {oa : Nat → Option Addr} {σ : L2.St} {H H1 : Hp} (r : Rl F μ oa ds M σ H) (ev : EvE μ H μ1 H1) (r1 : Rl F μ1 oa ds M1 σ H1) (rv : RVk (F.pl μ1 oa H1) H M1 v x) (hp : putS ds i v = some ds1) : ∃ oa', Rl F μ1 oa' ds1 M1 (σ.set i (some x)) H1 ∧ Evo (F.pl μ oa H) (F.pl μ1 oa' H1) := by
  obtain ⟨d, kd⟩ := v
  cases kd with
  | fz =>
    cases hp
    exact ⟨oa, r1.setFz rv, ev.evo⟩
  | fr =>
    cases hp
    obtain ⟨a, _, h1, h2⟩ := r.setOw (i := i) ev r1 rv
    exact ⟨_, h1, h2⟩
  | bo => cases hp
theorem c_set {D : Ends} {i : Nat} {f : SVal} {σ : L2.St} {H : Hp} (h : rS F W (xSet i f) D σ H) : tAsg (rE F W relV f) (gName i) D σ H := by
  obtain ⟨μ, oa, ds, M, r, q⟩ := h
  refine ⟨μ, oa, ds, M, (then_K (Rel := relV) r q).imp fun x H1 ⟨v, μ1, M1, ev, r1, rv, k⟩ => ?_⟩
  cases e : putS ds i v with
  | none => rw [e] at k; exact k.elim
  | some ds1 =>
    rw [e] at k
    obtain ⟨oa', h1, h2⟩ := put_ok r ev r1 rv e
    exact k μ1 oa' _ H1 h1 h2
theorem x_set (g : XS X m F W G lv) {i : Nat} {x : Str} {px pos : Pos} {v : Expr} {f : SVal} (hi : m.N[i]? = some x) (hx : stB m.sc x = true) (he : PE X v (rE F W relV f)) (hs : swapsWith v (some (.Name x px)) pos.line X.env = pure false) : PS X (.Assign [.Name x px] v pos) (rS F W (xSet i f)) :=
  PS.mono (ps_set g.nd (by rw [g.N]; exact hi) (g.st.loc x hx) he hs (g.st.fn x hx)) fun D σ H h => c_set h
theorem sw_lc (g : XS X m F W G lv) {x : Str} {px pos : Pos} {v : Expr} (h : swB m.sc x px v = false) (hv : isCompB v = false ∨ (∃ e gs s p, v = .ListComp e gs s p) ∨ ∃ k e gs s p, v = .DictComp k e gs s p) : swapsWith v (some (.Name x px)) pos.line X.env = pure false := by
  have hb : X.env.blockKind = .function := by unfold Env.blockKind; rw [g.kind]; rfl
  have hk : X.env.kindOf x = m.sc.names.lookup x := by rw [← g.sc]; rfl
  have e1 : (m.sc.names.lookup x == some NameKind.local) = decide (m.sc.names.lookup x = some .local) := by
    by_cases q : m.sc.names.lookup x = some .local
    · rw [q]; rfl
    · rw [decide_eq_false q]
      exact beq_false_of_ne q
  rcases hv with hv | ⟨e, gs, s, p, rfl⟩ | ⟨k, e, gs, s, p, rfl⟩
  · exact sw_no hv _ _ _
  · unfold swB at h
    show (pure (X.env.blockKind == .function && X.env.kindOf x == some .local && px.line == p.line && !(s.names.any fun (n, k) => n == x && (k == .local || k == .cell))) : Sem Bool) = _
    congr 1
    rw [hb, hk, e1]
    exact h
  · unfold swB at h
    show (pure (X.env.blockKind == .function && X.env.kindOf x == some .local && px.line == p.line && !(s.names.any fun (n, k) => n == x && (k == .local || k == .cell))) : Sem Bool) = _
    congr 1
    rw [hb, hk, e1]
    exact h
theorem x_setLc (g : XS X m F W G lv) {i : Nat} {x : Str} {px pos sp : Pos} {own : List Nat} {tg : TGt} {kit : List Sl → MS → R (List D)} {c : List Sl → MS → R Bool} {f : SVal} {elt t it : Expr} {ifs : List Expr} {scope : Scope}
    (hi0 : m.N[i]? = some x) (hsw : swB m.sc x px (.ListComp elt [⟨t, it, ifs, 0⟩] scope pos) = true)
    (h1 : blkC m.N m.sc scope (ownOk m.N scope own) = true) (h2 : (ownOk m.N scope own).map (·.2) = own) (h3 : mTg m.N (stB scope) tg t = true) (h4 : TGt.sub tg own = true) (hi : PI X t it (rE F W (relI F false) kit))
    (ht : ∀ (s : Shared) (H : Hp) (C : Addr) (cl : List (Str × Addr)) (fp : List Addr), PTs (X.blk s H scope (compEnvC scope cl C X.env) fp) ifs (rE F (fun _ _ _ _ => False) relEq c))
    (he : ∀ (s : Shared) (H : Hp) (C : Addr) (cl : List (Str × Addr)) (fp : List Addr), PE (X.blk s H scope (compEnvC scope cl C X.env) fp) elt (rE F (fun _ _ _ _ => False) relV f))
    (hs : ∀ x, foldedSetIterable it X.env x = pure x) : PS X (.Assign [.Name x px] (.ListComp elt [⟨t, it, ifs, 0⟩] scope pos) sp) (rS F W (xSet i (kLc own tg kit c f))) := by
  have ok : BlkOk X.N X.env.scope scope (ownOk m.N scope own) := by rw [g.N, g.sc]; exact blkOk_by h1
  unfold swB at hsw
  simp only [Bool.and_eq_true, decide_eq_true_eq, Bool.not_eq_true'] at hsw
  obtain ⟨⟨hl, hln⟩, ha⟩ := hsw
  have hl' : X.env.scope.names.lookup x = some .local := by rw [g.sc]; exact hl
  have p := ps_setLc (spos := sp) g.calm g.nd (by rw [g.N]; exact hi0) hl' (sw_true g.kind hl' hln ha) hi ok (g := rG F tg) (fun s H C cl fp => have gb := g.toXG.blk s H scope C cl fp; s_tg (F := F) (N := m.N) (st := stB scope) gb.N gb.K gb.nd gb.calm (g.toXG.blkSt s H scope C cl fp) tg t h3) ht he hs
  rw [h2] at p
  refine PS.mono p fun D σ H h => ?_
  have q := c_set h
  exact c_lc h4 q
theorem fm_lt {α β : Type} {f : α → Option β} {a : α} : ∀ {l : List α}, a ∈ l → f a = none → (l.filterMap f).length < l.length
  | [], h, _ => by simp at h
  | b :: l, h, e => by
    rcases List.mem_cons.mp h with rfl | h
    · rw [List.filterMap_cons, e]
      exact Nat.lt_succ_of_le (List.length_filterMap_le _ _)
    · have := fm_lt h e
      rw [List.filterMap_cons]
      cases f b with
      | none => exact Nat.lt_succ_of_lt this
      | some c => exact Nat.succ_lt_succ this
theorem swaps_none (g : XS X m F W G lv) {t v : Expr} (h : unpTup m.sc t v = true) : swappedStores [t] v X.env = pure none := by
  unfold unpTup at h
  split at h
  · rename_i ts k p vs k2 p2
    have hk : ∀ x, X.env.kindOf x = m.sc.names.lookup x := fun x => by rw [← g.sc]; rfl
    unfold swappedStores
    dsimp only
    split
    · rfl
    · rename_i h1
      split
      · rfl
      · split
        · rfl
        · rename_i h3
          split
          · rfl
          · exfalso
            rename_i h4
            simp only [Bool.or_eq_true] at h
            rcases h with (h | h) | h
            · simp [h] at h1
            · obtain ⟨t, ht, hb⟩ := List.any_eq_true.mp h
              refine h3 ?_
              rw [Bool.or_eq_true]
              refine .inl ?_
              rw [bne_iff_ne]
              refine Nat.ne_of_lt (fm_lt ht ?_)
              cases t <;> first | rfl | skip
              rename_i x px
              have hb : (!(m.sc.names.lookup x == some NameKind.local)) = true := hb
              rw [Bool.not_eq_true'] at hb
              show (if (X.env.kindOf x == some NameKind.local && _) = true then some x else none) = none
              rw [hk, hb]; rfl
            · exact h4 h
  · cases h
theorem x_unp (g : XS X m F W G lv) {tg : TGt} {t v : Expr} {pos : Pos} {f : SVal} (ht : mTg m.N (stB m.sc) tg t = true) (hT : isTpT tg = true) (hu : (unpOk v || unpTup m.sc t v) = true) (he : PE X v (rE F W relV f)) : PS X (.Assign [t] v pos) (rS F W (xUnp tg f)) := by
  have pg := s_tg (F := F) g.N g.K g.nd g.calm g.st tg t ht
  obtain ⟨ts, rfl⟩ : ∃ ts, tg = .tp ts := by cases tg <;> first | exact ⟨_, rfl⟩ | cases hT
  obtain ⟨es, k, p, rfl⟩ : ∃ es k p, t = .Tuple es k p := by cases t <;> first | exact ⟨_, _, _, rfl⟩ | (simp [mTg] at ht)
  have sw : swapsWithSole [Expr.Tuple es k p] v pos.line X.env = pure false ∧ swappedStores [Expr.Tuple es k p] v X.env = pure none := by
    rcases (Bool.or_eq_true _ _).mp hu with hu | hu
    · exact ⟨(by cases v <;> first | rfl | cases hu), (by cases v <;> first | rfl | cases hu)⟩
    · exact ⟨(by cases v <;> first | rfl | (simp [unpTup] at hu)), swaps_none g hu⟩
  refine PS.mono (ps_asg he pg sw.1 sw.2 rfl) fun D σ H ⟨μ, oa, ds, M, r, q⟩ => ⟨μ, oa, ds, M, (then_K (Rel := relV) r q).imp fun x H1 ⟨v, μ1, M1, ev, r1, rv, k⟩ => ?_⟩
  cases e : bindT (.tp ts) v.1 ds with
  | none => rw [e] at k; exact k.elim
  | some ds1 =>
    rw [e] at k
    obtain ⟨d, kd⟩ := v
    cases d with
    | tup xs =>
      exact ⟨μ1, oa, ds, M1, .tup xs, ds1, r1, rv.r.tup, e, fun σ1 r2 _ => k μ1 oa σ1 H1 r2 ev.evo⟩
    | _ => cases e
theorem x_ife {c : Expr} {p q : List Stmt} {t : List Sl → MS → R Bool} {f g : List Sl → MS → Out} {pos : Pos} (hc : PT X c (rE F W relEq t)) (h1 : PSs X p (rS F W f)) (h2 : PSs X q (rS F W g)) :
    PS X (.If c p q pos) (rS F W fun ds M => (t ds M).then ds fun k M1 => if k then f ds M1 else g ds M1) := by
  refine PS.mono (ps_if hc h1 h2) fun D σ H ⟨μ, oa, ds, M, r, q⟩ => ⟨μ, oa, ds, M, (then_K (Rel := relEq) r q).imp fun b H1 ⟨v, μ1, M1, ev, r1, rv, k⟩ => ?_⟩
  have e : v = b := rv
  subst e
  cases v with
  | true => rw [if_pos rfl] at k ⊢; exact ⟨μ1, oa, ds, M1, r1, oK.from k ev.evo⟩
  | false => rw [if_neg Bool.false_ne_true] at k ⊢; exact ⟨μ1, oa, ds, M1, r1, oK.from k ev.evo⟩
theorem x_raise (g : XG X m F W G lv) {c : Nat} {y z : Str} {j : Nat} {p p2 p3 pos : Pos} (hy : (c, y) ∈ m.xs) (hg : glB m.sc y = true) : PS X (.Raise (some (.Call (.Name y p) [.Constant (.str z) j p2] [] p3)) none pos) (rS F W fun ds M => .exc (.own c) ds M) := by
  obtain ⟨g1, g2, g3⟩ := g.gl hg
  have x := g.xs _ hy
  exact PS.mono (ps_raise g.calm g.tk (pmk_own PySem.F.excBase_ValueError x.ei x.mg x.kp (raises_own x.sb x.ty) g1 g2)) fun D σ H ⟨μ, oa, ds, M, r, q⟩ => q μ oa σ H _ none r ⟨rfl, rfl⟩
theorem x_wh {c : Expr} {p : List Stmt} {t : List Sl → MS → R Bool} {f : List Sl → MS → Out} {n : Nat} {kl : List Nat} {pos : Pos} (ho : PassesOwn (model X.prog X.w) X.A X.env X.xe) (hc : PT X c (rE F W relEq t)) (h1 : PSs X p (rS F W f)) : PS X (.While c p [] pos) (rS F W (whL t f kl n)) := by
  refine PS.mono (ps_while ho hc h1) fun D σ H ⟨μ, oa, ds, M, r, q⟩ => ?_
  refine ⟨fun k σ' H' => ∃ μ' oa' ds' M', Rl F μ' oa' ds' M' σ' H' ∧ oK F W D (F.pl μ' oa' H') (whL t f kl k ds' M'), ⟨n, μ, oa, ds, M, r, q⟩, ?_⟩
  rintro k σ1 H1 ⟨μ1, oa1, ds1, M1, r1, q1⟩
  cases k with
  | zero => exact q1.elim
  | succ k =>
    refine ⟨μ1, oa1, ds1, M1, (then_K (Rel := relEq) r1 q1).imp fun b H2 ⟨v, μ2, M2, ev, r2, rv, w⟩ => ?_⟩
    have e : v = b := rv
    subst e
    cases v with
    | false => rw [if_neg Bool.false_ne_true] at w ⊢; exact w μ2 oa1 σ1 H2 r2 ev.evo
    | true =>
      rw [if_pos rfl] at w ⊢
      have w := oK.from w ev.evo
      refine ⟨fun σ' H' => ∃ μ' oa' ds' M', Rl F μ' oa' ds' M' σ' H' ∧ oK F W D (F.pl μ' oa' H') (whL t f kl k ds' M'), fun σ' H' h => ⟨k, Nat.lt_succ_self _, h⟩, μ2, oa1, ds1, M2, r2, ?_⟩
      cases e : f ds1 M2 with
      | next ds2 M3 => rw [e] at w; exact fun μ3 oa3 σ3 H3 r3 e3 => ⟨μ3, oa3, _, M3, r3.wipeD kl, oK.from w e3⟩
      | cont ds2 M3 => rw [e] at w; exact fun μ3 oa3 σ3 H3 r3 e3 => ⟨μ3, oa3, _, M3, r3.wipeD kl, oK.from w e3⟩
      | brk ds2 M3 => rw [e] at w; exact fun μ3 oa3 σ3 H3 r3 e3 => w μ3 oa3 σ3 H3 (r3.wipeD kl) e3
      | ret _ _ => rw [e] at w; exact w
      | exc _ _ _ => rw [e] at w; exact w
      | stuck => rw [e] at w; exact w
theorem x_for (g : XS X m F W G lv) {t it : Expr} {p : List Stmt} {tg : TGt} {kit : List Sl → MS → R (List D)} {f : List Sl → MS → Out} {kl : List Nat} {pos : Pos} (ht : mTg m.N (stB m.sc) tg t = true) (hi : PI X t it (rE F W (relI F true) kit)) (h1 : PSs X p (rS F W f))
    (hs : ∀ x, foldedSetIterable it X.env x = pure x) : PS X (.For t it p [] pos) (rS F W fun ds M => (kit ds M).then ds fun xs M1 => forL (bindT tg) f kl xs ds M1) := by
  have pg := s_tg (F := F) g.N g.K g.nd g.calm g.st tg t ht
  refine PS.mono (ps_for g.own g.calm hi pg h1 hs) fun D σ H ⟨μ, oa, ds, M, r, q⟩ => ⟨μ, oa, ds, M, (then_K (Rel := relI F true) r q).imp fun J H1 ⟨xs, μ1, M1, ev, r1, ⟨Gd, ad, wd, gd⟩, k⟩ => ?_⟩
  have noad : ∀ a, ¬ ad a := wd.sv rfl
  let Wv : Nat → Nat → L2.St → Hp → Prop := fun i n σ H => n = xs.length - i ∧ i ≤ xs.length ∧ ∃ μ oa ds M, Rl F μ oa ds M σ H ∧ Gd (F.pl μ oa H) ∧ oK F W D (F.pl μ oa H) (forL (bindT tg) f kl (xs.drop i) ds M)
  refine ⟨Wv, ⟨xs.length, by simp, Nat.zero_le _, μ1, oa, ds, M1, r1, gd, oK.from k ev.evo⟩, ?_⟩
  rintro i n σ2 H2 ⟨rfl, hi, μ2, oa2, ds2, M2, r2, gd2, k2⟩
  by_cases hlt : i < xs.length
  · refine .inr ⟨wd.go _ i gd2 hlt, fun σ' H' => Wv (i + 1) (xs.length - (i + 1)) σ' H', fun σ' H' h => ⟨_, by omega, h⟩, fun x H3 hy => ?_⟩
    obtain ⟨ev3, r3, rp3⟩ := wd.yld μ2 oa2 ds2 M2 σ2 H2 i xs[i] x H3 r2 gd2 (by simp [hlt]) hy
    have gd3 := wd.ev gd2 ev3
    rw [List.drop_eq_getElem_cons hlt] at k2
    simp only [forL] at k2
    cases hb : bindT tg xs[i] ds2 with
    | none => rw [hb] at k2; exact k2.elim
    | some ds3 =>
      rw [hb] at k2
      dsimp only at k2
      have k3 := oK.from k2 ev3.evo
      refine ⟨μ2, oa2, ds2, M2, xs[i], ds3, r3, rp3, hb, fun σ3 r4 _ => ⟨μ2, oa2, ds3, M2, r4, ?_⟩⟩
      have nx : ∀ {ds4 : List Sl} {M4 : MS}, oK F W D (F.pl μ2 oa2 H3) (forL (bindT tg) f kl (xs.drop (i + 1)) (killD kl ds4) M4) → ∀ μ5 oa5 σ5 H5, Rl F μ5 oa5 ds4 M4 σ5 H5 → Evo (F.pl μ2 oa2 H3) (F.pl μ5 oa5 H5) → Wv (i + 1) (xs.length - (i + 1)) σ5 H5 :=
        fun w μ5 oa5 σ5 H5 r5 e5 => ⟨rfl, hlt, μ5, oa5, _, _, r5.wipeD kl, wd.gen _ _ gd3 e5 (fun a ha => absurd ha (noad a)), oK.from w e5⟩
      cases e : f ds3 M2 with
      | next ds4 M4 => rw [e] at k3; exact nx k3
      | cont ds4 M4 => rw [e] at k3; exact nx k3
      | brk ds4 M4 => rw [e] at k3; exact fun μ5 oa5 σ5 H5 r5 e5 => k3 μ5 oa5 σ5 H5 (r5.wipeD kl) e5
      | ret _ _ => rw [e] at k3; exact k3
      | exc _ _ _ => rw [e] at k3; exact k3
      | stuck => rw [e] at k3; exact k3
  · have e : i = xs.length := by omega
    subst e
    rw [List.drop_length] at k2
    exact .inl ⟨wd.stop _ gd2, k2 μ2 oa2 σ2 H2 r2 (Evo.refl _)⟩
end
end PL
end
section
set_option linter.all false
set_option maxRecDepth 100000
set_option maxHeartbeats 4000000
set_option autoImplicit false
namespace PL
open PySem PySem.Spec PyProof.Rows L2
section
variable {X : Cx} {m : MC} {F : Fr0} {W : WX} {G : Nat → Fn} {lv : Nat}
theorem sw_trueD {k e : Expr} {gs : List Comprehension} {sc : Scope} {p py : Pos} {y : Str} {l : Nat} {env : Env} (hk : env.scope.kind = .function) (hy : env.scope.names.lookup y = some .local) (hl : (py.line == p.line) = true) (hn : (sc.names.any fun (n, k) => n == y && (k == .local || k == .cell)) = false) :
    swapsWith (.DictComp k e gs sc p) (some (.Name y py)) l env = pure true := by
  have h1 : env.blockKind = .function := by unfold Env.blockKind; rw [hk]; rfl
  have h2 : env.kindOf y = some .local := hy
  show (pure (env.blockKind == .function && env.kindOf y == some .local && py.line == p.line && !(sc.names.any fun (n, k) => n == y && (k == .local || k == .cell))) : Sem Bool) = _
  rw [h1, h2, hl, hn]; rfl
theorem x_setDc2 (g0 : XS X m F W G lv) {i : Nat} {x : Str} {px sp : Pos} {own own1 : List Nat} {t1 t2 : TGt} {it1 it2 : List Sl → MS → R (List D)} {c : List Sl → MS → R Bool} {f g : SVal} {kx vx t it tt itt : Expr} {ifs : List Expr} {scope : Scope} {pos : Pos} (d : Dc2 X m F own own1 t1 t2 it1 it2 c f g kx vx t it tt itt ifs scope W)
    (hi0 : m.N[i]? = some x) (hsw : swB m.sc x px (.DictComp kx vx [⟨t, it, [], 0⟩, ⟨tt, itt, ifs, 0⟩] scope pos) = true) :
    PS X (.Assign [.Name x px] (.DictComp kx vx [⟨t, it, [], 0⟩, ⟨tt, itt, ifs, 0⟩] scope pos) sp) (rS F W (xSet i (kDc2 own own1 t1 t2 it1 it2 c f g))) := by
  have ok : BlkOk X.N X.env.scope scope (ownOk m.N scope own) := by rw [g0.N, g0.sc]; exact blkOk_by d.h1
  unfold swB at hsw
  simp only [Bool.and_eq_true, decide_eq_true_eq, Bool.not_eq_true'] at hsw
  obtain ⟨⟨hl, hln⟩, ha⟩ := hsw
  have hl' : X.env.scope.names.lookup x = some .local := by rw [g0.sc]; exact hl
  have p := ps_setDcT (spos := sp) (pos := pos) (rest := [⟨tt, itt, ifs, 0⟩]) (g := rG F t1) (tt := tYes) (ta := fun D => tDeep (rE F W0 (relI F true) it2) (rG F t2) (rE F W0 relEq c) (tPut (rE F W0 relV f) (rE F W0 relV g) D) own1)
    g0.calm g0.nd d.hi ok (fun s H C cl fp => have gb := g0.toXG.blk s H scope C cl fp; s_tg (F := F) (N := m.N) (st := stB scope) gb.N gb.K gb.nd gb.calm (g0.toXG.blkSt s H scope C cl fp) t1 t d.h3)
    (fun s H C cl fp => pts_nil)
    (act := fun D env => deepThen (.DictComp kx vx [⟨t, it, [], 0⟩, ⟨tt, itt, ifs, 0⟩] scope pos) itt (.ref D) env)
    (fun s H C cl fp D => have gb := g0.toXG.blk s H scope C cl fp
      pact_deep rfl gb.calm (by rw [d.h2]; exact d.h7) (d.hi2 s H C cl fp) (s_tg (F := F) (N := m.N) (st := stB scope) gb.N gb.K gb.nd gb.calm (g0.toXG.blkSt s H scope C cl fp) t2 tt d.h5) (d.hc s H C cl fp)
        (pact_put rfl (by have := gb.hu; omega) (d.hk s H C cl fp) (d.hv s H C cl fp)) d.hs2)
    (fun z D env => turn_out kx vx t it tt itt [] ifs scope pos z D env) d.hs (by rw [g0.N]; exact hi0) hl' (sw_trueD g0.kind hl' hln ha)
  rw [d.h2] at p
  refine PS.mono p fun D σ H h => ?_
  have q := c_set h
  exact c_dc2 d.h4 d.h6 q
theorem x_setDcI (g0 : XS X m F W G lv) {j : Nat} {x : Str} {px sp : Pos} {own : List Nat} {i : Nat} {tv : TGt} {f g : SVal} {kn y : Str} {vx t2 e : Expr} {scope : Scope} (d : DcI X m F own i tv f g kn y vx t2 e scope W) {kt : Nat} {kp py pt ap cp pos : Pos} (hl : (ap.endLine == cp.line) = true)
    (hi0 : m.N[j]? = some x) (hsw : swB m.sc x px (.DictComp (.Name kn kp) vx [⟨.Tuple [.Name y py, t2] kt pt, .Call (.Attribute e "items" ap) [] [] cp, [], 0⟩] scope pos) = true) :
    PS X (.Assign [.Name x px] (.DictComp (.Name kn kp) vx [⟨.Tuple [.Name y py, t2] kt pt, .Call (.Attribute e "items" ap) [] [] cp, [], 0⟩] scope pos) sp) (rS F W (xSet j (kDcI own tv f g))) := by
  have ok : BlkOk X.N X.env.scope scope (ownOk m.N scope own) := by rw [g0.N, g0.sc]; exact blkOk_by d.h1
  unfold swB at hsw
  simp only [Bool.and_eq_true, decide_eq_true_eq, Bool.not_eq_true'] at hsw
  obtain ⟨⟨hlo, hln⟩, ha⟩ := hsw
  have hl' : X.env.scope.names.lookup x = some .local := by rw [g0.sc]; exact hlo
  have p := ps_setDcT (spos := sp) (pos := pos) (rest := []) (tg := .Tuple [.Name y py, t2] kt pt) (tt := tYes) (ta := fun D => tPut (tVar i) (rE F W0 relV g) D) g0.calm g0.nd (pi_itemsT d.he d.hb hl) ok (fun s H C cl fp => pg_item g0.toXG d s H C cl fp) (fun s H C cl fp => pts_nil)
    (act := fun D env => putThen (.Name kn kp) vx D env)
    (fun s H C cl fp D => have gb := g0.toXG.blk s H scope C cl fp
      pact_put rfl (by have := gb.hu; omega) (by
        have hk := d.hk
        unfold nmB at hk
        simp only [Bool.and_eq_true, decide_eq_true_eq, Bool.not_eq_true'] at hk
        exact pe_var (by rw [gb.N]; exact hk.1.1.1) (gb.vis hk.1.1.2) hk.1.2 hk.2) (d.hv s H C cl fp))
    (fun z D env => turn_one _ vx _ _ [] scope pos z D env) (fun _ => rfl) (by rw [g0.N]; exact hi0) hl' (sw_trueD g0.kind hl' hln ha)
  rw [d.h2] at p
  refine ⟨fun pins s σ H En I q => p.run pins s σ H En I ?_⟩
  have qq := c_set q
  refine c_dcI d.h5 d.h4 d.h6 ?_ qq
  rw [I.len, g0.N]
  exact (List.getElem?_eq_some_iff.mp d.hy).1
end
end PL
end
section
set_option linter.all false
set_option maxRecDepth 100000
set_option maxHeartbeats 4000000
set_option autoImplicit false
namespace PL
open PySem PySem.Spec PyProof.Rows L2
section
variable {X : Cx} {m : MC} {F : Fr0} {W : WX} {G : Nat → Fn} {lv : Nat}
theorem pe_nm (g : XG X m F W G lv) {i : Nat} {x : Str} {p : Pos} (h : nmB m i x = true) : PE X (.Name x p) (tVar i) := by
  unfold nmB at h
  simp only [Bool.and_eq_true, Bool.not_eq_true', decide_eq_true_eq] at h
  exact pe_var (i := i) (by rw [g.N]; exact h.1.1.1) (g.vis h.1.1.2) h.1.2 h.2
theorem hfew1 {y : Expr} {cp : Pos} {env : Env} (ns : NoSt [y]) : ((backTo cp (starEach [y] env)).all (fun x => !x.1) && (backToKw cp (keywordEach [] env)).all (fun x => x.1.isSome)
      && decide ([y].length + ([] : List Keyword).length + (if ([] : List Keyword).isEmpty then 0 else 1) < 30)) = true := by
  have e : starEach [y] env = [(false, eval y env)] := noSt_cons ns env
  rw [e]; rfl
theorem x_app (g : XS X m F W G lv) {i : Nat} {x nm : Str} {y : Expr} {p ap cp pos : Pos} {f : SVal} (hi : nmB m i x = true) (hn : nm = ("append" : Str)) (hl : (ap.endLine == cp.line) = true) (ns : NoSt [y]) (he : PE X y (rE F W relV f)) :
    PS X (.Expr (.Call (.Attribute (.Name x p) nm ap) [y] [] cp) pos) (rS F W (xApp i f)) := by
  subst hn
  have hp := pe_bm (apos := ap) (cpos := cp) PySem.F.plainAttrs_list PySem.F.slot_list_append PySem.F.type_list_append mt_append (pe_nm (p := p) g.toXG hi) (pa_cons he pa_nil (noSt_cons ns _)) rfl (hfew1 ns) hl (noSt_cons ns _) rfl
  refine PS.mono (ps_expr hp rfl) fun D σ H ⟨μ, oa, ds, M, r, q⟩ => ?_
  unfold xApp at q
  cases e : ds[i]? with
  | none => rw [e] at q; exact q.elim
  | some s =>
    rw [e] at q
    cases s with
    | no => exact q.elim
    | ow d =>
      cases d with
      | lst xs =>
        dsimp only at q
        obtain ⟨a, h1, h2, h3⟩ := r.ow i _ e
        obtain ⟨vs, h4, h5⟩ := id h3
        refine ⟨.ref a, h2, .inl ⟨rfl, vs, .of h4⟩, μ, oa, ds, M, (then_K (Rel := relV) r q).imp fun z H1 ⟨v, μ1, M1, ev, r1, rv, k⟩ => ?_⟩
        split at k
        · exact k.elim
        · rename_i hb
          split at k
          · rename_i hlen
            obtain ⟨a', h1', h2', h3'⟩ := r1.ow i _ e
            have : a = a' := by rw [h2] at h2'; cases h2'; rfl
            subst this
            obtain ⟨ws, h6, h7⟩ := h3'
            have hN : NN F μ1 oa a := .inr (.inr ⟨i, h1⟩)
            obtain ⟨r2, e2⟩ := r1.wrOw (o := .lst (ws ++ [z])) e h1 h2 (d' := .lst (xs ++ [v.1])) ⟨ws ++ [z], upd_same, RepL.mono (evo_wr hN) _ _ (RepL.append h7 (show RepL _ [v.1] [z] from ⟨z, [], rfl, rv.rep hb, rfl⟩))⟩
            exact ⟨a, ws, z, rfl, rfl, h6, by rw [← h7.length]; exact lim_lt hlen, k μ1 oa σ _ r2 (ev.evo.trans e2)⟩
          · exact k.elim
      | _ => exact q.elim
    | fz d =>
      cases d with
      | ref n =>
        dsimp only at q
        obtain ⟨w, h1, a, rfl, h2⟩ := r.fz i _ e
        have h2 : μ[n]? = some a := h2
        have hn : n < M.length := by have h4 : μ.length = M.length := r.mr.len; have h3 := (List.getElem?_eq_some_iff.mp h2).1; omega
        obtain ⟨vs, h4, h5⟩ := r.mr.cell n a M[n] h2 (by simp [hn])
        refine ⟨.ref a, h1, .inl ⟨rfl, vs, .of h4⟩, μ, oa, ds, M, (then_K (Rel := relV) r q).imp fun z H1 ⟨v, μ1, M1, ev, r1, rv, k⟩ => ?_⟩
        split at k
        · exact k.elim
        · rename_i hb
          cases em : M1[n]? with
          | none => rw [em] at k; exact k.elim
          | some xs =>
            rw [em] at k
            dsimp only at k
            split at k
            · rename_i hlen
              have h2' : μ1[n]? = some a := (ev.evo (F := F) (oa := oa)).pre n a h2
              obtain ⟨ws, h6, h7⟩ := r1.mr.cell n a xs h2' em
              obtain ⟨r2, e2⟩ := r1.wrMs (xs := xs ++ [v.1]) (vs := ws ++ [z]) h2' (RepL.append h7 (show RepL _ [v.1] [z] from ⟨z, [], rfl, rv.rep hb, rfl⟩))
              exact ⟨a, ws, z, rfl, rfl, h6, by rw [← h7.length]; exact lim_lt hlen, k μ1 oa σ _ r2 (ev.evo.trans e2)⟩
            · exact k.elim
      | _ => exact q.elim
/-- o[k] = v, o a list or a dict -/
def rSetLD : TSet := fun o i v H Q => rSetL o i v H Q ∨ rSetD o i v H Q
theorem set_ld {X : Cx} (hu : X.A.units + 1 < cLine) : PSet X rSetLD := fun pins s σ H o i v ov iv u Q I r1 r2 r3 h => h.elim (fun h => set_list pins s σ H o i v ov iv u Q I r1 r2 r3 h) fun h => set_dict hu pins s σ H o i v ov iv u Q I r1 r2 r3 h
theorem x_seti (g : XS X m F W G lv) {i : Nat} {x : Str} {kx vx : Expr} {p sp pos : Pos} {f f' : SVal} (hi : nmB m i x = true) (hs : isSl kx = false) (hc : isCompB vx = false) (hk : PE X kx (rE F W relV f')) (hv : PE X vx (rE F W relV f)) :
    PS X (.Assign [.Subscript (.Name x p) kx sp] vx pos) (rS F W (xSeti i f' f)) := by
  have pg := pg_sub (pos := sp) (pe_nm (p := p) g.toXG hi) hk (set_ld (by have := g.toXG.hu; omega)) (by intro v; cases kx <;> first | rfl | cases hs)
  refine PS.mono (ps_asg hv pg (by unfold swapsWithSole; exact sw_no hc _ _ _) rfl rfl) fun D σ H ⟨μ, oa, ds, M, r, q⟩ => ⟨μ, oa, ds, M, (then_K (Rel := relV) r q).imp fun z H1 ⟨v, μ1, M1, ev, r1, rv, k⟩ => ?_⟩
  split at k
  · exact k.elim
  · rename_i hb
    cases e : ds[i]? with
    | none => rw [e] at k; exact k.elim
    | some s =>
      rw [e] at k
      cases s with
      | no => exact k.elim
      | ow d =>
        cases d with
        | lst xs =>
          dsimp only at k
          have k := oK.from k ev.evo
          obtain ⟨a, h1, h2, h3⟩ := r1.ow i _ e
          refine ⟨.ref a, h2, μ1, oa, ds, M1, (then_K (Rel := relV) r1 k).imp fun y H2 ⟨w, μ2, M2, ev2, r2, rw', k2⟩ => ?_⟩
          obtain ⟨dj, kj⟩ := w
          cases dj with
          | int j =>
            dsimp only at k2
            cases ej : ixD xs.length j with
            | none => rw [ej] at k2; exact k2.elim
            | some pp =>
              rw [ej] at k2
              obtain ⟨a', h1', h2', h3'⟩ := r2.ow i _ e
              have : a = a' := by rw [h2] at h2'; cases h2'; rfl
              subst this
              obtain ⟨ws, h6, h7⟩ := h3'
              have hN : NN F μ2 oa a := .inr (.inr ⟨i, h1⟩)
              have hz : Rep (F.pl μ2 oa H2) v.1 z := Rep.mono ev2.evo _ _ (rv.rep hb)
              obtain ⟨r3, e3⟩ := r2.wrOw (o := .lst (ws.set pp z)) e h1 h2 (d' := .lst (xs.set pp v.1)) ⟨ws.set pp z, upd_same, RepL.mono (evo_wr hN) _ _ (h7.set hz pp)⟩
              exact .inl ⟨a, ws, j, pp, rfl, rw'.r.int, h6, by rw [← h7.length]; exact ej, k2 μ2 oa σ _ r3 (ev2.evo.trans e3)⟩
          | _ => exact k2.elim
        | dT ks xs =>
          dsimp only at k
          have k := oK.from k ev.evo
          obtain ⟨a, h1, h2, h3⟩ := r1.ow i _ e
          refine ⟨.ref a, h2, μ1, oa, ds, M1, (then_K (Rel := relV) r1 k).imp fun y H2 ⟨w, μ2, M2, ev2, r2, rw', k2⟩ => ?_⟩
          obtain ⟨dj, kj⟩ := w
          cases kj <;> first | exact k2.elim | skip
          cases dj <;> first | exact k2.elim | skip
          rename_i ys
          simp only [keyT] at k2
          cases ek : ints? ys with
          | none => rw [ek] at k2; exact k2.elim
          | some kk =>
            rw [ek] at k2
            dsimp only at k2
            by_cases hl : ks.length < LIM
            · rw [if_pos hl] at k2
              obtain ⟨bq, vs, rfl, hbN, hbq, hvs⟩ := rw'
              obtain ⟨rfl, _⟩ := RepL.ints_of hvs ek
              obtain ⟨a', h1', h2', h3'⟩ := r2.ow i _ e
              have : a = a' := by rw [h2] at h2'; cases h2'; rfl
              subst this
              obtain ⟨ws, h6, h7, h8⟩ := h3'
              have hN : NN F μ2 oa a := .inr (.inr ⟨i, h1⟩)
              have hz : Rep (F.pl μ2 oa H2) v.1 z := Rep.mono ev2.evo _ _ (rv.rep hb)
              have hbq : H2 bq = some (.tup ((kk.map Sum.inl).map kV)) := by rw [List.map_map]; exact hbq
              obtain ⟨r3, e3⟩ := r2.wrOw (o := .dT (putK ((kT ks).zip ws) (kk.map Sum.inl) z)) e h1 h2 (d' := .dT (putT ks xs kk v.1).1 (putT ks xs kk v.1).2) (own_put (evo_wr hN) h7 h8 hz upd_same)
              refine .inr ⟨a, _, rfl, DPut.t h6 hbq ?_, k2 μ2 oa σ _ r3 (ev2.evo.trans e3)⟩
              rw [List.length_zip, show (kT ks).length = ks.length by unfold kT; rw [List.length_map], ← h7, Nat.min_self]
              exact lim_lt hl
            · rw [if_neg hl] at k2; exact k2.elim
        | dI ks xs =>
          dsimp only at k
          have k := oK.from k ev.evo
          obtain ⟨a, h1, h2, h3⟩ := r1.ow i _ e
          refine ⟨.ref a, h2, μ1, oa, ds, M1, (then_K (Rel := relV) r1 k).imp fun y H2 ⟨w, μ2, M2, ev2, r2, rw', k2⟩ => ?_⟩
          obtain ⟨dj, kj⟩ := w
          cases dj <;> first | exact k2.elim | skip
          rename_i kk
          dsimp only at k2
          by_cases hl : ks.length < LIM
          · rw [if_pos hl] at k2
            have ey := rw'.r.int
            subst ey
            obtain ⟨a', h1', h2', h3'⟩ := r2.ow i _ e
            have : a = a' := by rw [h2] at h2'; cases h2'; rfl
            subst this
            obtain ⟨ws, h6, h7, h8⟩ := h3'
            have hN : NN F μ2 oa a := .inr (.inr ⟨i, h1⟩)
            have hz : Rep (F.pl μ2 oa H2) v.1 z := Rep.mono ev2.evo _ _ (rv.rep hb)
            obtain ⟨r3, e3⟩ := r2.wrOw (o := .dK (putK ((kI ks).zip ws) (Sum.inl kk) z)) e h1 h2 (d' := .dI (putI ks xs kk v.1).1 (putI ks xs kk v.1).2) (own_putI (evo_wr hN) h7 h8 hz upd_same)
            refine .inr ⟨a, _, rfl, DPut.k (k := Sum.inl kk) h6 ?_, k2 μ2 oa σ _ r3 (ev2.evo.trans e3)⟩
            rw [List.length_zip, show (kI ks).length = ks.length by unfold kI; rw [List.length_map], ← h7, Nat.min_self]
            exact lim_lt hl
          · rw [if_neg hl] at k2; exact k2.elim
        | _ => exact k.elim
      | fz d =>
        cases d with
        | ref n =>
          dsimp only at k
          have k := oK.from k ev.evo
          obtain ⟨w, h1, a, rfl, h2⟩ := r1.fz i _ e
          refine ⟨.ref a, h1, μ1, oa, ds, M1, (then_K (Rel := relV) r1 k).imp fun y H2 ⟨w, μ2, M2, ev2, r2, rw', k2⟩ => ?_⟩
          obtain ⟨dj, kj⟩ := w
          cases em : M2[n]? with
          | none => rw [em] at k2; exact k2.elim
          | some xs =>
            rw [em] at k2
            cases dj with
            | int j =>
              dsimp only at k2
              cases ej : ixD xs.length j with
              | none => rw [ej] at k2; exact k2.elim
              | some pp =>
                rw [ej] at k2
                have h2' : μ2[n]? = some a := (ev2.evo (F := F) (oa := oa)).pre n a h2
                obtain ⟨ws, h6, h7⟩ := r2.mr.cell n a xs h2' em
                have hz : Rep (F.pl μ2 oa H2) v.1 z := Rep.mono ev2.evo _ _ (rv.rep hb)
                obtain ⟨r3, e3⟩ := r2.wrMs (xs := xs.set pp v.1) (vs := ws.set pp z) h2' (h7.set hz pp)
                exact .inl ⟨a, ws, j, pp, rfl, rw'.r.int, h6, by rw [← h7.length]; exact ej, k2 μ2 oa σ _ r3 (ev2.evo.trans e3)⟩
            | _ => exact k2.elim
        | _ => exact k.elim
theorem Rl.move {μ : List Addr} {oa : Nat → Option Addr} {ds : List Sl} {M : MS} {σ : L2.St} {H : Hp} {i k : Nat} {a : Addr} {d : D} (r : Rl F μ oa ds M σ H) (hk : oa k = some a) (hd : ∀ d, ds[k]? ≠ some (.ow d)) (ho : Own (F.pl μ oa H) d a) :
    ∃ oa2, Rl F μ oa2 (ds.set i (.ow d)) M (σ.set i (some (.ref a))) H ∧ Evo (F.pl μ oa H) (F.pl μ oa2 H) := by
  let oa2 : Nat → Option Addr := fun j => if j = i then some a else if j = k then none else oa j
  have hN : ∀ b, NN F μ oa2 b → NN F μ oa b := fun b hb => by
    rcases hb with hb | hb | ⟨j, hb⟩
    · exact .inl hb
    · exact .inr (.inl hb)
    · have hb : (if j = i then some a else if j = k then none else oa j) = some b := hb
      split at hb
      · cases hb; exact .inr (.inr ⟨k, hk⟩)
      · split at hb
        · cases hb
        · exact .inr (.inr ⟨j, hb⟩)
  have e : Evo (F.pl μ oa H) (F.pl μ oa2 H) := evo_less hN
  have inv : ∀ j b, oa2 j = some b → (j = i ∧ b = a) ∨ (j ≠ i ∧ j ≠ k ∧ oa j = some b) := fun j b hb => by
    have hb : (if j = i then some a else if j = k then none else oa j) = some b := hb
    split at hb
    · cases hb; exact .inl ⟨by assumption, rfl⟩
    · split at hb
      · cases hb
      · exact .inr ⟨by assumption, by assumption, hb⟩
  refine ⟨oa2, ⟨by rw [List.length_set, List.length_set]; exact r.len, fun j d' z => ?_, fun j d' z => ?_, fun j l b h1 h2 => ?_, fun j b h1 => ?_, ⟨r.mr.len, r.mr.nd, fun b hb => .inr (.inl hb), fun n b xs h1 h2 => (r.mr.cell n b xs h1 h2).mono e rfl⟩, fun b hb => r.dom b (hN b hb), r.keep, r.pre, ?_⟩, e⟩
  · rw [List.getElem?_set] at z
    split at z
    · split at z <;> cases z
    · rename_i hij
      obtain ⟨v, h1, h2⟩ := r.fz j d' z
      exact ⟨v, by rw [List.getElem?_set_ne hij]; exact h1, h2.mono e⟩
  · rw [List.getElem?_set] at z
    split at z
    · rename_i hij
      subst hij
      split at z
      · rename_i hl
        cases z
        exact ⟨a, by show (if i = i then _ else _) = _; rw [if_pos rfl], by rw [List.getElem?_set_self (by rw [r.len]; exact hl)], ho.mono e rfl⟩
      · cases z
    · rename_i hij
      obtain ⟨b, h1, h2, h3⟩ := r.ow j d' z
      refine ⟨b, ?_, by rw [List.getElem?_set_ne hij]; exact h2, h3.mono e rfl⟩
      show (if j = i then _ else if j = k then _ else _) = _
      rw [if_neg (Ne.symm hij), if_neg (fun q => hd d' (by rw [← q]; exact z))]
      exact h1
  · rcases inv j b h1 with ⟨e1, e2⟩ | ⟨n1, n2, h1'⟩ <;> rcases inv l b h2 with ⟨e3, e4⟩ | ⟨n3, n4, h2'⟩
    · rw [e1, e3]
    · rw [e2] at h2'; exact absurd (r.inj l k a h2' hk) n4
    · rw [e4] at h1'; exact absurd (r.inj j k a h1' hk) n2
    · exact r.inj j l b h1' h2'
  · rcases inv j b h1 with ⟨e1, e2⟩ | ⟨n1, n2, h1'⟩
    · rw [e2]; exact r.ofr k a hk
    · exact r.ofr j b h1'
  · obtain ⟨b, hb⟩ := r.fin
    refine ⟨max b (i + 1), fun j hj => ?_⟩
    show (if j = i then _ else if j = k then _ else _) = _
    rw [if_neg (by omega)]
    split
    · rfl
    · exact hb j (by omega)
/-- a fresh value held aside -/
theorem Rl.aside {μ μ1 : List Addr} {oa : Nat → Option Addr} {ds : List Sl} {M M1 : MS} {σ : L2.St} {H H1 : Hp} {k : Nat} {d : D} {x : V} (r : Rl F μ oa ds M σ H) (ev : EvE μ H μ1 H1) (r1 : Rl F μ1 oa ds M1 σ H1) (hk : ds.length ≤ k) (rv : RVk (F.pl μ1 oa H1) H M1 (d, .fr) x) :
    ∃ a, x = .ref a ∧ Rl F μ1 (oaP oa k a) ds M1 σ H1 ∧ Evo (F.pl μ oa H) (F.pl μ1 (oaP oa k a) H1) ∧ Own (F.pl μ1 (oaP oa k a) H1) d a := by
  obtain ⟨a, rfl, r2, e2⟩ := r.setOw (i := k) ev r1 rv
  have e1 : ds.set k (.ow d) = ds := List.set_eq_of_length_le hk
  have e3 : σ.set k (some (V.ref a)) = σ := List.set_eq_of_length_le (by rw [r.len]; exact hk)
  rw [e1, e3] at r2
  refine ⟨a, rfl, r2, e2, ?_⟩
  obtain ⟨a', h, h0, hn, ho, hm⟩ := rv
  cases h
  have eb : Evo ((F.pl μ1 oa H1).but a) (F.pl μ1 (oaP oa k a) H1) := by
   refine ⟨rfl, fun b o q n => ⟨q, fun n' => n ?_⟩, fun _ _ h => h⟩
   show NN F μ1 oa b ∨ b = a
   rcases n' with n' | n' | ⟨j, n'⟩
   · exact .inl (.inl n')
   · exact .inl (.inr (.inl n'))
   · unfold oaP at n'
     split at n'
     · cases n'; exact .inr rfl
     · exact .inl (.inr (.inr ⟨j, n'⟩))
  exact Own.mono (d := d) eb rfl ho
theorem x_par (g : XS X m F W G lv) {i j : Nat} {x y : Str} {u v : Expr} {px py pt pt2 pos : Pos} {kt k2 : Nat} {f f' : SVal} (hi : m.N[i]? = some x) (hj : m.N[j]? = some y) (hij : i ≠ j) (hx : m.sc.names.lookup x = some .local) (hy : m.sc.names.lookup y = some .local)
    (ns : NoSt [u, v]) (h1 : PE X u (rE F W relV f)) (h2 : PE X v (rE F W relV f')) (hl : (py.line == px.line) = true) (hxy : x ≠ y) (hp : parOk u v = true) :
    PS X (.Assign [.Tuple [.Name x px, .Name y py] kt pt] (.Tuple [u, v] k2 pt2) pos) (rS F W (xPar i j f f')) := by
  have hx' : X.env.scope.names.lookup x = some .local := by rw [g.sc]; exact hx
  have hy' : X.env.scope.names.lookup y = some .local := by rw [g.sc]; exact hy
  have hw : swappedStores [.Tuple [.Name x px, .Name y py] kt pt] (.Tuple [u, v] k2 pt2) X.env = pure (some [x, y]) := by
    have hb : X.env.blockKind = .function := by unfold Env.blockKind; rw [g.kind]; rfl
    have kx : X.env.kindOf x = some .local := hx'
    have ky : X.env.kindOf y = some .local := hy'
    unfold parOk at hp
    simp only [Bool.and_eq_true, Bool.not_eq_true'] at hp
    obtain ⟨p1, p2⟩ := hp
    have hxy' : (y == x) = false := by
      rw [beq_eq_false_iff_ne]; exact Ne.symm hxy
    unfold swappedStores
    simp [hb, kx, ky, p1, p2, hl, Expr.pos, List.eraseDups_cons, hxy', hxy]
    have hl' : py.line = px.line := by simpa using hl
    rw [if_neg (by
      rintro (h | h)
      · cases u <;> first | exact absurd rfl (ns _ List.mem_cons_self _ _) | cases h
      · cases v <;> first | exact absurd rfl (ns.tail _ List.mem_cons_self _ _) | cases h)]
    simp [List.filterMap_cons, ky, hl', hxy, hxy', Ne.symm hxy]
    exact fun h => absurd rfl h
  refine PS.mono (ps_par g.calm g.nd (by rw [g.N]; exact hi) (by rw [g.N]; exact hj) hij hx' hy' (pa_cons h1 (pa_cons h2 pa_nil (noSt_cons ns.tail _)) (noSt_cons ns _)) hw rfl) fun D σ H ⟨μ, oa, ds, M, r, q⟩ => ⟨μ, oa, ds, M, (then_K (Rel := relV) r q).imp fun a1 H1 ⟨v1, μ1, M1, ev, r1, rv, q0⟩ => ?_⟩
  have k := oK.from q0 ev.evo
  obtain ⟨d1, k1⟩ := v1
  cases k1 with
  | bo =>
    refine ⟨μ1, oa, ds, M1, (then_K (Rel := relV) r1 k).imp fun a2 H2 ⟨v2, μ2, M2, ev2, r2, rv2, k⟩ => ?_⟩
    exact k.elim
  | fz =>
    refine ⟨μ1, oa, ds, M1, (then_K (Rel := relV) r1 k).imp fun a2 H2 ⟨v2, μ2, M2, ev2, r2, rv2, k⟩ => ?_⟩
    have ra : Rl F μ1 oa (ds.set i (.fz d1)) M1 (σ.set i (some a1)) H1 := r1.setFz rv
    have rb : Rl F μ2 oa (ds.set i (.fz d1)) M2 (σ.set i (some a1)) H2 := r2.setFz (Rep.mono ev2.evo _ _ rv)
    unfold parN at k
    dsimp only at k
    cases e : putS (ds.set i (.fz d1)) j v2 with
    | none => rw [e] at k; exact k.elim
    | some ds2 =>
      rw [e] at k
      obtain ⟨oa', h1, h2⟩ := put_ok ra ev2 rb rv2 e
      exact ⟨a1, a2, rfl, k μ2 oa' _ H2 h1 h2⟩
  | fr =>
    obtain ⟨n0, hn0⟩ := r.fin
    obtain ⟨a, rfl, ra, ea, ho⟩ := r.aside (k := max ds.length n0) ev r1 (by omega) rv
    have kk : (oaP oa (max ds.length n0) a) (max ds.length n0) = some a := by unfold oaP; rw [if_pos rfl]
    have k' : oK F W D (F.pl μ1 (oaP oa (max ds.length n0) a) H1) _ := oK.from q0 ea
    refine ⟨μ1, _, ds, M1, (then_K (Rel := relV) ra k').imp fun a2 H2 ⟨v2, μ2, M2, ev2, r2, rv2, k2⟩ => ?_⟩
    obtain ⟨d2, kd2⟩ := v2
    cases kd2 with
    | fr => exact k2.elim
    | bo => exact k2.elim
    | fz =>
      have k3 : oK F W D (F.pl μ1 (oaP oa (max ds.length n0) a) H1) (.next ((ds.set i (.ow d1)).set j (.fz d2)) M2) := k2
      obtain ⟨o, hoo⟩ := ho.some
      have hoo : H1 a = some o := hoo
      have ho2 : Own (F.pl μ2 (oaP oa (max ds.length n0) a) H2) d1 a := ho.mono ev2.evo ((ev2.keep a o hoo (ra.ofr _ a kk).2.1).trans hoo.symm)
      obtain ⟨oa2, r3, e3⟩ := r2.move (i := i) kk (fun d z => by rw [List.getElem?_eq_none (by omega)] at z; cases z) ho2
      exact ⟨.ref a, a2, rfl, k3 μ2 oa2 _ H2 (r3.setFz (Rep.mono e3 _ _ rv2)) (ev2.evo.trans e3)⟩
end
end PL
end
section
set_option linter.all false
set_option maxRecDepth 100000
set_option maxHeartbeats 4000000
set_option autoImplicit false
namespace PL
open PySem PySem.Spec PyProof.Rows L2
section
variable {X : Cx} {m : MC} {F : Fr0} {W : WX} {G : Nat → Fn} {lv : Nat}
structure SndS (X : Cx) (m : MC) (F : Fr0) (W : WX) (G : Nat → Fn) (c : CS) : Prop where
  s : ∀ st, mS m c st = true → PS X st (rS F W (exec G c))
  ss : ∀ st, mSs m c st = true → PSs X st (rS F W (exec G c))
theorem SndS.one {c : CS} (h : ∀ st, mS m c st = true → PS X st (rS F W (exec G c))) (h2 : ∀ st, mSs m c st = false) : SndS X m F W G c := ⟨h, fun st q => by rw [h2] at q; cases q⟩
theorem app_shape {i : Nat} {e : CE} {z : Expr} {pos : Pos} (h : mS m (.app i e) (.Expr z pos) = true) : ∃ nx p nm ap y cp, z = .Call (.Attribute (.Name nx p) nm ap) [y] [] cp ∧ nmB m i nx = true ∧ nm = ("append" : Str) ∧ mE m e y = true ∧ (ap.endLine == cp.line) = true := by
  have h : (match appSh z with
    | some (x, nm, y, b) => nmB m i x && nm == ("append" : Str) && mE m e y && b
    | none => false) = true := h
  cases e1 : appSh z with
  | none => rw [e1] at h; cases h
  | some q =>
    obtain ⟨x, nm, y, b⟩ := q
    rw [e1] at h
    simp only [Bool.and_eq_true, beq_iff_eq] at h
    unfold appSh at e1
    split at e1
    · cases e1
      exact ⟨_, _, _, _, _, _, rfl, h.1.1.1, h.1.1.2, h.1.2, h.2⟩
    · cases e1
theorem par_shape {i j : Nat} {a b : CE} {ts : List Expr} {w : Expr} {pos : Pos} (h : mS m (.par i j a b) (.Assign ts w pos) = true) : ∃ x px y py k p u v k2 p2, ts = [.Tuple [.Name x px, .Name y py] k p] ∧ w = .Tuple [u, v] k2 p2 ∧ m.N[i]? = some x ∧ m.N[j]? = some y ∧ i ≠ j ∧
    m.sc.names.lookup x = some .local ∧ m.sc.names.lookup y = some .local ∧ mE m a u = true ∧ mE m b v = true ∧ (py.line == px.line) = true ∧ x ≠ y ∧ parOk u v = true := by
  have h : (match parSh ts w with
    | some (x, px, y, py, u, v) => decide (m.N[i]? = some x) && decide (m.N[j]? = some y) && decide (i ≠ j) && decide (m.sc.names.lookup x = some .local) && decide (m.sc.names.lookup y = some .local) &&
      mE m a u && mE m b v && (py.line == px.line) && decide (x ≠ y) && parOk u v
    | none => false) = true := h
  cases e1 : parSh ts w with
  | none => rw [e1] at h; cases h
  | some q =>
    obtain ⟨x, px, y, py, u, v⟩ := q
    rw [e1] at h
    simp only [Bool.and_eq_true, decide_eq_true_eq] at h
    obtain ⟨⟨⟨⟨⟨⟨⟨⟨⟨h1, h2⟩, h3⟩, h4⟩, h5⟩, h6⟩, h7⟩, h8⟩, h9⟩, h10⟩ := h
    unfold parSh at e1
    split at e1
    · cases e1
      exact ⟨_, _, _, _, _, _, _, _, _, _, rfl, rfl, h1, h2, h3, h4, h5, h6, h7, h8, h9, h10⟩
    · cases e1
theorem raise_shape {c : Nat} {x msg : String} {e ca : Option Expr} {pos : Pos} (h : mS m (.raise c x msg) (.Raise e ca pos) = true) : ∃ y p z j p2 p3, e = some (.Call (.Name y p) [.Constant (.str z) j p2] [] p3) ∧ ca = none ∧ (c, y) ∈ m.xs ∧ glB m.sc y = true := by
  have h : (match raiSh e ca with
    | some y => y == (x : Str) && decide ((c, y) ∈ m.xs) && glB m.sc y
    | none => false) = true := h
  cases e1 : raiSh e ca with
  | none => rw [e1] at h; cases h
  | some q =>
    rw [e1] at h
    simp only [Bool.and_eq_true, decide_eq_true_eq] at h
    have h2 := h.1.2
    have h3 := h.2
    clear h
    unfold raiSh at e1
    split at e1
    · cases e1
      exact ⟨_, _, _, _, _, _, rfl, rfl, h2, h3⟩
    · cases e1
theorem set_shape {ts : List Expr} {q : Str × Pos} (h : setSh ts = some q) : ts = [.Name q.1 q.2] := by
  unfold setSh at h
  split at h
  · cases h; rfl
  · cases h
theorem seti_shape {ts : List Expr} {q : Str × Expr} (h : setiSh ts = some q) : ∃ p p2, ts = [.Subscript (.Name q.1 p) q.2 p2] := by
  unfold setiSh at h
  split at h
  · cases h; exact ⟨_, _, rfl⟩
  · cases h
theorem name_shape {o : Option Expr} {x : Str} (h : nameSh o = some x) : ∃ p, o = some (.Name x p) := by
  unfold nameSh at h
  split at h
  · cases h; exact ⟨_, rfl⟩
  · cases h
theorem str_shape {x : Expr} (h : isStrB x = true) : ∃ z j p, x = .Constant (.str z) j p := by
  unfold isStrB at h
  split at h
  · exact ⟨_, _, _, rfl⟩
  · cases h
theorem mE_noSetC (m : MC) (x : Expr) (gs : List Comprehension) (s : Scope) (q : Pos) : ∀ e : CE, mE m e (.SetComp x gs s q) = false := by
  intro e
  induction e <;> simp [mE] <;> assumption
theorem comp_shape {e : CE} {v : Expr} (h : mE m e v = true) : isCompB v = false ∨ (∃ a b c d, v = .ListComp a b c d) ∨ ∃ k a b c d, v = .DictComp k a b c d := by
  cases v <;> first | exact .inl rfl | exact .inr (.inl ⟨_, _, _, _, rfl⟩) | exact .inr (.inr ⟨_, _, _, _, _, rfl⟩) | (rw [mE_noSetC] at h; cases h)
theorem snds_all (g : XS X m F W G lv) : ∀ c : CS, SndS X m F W G c
  | .nil => ⟨fun st h => by cases st <;> simp [mS] at h, fun st h => by
      cases st with
      | nil => exact x_nil
      | cons _ _ => simp [mSs] at h⟩
  | .cons s r => ⟨fun st h => by cases st <;> simp [mS] at h, fun st h => by
      cases st with
      | nil => simp [mSs] at h
      | cons x xs =>
        simp only [mSs, Bool.and_eq_true] at h
        exact x_cons ((snds_all g s).s _ h.1) ((snds_all g r).ss _ h.2)⟩
  | .frz i r => ⟨fun st h => by cases st <;> simp [mS] at h, fun st h => x_frz ((snds_all g r).ss _ (by simpa [mSs] using h))⟩
  | .kill i r => ⟨fun st h => by cases st <;> simp [mS] at h, fun st h => x_kill ((snds_all g r).ss _ (by simpa [mSs] using h))⟩
  | .expr e => SndS.one (fun st h => by
      cases st <;> first | (simp [mS] at h; done) | skip
      simp only [mS, Bool.and_eq_true, Bool.not_eq_true'] at h
      exact x_expr ((snd_all e).e X m F W lv g.toXG _ h.1) h.2) (fun st => by cases st <;> simp [mSs])
  | .app i e => SndS.one (fun st h => by
      cases st <;> first | (simp [mS] at h; done) | skip
      obtain ⟨nx, p, nm, ap, y, cp, rfl, h1, h2, h3, h4⟩ := app_shape h
      exact x_app g h1 h2 h4 (mA_st m (.acons e .anil) [y] (by simp [mA, h3])) ((snd_all e).e X m F W lv g.toXG _ h3)) (fun st => by cases st <;> simp [mSs])
  | .set i e => SndS.one (fun st h => by
      cases st <;> first | (simp [mS] at h; done) | skip
      rename_i ts v pos
      have h : (match setSh ts with
        | some (x, px) => decide (m.N[i]? = some x) && stB m.sc x && mE m e v && (swB m.sc x px v == isLcC e || !swB m.sc x px v)
        | none => false) = true := h
      cases e1 : setSh ts with
      | none => rw [e1] at h; cases h
      | some q =>
        rw [e1] at h
        have := set_shape e1
        subst this
        obtain ⟨x, px⟩ := q
        have h : (decide (m.N[i]? = some x) && stB m.sc x && mE m e v && (swB m.sc x px v == isLcC e || !swB m.sc x px v)) = true := h
        simp only [Bool.and_eq_true, decide_eq_true_eq] at h
        obtain ⟨⟨⟨h1, h2⟩, h3⟩, h4⟩ := h
        cases hw : swB m.sc x px v with
        | false => exact x_set g h1 h2 ((snd_all e).e X m F W lv g.toXG _ h3) (sw_lc g hw (comp_shape h3))
        | true =>
          rw [hw] at h4
          have hl : isLcC e = true := by simpa using h4
          cases e with
          | lc own tg ik its cond elt =>
            obtain ⟨ee, t, it, ifs, scope, p, rfl, q1, q2, q3, q4, q5, q6, q7⟩ := lc_shape h3
            exact x_setLc g h1 hw q1 q2 q3 q4 (mIt_ok (st := false) (snd_all its) (fun a r _ => ⟨snd_all a, snd_all r⟩) X m F W lv g.toXG ik t it q5) (fun s H C cl fp => (snd_all cond).i _ _ F _ lv (g.toXG.blk s H scope C cl fp) _ q6) (fun s H C cl fp => (snd_all elt).e _ _ F _ lv (g.toXG.blk s H scope C cl fp) _ q7) (fsi (mIt_noSet q5) _)
          | dcI own ii tv its val =>
            obtain ⟨kn, kp, y, py, t2, kt, pt, ee, ap, cp, vx, scope, p, rfl, hll, hh⟩ := dcI_shape h3
            exact x_setDcI g (dcI_ok g.toXG (snd_all _) (snd_all _) hh) hll h1 hw
          | dc2 own own1 t1 i1 t2 i2 cond key val =>
            obtain ⟨kx, vx, t, it, tt, itt, ifs, scope, p, rfl, hh⟩ := dc2_shape h3
            exact x_setDc2 g (dc2_ok g.toXG (snd_all _) (fun a r _ => ⟨snd_all a, snd_all r⟩) (snd_all _) (fun a r _ => ⟨snd_all a, snd_all r⟩) (snd_all _) (snd_all _) (snd_all _) hh) h1 hw
          | _ => cases hl) (fun st => by cases st <;> simp [mSs])
  | .unp tg e => SndS.one (fun st h => by
      cases st <;> first | (simp [mS] at h; done) | skip
      rename_i ts v pos
      match ts, h with
      | [], h => exact absurd h (by simp [mS])
      | _ :: _ :: _, h => exact absurd h (by simp [mS])
      | [t], h =>
        simp only [mS, Bool.and_eq_true] at h
        exact x_unp g h.1.1.1 h.1.1.2 h.2 ((snd_all e).e X m F W lv g.toXG _ h.1.2)) (fun st => by cases st <;> simp [mSs])
  | .par i j a b => SndS.one (fun st h => by
      cases st <;> first | (simp [mS] at h; done) | skip
      obtain ⟨x, px, y, py, k, p, u, v, k2, p2, rfl, rfl, h1, h2, h3, h4, h5, h6, h7, h8, h9, h10⟩ := par_shape h
      exact x_par g h1 h2 h3 h4 h5 (mA_st m (.acons a (.acons b .anil)) [u, v] (by simp [mA, h6, h7])) ((snd_all a).e X m F W lv g.toXG _ h6) ((snd_all b).e X m F W lv g.toXG _ h7) h8 h9 h10) (fun st => by cases st <;> simp [mSs])
  | .seti i k v => SndS.one (fun st h => by
      cases st <;> first | (simp [mS] at h; done) | skip
      rename_i ts vx pos
      have h : (match setiSh ts with
        | some (x, kx) => nmB m i x && mE m k kx && !isSl kx && mE m v vx && !isCompB vx
        | none => false) = true := h
      cases e1 : setiSh ts with
      | none => rw [e1] at h; cases h
      | some q =>
        rw [e1] at h
        obtain ⟨p, p2, rfl⟩ := seti_shape e1
        obtain ⟨x, kx⟩ := q
        have h : (nmB m i x && mE m k kx && !isSl kx && mE m v vx && !isCompB vx) = true := h
        simp only [Bool.and_eq_true, Bool.not_eq_true'] at h
        obtain ⟨⟨⟨⟨h1, h2⟩, h3⟩, h4⟩, h5⟩ := h
        exact x_seti g h1 h3 h5 ((snd_all k).e X m F W lv g.toXG _ h2) ((snd_all v).e X m F W lv g.toXG _ h4)) (fun st => by cases st <;> simp [mSs])
  | .ret e => SndS.one (fun st h => by
      cases st <;> first | (simp [mS] at h; done) | skip
      rename_i o pos
      cases o with
      | none => simp [mS] at h
      | some x => exact x_ret ((snd_all e).e X m F W lv g.toXG _ (by simpa [mS] using h))) (fun st => by cases st <;> simp [mSs])
  | .retV i => SndS.one (fun st h => by
      cases st <;> first | (simp [mS] at h; done) | skip
      rename_i o pos
      have h : (match nameSh o with
        | some x => nmB m i x
        | none => false) = true := h
      cases e1 : nameSh o with
      | none => rw [e1] at h; cases h
      | some x =>
        rw [e1] at h
        obtain ⟨p, rfl⟩ := name_shape e1
        exact x_retV g.toXG h) (fun st => by cases st <;> simp [mSs])
  | .retN => SndS.one (fun st h => by
      cases st <;> first | (simp [mS] at h; done) | skip
      rename_i o pos
      cases o with
      | none => exact x_retN
      | some x => simp [mS] at h) (fun st => by cases st <;> simp [mSs])
  | .ife c a b => SndS.one (fun st h => by
      cases st <;> first | (simp [mS] at h; done) | skip
      simp only [mS, Bool.and_eq_true] at h
      exact x_ife ((snd_all c).t X m F W lv g.toXG _ h.1.1) ((snds_all g a).ss _ h.1.2) ((snds_all g b).ss _ h.2)) (fun st => by cases st <;> simp [mSs])
  | .wh n kl c b => SndS.one (fun st h => by
      cases st <;> first | (simp [mS] at h; done) | skip
      simp only [mS, Bool.and_eq_true, List.isEmpty_iff] at h
      obtain ⟨⟨rfl, h2⟩, h3⟩ := h
      exact x_wh g.own ((snd_all c).t X m F W lv g.toXG _ h2) ((snds_all g b).ss _ h3)) (fun st => by cases st <;> simp [mSs])
  | .for kl tg ik its b => SndS.one (fun st h => by
      cases st <;> first | (simp [mS] at h; done) | skip
      simp only [mS, Bool.and_eq_true, List.isEmpty_iff] at h
      obtain ⟨⟨⟨rfl, h2⟩, h3⟩, h4⟩ := h
      exact x_for g h2 (mIt_ok (st := true) (snd_all its) (fun a r _ => ⟨snd_all a, snd_all r⟩) X m F W lv g.toXG ik _ _ h3) ((snds_all g b).ss _ h4) (fsi (mIt_noSet h3) _)) (fun st => by cases st <;> simp [mSs])
  | .brk => SndS.one (fun st h => by cases st <;> first | (simp [mS] at h; done) | exact x_brk) (fun st => by cases st <;> simp [mSs])
  | .cont => SndS.one (fun st h => by cases st <;> first | (simp [mS] at h; done) | exact x_cont) (fun st => by cases st <;> simp [mSs])
  | .pass => SndS.one (fun st h => by cases st <;> first | (simp [mS] at h; done) | exact x_pass) (fun st => by cases st <;> simp [mSs])
  | .doc => SndS.one (fun st h => by
      cases st <;> first | (simp [mS] at h; done) | skip
      rename_i x pos
      obtain ⟨z, j, p, rfl⟩ := str_shape (x := x) (by simpa [mS] using h)
      exact x_doc) (fun st => by cases st <;> simp [mSs])
  | .raise c x msg => SndS.one (fun st h => by
      cases st <;> first | (simp [mS] at h; done) | skip
      obtain ⟨y, p, z, j, p2, p3, rfl, rfl, h1, h2⟩ := raise_shape h
      exact x_raise g.toXG h1 h2) (fun st => by cases st <;> simp [mSs])
end
end PL
end
section
set_option linter.all false
set_option maxRecDepth 100000
set_option maxHeartbeats 4000000
set_option autoImplicit false
namespace PL
open PySem PySem.Spec PyProof.Rows L2
section
variable {F : Fr0} {μ : List Addr} {oa : Nat → Option Addr} {ds : List Sl} {M : MS} {σ : L2.St} {H : Hp}
theorem NN_no (r : Rl F μ oa ds M σ H) : ∀ a, NN F μ noOa a → NN F μ oa a := fun a h => by
  rcases h with h | h | ⟨i, h⟩
  · exact .inl h
  · exact .inr (.inl h)
  · cases h
theorem Rl.evE (r : Rl F μ oa ds M σ H) : EvE F.μ0 F.H0 μ H := ⟨r.keep, r.pre, fun a ha => by
  obtain ⟨t, e, _⟩ := r.pre
  exact r.dom a (.inr (.inl (by rw [e]; exact List.mem_append_left _ ha)))⟩
theorem Rl.mrN (r : Rl F μ oa ds M σ H) : MR (F.pl μ noOa H) M :=
  ⟨r.mr.len, r.mr.nd, fun b hb => .inr (.inl hb), fun n b xs h1 h2 => (r.mr.cell n b xs h1 h2).mono (evo_less (NN_no r)) rfl⟩
theorem Rl.domN (r : Rl F μ oa ds M σ H) : ∀ a, NN F μ noOa a → ∃ o, H a = some o := fun a h => r.dom a (NN_no r a h)
theorem RVk.noOa {v : RV} {x : V} {Hs : Hp} (r : Rl F μ oa ds M σ H) (h : RVk (F.pl μ oa H) Hs M v x) : RVk (F.pl μ PL.noOa H) Hs M v x := by
  have e : Evo (F.pl μ oa H) (F.pl μ PL.noOa H) := evo_less (NN_no r)
  obtain ⟨d, k⟩ := v
  cases k with
  | fz => exact Rep.mono e _ _ h
  | fr =>
    obtain ⟨a, h1, h2, h3, h4, h5⟩ := h
    have eb : Evo ((F.pl μ oa H).but a) ((F.pl μ PL.noOa H).but a) := ⟨rfl, fun b o q n => ⟨q, fun n' => n (n'.elim (fun z => .inl (NN_no r b z)) .inr)⟩, fun _ _ h => h⟩
    exact ⟨a, h1, h2, fun n => h3 (NN_no r a n), h4.mono eb rfl, ⟨h5.len, h5.nd, fun b hb => .inl (.inr (.inl hb)), fun n b xs q1 q2 => (h5.cell n b xs q1 q2).mono eb rfl⟩⟩
  | bo =>
    obtain ⟨a, h1, h2, h3⟩ := h
    exact ⟨a, h1, h2, h3.mono e rfl⟩
end
theorem start_len {N : List Str} {vs : List V} (h : vs.length ≤ N.length) : (L2.start N vs).length = N.length := by
  unfold L2.start
  rw [List.length_append, List.length_map, List.length_replicate]
  omega
/-- the state at a def's entry -/
theorem Rl.start {F : Fr0} {ds : List D} {vs : List V} {M : MS} {N : List Str} (h : RepL (F.pl F.μ0 noOa F.H0) ds vs) (m : MR (F.pl F.μ0 noOa F.H0) M) (hd : ∀ a, NN F F.μ0 noOa a → ∃ o, F.H0 a = some o) (hl : vs.length ≤ N.length) :
    Rl F F.μ0 noOa (ds.map Sl.fz ++ List.replicate (N.length - vs.length) .no) M (L2.start N vs) F.H0 := by
  have hlen := h.length
  refine ⟨by rw [start_len hl, List.length_append, List.length_map, List.length_replicate]; omega, fun i d q => ?_, fun i d q => ?_, fun i j a h => (by cases h), fun i a h => (by cases h), m, hd, fun a o h _ => h, ⟨[], by simp, fun _ h => by simp at h⟩, ⟨0, fun _ _ => rfl⟩⟩
  · by_cases hi : i < ds.length
    · rw [List.getElem?_append_left (by rw [List.length_map]; exact hi), List.getElem?_map] at q
      obtain ⟨d', q1, q2⟩ := Option.map_eq_some_iff.mp q
      cases q2
      obtain ⟨v, e1, e2⟩ := h.get q1
      refine ⟨v, ?_, e2⟩
      unfold L2.start
      rw [List.getElem?_append_left (by rw [List.length_map]; omega), List.getElem?_map, e1]
      rfl
    · rw [List.getElem?_append_right (by rw [List.length_map]; omega), List.getElem?_replicate] at q
      split at q <;> cases q
  · by_cases hi : i < ds.length
    · rw [List.getElem?_append_left (by rw [List.length_map]; exact hi), List.getElem?_map] at q
      obtain ⟨d', q1, q2⟩ := Option.map_eq_some_iff.mp q
      cases q2
    · rw [List.getElem?_append_right (by rw [List.length_map]; omega), List.getElem?_replicate] at q
      split at q <;> cases q
/-- what the module gives a def -/
structure ModOk (P : Program) (w : World) (K : PySem.W.Frag) (mg : Str → Option Value) (base : Heap) (xa : Nat → Addr) (xf : Nat → Str) (cs : List (Str × D)) (xs : List (Nat × Str)) : Prop where
  blt : ∀ s : String, s ∈ bltNames → mg (s : Str) = none
  cs : ∀ q ∈ cs, ∃ u v, mg q.1 = some u ∧ dV q.2 = some v ∧ RelV v u
  xs : ∀ q ∈ xs, ExcOk K mg (xa q.1) q.2
theorem Room.un200 {k : Nat} {A : Around} (r : Room k A) : True := trivial
/-- a def keeps its promise -/
theorem fnok_of {P : Program} {w : World} {K : PySem.W.Frag} {mg : Str → Option Value} {base : Heap} {xa : Nat → Addr} {xf : Nat → Str} {lv : Nat} {G : Nat → Fn} {m : MC} {c : CS} {x qual : Str} {params : Arguments} {body : List Stmt} {dvs : List V} {kws : List (Str × V)} {f : Addr} {fd : FuncData} {ps : List Str}
    (FD : FunD K x qual params body m.sc dvs kws f fd) (S : FnScope m.N ps m.sc) (MO : ModOk P w K mg base xa xf m.cs m.xs) (hc : mSs m c body = true)
    (hfs : ∀ g ∈ m.fs, ∃ n, (∀ ds M, ds.length ≠ n → G g ds M = .stuck) ∧ FnD P w K mg base xa xf lv (m.fn g) n (m.bk g) (G g)) :
    FnOk P w K mg base (L2.CX P w) (lv + 1) f fd ps (SpD K xa xf ps.length (runDef G m.N.length ps.length c)) := by
  refine FD.ok S (fun vs H Q E h => h.1) (fun cdv A outer s H vs Q E hr h => ?_)
  obtain ⟨hl, F, ds, M, hK, hxa, hxf, hH, hrep, hmr, hdom, hG⟩ := h
  subst hK hxa hxf hH
  let X : Cx := cxOf (L2.CX P w) P w F.K mg base m.N qual m.sc f cdv A outer s F.H0 E
  have hpl : ps.length ≤ m.N.length := by have := congrArg List.length S.pre; rw [List.length_take] at this; omega
  have g : XS X m F (fun cls d _ H => E cls d H) G lv :=
    { N := rfl, sc := rfl, calm := rfl, nd := S.nd, tk := takes_of rfl rfl rfl rfl, room := hr, K := rfl, blt := MO.blt, cs := MO.cs, xs := MO.xs, fs := hfs, kind := S.kind, own := passes_of rfl,
      st := ⟨fun y h => (by
        unfold stB at h
        split at h
        · rename_i q; exact Or.inl q
        · rename_i q; exact Or.inr q
        · cases h), fun y h => Or.inl rfl⟩ }
  refine ⟨_, (snds_all g c).ss body hc, ?_⟩
  have hdl : ds.length = ps.length := by rw [hrep.length, hl]
  refine ⟨F.μ0, noOa, _, M, Rl.start hrep hmr hdom (by rw [hl]; exact hpl), ?_⟩
  have e0 : ds.map Sl.fz ++ List.replicate (m.N.length - vs.length) Sl.no = ds.map Sl.fz ++ List.replicate (m.N.length - ps.length) .no := by rw [hl]
  unfold runDef at hG
  rw [if_pos hdl] at hG
  rw [e0]
  cases e : exec G c (ds.map Sl.fz ++ List.replicate (m.N.length - ps.length) .no) M with
  | stuck => rw [e] at hG; exact hG
  | brk _ _ => rw [e] at hG; exact hG.elim
  | cont _ _ => rw [e] at hG; exact hG.elim
  | next ds' M' => rw [e] at hG; exact fun μ oa σ H r z => hG .non μ H r.evE r.mrN r.domN rfl
  | ret v M' => rw [e] at hG; exact fun μ oa ds σ H x r rv => hG x μ H r.evE r.mrN r.domN (rv.noOa r)
  | exc x ds' M' => rw [e] at hG; exact fun μ oa σ H c od r hx => hG μ H c od r.evE r.mrN r.domN hx
theorem fnd_of {P : Program} {w : World} {K : PySem.W.Frag} {mg : Str → Option Value} {base : Heap} {xa : Nat → Addr} {xf : Nat → Str} {lv : Nat} {G : Nat → Fn} {m : MC} {c : CS} {x qual : Str} {params : Arguments} {body : List Stmt} {dvs : List V} {kws : List (Str × V)} {f : Addr} {fd : FuncData} {ps : List Str} {bk : BK}
    (FD : FunD K x qual params body m.sc dvs kws f fd) (S : FnScope m.N ps m.sc) (MO : ModOk P w K mg base xa xf m.cs m.xs) (hm : mg x = some (.ref f)) (hb : BindOk K fd ps bk) (hc : mSs m c body = true)
    (hfs : ∀ g ∈ m.fs, ∃ n, (∀ ds M, ds.length ≠ n → G g ds M = .stuck) ∧ FnD P w K mg base xa xf lv (m.fn g) n (m.bk g) (G g)) :
    FnD P w K mg base xa xf (lv + 1) x ps.length bk (runDef G m.N.length ps.length c) := ⟨f, fd, ps, rfl, fnok_of FD S MO hc hfs, hm, FD.kp, hb⟩
/-- a def of which nothing is asked -/
def noF : Fn := fun _ _ => .stuck
theorem fnd_no {P : Program} {w : World} {K : PySem.W.Frag} {mg : Str → Option Value} {base : Heap} {xa : Nat → Addr} {xf : Nat → Str} {lv : Nat} {x qual : Str} {params : Arguments} {body : List Stmt} {sc : Scope} {dvs : List V} {kws : List (Str × V)} {f : Addr} {fd : FuncData} {ps : List Str} {bk : BK}
    (FD : FunD K x qual params body sc dvs kws f fd) (hm : mg x = some (.ref f)) (hb : BindOk K fd ps bk) : FnD P w K mg base xa xf lv x ps.length bk noF :=
  ⟨f, fd, ps, rfl, ⟨fun vs H Q E ⟨_, _, _, _, _, _, _, _, _, _, _, z⟩ => z.elim, fun A outer s H args us vs Q E _ _ _ _ ⟨_, _, _, _, _, _, _, _, _, _, _, z⟩ => z.elim⟩, hm, FD.kp, hb⟩
theorem noF_len {n : Nat} : ∀ ds M, ds.length ≠ n → noF ds M = .stuck := fun _ _ _ => rfl
theorem FnD.up {P : Program} {w : World} {K : PySem.W.Frag} {mg : Str → Option Value} {base : Heap} {xa : Nat → Addr} {xf : Nat → Str} {lv lv' : Nat} {x : Str} {n : Nat} {bk : BK} {G : Fn} (h : FnD P w K mg base xa xf lv x n bk G) (hl : lv ≤ lv') : FnD P w K mg base xa xf lv' x n bk G := by
  obtain ⟨f, fd, ps, h1, h2, h3⟩ := h.ex
  exact ⟨f, fd, ps, h1, h2.mono hl, h3⟩
theorem runDef_len {G : Nat → Fn} {n ps : Nat} {c : CS} : ∀ ds M, ds.length ≠ ps → runDef G n ps c ds M = .stuck := fun ds M h => by
  unfold runDef
  rw [if_neg h]
theorem cx_no {P : Program} {w : World} {outer : List Env} {H : Hp} {s : Shared} {e : Value} {s' : Shared} (h : L2.CX P w outer H s (fun _ _ _ => False) e s') : False := by
  obtain ⟨_, _, _, _, _, _, _, _, _, _, _, _, z⟩ := h
  exact z.elim
theorem fn_cx0 {P : Program} {w : World} {K : PySem.W.Frag} {mg : Str → Option Value} {base : Heap} {k : Nat} {f : Addr} {fd : FuncData} {ps : List Str} {sp : Sp} (F : FnOk P w K mg base (L2.CX P w) k f fd ps sp) :
    FnOk P w K mg base L2.CX0 k f fd ps (fun vs H Q _ => sp vs H Q fun _ _ _ => False) :=
  ⟨fun vs H Q E h => F.len vs H Q _ h, fun A outer s H args us vs Q E hr he hb hv hs => codeAny_mono (F.run A outer s H args us vs Q (fun _ _ _ => False) hr he hb hv hs) fun r s' h => by
    cases r with
    | error e => exact (cx_no h).elim
    | ok fl => cases fl <;> exact h⟩
/-- the law's end -/
theorem law_end {P : Program} {w : World} {K : PySem.W.Frag} {mg : Str → Option Value} {h : Heap} {xa : Nat → Addr} {xf : Nat → Str} {lv n : Nat} {f : Addr} {fd : FuncData} {x : Str} {G : Fn} (KX : K.In h) (hb : BindOk K fd [x] .pos)
    (hF : ∀ base : Heap, K.In base → base.Ns mainGlobals mg → FnOk P w K mg base (L2.CX P w) lv f fd [x] (SpD K xa xf 1 G)) (math : ∀ ns : List Int, ns.length ≤ n → ∃ k M, G [.scr ns] [] = .ok (.bl true, k) M) :
    ∃ (K : PySem.W.Frag) (fd : FuncData) (sp : Sp), K.In h ∧ (∀ (s : Shared) (u : Value), BindsTo s fd ⟨[u], []⟩ [(x, u)]) ∧
        (∀ (H : Hp) (a : Addr) (ns : List Int), ns.length ≤ n → Only H → SqL K H a (ns.map V.int) → sp [.ref a] H (fun v _ => v = .bl true) fun _ _ _ => False) ∧
        ∀ base : Heap, K.In base → base.Ns mainGlobals mg → FnOk P w K mg base L2.CX0 lv f fd [x] sp := by
  refine ⟨K, fd, _, KX, fun s u => hb s [u] rfl, fun H a ns hl _ hS => ⟨rfl, ⟨K, fun _ => False, H, [], xa, xf⟩, [.scr ns], [], rfl, rfl, rfl, rfl, ?_, ?_, ?_, ?_⟩, fun base k1 k2 => fn_cx0 (hF base k1 k2)⟩
  · refine ⟨.ref a, [], rfl, ⟨a, rfl, ?_⟩, rfl⟩
    rcases hS with hS | hS
    · refine .inl ⟨?_, hS⟩
      rintro (n | n | ⟨i, n⟩)
      · exact n
      · cases n
      · cases n
    · exact .inr fun H' => .inr hS
  · refine ⟨rfl, List.nodup_nil, fun b hb => (by cases hb), fun n b xs h1 _ => ?_⟩
    have h1 : ([] : List Addr)[n]? = some b := h1
    simp at h1
  · rintro b (n | n | ⟨i, n⟩)
    · exact n.elim
    · cases n
    · cases n
  · obtain ⟨k, M, e⟩ := math ns hl
    rw [e]
    intro x μ' H' ev m d r
    cases k with
    | fz => exact r
    | fr => obtain ⟨a, _, _, _, h, _⟩ := r; exact h.elim
    | bo => obtain ⟨a, _, _, h⟩ := r; exact h.elim
end PL
end
section
set_option linter.all false
set_option maxRecDepth 100000
set_option maxHeartbeats 0
set_option autoImplicit false
namespace LW
open PL
open PySem (Str)
/-- a def's name -/
def fnName : Nat → Str
  | 0 => "is_integer"
  | 1 => "is_plate"
  | 2 => "is_line"
  | 3 => "are_lines"
  | 4 => "is_content"
  | 5 => "breaks_of"
  | 6 => "is_layout_of"
  | 7 => "need_content"
  | 8 => "is_layout"
  | 9 => "_law_bag"
  | 10 => "_law_take"
  | 11 => "_law_of"
  | 12 => "_law_line"
  | 13 => "_law_content"
  | 14 => "_law_breaks"
  | 15 => "_law_any_value"
  | 16 => "_law_spoiled"
  | 17 => "_law_whole"
  | 18 => "_law_is_line"
  | 19 => "_law_is_content"
  | 20 => "_law_is_layout"
  | 21 => "_law_truly"
  | 22 => "law"
  | 23 => "need_layout"
  | 24 => "need_size"
  | 25 => "stretch"
  | 26 => "columns_in"
  | 27 => "heights_in"
  | 28 => "breaks"
  | 29 => "plates"
  | 30 => "columns_of"
  | 31 => "heights"
  | 32 => "_law_high"
  | 33 => "_law_columns"
  | 34 => "law"
  | 35 => "stops_of"
  | 36 => "need_columns"
  | 37 => "all_stretches"
  | 38 => "least_from"
  | 39 => "need_of"
  | 40 => "first_layout"
  | 41 => "need"
  | 42 => "least_layout"
  | 43 => "_law_top"
  | 44 => "_law_layouts"
  | 45 => "_law_need"
  | 46 => "law"
  | 47 => "value_at"
  | 48 => "ends"
  | 49 => "leaves"
  | 50 => "normal"
  | 51 => "joint"
  | 52 => "crossing"
  | 53 => "greater"
  | 54 => "flipped"
  | 55 => "lesser"
  | 56 => "curve_of"
  | 57 => "need_curve"
  | 58 => "_law_value"
  | 59 => "_law_normal"
  | 60 => "_law_sizes"
  | 61 => "_law_rows"
  | 62 => "_law_least"
  | 63 => "law"
  | 64 => "need_height"
  | 65 => "first_above"
  | 66 => "first_size"
  | 67 => "law"
  | 68 => "spread_end"
  | 69 => "spread_step"
  | 70 => "spread_of"
  | 71 => "spread_curve"
  | 72 => "_law_deals"
  | 73 => "_law_spread"
  | 74 => "law"
  | 75 => "height_of"
  | 76 => "begin_behind"
  | 77 => "bar"
  | 78 => "is_bar"
  | 79 => "_law_is_bar"
  | 80 => "law"
  | 81 => "law"
  | 82 => "filled_so"
  | 83 => "number_so"
  | 84 => "filled"
  | 85 => "columns_needed"
  | 86 => "_law_fill"
  | 87 => "law"
  | 88 => "turning_sizes"
  | 89 => "column_steps"
  | 90 => "_law_number"
  | 91 => "law"
  | 92 => "counted"
  | 93 => "count_layouts"
  | 94 => "law"
  | 95 => "need_without"
  | 96 => "fewest_columns"
  | 97 => "is_possible"
  | 98 => "sure_breaks"
  | 99 => "possible_breaks"
  | 100 => "law"
  | 101 => "layouts_of"
  | 102 => "layouts_from"
  | 103 => "most_even"
  | 104 => "law"
  | 105 => "equal_ranges"
  | 106 => "touching"
  | 107 => "layout_curve"
  | 108 => "least_sizes"
  | 109 => "_law_is_in"
  | 110 => "_law_ranges"
  | 111 => "law"
  | 112 => "marks_of"
  | 113 => "holds"
  | 114 => "cover"
  | 115 => "some_layouts"
  | 116 => "templates"
  | 117 => "_law_chosen"
  | 118 => "law"
  | 119 => "first_unlike"
  | 120 => "need_three"
  | 121 => "alike"
  | 122 => "parting_size"
  | 123 => "higher_size"
  | 124 => "_law_turned"
  | 125 => "_law_varied"
  | 126 => "law"
  | 127 => "turned_lines"
  | 128 => "turned"
  | 129 => "joined"
  | 130 => "_law_joined"
  | 131 => "_law_refuses"
  | 132 => "law"
  | 133 => "untied"
  | 134 => "loose_ties"
  | 135 => "_law_untied"
  | 136 => "law"
  | 137 => "enough_columns"
  | 138 => "law"
  | 139 => "edited_so"
  | 140 => "edited"
  | 141 => "_law_error_name"
  | 142 => "_law_due"
  | 143 => "_law_told"
  | 144 => "law"
  | 145 => "old_indices"
  | 146 => "is_old"
  | 147 => "anew_from"
  | 148 => "first_anew"
  | 149 => "laid_anew"
  | 150 => "_law_old"
  | 151 => "law"
  | 152 => "held_and_not"
  | 153 => "heights_told"
  | 154 => "law"
  | 155 => "need_sightings"
  | 156 => "narrowed"
  | 157 => "sizes_told"
  | 158 => "law"
  | 159 => "need_index"
  | 160 => "line_told"
  | 161 => "_law_with"
  | 162 => "law"
  | 163 => "_law_smaller"
  | 164 => "_law_most_in_a_column"
  | 165 => "law"
  | 166 => "added"
  | 167 => "has_value"
  | 168 => "pieces_of"
  | 169 => "_law_refuses"
  | 170 => "_law_no_height"
  | 171 => "law"
  | 172 => "_law_values"
  | 173 => "_law_compared"
  | 174 => "_law_due"
  | 175 => "_law_rules"
  | 176 => "law"
  | 177 => "need_rows"
  | 178 => "resized"
  | 179 => "put_all"
  | 180 => "seen_with"
  | 181 => "_law_after"
  | 182 => "_law_best"
  | 183 => "_law_stands"
  | 184 => "_law_do"
  | 185 => "_law_put"
  | 186 => "_law_deed"
  | 187 => "law"
  | 188 => "_law_all"
  | 189 => "_law_drawn_rows"
  | 190 => "law"
  | 191 => "_law_told"
  | 192 => "_law_made"
  | 193 => "_law_strings"
  | 194 => "_law_values_right"
  | 195 => "law"
  | 196 => "line_text"
  | 197 => "number_of"
  | 198 => "line_of"
  | 199 => "rule_of"
  | 200 => "content_text"
  | 201 => "read_content"
  | 202 => "law"
  | 203 => "_law_number"
  | 204 => "_law_read"
  | 205 => "_law_told"
  | 206 => "_law_bent"
  | 207 => "law"
  | 208 => "greatest_gap"
  | 209 => "need_range"
  | 210 => "excess"
  | 211 => "steadiest"
  | 212 => "_law_one"
  | 213 => "_law_two"
  | 214 => "_law_error"
  | 215 => "_law_orders"
  | 216 => "_law_values"
  | 217 => "law"
  | 218 => "_law_lists"
  | 219 => "_law_spoil"
  | 220 => "law"
  | 221 => "_law_times"
  | 222 => "_law_same"
  | 223 => "_law_held_same"
  | 224 => "law"
  | 225 => "_law_excess"
  | 226 => "law"
  | 227 => "_wall"
  | 228 => "_law_content_so"
  | 229 => "_law_needs"
  | 230 => "_law_fillings"
  | 231 => "_law_ranges"
  | 232 => "_law_values"
  | 233 => "law"
  | _ => ""
/-- how a def is called -/
def bkOf : Nat → BK
  | 31 => .kw "size" (.int 0)
  | 41 => .kw "size" (.int 0)
  | 42 => .kw "size" (.int 0)
  | 77 => .kw "size" (.int 0)
  | 78 => .kw "size" (.int 0)
  | 84 => .kw "size" (.int 0)
  | 85 => .kw "size" (.int 0)
  | 93 => .kw "size" (.int 0)
  | 98 => .kw "size" (.int 0)
  | 99 => .kw "size" (.int 0)
  | 103 => .kw "size" (.int 0)
  | 149 => .kw "size" (.int 0)
  | 153 => .kw "size" (.int 0)
  | 160 => .kw "size" (.int 0)
  | _ => .pos
def c_is_integer : CS := (.cons (.ife (.or (.acons (.not (.bi (.isi [.int]) (.acons (.var 0) .anil))) (.acons (.bi (.isi [.bool]) (.acons (.var 0) .anil)) .anil))) (.cons (.ret (.lit (.bl false))) .nil) .nil) (.cons (.ret (.and (.acons (.cmp .le (.var 1) (.var 0)) (.acons (.or (.acons (.cmp .is (.var 2) (.lit .non)) (.acons (.cmp .le (.var 0) (.var 2)) .anil))) .anil)))) .nil))
def g_is_integer : Nat → Fn
  | _ => noF
def f_is_integer : Fn := runDef g_is_integer 3 3 c_is_integer
def c_is_plate : CS := (.cons (.ret (.bi (.isi [.str]) (.acons (.idx (.var 0) (.lit (.int 0))) .anil))) .nil)
def g_is_plate : Nat → Fn
  | _ => noF
def f_is_plate : Fn := runDef g_is_plate 1 1 c_is_plate
def c_is_line : CS := (.cons (.ife (.or (.acons (.not (.bi (.isi [.tuple]) (.acons (.var 0) .anil))) (.acons (.cmp .ne (.bi .len (.acons (.var 0) .anil)) (.lit (.int 4))) .anil))) (.cons (.ret (.lit (.bl false))) .nil) .nil) (.cons (.unp (.tp (.cons (.nm 1) (.cons (.nm 2) (.cons (.nm 3) (.cons (.nm 4) .nil))))) (.var 0)) (.cons (.ife (.bi (.isi [.str]) (.acons (.var 1) .anil)) (.cons (.ife (.cmp .ne (.var 1) (.glob "PLATE" (.str (PySem.Str.ofString "x")))) (.cons (.ret (.lit (.bl false))) .nil) .nil) .nil) (.cons (.ife (.not (.call 0 (.acons (.var 1) (.acons (.lit (.int 1)) (.acons (.lit (.int 1000)) .anil))))) (.cons (.ret (.lit (.bl false))) .nil) .nil) .nil)) (.cons (.ret (.and (.acons (.call 0 (.acons (.var 2) (.acons (.lit (.int 0)) (.acons (.lit (.int 200)) .anil)))) (.acons (.call 0 (.acons (.var 3) (.acons (.lit (.int 0)) (.acons (.lit (.int 500)) .anil)))) (.acons (.bi (.isi [.bool]) (.acons (.var 4) .anil)) .anil))))) .nil))))
def g_is_line : Nat → Fn
  | 0 => f_is_integer
  | _ => noF
@[simp] theorem g_is_line_0 : g_is_line 0 = f_is_integer := PL.nrfl rfl
def f_is_line : Fn := runDef g_is_line 5 1 c_is_line
def c_are_lines : CS := (.cons (.ret (.and (.acons (.bi (.isi [.tuple]) (.acons (.var 0) .anil)) (.acons (.bi .all (.acons (.lc [1] (.nm 1) .seq (.acons (.var 0) .anil) .none (.call 2 (.acons (.var 1) .anil))) .anil)) .anil)))) .nil)
def g_are_lines : Nat → Fn
  | 2 => f_is_line
  | _ => noF
@[simp] theorem g_are_lines_2 : g_are_lines 2 = f_is_line := PL.nrfl rfl
def f_are_lines : Fn := runDef g_are_lines 2 1 c_are_lines
def c_is_content : CS := (.cons (.ife (.or (.acons (.not (.bi (.isi [.tuple]) (.acons (.var 0) .anil))) (.acons (.cmp .ne (.bi .len (.acons (.var 0) .anil)) (.lit (.int 2))) (.acons (.not (.call 0 (.acons (.idx (.var 0) (.lit (.int 0))) (.acons (.lit (.int 0)) (.acons (.lit (.int 100)) .anil))))) .anil)))) (.cons (.ret (.lit (.bl false))) .nil) .nil) (.cons (.ife (.or (.acons (.not (.call 3 (.acons (.idx (.var 0) (.lit (.int 1))) .anil))) (.acons (.not (.chain .le .le (.lit (.int 1)) (.bi .len (.acons (.idx (.var 0) (.lit (.int 1))) .anil)) (.glob "MOST_LINES" (.int 16)))) .anil))) (.cons (.ret (.lit (.bl false))) .nil) .nil) (.cons (.ret (.and (.acons (.not (.idx (.idx (.idx (.var 0) (.lit (.int 1))) (.neg (.lit (.int 1)))) (.lit (.int 3)))) (.acons (.cmp .le (.bi .len (.acons (.lc [1] (.nm 1) .seq (.acons (.idx (.var 0) (.lit (.int 1))) .anil) (.acons (.call 1 (.acons (.var 1) .anil)) .anil) (.var 1)) .anil)) (.glob "MOST_PLATES" (.int 4))) .anil)))) .nil)))
def g_is_content : Nat → Fn
  | 0 => f_is_integer
  | 1 => f_is_plate
  | 3 => f_are_lines
  | _ => noF
@[simp] theorem g_is_content_0 : g_is_content 0 = f_is_integer := PL.nrfl rfl
@[simp] theorem g_is_content_1 : g_is_content 1 = f_is_plate := PL.nrfl rfl
@[simp] theorem g_is_content_3 : g_is_content 3 = f_are_lines := PL.nrfl rfl
def f_is_content : Fn := runDef g_is_content 2 1 c_is_content
def c_breaks_of : CS := (.cons (.ret (.lc [1] (.nm 1) .rng2 (.acons (.lit (.int 1)) (.acons (.bi .len (.acons (.var 0) .anil)) .anil)) (.acons (.not (.idx (.idx (.var 0) (.bin .sub (.var 1) (.lit (.int 1)))) (.lit (.int 3)))) .anil) (.var 1))) .nil)
def g_breaks_of : Nat → Fn
  | _ => noF
def f_breaks_of : Fn := runDef g_breaks_of 2 1 c_breaks_of
def c_is_layout_of : CS := (.cons (.ife (.not (.bi (.isi [.tuple]) (.acons (.var 1) .anil))) (.cons (.ret (.lit (.bl false))) .nil) .nil) (.cons (.set 2 (.call 5 (.acons (.var 0) .anil))) (.frz 2 (.cons (.ife (.not (.bi .all (.acons (.lc [3] (.nm 3) .seq (.acons (.var 1) .anil) .none (.and (.acons (.call 0 (.acons (.var 3) (.acons (.lit (.int 1)) (.acons (.lit .non) .anil)))) (.acons (.cmp .mem (.var 3) (.var 2)) .anil)))) .anil))) (.cons (.ret (.lit (.bl false))) .nil) .nil) (.cons (.ret (.bi .all (.acons (.lc [4, 5] (.tp (.cons (.nm 4) (.cons (.nm 5) .nil))) .zip (.acons (.var 1) (.acons (.slc (.var 1) (.lit (.int 1)) .none) .anil)) .none (.cmp .lt (.var 4) (.var 5))) .anil))) .nil)))))
def g_is_layout_of : Nat → Fn
  | 0 => f_is_integer
  | 5 => f_breaks_of
  | _ => noF
@[simp] theorem g_is_layout_of_0 : g_is_layout_of 0 = f_is_integer := PL.nrfl rfl
@[simp] theorem g_is_layout_of_5 : g_is_layout_of 5 = f_breaks_of := PL.nrfl rfl
def f_is_layout_of : Fn := runDef g_is_layout_of 6 2 c_is_layout_of
def c_need_content : CS := (.cons (.ife (.not (.call 4 (.acons (.var 0) .anil))) (.cons (.raise 1 "InvalidContent" "") .nil) .nil) .nil)
def g_need_content : Nat → Fn
  | 4 => f_is_content
  | _ => noF
@[simp] theorem g_need_content_4 : g_need_content 4 = f_is_content := PL.nrfl rfl
def f_need_content : Fn := runDef g_need_content 1 1 c_need_content
def c_is_layout : CS := (.cons (.expr (.call 7 (.acons (.var 0) .anil))) (.cons (.ret (.call 6 (.acons (.idx (.var 0) (.lit (.int 1))) (.acons (.var 1) .anil)))) .nil))
def g_is_layout : Nat → Fn
  | 6 => f_is_layout_of
  | 7 => f_need_content
  | _ => noF
@[simp] theorem g_is_layout_6 : g_is_layout 6 = f_is_layout_of := PL.nrfl rfl
@[simp] theorem g_is_layout_7 : g_is_layout 7 = f_need_content := PL.nrfl rfl
def f_is_layout : Fn := runDef g_is_layout 2 2 c_is_layout
def c__law_bag : CS := (.cons (.set 2 (.lit (.int 0))) (.frz 2 (.cons (.ife (.cmp .lt (.var 1) (.bi .len (.acons (.var 0) .anil))) (.cons (.set 2 (.bin .mod (.bi .int (.acons (.idx (.var 0) (.var 1)) .anil)) (.bin .pow (.lit (.int 10)) (.lit (.int 60))))) (.frz 2 .nil)) .nil) (.cons (.set 3 (.bin .add (.bin .mul (.bin .mod (.bi .int (.acons (.var 2) .anil)) (.lit (.int 2147483629))) (.lit (.int 16807))) (.bin .mul (.bin .mul (.lit (.int 40009)) (.var 1)) (.var 1)))) (.frz 3 (.cons (.set 4 (.bin .add (.lit (.int 1)) (.bin .mod (.bi .int (.acons (.bin .add (.bin .add (.var 3) (.bin .mul (.lit (.int 7919)) (.var 1))) (.lit (.int 1009))) .anil)) (.lit (.int 2147483645))))) (.frz 4 (.cons (.ife (.cmp .lt (.var 2) (.bin .pow (.lit (.int 10)) (.lit (.int 18)))) (.cons (.ret (.cell (.lst (.acons (.lit (.int 0)) (.acons (.var 4) .anil))))) .nil) .nil) (.cons (.ret (.cell (.lst (.acons (.var 2) (.acons (.var 4) .anil))))) .nil)))))))))
def g__law_bag : Nat → Fn
  | _ => noF
def f__law_bag : Fn := runDef g__law_bag 5 2 c__law_bag
def c__law_take : CS := (.cons (.ife (.cmp .gt (.idx (.var 0) (.lit (.int 0))) (.lit (.int 0))) (.cons (.set 2 (.bin .mod (.bi .int (.acons (.idx (.var 0) (.lit (.int 0))) .anil)) (.var 1))) (.frz 2 (.cons (.seti 0 (.lit (.int 0)) (.bin .fdiv (.bi .int (.acons (.idx (.var 0) (.lit (.int 0))) .anil)) (.var 1))) (.cons (.retV 2) .nil)))) .nil) (.cons (.seti 0 (.lit (.int 1)) (.bin .mod (.bi .int (.acons (.bin .mul (.idx (.var 0) (.lit (.int 1))) (.lit (.int 48271))) .anil)) (.lit (.int 2147483647)))) (.cons (.set 3 (.bin .mul (.bin .fdiv (.bi .int (.acons (.idx (.var 0) (.lit (.int 1))) .anil)) (.lit (.int 13))) (.bin .add (.bin .mod (.bi .int (.acons (.idx (.var 0) (.lit (.int 1))) .anil)) (.lit (.int 32749))) (.lit (.int 17))))) (.frz 3 (.cons (.ret (.bin .mod (.bi .int (.acons (.bin .fdiv (.bin .mod (.bi .int (.acons (.var 3) .anil)) (.lit (.int 2147483629))) (.lit (.int 32))) .anil)) (.var 1))) .nil)))))
def g__law_take : Nat → Fn
  | _ => noF
def f__law_take : Fn := runDef g__law_take 4 2 c__law_take
def c__law_of : CS := (.cons (.ret (.idx (.var 1) (.call 10 (.acons (.var 0) (.acons (.bi .len (.acons (.var 1) .anil)) .anil))))) .nil)
def g__law_of : Nat → Fn
  | 10 => f__law_take
  | _ => noF
@[simp] theorem g__law_of_10 : g__law_of 10 = f__law_take := PL.nrfl rfl
def f__law_of : Fn := runDef g__law_of 2 2 c__law_of
def c__law_line : CS := (.cons (.set 3 (.bin .add (.lit (.int 1)) (.call 10 (.acons (.var 0) (.acons (.var 1) .anil))))) (.frz 3 (.cons (.ife (.and (.acons (.var 2) (.acons (.cmp .eq (.call 10 (.acons (.var 0) (.acons (.lit (.int 3)) .anil))) (.lit (.int 0))) .anil))) (.cons (.set 3 (.lit (.str (PySem.Str.ofString "x")))) (.frz 3 .nil)) .nil) (.cons (.set 4 (.call 11 (.acons (.var 0) (.acons (.lst (.acons (.lit (.int 0)) (.acons (.lit (.int 0)) (.acons (.lit (.int 1)) (.acons (.lit (.int 3)) (.acons (.call 10 (.acons (.var 0) (.acons (.lit (.int 12)) .anil))) .anil)))))) .anil)))) (.frz 4 (.cons (.set 5 (.call 11 (.acons (.var 0) (.acons (.lst (.acons (.lit (.int 0)) (.acons (.lit (.int 0)) (.acons (.lit (.int 0)) (.acons (.lit (.int 2)) (.acons (.lit (.int 5)) (.acons (.call 10 (.acons (.var 0) (.acons (.lit (.int 14)) .anil))) .anil))))))) .anil)))) (.frz 5 (.cons (.ret (.tup (.acons (.var 3) (.acons (.var 4) (.acons (.var 5) (.acons (.cmp .eq (.call 10 (.acons (.var 0) (.acons (.lit (.int 4)) .anil))) (.lit (.int 0))) .anil)))))) .nil))))))))
def g__law_line : Nat → Fn
  | 10 => f__law_take
  | 11 => f__law_of
  | _ => noF
@[simp] theorem g__law_line_10 : g__law_line 10 = f__law_take := PL.nrfl rfl
@[simp] theorem g__law_line_11 : g__law_line 11 = f__law_of := PL.nrfl rfl
def f__law_line : Fn := runDef g__law_line 6 3 c__law_line
def b__law_content_0 : CS := (.cons (.set 7 (.cmp .lt (.bi .len (.acons (.lc [8] (.nm 8) .seq (.acons (.var 4) .anil) (.acons (.cmp .eq (.idx (.var 8) (.lit (.int 0))) (.lit (.str (PySem.Str.ofString "x")))) .anil) (.var 8)) .anil)) (.lit (.int 4)))) (.frz 7 (.cons (.app 4 (.call 12 (.acons (.var 0) (.acons (.var 3) (.acons (.var 7) .anil))))) .nil)))
def c__law_content : CS := (.cons (.par 4 5 (.lst .anil) (.bin .add (.var 1) (.call 10 (.acons (.var 0) (.acons (.bin .add (.bin .sub (.var 2) (.var 1)) (.lit (.int 1))) .anil))))) (.frz 5 (.cons (.for [6, 7] (.nm 6) .rng1 (.acons (.var 5) .anil) b__law_content_0) (.cons (.set 9 (.idx (.var 4) (.neg (.lit (.int 1))))) (.frz 9 (.cons (.seti 4 (.neg (.lit (.int 1))) (.tup (.acons (.idx (.var 9) (.lit (.int 0))) (.acons (.idx (.var 9) (.lit (.int 1))) (.acons (.idx (.var 9) (.lit (.int 2))) (.acons (.lit (.bl false)) .anil)))))) (.cons (.ret (.tup (.acons (.call 11 (.acons (.var 0) (.acons (.lst (.acons (.lit (.int 0)) (.acons (.lit (.int 1)) (.acons (.lit (.int 3)) (.acons (.call 10 (.acons (.var 0) (.acons (.lit (.int 9)) .anil))) .anil))))) .anil))) (.acons (.bi .tuple (.acons (.var 4) .anil)) .anil)))) .nil)))))))
def g__law_content : Nat → Fn
  | 10 => f__law_take
  | 11 => f__law_of
  | 12 => f__law_line
  | _ => noF
@[simp] theorem g__law_content_10 : g__law_content 10 = f__law_take := PL.nrfl rfl
@[simp] theorem g__law_content_11 : g__law_content 11 = f__law_of := PL.nrfl rfl
@[simp] theorem g__law_content_12 : g__law_content 12 = f__law_line := PL.nrfl rfl
def f__law_content : Fn := runDef g__law_content 10 4 c__law_content
def c__law_breaks : CS := (.cons (.set 1 (.idx (.var 0) (.lit (.int 1)))) (.frz 1 (.cons (.ret (.lc [2] (.nm 2) .rng2 (.acons (.lit (.int 1)) (.acons (.bi .len (.acons (.var 1) .anil)) .anil)) (.acons (.not (.idx (.idx (.var 1) (.bin .sub (.var 2) (.lit (.int 1)))) (.lit (.int 3)))) .anil) (.var 2))) .nil)))
def g__law_breaks : Nat → Fn
  | _ => noF
def f__law_breaks : Fn := runDef g__law_breaks 3 1 c__law_breaks
def c__law_any_value : CS := (.cons (.set 2 (.call 10 (.acons (.var 0) (.acons (.lit (.int 9)) .anil)))) (.frz 2 (.cons (.ife (.or (.acons (.cmp .lt (.var 2) (.lit (.int 6))) (.acons (.cmp .eq (.var 1) (.lit (.int 0))) .anil))) (.cons (.ret (.call 11 (.acons (.var 0) (.acons (.lst (.acons (.lit (.int 0)) (.acons (.neg (.lit (.int 1))) (.acons (.lit (.int 1)) (.acons (.lit (.bl true)) (.acons (.lit (.bl false)) (.acons (.lit .non) (.acons (.lit (.str (PySem.Str.ofString ""))) (.acons (.lit (.str (PySem.Str.ofString "x"))) (.acons (.lit (.str (PySem.Str.ofString "y"))) (.acons (.lit (.str (PySem.Str.ofString "rule 2"))) (.acons (.lit (.int 3)) (.acons (.lit (.int 1001)) (.acons (.bin .pow (.lit (.int 10)) (.lit (.int 30))) (.acons (.tup .anil) (.acons (.lst .anil) (.acons (.tup (.acons (.lit (.int 0)) (.acons (.lit (.int 1)) .anil))) .anil))))))))))))))))) .anil)))) .nil) .nil) (.cons (.set 3 (.lc [4] (.nm 4) .rng1 (.acons (.call 10 (.acons (.var 0) (.acons (.lit (.int 5)) .anil))) .anil) .none (.call 15 (.acons (.var 0) (.acons (.bin .sub (.var 1) (.lit (.int 1))) .anil))))) (.frz 3 (.cons (.ret (.idx (.lst (.acons (.var 3) (.acons (.bi .tuple (.acons (.var 3) .anil)) (.acons (.bi .tuple (.acons (.var 3) .anil)) .anil)))) (.bin .sub (.var 2) (.lit (.int 6))))) .nil))))))
def g__law_any_value (self : Fn) : Nat → Fn
  | 10 => f__law_take
  | 11 => f__law_of
  | 15 => self
  | _ => noF
@[simp] theorem g__law_any_value_10 (self : Fn) : g__law_any_value self 10 = f__law_take := PL.nrfl rfl
@[simp] theorem g__law_any_value_11 (self : Fn) : g__law_any_value self 11 = f__law_of := PL.nrfl rfl
@[simp] theorem g__law_any_value_15 (self : Fn) : g__law_any_value self 15 = self := PL.nrfl rfl
def f__law_any_value : Nat → Fn
  | 0 => noF
  | n + 1 => runDef (g__law_any_value (f__law_any_value n)) 5 2 c__law_any_value
def c__law_spoiled : CS := (.cons (.ife (.or (.acons (.not (.bi (.isi [.list, .tuple]) (.acons (.var 1) .anil))) (.acons (.cmp .eq (.bi .len (.acons (.var 1) .anil)) (.lit (.int 0))) (.acons (.cmp .eq (.call 10 (.acons (.var 0) (.acons (.lit (.int 5)) .anil))) (.lit (.int 0))) .anil)))) (.cons (.ret (.call 15 (.acons (.var 0) (.acons (.lit (.int 2)) .anil)))) .nil) .nil) (.cons (.par 2 3 (.bi .list (.acons (.var 1) .anil)) (.call 10 (.acons (.var 0) (.acons (.bi .len (.acons (.var 1) .anil)) .anil)))) (.frz 3 (.cons (.set 4 (.call 10 (.acons (.var 0) (.acons (.lit (.int 6)) .anil)))) (.frz 4 (.cons (.ife (.cmp .lt (.var 4) (.lit (.int 3))) (.cons (.seti 2 (.var 3) (.call 16 (.acons (.var 0) (.acons (.idx (.var 2) (.var 3)) .anil)))) .nil) (.cons (.ife (.cmp .eq (.var 4) (.lit (.int 3))) (.cons (.set 2 (.bin .add (.slc (.var 2) .none (.var 3)) (.slc (.var 2) (.bin .add (.var 3) (.lit (.int 1))) .none))) .nil) (.cons (.ife (.cmp .eq (.var 4) (.lit (.int 4))) (.cons (.set 2 (.bin .add (.bin .add (.slc (.var 2) .none (.var 3)) (.lst (.acons (.idx (.var 2) (.var 3)) .anil))) (.slc (.var 2) (.var 3) .none))) .nil) (.cons (.ret (.ife (.bi (.isi [.tuple]) (.acons (.var 1) .anil)) (.bi .list (.acons (.var 1) .anil)) (.bi .tuple (.acons (.var 1) .anil)))) .nil)) .nil)) .nil)) (.frz 2 (.cons (.ret (.ife (.bi (.isi [.tuple]) (.acons (.var 1) .anil)) (.bi .tuple (.acons (.var 2) .anil)) (.var 2))) .nil))))))))
def g__law_spoiled (self : Fn) : Nat → Fn
  | 10 => f__law_take
  | 15 => f__law_any_value 40
  | 16 => self
  | _ => noF
@[simp] theorem g__law_spoiled_10 (self : Fn) : g__law_spoiled self 10 = f__law_take := PL.nrfl rfl
@[simp] theorem g__law_spoiled_15 (self : Fn) : g__law_spoiled self 15 = f__law_any_value 40 := PL.nrfl rfl
@[simp] theorem g__law_spoiled_16 (self : Fn) : g__law_spoiled self 16 = self := PL.nrfl rfl
def f__law_spoiled : Nat → Fn
  | 0 => noF
  | n + 1 => runDef (g__law_spoiled (f__law_spoiled n)) 5 2 c__law_spoiled
def c__law_whole : CS := (.cons (.ret (.and (.acons (.bi (.isi [.int]) (.acons (.var 0) .anil)) (.acons (.not (.bi (.isi [.bool]) (.acons (.var 0) .anil))) (.acons (.chain .le .le (.var 1) (.var 0) (.var 2)) .anil))))) .nil)
def g__law_whole : Nat → Fn
  | _ => noF
def f__law_whole : Fn := runDef g__law_whole 3 3 c__law_whole
def c__law_is_line : CS := (.cons (.ife (.or (.acons (.not (.bi (.isi [.tuple]) (.acons (.var 0) .anil))) (.acons (.cmp .ne (.bi .len (.acons (.var 0) .anil)) (.lit (.int 4))) .anil))) (.cons (.ret (.lit (.bl false))) .nil) .nil) (.cons (.ife (.and (.acons (.cmp .ne (.idx (.var 0) (.lit (.int 0))) (.lit (.str (PySem.Str.ofString "x")))) (.acons (.not (.call 17 (.acons (.idx (.var 0) (.lit (.int 0))) (.acons (.lit (.int 1)) (.acons (.lit (.int 1000)) .anil))))) .anil))) (.cons (.ret (.lit (.bl false))) .nil) .nil) (.cons (.ret (.and (.acons (.call 17 (.acons (.idx (.var 0) (.lit (.int 1))) (.acons (.lit (.int 0)) (.acons (.lit (.int 200)) .anil)))) (.acons (.call 17 (.acons (.idx (.var 0) (.lit (.int 2))) (.acons (.lit (.int 0)) (.acons (.lit (.int 500)) .anil)))) (.acons (.bi (.isi [.bool]) (.acons (.idx (.var 0) (.lit (.int 3))) .anil)) .anil))))) .nil)))
def g__law_is_line : Nat → Fn
  | 17 => f__law_whole
  | _ => noF
@[simp] theorem g__law_is_line_17 : g__law_is_line 17 = f__law_whole := PL.nrfl rfl
def f__law_is_line : Fn := runDef g__law_is_line 1 1 c__law_is_line
def c__law_is_content : CS := (.cons (.ife (.or (.acons (.not (.bi (.isi [.tuple]) (.acons (.var 0) .anil))) (.acons (.cmp .ne (.bi .len (.acons (.var 0) .anil)) (.lit (.int 2))) (.acons (.not (.call 17 (.acons (.idx (.var 0) (.lit (.int 0))) (.acons (.lit (.int 0)) (.acons (.lit (.int 100)) .anil))))) .anil)))) (.cons (.ret (.lit (.bl false))) .nil) .nil) (.cons (.ife (.or (.acons (.not (.bi (.isi [.tuple]) (.acons (.idx (.var 0) (.lit (.int 1))) .anil))) (.acons (.not (.chain .le .le (.lit (.int 1)) (.bi .len (.acons (.idx (.var 0) (.lit (.int 1))) .anil)) (.lit (.int 16)))) .anil))) (.cons (.ret (.lit (.bl false))) .nil) .nil) (.cons (.ife (.or (.acons (.cmp .ne (.lc [1] (.nm 1) .seq (.acons (.idx (.var 0) (.lit (.int 1))) .anil) (.acons (.not (.call 18 (.acons (.var 1) .anil))) .anil) (.var 1)) (.lst .anil)) (.acons (.idx (.idx (.idx (.var 0) (.lit (.int 1))) (.neg (.lit (.int 1)))) (.lit (.int 3))) .anil))) (.cons (.ret (.lit (.bl false))) .nil) .nil) (.cons (.ret (.cmp .le (.bi .len (.acons (.lc [1] (.nm 1) .seq (.acons (.idx (.var 0) (.lit (.int 1))) .anil) (.acons (.cmp .eq (.idx (.var 1) (.lit (.int 0))) (.lit (.str (PySem.Str.ofString "x")))) .anil) (.var 1)) .anil)) (.lit (.int 4)))) .nil))))
def g__law_is_content : Nat → Fn
  | 17 => f__law_whole
  | 18 => f__law_is_line
  | _ => noF
@[simp] theorem g__law_is_content_17 : g__law_is_content 17 = f__law_whole := PL.nrfl rfl
@[simp] theorem g__law_is_content_18 : g__law_is_content 18 = f__law_is_line := PL.nrfl rfl
def f__law_is_content : Fn := runDef g__law_is_content 2 1 c__law_is_content
def b__law_is_layout_0 : CS := (.cons (.ife (.or (.acons (.not (.call 17 (.acons (.idx (.var 1) (.var 2)) (.acons (.lit (.int 1)) (.acons (.lit (.int 16)) .anil))))) (.acons (.cmp .nmem (.idx (.var 1) (.var 2)) (.call 14 (.acons (.var 0) .anil))) .anil))) (.cons (.ret (.lit (.bl false))) .nil) .nil) (.cons (.ife (.and (.acons (.cmp .gt (.var 2) (.lit (.int 0))) (.acons (.cmp .le (.idx (.var 1) (.var 2)) (.idx (.var 1) (.bin .sub (.var 2) (.lit (.int 1))))) .anil))) (.cons (.ret (.lit (.bl false))) .nil) .nil) .nil))
def c__law_is_layout : CS := (.cons (.ife (.not (.bi (.isi [.tuple]) (.acons (.var 1) .anil))) (.cons (.ret (.lit (.bl false))) .nil) .nil) (.cons (.for [2] (.nm 2) .rng1 (.acons (.bi .len (.acons (.var 1) .anil)) .anil) b__law_is_layout_0) (.cons (.ret (.lit (.bl true))) .nil)))
def g__law_is_layout : Nat → Fn
  | 14 => f__law_breaks
  | 17 => f__law_whole
  | _ => noF
@[simp] theorem g__law_is_layout_14 : g__law_is_layout 14 = f__law_breaks := PL.nrfl rfl
@[simp] theorem g__law_is_layout_17 : g__law_is_layout 17 = f__law_whole := PL.nrfl rfl
def f__law_is_layout : Fn := runDef g__law_is_layout 3 2 c__law_is_layout
def c__law_truly : CS := (.cons (.ret (.and (.acons (.bi (.isi [.bool]) (.acons (.var 0) .anil)) (.acons (.cmp .eq (.var 0) (.var 1)) .anil)))) .nil)
def g__law_truly : Nat → Fn
  | _ => noF
def f__law_truly : Fn := runDef g__law_truly 2 2 c__law_truly
def c_need_layout : CS := (.cons (.ife (.not (.call 6 (.acons (.idx (.var 0) (.lit (.int 1))) (.acons (.var 1) .anil)))) (.cons (.raise 2 "InvalidLayout" "") .nil) .nil) .nil)
def g_need_layout : Nat → Fn
  | 6 => f_is_layout_of
  | _ => noF
@[simp] theorem g_need_layout_6 : g_need_layout 6 = f_is_layout_of := PL.nrfl rfl
def f_need_layout : Fn := runDef g_need_layout 2 2 c_need_layout
def c_need_size : CS := (.cons (.ife (.not (.call 0 (.acons (.var 0) (.acons (.lit (.int 0)) (.acons (.glob "MOST_SIZE" (.int 1000000)) .anil))))) (.cons (.raise 3 "InvalidSize" "") .nil) .nil) .nil)
def g_need_size : Nat → Fn
  | 0 => f_is_integer
  | _ => noF
@[simp] theorem g_need_size_0 : g_need_size 0 = f_is_integer := PL.nrfl rfl
def f_need_size : Fn := runDef g_need_size 1 1 c_need_size
def c_stretch : CS := (.cons (.unp (.tp (.cons (.nm 3) (.cons (.nm 4) .nil))) (.var 0)) (.cons (.set 5 (.slc (.var 4) (.var 1) (.var 2))) (.frz 5 (.cons (.set 6 (.bi .sum (.acons (.lc [7] (.nm 7) .seq (.acons (.var 5) .anil) .none (.idx (.var 7) (.lit (.int 2)))) .anil))) (.frz 6 (.cons (.set 8 (.bin .add (.bin .add (.bi .sum (.acons (.lc [7] (.nm 7) .seq (.acons (.var 5) .anil) (.acons (.not (.call 1 (.acons (.var 7) .anil))) .anil) (.idx (.var 7) (.lit (.int 0)))) .anil)) (.bi .sum (.acons (.lc [7] (.nm 7) .seq (.acons (.slc (.var 5) .none (.neg (.lit (.int 1)))) .anil) .none (.idx (.var 7) (.lit (.int 1)))) .anil))) (.var 6))) (.frz 8 (.cons (.ret (.tup (.acons (.bin .add (.var 8) (.ife (.cmp .gt (.var 6) (.lit (.int 0))) (.var 3) (.lit (.int 0)))) (.acons (.bi .len (.acons (.lc [7] (.nm 7) .seq (.acons (.var 5) .anil) (.acons (.call 1 (.acons (.var 7) .anil)) .anil) (.var 7)) .anil)) .anil)))) .nil))))))))
def g_stretch : Nat → Fn
  | 1 => f_is_plate
  | _ => noF
@[simp] theorem g_stretch_1 : g_stretch 1 = f_is_plate := PL.nrfl rfl
def f_stretch : Fn := runDef g_stretch 9 3 c_stretch
def c_columns_in : CS := (.cons (.set 2 (.bin .add (.bin .add (.tup (.acons (.lit (.int 0)) .anil)) (.var 1)) (.tup (.acons (.bi .len (.acons (.idx (.var 0) (.lit (.int 1))) .anil)) .anil)))) (.frz 2 (.cons (.ret (.lz (.var 2) (.slc (.var 2) (.lit (.int 1)) .none))) .nil)))
def g_columns_in : Nat → Fn
  | _ => noF
def f_columns_in : Fn := runDef g_columns_in 3 2 c_columns_in
def b_heights_in_0 : CS := (.cons (.unp (.tp (.cons (.nm 6) (.cons (.nm 7) .nil))) (.call 25 (.acons (.var 0) (.acons (.var 4) (.acons (.var 5) .anil))))) (.cons (.app 3 (.bin .add (.var 6) (.bin .mul (.var 7) (.var 2)))) .nil))
def c_heights_in : CS := (.cons (.set 3 (.lst .anil)) (.cons (.for [4, 5, 6, 7] (.tp (.cons (.nm 4) (.cons (.nm 5) .nil))) .seq (.acons (.call 26 (.acons (.var 0) (.acons (.var 1) .anil))) .anil) b_heights_in_0) (.cons (.retV 3) .nil)))
def g_heights_in : Nat → Fn
  | 25 => f_stretch
  | 26 => f_columns_in
  | _ => noF
@[simp] theorem g_heights_in_25 : g_heights_in 25 = f_stretch := PL.nrfl rfl
@[simp] theorem g_heights_in_26 : g_heights_in 26 = f_columns_in := PL.nrfl rfl
def f_heights_in : Fn := runDef g_heights_in 8 3 c_heights_in
def c_breaks : CS := (.cons (.expr (.call 7 (.acons (.var 0) .anil))) (.cons (.ret (.call 5 (.acons (.idx (.var 0) (.lit (.int 1))) .anil))) .nil))
def g_breaks : Nat → Fn
  | 5 => f_breaks_of
  | 7 => f_need_content
  | _ => noF
@[simp] theorem g_breaks_5 : g_breaks 5 = f_breaks_of := PL.nrfl rfl
@[simp] theorem g_breaks_7 : g_breaks 7 = f_need_content := PL.nrfl rfl
def f_breaks : Fn := runDef g_breaks 1 1 c_breaks
def c_plates : CS := (.cons (.expr (.call 7 (.acons (.var 0) .anil))) (.cons (.ret (.lc [1, 2] (.tp (.cons (.nm 1) (.cons (.nm 2) .nil))) .enm (.acons (.idx (.var 0) (.lit (.int 1))) .anil) (.acons (.call 1 (.acons (.var 2) .anil)) .anil) (.var 1))) .nil))
def g_plates : Nat → Fn
  | 1 => f_is_plate
  | 7 => f_need_content
  | _ => noF
@[simp] theorem g_plates_1 : g_plates 1 = f_is_plate := PL.nrfl rfl
@[simp] theorem g_plates_7 : g_plates 7 = f_need_content := PL.nrfl rfl
def f_plates : Fn := runDef g_plates 3 1 c_plates
def c_columns_of : CS := (.cons (.expr (.call 7 (.acons (.var 0) .anil))) (.cons (.expr (.call 23 (.acons (.var 0) (.acons (.var 1) .anil)))) (.cons (.ret (.call 26 (.acons (.var 0) (.acons (.var 1) .anil)))) .nil)))
def g_columns_of : Nat → Fn
  | 7 => f_need_content
  | 23 => f_need_layout
  | 26 => f_columns_in
  | _ => noF
@[simp] theorem g_columns_of_7 : g_columns_of 7 = f_need_content := PL.nrfl rfl
@[simp] theorem g_columns_of_23 : g_columns_of 23 = f_need_layout := PL.nrfl rfl
@[simp] theorem g_columns_of_26 : g_columns_of 26 = f_columns_in := PL.nrfl rfl
def f_columns_of : Fn := runDef g_columns_of 2 2 c_columns_of
def c_heights : CS := (.cons (.expr (.call 7 (.acons (.var 0) .anil))) (.cons (.expr (.call 23 (.acons (.var 0) (.acons (.var 1) .anil)))) (.cons (.expr (.call 24 (.acons (.var 2) .anil))) (.cons (.ret (.call 27 (.acons (.var 0) (.acons (.var 1) (.acons (.var 2) .anil))))) .nil))))
def g_heights : Nat → Fn
  | 7 => f_need_content
  | 23 => f_need_layout
  | 24 => f_need_size
  | 27 => f_heights_in
  | _ => noF
@[simp] theorem g_heights_7 : g_heights 7 = f_need_content := PL.nrfl rfl
@[simp] theorem g_heights_23 : g_heights 23 = f_need_layout := PL.nrfl rfl
@[simp] theorem g_heights_24 : g_heights 24 = f_need_size := PL.nrfl rfl
@[simp] theorem g_heights_27 : g_heights 27 = f_heights_in := PL.nrfl rfl
def f_heights : Fn := runDef g_heights 3 3 c_heights
def b__law_high_0 : CS := (.cons (.set 5 (.bin .add (.bin .add (.var 5) (.ife (.cmp .eq (.idx (.var 6) (.lit (.int 0))) (.lit (.str (PySem.Str.ofString "x")))) (.var 3) (.idx (.var 6) (.lit (.int 0))))) (.idx (.var 6) (.lit (.int 2))))) (.frz 5 .nil))
def c__law_high : CS := (.cons (.set 4 (.slc (.idx (.var 0) (.lit (.int 1))) (.var 1) (.var 2))) (.frz 4 (.cons (.set 5 (.lit (.int 0))) (.frz 5 (.cons (.for [] (.nm 6) .seq (.acons (.var 4) .anil) b__law_high_0) (.cons (.set 5 (.bin .add (.var 5) (.bi .sum (.acons (.lc [6] (.nm 6) .seq (.acons (.slc (.var 4) .none (.bin .sub (.bi .len (.acons (.var 4) .anil)) (.lit (.int 1)))) .anil) .none (.idx (.var 6) (.lit (.int 1)))) .anil)))) (.frz 5 (.cons (.ife (.cmp .ne (.lc [6] (.nm 6) .seq (.acons (.var 4) .anil) (.acons (.cmp .ne (.idx (.var 6) (.lit (.int 2))) (.lit (.int 0))) .anil) (.var 6)) (.lst .anil)) (.cons (.set 5 (.bin .add (.var 5) (.idx (.var 0) (.lit (.int 0))))) (.frz 5 .nil)) .nil) (.cons (.retV 5) .nil)))))))))
def g__law_high : Nat → Fn
  | _ => noF
def f__law_high : Fn := runDef g__law_high 7 4 c__law_high
def c__law_columns : CS := (.cons (.set 2 (.bin .add (.bin .add (.lst (.acons (.lit (.int 0)) .anil)) (.bi .list (.acons (.var 1) .anil))) (.lst (.acons (.bi .len (.acons (.idx (.var 0) (.lit (.int 1))) .anil)) .anil)))) (.frz 2 (.cons (.ret (.lc [3] (.nm 3) .rng1 (.acons (.bin .sub (.bi .len (.acons (.var 2) .anil)) (.lit (.int 1))) .anil) .none (.tup (.acons (.idx (.var 2) (.var 3)) (.acons (.idx (.var 2) (.bin .add (.var 3) (.lit (.int 1)))) .anil))))) .nil)))
def g__law_columns : Nat → Fn
  | _ => noF
def f__law_columns : Fn := runDef g__law_columns 4 2 c__law_columns
def b_law_k02_0 : CS := (.cons (.set 5 (.bi .tuple (.acons (.lc [12] (.nm 12) .seq (.acons (.call 14 (.acons (.var 3) .anil)) .anil) (.acons (.cmp .eq (.call 10 (.acons (.var 2) (.acons (.lit (.int 2)) .anil))) (.lit (.int 0))) .anil) (.var 12)) .anil))) (.frz 5 (.cons (.set 6 (.call 33 (.acons (.var 3) (.acons (.var 5) .anil)))) (.frz 6 (.cons (.set 7 (.call 11 (.acons (.var 2) (.acons (.lst (.acons (.lit (.int 0)) (.acons (.lit (.int 1)) (.acons (.call 10 (.acons (.var 2) (.acons (.lit (.int 50)) .anil))) (.acons (.call 10 (.acons (.var 2) (.acons (.bin .pow (.lit (.int 10)) (.lit (.int 6))) .anil))) (.acons (.bin .pow (.lit (.int 10)) (.lit (.int 6))) .anil)))))) .anil)))) (.frz 7 (.cons (.set 8 (.call 30 (.acons (.var 3) (.acons (.var 5) .anil)))) (.cons (.ife (.or (.acons (.cmp .ne (.var 8) (.var 6)) (.acons (.not (.bi (.isi [.list]) (.acons (.var 8) .anil))) .anil))) (.cons (.ret (.lit (.bl false))) .nil) .nil) (.cons (.set 9 (.callK 31 (.acons (.var 3) (.acons (.var 5) .anil)) (.var 7))) (.cons (.set 10 (.lc [13, 14] (.tp (.cons (.nm 13) (.cons (.nm 14) .nil))) .seq (.acons (.var 6) .anil) .none (.call 32 (.acons (.var 3) (.acons (.var 13) (.acons (.var 14) (.acons (.var 7) .anil))))))) (.frz 10 (.cons (.ife (.or (.acons (.cmp .ne (.var 9) (.var 10)) (.acons (.not (.bi (.isi [.list]) (.acons (.var 9) .anil))) .anil))) (.cons (.ret (.lit (.bl false))) .nil) .nil) (.cons (.app 8 (.lit (.int 0))) (.cons (.app 9 (.lit (.int 0))) (.cons (.ife (.or (.acons (.cmp .ne (.call 30 (.acons (.var 3) (.acons (.var 5) .anil))) (.var 6)) (.acons (.cmp .ne (.callK 31 (.acons (.var 3) (.acons (.var 5) .anil)) (.var 7)) (.slc (.var 9) .none (.neg (.lit (.int 1))))) .anil))) (.cons (.ret (.lit (.bl false))) .nil) .nil) (.cons (.ife (.cmp .ne (.callD 31 (.acons (.var 3) (.acons (.var 5) .anil)) (.int 0)) (.lc [13, 14] (.tp (.cons (.nm 13) (.cons (.nm 14) .nil))) .seq (.acons (.var 6) .anil) .none (.call 32 (.acons (.var 3) (.acons (.var 13) (.acons (.var 14) (.acons (.lit (.int 0)) .anil))))))) (.cons (.ret (.lit (.bl false))) .nil) .nil) .nil))))))))))))))))
def b_law_k02_1 : CS := (.cons (.set 2 (.call 9 (.acons (.var 0) (.acons (.var 1) .anil)))) (.frz 2 (.cons (.set 3 (.call 13 (.acons (.var 2) (.acons (.lit (.int 1)) (.acons (.call 11 (.acons (.var 2) (.acons (.lst (.acons (.lit (.int 4)) (.acons (.lit (.int 8)) (.acons (.lit (.int 16)) .anil)))) .anil))) (.acons (.call 11 (.acons (.var 2) (.acons (.lst (.acons (.lit (.int 9)) (.acons (.lit (.int 1000)) .anil))) .anil))) .anil)))))) (.frz 3 (.cons (.ife (.cmp .ne (.call 28 (.acons (.var 3) .anil)) (.call 14 (.acons (.var 3) .anil))) (.cons (.ret (.lit (.bl false))) .nil) .nil) (.cons (.ife (.cmp .ne (.call 29 (.acons (.var 3) .anil)) (.lc [11] (.nm 11) .rng1 (.acons (.bi .len (.acons (.idx (.var 3) (.lit (.int 1))) .anil)) .anil) (.acons (.cmp .eq (.idx (.idx (.idx (.var 3) (.lit (.int 1))) (.var 11)) (.lit (.int 0))) (.lit (.str (PySem.Str.ofString "x")))) .anil) (.var 11))) (.cons (.ret (.lit (.bl false))) .nil) .nil) (.cons (.for [4] (.nm 4) .rng1 (.acons (.lit (.int 6)) .anil) b_law_k02_0) .nil)))))))
def c_law_k02 : CS := (.cons (.for [1, 2, 3, 4, 5, 6, 7, 8, 9, 10] (.nm 1) .rng1 (.acons (.bi .max (.acons (.lit (.int 8)) (.acons (.bi .min (.acons (.lit (.int 30)) (.acons (.bi .len (.acons (.var 0) .anil)) .anil))) .anil))) .anil) b_law_k02_1) (.cons (.ret (.lit (.bl true))) .nil))
def g_law_k02 : Nat → Fn
  | 9 => f__law_bag
  | 10 => f__law_take
  | 11 => f__law_of
  | 13 => f__law_content
  | 14 => f__law_breaks
  | 28 => f_breaks
  | 29 => f_plates
  | 30 => f_columns_of
  | 31 => f_heights
  | 32 => f__law_high
  | 33 => f__law_columns
  | _ => noF
@[simp] theorem g_law_k02_9 : g_law_k02 9 = f__law_bag := PL.nrfl rfl
@[simp] theorem g_law_k02_10 : g_law_k02 10 = f__law_take := PL.nrfl rfl
@[simp] theorem g_law_k02_11 : g_law_k02 11 = f__law_of := PL.nrfl rfl
@[simp] theorem g_law_k02_13 : g_law_k02 13 = f__law_content := PL.nrfl rfl
@[simp] theorem g_law_k02_14 : g_law_k02 14 = f__law_breaks := PL.nrfl rfl
@[simp] theorem g_law_k02_28 : g_law_k02 28 = f_breaks := PL.nrfl rfl
@[simp] theorem g_law_k02_29 : g_law_k02 29 = f_plates := PL.nrfl rfl
@[simp] theorem g_law_k02_30 : g_law_k02 30 = f_columns_of := PL.nrfl rfl
@[simp] theorem g_law_k02_31 : g_law_k02 31 = f_heights := PL.nrfl rfl
@[simp] theorem g_law_k02_32 : g_law_k02 32 = f__law_high := PL.nrfl rfl
@[simp] theorem g_law_k02_33 : g_law_k02 33 = f__law_columns := PL.nrfl rfl
def f_law_k02 : Fn := runDef g_law_k02 15 1 c_law_k02
def c_stops_of : CS := (.cons (.ret (.bin .add (.bin .add (.lst (.acons (.lit (.int 0)) .anil)) (.call 5 (.acons (.var 0) .anil))) (.lst (.acons (.bi .len (.acons (.var 0) .anil)) .anil)))) .nil)
def g_stops_of : Nat → Fn
  | 5 => f_breaks_of
  | _ => noF
@[simp] theorem g_stops_of_5 : g_stops_of 5 = f_breaks_of := PL.nrfl rfl
def f_stops_of : Fn := runDef g_stops_of 1 1 c_stops_of
def c_need_columns : CS := (.cons (.ife (.not (.call 0 (.acons (.var 0) (.acons (.lit (.int 1)) (.acons (.glob "MOST_COLUMNS" (.int 6)) .anil))))) (.cons (.raise 4 "InvalidColumns" "") .nil) .nil) .nil)
def g_need_columns : Nat → Fn
  | 0 => f_is_integer
  | _ => noF
@[simp] theorem g_need_columns_0 : g_need_columns 0 = f_is_integer := PL.nrfl rfl
def f_need_columns : Fn := runDef g_need_columns 1 1 c_need_columns
def c_all_stretches : CS := (.cons (.set 1 (.call 35 (.acons (.idx (.var 0) (.lit (.int 1))) .anil))) (.frz 1 (.cons (.ret (.dc2 [2, 3] [3] (.nm 2) (.acons (.var 1) .anil) (.nm 3) (.acons (.var 1) .anil) (.acons (.cmp .lt (.var 2) (.var 3)) .anil) (.tup (.acons (.var 2) (.acons (.var 3) .anil))) (.call 25 (.acons (.var 0) (.acons (.var 2) (.acons (.var 3) .anil)))))) .nil)))
def g_all_stretches : Nat → Fn
  | 25 => f_stretch
  | 35 => f_stops_of
  | _ => noF
@[simp] theorem g_all_stretches_25 : g_all_stretches 25 = f_stretch := PL.nrfl rfl
@[simp] theorem g_all_stretches_35 : g_all_stretches 35 = f_stops_of := PL.nrfl rfl
def f_all_stretches : Fn := runDef g_all_stretches 4 1 c_all_stretches
def b_least_from_0 : CS := (.cons (.ife (.cmp .gt (.var 12) (.var 10)) (.cons (.set 11 (.bi .min (.acons (.bi .int (.acons (.var 11) .anil)) (.acons (.bi .max (.acons (.bi .int (.acons (.idx (.var 4) (.tup (.acons (.var 10) (.acons (.var 12) .anil)))) .anil)) (.acons (.bi .int (.acons (.idx (.var 9) (.tup (.acons (.var 12) (.acons (.bin .sub (.var 7) (.lit (.int 1))) .anil)))) .anil)) .anil))) .anil)))) (.frz 11 .nil)) .nil) .nil)
def b_least_from_1 : CS := (.cons (.set 11 (.idx (.var 4) (.tup (.acons (.var 10) (.acons (.var 8) .anil))))) (.frz 11 (.cons (.ife (.cmp .gt (.var 7) (.lit (.int 1))) (.cons (.for [] (.nm 12) .seq (.acons (.slc (.var 1) .none (.neg (.lit (.int 1)))) .anil) b_least_from_0) .nil) .nil) (.cons (.seti 9 (.tup (.acons (.var 10) (.acons (.var 7) .anil))) (.var 11)) .nil))))
def b_least_from_2 : CS := (.cons (.for [] (.nm 10) .seq (.acons (.slc (.var 1) .none (.neg (.lit (.int 1)))) .anil) b_least_from_1) .nil)
def c_least_from : CS := (.cons (.set 4 (.dcI [5, 6, 7] 5 (.tp (.cons (.nm 6) (.cons (.nm 7) .nil))) (.call 37 (.acons (.var 0) .anil)) (.bin .add (.var 6) (.bin .mul (.var 7) (.var 3))))) (.frz 4 (.cons (.set 8 (.idx (.var 1) (.neg (.lit (.int 1))))) (.frz 8 (.cons (.set 9 .dct0) (.cons (.for [7, 10, 11, 12] (.nm 7) .rng2 (.acons (.lit (.int 1)) (.acons (.bin .add (.var 2) (.lit (.int 1))) .anil)) b_least_from_2) (.cons (.retV 9) .nil)))))))
def g_least_from : Nat → Fn
  | 37 => f_all_stretches
  | _ => noF
@[simp] theorem g_least_from_37 : g_least_from 37 = f_all_stretches := PL.nrfl rfl
def f_least_from : Fn := runDef g_least_from 13 4 c_least_from
def c_need_of : CS := (.cons (.ret (.idx (.call 38 (.acons (.var 0) (.acons (.call 35 (.acons (.idx (.var 0) (.lit (.int 1))) .anil)) (.acons (.var 1) (.acons (.var 2) .anil))))) (.tup (.acons (.lit (.int 0)) (.acons (.var 1) .anil))))) .nil)
def g_need_of : Nat → Fn
  | 35 => f_stops_of
  | 38 => f_least_from
  | _ => noF
@[simp] theorem g_need_of_35 : g_need_of 35 = f_stops_of := PL.nrfl rfl
@[simp] theorem g_need_of_38 : g_need_of 38 = f_least_from := PL.nrfl rfl
def f_need_of : Fn := runDef g_need_of 3 3 c_need_of
def b_first_layout_0 : CS := (.cons (.set 12 (.bin .sub (.var 12) (.lit (.int 1)))) (.frz 12 (.cons (.set 13 (.lc [14] (.nm 14) .seq (.acons (.slc (.var 3) .none (.neg (.lit (.int 1)))) .anil) (.acons (.and (.acons (.cmp .lt (.var 11) (.var 14)) (.acons (.cmp .le (.idx (.var 6) (.tup (.acons (.var 11) (.acons (.var 14) .anil)))) (.var 5)) .anil))) .anil) (.var 14))) (.frz 13 (.cons (.set 11 (.idx (.lc [14] (.nm 14) .seq (.acons (.var 13) .anil) (.acons (.cmp .le (.idx (.var 4) (.tup (.acons (.var 14) (.acons (.var 12) .anil)))) (.var 5)) .anil) (.var 14)) (.lit (.int 0)))) (.frz 11 (.cons (.set 10 (.bin .add (.var 10) (.tup (.acons (.var 11) .anil)))) (.frz 10 .nil))))))))
def c_first_layout : CS := (.cons (.set 3 (.call 35 (.acons (.idx (.var 0) (.lit (.int 1))) .anil))) (.frz 3 (.cons (.set 4 (.call 38 (.acons (.var 0) (.acons (.var 3) (.acons (.var 1) (.acons (.var 2) .anil)))))) (.frz 4 (.cons (.set 5 (.idx (.var 4) (.tup (.acons (.lit (.int 0)) (.acons (.var 1) .anil))))) (.frz 5 (.cons (.set 6 (.dcI [7, 8, 9] 7 (.tp (.cons (.nm 8) (.cons (.nm 9) .nil))) (.call 37 (.acons (.var 0) .anil)) (.bin .add (.var 8) (.bin .mul (.var 9) (.var 2))))) (.frz 6 (.cons (.set 10 (.tup .anil)) (.frz 10 (.cons (.unp (.tp (.cons (.nm 11) (.cons (.nm 12) .nil))) (.tup (.acons (.lit (.int 0)) (.acons (.var 1) .anil)))) (.cons (.wh 1000000 [13] (.cmp .gt (.idx (.var 6) (.tup (.acons (.var 11) (.acons (.idx (.var 3) (.neg (.lit (.int 1)))) .anil)))) (.var 5)) b_first_layout_0) (.cons (.retV 10) .nil)))))))))))))
def g_first_layout : Nat → Fn
  | 35 => f_stops_of
  | 37 => f_all_stretches
  | 38 => f_least_from
  | _ => noF
@[simp] theorem g_first_layout_35 : g_first_layout 35 = f_stops_of := PL.nrfl rfl
@[simp] theorem g_first_layout_37 : g_first_layout 37 = f_all_stretches := PL.nrfl rfl
@[simp] theorem g_first_layout_38 : g_first_layout 38 = f_least_from := PL.nrfl rfl
def f_first_layout : Fn := runDef g_first_layout 15 3 c_first_layout
def c_need : CS := (.cons (.expr (.call 7 (.acons (.var 0) .anil))) (.cons (.expr (.call 36 (.acons (.var 1) .anil))) (.cons (.expr (.call 24 (.acons (.var 2) .anil))) (.cons (.ret (.call 39 (.acons (.var 0) (.acons (.var 1) (.acons (.var 2) .anil))))) .nil))))
def g_need : Nat → Fn
  | 7 => f_need_content
  | 24 => f_need_size
  | 36 => f_need_columns
  | 39 => f_need_of
  | _ => noF
@[simp] theorem g_need_7 : g_need 7 = f_need_content := PL.nrfl rfl
@[simp] theorem g_need_24 : g_need 24 = f_need_size := PL.nrfl rfl
@[simp] theorem g_need_36 : g_need 36 = f_need_columns := PL.nrfl rfl
@[simp] theorem g_need_39 : g_need 39 = f_need_of := PL.nrfl rfl
def f_need : Fn := runDef g_need 3 3 c_need
def c_least_layout : CS := (.cons (.expr (.call 7 (.acons (.var 0) .anil))) (.cons (.expr (.call 36 (.acons (.var 1) .anil))) (.cons (.expr (.call 24 (.acons (.var 2) .anil))) (.cons (.ret (.call 40 (.acons (.var 0) (.acons (.var 1) (.acons (.var 2) .anil))))) .nil))))
def g_least_layout : Nat → Fn
  | 7 => f_need_content
  | 24 => f_need_size
  | 36 => f_need_columns
  | 40 => f_first_layout
  | _ => noF
@[simp] theorem g_least_layout_7 : g_least_layout 7 = f_need_content := PL.nrfl rfl
@[simp] theorem g_least_layout_24 : g_least_layout 24 = f_need_size := PL.nrfl rfl
@[simp] theorem g_least_layout_36 : g_least_layout 36 = f_need_columns := PL.nrfl rfl
@[simp] theorem g_least_layout_40 : g_least_layout 40 = f_first_layout := PL.nrfl rfl
def f_least_layout : Fn := runDef g_least_layout 3 3 c_least_layout
def c__law_top : CS := (.cons (.ret (.bi .max (.acons (.lc [3, 4] (.tp (.cons (.nm 3) (.cons (.nm 4) .nil))) .seq (.acons (.call 33 (.acons (.var 0) (.acons (.var 1) .anil))) .anil) .none (.bi .int (.acons (.call 32 (.acons (.var 0) (.acons (.var 3) (.acons (.var 4) (.acons (.var 2) .anil))))) .anil))) .anil))) .nil)
def g__law_top : Nat → Fn
  | 32 => f__law_high
  | 33 => f__law_columns
  | _ => noF
@[simp] theorem g__law_top_32 : g__law_top 32 = f__law_high := PL.nrfl rfl
@[simp] theorem g__law_top_33 : g__law_top 33 = f__law_columns := PL.nrfl rfl
def f__law_top : Fn := runDef g__law_top 5 3 c__law_top
def b__law_layouts_0 : CS := (.cons (.set 4 (.idx (.var 3) (.lit (.int 0)))) (.frz 4 (.cons (.app 2 (.var 4)) (.cons (.set 5 (.lc [6] (.nm 6) .seq (.acons (.call 14 (.acons (.var 0) .anil)) .anil) (.acons (.or (.acons (.cmp .eq (.var 4) (.tup .anil)) (.acons (.cmp .gt (.var 6) (.idx (.var 4) (.neg (.lit (.int 1))))) .anil))) .anil) (.var 6))) (.frz 5 (.cons (.ife (.cmp .eq (.bi .len (.acons (.var 4) .anil)) (.bin .sub (.var 1) (.lit (.int 1)))) (.cons (.set 5 (.lst .anil)) (.frz 5 .nil)) .nil) (.cons (.set 3 (.bin .add (.lc [6] (.nm 6) .seq (.acons (.var 5) .anil) .none (.bin .add (.var 4) (.tup (.acons (.var 6) .anil)))) (.slc (.var 3) (.lit (.int 1)) .none))) (.frz 3 .nil))))))))
def c__law_layouts : CS := (.cons (.par 2 3 (.lst .anil) (.fzE (.lst (.acons (.tup .anil) .anil)))) (.frz 3 (.cons (.wh 1000000 [4, 5] (.cmp .ne (.var 3) (.lst .anil)) b__law_layouts_0) (.cons (.retV 2) .nil))))
def g__law_layouts : Nat → Fn
  | 14 => f__law_breaks
  | _ => noF
@[simp] theorem g__law_layouts_14 : g__law_layouts 14 = f__law_breaks := PL.nrfl rfl
def f__law_layouts : Fn := runDef g__law_layouts 7 2 c__law_layouts
def c__law_need : CS := (.cons (.ret (.bi .min (.acons (.lc [3] (.nm 3) .seq (.acons (.call 44 (.acons (.var 0) (.acons (.var 1) .anil))) .anil) .none (.bi .int (.acons (.call 43 (.acons (.var 0) (.acons (.var 3) (.acons (.var 2) .anil)))) .anil))) .anil))) .nil)
def g__law_need : Nat → Fn
  | 43 => f__law_top
  | 44 => f__law_layouts
  | _ => noF
@[simp] theorem g__law_need_43 : g__law_need 43 = f__law_top := PL.nrfl rfl
@[simp] theorem g__law_need_44 : g__law_need 44 = f__law_layouts := PL.nrfl rfl
def f__law_need : Fn := runDef g__law_need 4 3 c__law_need
def b_law_k03_0 : CS := (.cons (.set 5 (.bin .add (.lit (.int 1)) (.call 10 (.acons (.var 2) (.acons (.lit (.int 6)) .anil))))) (.frz 5 (.cons (.set 6 (.call 11 (.acons (.var 2) (.acons (.lst (.acons (.lit (.int 0)) (.acons (.call 10 (.acons (.var 2) (.acons (.lit (.int 12)) .anil))) (.acons (.call 10 (.acons (.var 2) (.acons (.lit (.int 60)) .anil))) (.acons (.call 10 (.acons (.var 2) (.acons (.bin .pow (.lit (.int 10)) (.lit (.int 6))) .anil))) .anil))))) .anil)))) (.frz 6 (.cons (.set 7 (.call 45 (.acons (.var 3) (.acons (.var 5) (.acons (.var 6) .anil))))) (.frz 7 (.cons (.set 8 (.lc [9] (.nm 9) .seq (.acons (.call 44 (.acons (.var 3) (.acons (.var 5) .anil))) .anil) (.acons (.cmp .eq (.call 43 (.acons (.var 3) (.acons (.var 9) (.acons (.var 6) .anil)))) (.var 7)) .anil) (.var 9))) (.frz 8 (.cons (.ife (.or (.acons (.cmp .ne (.callK 41 (.acons (.var 3) (.acons (.var 5) .anil)) (.var 6)) (.var 7)) (.acons (.cmp .ne (.callK 42 (.acons (.var 3) (.acons (.var 5) .anil)) (.var 6)) (.idx (.var 8) (.lit (.int 0)))) .anil))) (.cons (.ret (.lit (.bl false))) .nil) .nil) .nil)))))))))
def b_law_k03_1 : CS := (.cons (.set 2 (.call 9 (.acons (.var 0) (.acons (.var 1) .anil)))) (.frz 2 (.cons (.set 3 (.call 13 (.acons (.var 2) (.acons (.lit (.int 1)) (.acons (.lit (.int 7)) (.acons (.call 11 (.acons (.var 2) (.acons (.lst (.acons (.lit (.int 4)) (.acons (.lit (.int 12)) (.acons (.lit (.int 60)) (.acons (.lit (.int 1000)) .anil))))) .anil))) .anil)))))) (.frz 3 (.cons (.for [4] (.nm 4) .rng1 (.acons (.lit (.int 4)) .anil) b_law_k03_0) (.cons (.ife (.cmp .ne (.callD 41 (.acons (.var 3) (.acons (.var 5) .anil)) (.int 0)) (.call 45 (.acons (.var 3) (.acons (.var 5) (.acons (.lit (.int 0)) .anil))))) (.cons (.ret (.lit (.bl false))) .nil) .nil) .nil))))))
def c_law_k03 : CS := (.cons (.for [1, 2, 3, 4, 5, 6, 7, 8] (.nm 1) .rng1 (.acons (.bi .max (.acons (.lit (.int 5)) (.acons (.bi .min (.acons (.lit (.int 14)) (.acons (.bi .len (.acons (.var 0) .anil)) .anil))) .anil))) .anil) b_law_k03_1) (.cons (.ret (.lit (.bl true))) .nil))
def g_law_k03 : Nat → Fn
  | 9 => f__law_bag
  | 10 => f__law_take
  | 11 => f__law_of
  | 13 => f__law_content
  | 41 => f_need
  | 42 => f_least_layout
  | 43 => f__law_top
  | 44 => f__law_layouts
  | 45 => f__law_need
  | _ => noF
@[simp] theorem g_law_k03_9 : g_law_k03 9 = f__law_bag := PL.nrfl rfl
@[simp] theorem g_law_k03_10 : g_law_k03 10 = f__law_take := PL.nrfl rfl
@[simp] theorem g_law_k03_11 : g_law_k03 11 = f__law_of := PL.nrfl rfl
@[simp] theorem g_law_k03_13 : g_law_k03 13 = f__law_content := PL.nrfl rfl
@[simp] theorem g_law_k03_41 : g_law_k03 41 = f_need := PL.nrfl rfl
@[simp] theorem g_law_k03_42 : g_law_k03 42 = f_least_layout := PL.nrfl rfl
@[simp] theorem g_law_k03_43 : g_law_k03 43 = f__law_top := PL.nrfl rfl
@[simp] theorem g_law_k03_44 : g_law_k03 44 = f__law_layouts := PL.nrfl rfl
@[simp] theorem g_law_k03_45 : g_law_k03 45 = f__law_need := PL.nrfl rfl
def f_law_k03 : Fn := runDef g_law_k03 10 1 c_law_k03
def b_value_at_0 : CS := (.cons (.ife (.cmp .le (.var 3) (.var 1)) (.cons (.set 2 (.bin .add (.var 4) (.bin .mul (.var 5) (.bin .sub (.var 1) (.var 3))))) (.frz 2 .nil)) .nil) .nil)
def c_value_at : CS := (.cons (.set 2 (.lit (.int 0))) (.frz 2 (.cons (.for [3, 4, 5] (.tp (.cons (.nm 3) (.cons (.nm 4) (.cons (.nm 5) .nil)))) .seq (.acons (.var 0) .anil) b_value_at_0) (.cons (.retV 2) .nil))))
def g_value_at : Nat → Fn
  | _ => noF
def f_value_at : Fn := runDef g_value_at 6 2 c_value_at
def c_ends : CS := (.cons (.set 1 (.bin .add (.lc [2] (.nm 2) .seq (.acons (.slc (.var 0) (.lit (.int 1)) .none) .anil) .none (.idx (.var 2) (.lit (.int 0)))) (.lst (.acons (.lit .non) .anil)))) (.frz 1 (.cons (.ret (.lc [3, 4, 5, 6] (.tp (.cons (.tp (.cons (.nm 4) (.cons (.nm 5) (.cons (.nm 6) .nil)))) (.cons (.nm 3) .nil))) .zip (.acons (.var 0) (.acons (.var 1) .anil)) .none (.tup (.acons (.var 4) (.acons (.var 5) (.acons (.var 6) (.acons (.var 3) .anil))))))) .nil)))
def g_ends : Nat → Fn
  | _ => noF
def f_ends : Fn := runDef g_ends 7 1 c_ends
def b_leaves_0 : CS := (.cons (.ife (.or (.acons (.cmp .is (.var 7) (.lit .non)) (.acons (.cmp .gt (.var 7) (.var 1)) .anil))) (.cons (.set 8 (.bi .max (.acons (.bi .int (.acons (.var 4) .anil)) (.acons (.bi .int (.acons (.var 1) .anil)) .anil)))) (.frz 8 (.cons (.ife (.cmp .ne (.bin .add (.var 5) (.bin .mul (.var 6) (.bin .sub (.var 8) (.var 4)))) (.bin .add (.var 3) (.bin .mul (.var 2) (.bin .sub (.var 8) (.var 1))))) (.cons (.retV 8) .nil) .nil) (.cons (.ife (.and (.acons (.cmp .ne (.var 6) (.var 2)) (.acons (.or (.acons (.cmp .is (.var 7) (.lit .non)) (.acons (.cmp .lt (.bin .add (.var 8) (.lit (.int 1))) (.var 7)) .anil))) .anil))) (.cons (.ret (.bin .add (.var 8) (.lit (.int 1)))) .nil) .nil) .nil)))) .nil) .nil)
def c_leaves : CS := (.cons (.set 3 (.call 47 (.acons (.var 0) (.acons (.var 1) .anil)))) (.frz 3 (.cons (.for [4, 5, 6, 7, 8] (.tp (.cons (.nm 4) (.cons (.nm 5) (.cons (.nm 6) (.cons (.nm 7) .nil))))) .seq (.acons (.call 48 (.acons (.var 0) .anil)) .anil) b_leaves_0) (.cons (.ret (.lit .non)) .nil))))
def g_leaves : Nat → Fn
  | 47 => f_value_at
  | 48 => f_ends
  | _ => noF
@[simp] theorem g_leaves_47 : g_leaves 47 = f_value_at := PL.nrfl rfl
@[simp] theorem g_leaves_48 : g_leaves 48 = f_ends := PL.nrfl rfl
def f_leaves : Fn := runDef g_leaves 9 3 c_leaves
def b_normal_0 : CS := (.cons (.set 3 (.call 47 (.acons (.var 0) (.acons (.var 2) .anil)))) (.frz 3 (.cons (.set 4 (.bin .sub (.call 47 (.acons (.var 0) (.acons (.bin .add (.var 2) (.lit (.int 1))) .anil))) (.var 3))) (.frz 4 (.cons (.set 1 (.bin .add (.var 1) (.tup (.acons (.tup (.acons (.var 2) (.acons (.var 3) (.acons (.var 4) .anil)))) .anil)))) (.frz 1 (.cons (.set 2 (.call 49 (.acons (.var 0) (.acons (.var 2) (.acons (.var 4) .anil))))) (.frz 2 .nil))))))))
def c_normal : CS := (.cons (.set 1 (.tup .anil)) (.frz 1 (.cons (.set 2 (.lit (.int 0))) (.frz 2 (.cons (.wh 1000000 [3, 4] (.cmp .isnot (.var 2) (.lit .non)) b_normal_0) (.cons (.retV 1) .nil))))))
def g_normal : Nat → Fn
  | 47 => f_value_at
  | 49 => f_leaves
  | _ => noF
@[simp] theorem g_normal_47 : g_normal 47 = f_value_at := PL.nrfl rfl
@[simp] theorem g_normal_49 : g_normal 49 = f_leaves := PL.nrfl rfl
def f_normal : Fn := runDef g_normal 5 1 c_normal
def c_crossing : CS := (.cons (.ife (.cmp .gt (.var 0) (.lit (.int 0))) (.cons (.ret (.ife (.cmp .lt (.var 1) (.lit (.int 0))) (.bin .add (.bin .fdiv (.var 0) (.neg (.var 1))) (.lit (.int 1))) (.lit .non))) .nil) .nil) (.cons (.ret (.ife (.cmp .gt (.var 1) (.lit (.int 0))) (.bin .add (.bin .fdiv (.neg (.var 0)) (.var 1)) (.lit (.int 1))) (.lit .non))) .nil))
def g_crossing : Nat → Fn
  | _ => noF
def f_crossing : Fn := runDef g_crossing 2 2 c_crossing
def c_flipped : CS := (.cons (.ret (.bi .tuple (.acons (.lc [1, 2, 3] (.tp (.cons (.nm 1) (.cons (.nm 2) (.cons (.nm 3) .nil)))) .seq (.acons (.var 0) .anil) .none (.tup (.acons (.var 1) (.acons (.neg (.var 2)) (.acons (.neg (.var 3)) .anil))))) .anil))) .nil)
def g_flipped : Nat → Fn
  | _ => noF
def f_flipped : Fn := runDef g_flipped 4 1 c_flipped
def c__law_value : CS := (.cons (.set 2 (.idx (.lc [3] (.nm 3) .seq (.acons (.var 0) .anil) (.acons (.cmp .le (.idx (.var 3) (.lit (.int 0))) (.var 1)) .anil) (.var 3)) (.neg (.lit (.int 1))))) (.frz 2 (.cons (.ret (.bin .add (.idx (.var 2) (.lit (.int 1))) (.bin .mul (.idx (.var 2) (.lit (.int 2))) (.bin .sub (.var 1) (.idx (.var 2) (.lit (.int 0))))))) .nil)))
def g__law_value : Nat → Fn
  | _ => noF
def f__law_value : Fn := runDef g__law_value 4 2 c__law_value
def b__law_normal_0 : CS := (.cons (.ife (.or (.acons (.not (.bi (.isi [.tuple]) (.acons (.idx (.var 0) (.var 1)) .anil))) (.acons (.cmp .ne (.bi .len (.acons (.idx (.var 0) (.var 1)) .anil)) (.lit (.int 3))) .anil))) (.cons (.ret (.lit (.bl false))) .nil) .nil) (.cons (.ife (.cmp .gt (.var 1) (.lit (.int 0))) (.cons (.unp (.tp (.cons (.nm 3) (.cons (.nm 4) (.cons (.nm 5) .nil)))) (.idx (.var 0) (.bin .sub (.var 1) (.lit (.int 1))))) (.cons (.set 2 (.bin .sub (.idx (.idx (.var 0) (.var 1)) (.lit (.int 0))) (.var 3))) (.frz 2 (.cons (.ife (.or (.acons (.cmp .lt (.var 2) (.lit (.int 2))) (.acons (.cmp .eq (.bin .add (.var 4) (.bin .mul (.var 5) (.var 2))) (.idx (.idx (.var 0) (.var 1)) (.lit (.int 1)))) .anil))) (.cons (.ret (.lit (.bl false))) .nil) .nil) .nil)))) .nil) .nil))
def c__law_normal : CS := (.cons (.ife (.or (.acons (.not (.bi (.isi [.tuple]) (.acons (.var 0) .anil))) (.acons (.cmp .eq (.var 0) (.tup .anil)) (.acons (.cmp .ne (.idx (.idx (.var 0) (.lit (.int 0))) (.lit (.int 0))) (.lit (.int 0))) .anil)))) (.cons (.ret (.lit (.bl false))) .nil) .nil) (.cons (.for [1, 2, 3, 4, 5] (.nm 1) .rng1 (.acons (.bi .len (.acons (.var 0) .anil)) .anil) b__law_normal_0) (.cons (.ret (.lit (.bl true))) .nil)))
def g__law_normal : Nat → Fn
  | _ => noF
def f__law_normal : Fn := runDef g__law_normal 6 1 c__law_normal
def b__law_rows_0 : CS := (.cons (.set 7 (.call 32 (.acons (.var 0) (.acons (.var 5) (.acons (.var 6) (.acons (.lit (.int 0)) .anil)))))) (.frz 7 (.cons (.app 4 (.tup (.acons (.var 7) (.acons (.bin .sub (.call 32 (.acons (.var 0) (.acons (.var 5) (.acons (.var 6) (.acons (.lit (.int 1)) .anil))))) (.var 7)) .anil)))) .nil)))
def b__law_rows_1 : CS := (.cons (.set 4 (.lst .anil)) (.cons (.for [] (.tp (.cons (.nm 5) (.cons (.nm 6) .nil))) .seq (.acons (.call 33 (.acons (.var 0) (.acons (.var 3) .anil))) .anil) b__law_rows_0) (.frz 4 (.cons (.app 2 (.var 4)) .nil))))
def c__law_rows : CS := (.cons (.set 2 (.lst .anil)) (.cons (.for [3, 4, 5, 6, 7] (.nm 3) .seq (.acons (.call 44 (.acons (.var 0) (.acons (.var 1) .anil))) .anil) b__law_rows_1) (.cons (.retV 2) .nil)))
def g__law_rows : Nat → Fn
  | 32 => f__law_high
  | 33 => f__law_columns
  | 44 => f__law_layouts
  | _ => noF
@[simp] theorem g__law_rows_32 : g__law_rows 32 = f__law_high := PL.nrfl rfl
@[simp] theorem g__law_rows_33 : g__law_rows 33 = f__law_columns := PL.nrfl rfl
@[simp] theorem g__law_rows_44 : g__law_rows 44 = f__law_layouts := PL.nrfl rfl
def f__law_rows : Fn := runDef g__law_rows 8 2 c__law_rows
def c__law_least : CS := (.cons (.ret (.bi .min (.acons (.lc [2] (.nm 2) .seq (.acons (.var 0) .anil) .none (.bi .int (.acons (.bi .max (.acons (.lc [3, 4] (.tp (.cons (.nm 3) (.cons (.nm 4) .nil))) .seq (.acons (.var 2) .anil) .none (.bi .int (.acons (.bin .add (.var 3) (.bin .mul (.var 4) (.var 1))) .anil))) .anil)) .anil))) .anil))) .nil)
def g__law_least : Nat → Fn
  | _ => noF
def f__law_least : Fn := runDef g__law_least 5 2 c__law_least
def c_need_height : CS := (.cons (.ife (.not (.call 0 (.acons (.var 0) (.acons (.lit (.int 0)) (.acons (.glob "MOST_HEIGHT" (.int 10000000)) .anil))))) (.cons (.raise 5 "InvalidHeight" "") .nil) .nil) .nil)
def g_need_height : Nat → Fn
  | 0 => f_is_integer
  | _ => noF
@[simp] theorem g_need_height_0 : g_need_height 0 = f_is_integer := PL.nrfl rfl
def f_need_height : Fn := runDef g_need_height 1 1 c_need_height
def c_spread_end : CS := (.cons (.unp (.tp (.cons (.nm 2) (.cons (.nm 3) (.cons (.nm 4) .nil)))) (.var 1)) (.cons (.ife (.cmp .eq (.var 3) (.lit (.int 0))) (.cons (.ret (.ife (.or (.acons (.cmp .lt (.var 2) (.idx (.var 0) (.neg (.lit (.int 1))))) (.acons (.cmp .gt (.var 4) (.lit (.int 0))) .anil))) (.lit .non) (.tup (.acons (.tup (.acons (.lit (.int 0)) (.acons (.lit (.int 0)) (.acons (.lit (.int 0)) .anil)))) .anil)))) .nil) .nil) (.cons (.ret (.tup (.acons (.tup (.acons (.lit (.int 0)) (.acons (.lit (.int 0)) (.acons (.bin .fdiv (.bin .sub (.bin .add (.var 4) (.var 3)) (.lit (.int 1))) (.var 3)) .anil)))) .anil))) .nil)))
def g_spread_end : Nat → Fn
  | _ => noF
def f_spread_end : Fn := runDef g_spread_end 5 2 c_spread_end
def b__law_deals_0 : CS := (.cons (.set 2 (.bin .add (.var 2) (.lc [4] (.nm 4) .seq (.acons (.call 72 (.acons (.bin .sub (.var 0) (.var 3)) (.acons (.bin .sub (.var 1) (.lit (.int 1))) .anil))) .anil) .none (.bin .add (.tup (.acons (.var 3) .anil)) (.var 4))))) (.frz 2 .nil))
def c__law_deals : CS := (.cons (.ife (.cmp .eq (.var 1) (.lit (.int 1))) (.cons (.ret (.lst (.acons (.tup (.acons (.var 0) .anil)) .anil))) .nil) .nil) (.cons (.set 2 (.lst .anil)) (.frz 2 (.cons (.for [3] (.nm 3) .rng1 (.acons (.bin .add (.var 0) (.lit (.int 1))) .anil) b__law_deals_0) (.cons (.retV 2) .nil)))))
def g__law_deals (self : Fn) : Nat → Fn
  | 72 => self
  | _ => noF
@[simp] theorem g__law_deals_72 (self : Fn) : g__law_deals self 72 = self := PL.nrfl rfl
def f__law_deals : Nat → Fn
  | 0 => noF
  | n + 1 => runDef (g__law_deals (f__law_deals n)) 5 2 c__law_deals
def b__law_spread_0 : CS := (.cons (.app 4 (.bi .max (.acons (.lc [10] (.nm 10) .rng1 (.acons (.var 1) .anil) .none (.bi .int (.acons (.bin .add (.idx (.var 6) (.var 10)) (.bin .mul (.idx (.var 7) (.var 10)) (.var 3))) .anil))) .anil))) .nil)
def b__law_spread_1 : CS := (.cons (.set 6 (.lc [8, 9] (.tp (.cons (.nm 8) (.cons (.nm 9) .nil))) .seq (.acons (.call 33 (.acons (.var 0) (.acons (.var 5) .anil))) .anil) .none (.call 32 (.acons (.var 0) (.acons (.var 8) (.acons (.var 9) (.acons (.var 3) .anil))))))) (.frz 6 (.cons (.set 6 (.bin .add (.var 6) (.bin .mul (.lst (.acons (.lit (.int 0)) .anil)) (.bin .sub (.var 1) (.bi .len (.acons (.var 6) .anil)))))) (.frz 6 (.cons (.for [] (.nm 7) .seq (.acons (.call 72 (.acons (.var 2) (.acons (.var 1) .anil))) .anil) b__law_spread_0) .nil)))))
def c__law_spread : CS := (.cons (.set 4 (.lst .anil)) (.cons (.for [5, 6, 7] (.nm 5) .seq (.acons (.call 44 (.acons (.var 0) (.acons (.var 1) .anil))) .anil) b__law_spread_1) (.cons (.ret (.bi .min (.acons (.lc [11] (.nm 11) .seq (.acons (.var 4) .anil) .none (.bi .int (.acons (.var 11) .anil))) .anil))) .nil)))
def g__law_spread : Nat → Fn
  | 32 => f__law_high
  | 33 => f__law_columns
  | 44 => f__law_layouts
  | 72 => f__law_deals 40
  | _ => noF
@[simp] theorem g__law_spread_32 : g__law_spread 32 = f__law_high := PL.nrfl rfl
@[simp] theorem g__law_spread_33 : g__law_spread 33 = f__law_columns := PL.nrfl rfl
@[simp] theorem g__law_spread_44 : g__law_spread 44 = f__law_layouts := PL.nrfl rfl
@[simp] theorem g__law_spread_72 : g__law_spread 72 = f__law_deals 40 := PL.nrfl rfl
def f__law_spread : Fn := runDef g__law_spread 12 4 c__law_spread
def c_height_of : CS := (.cons (.unp (.tp (.cons (.nm 4) (.cons (.nm 5) .nil))) (.call 25 (.acons (.var 0) (.acons (.var 1) (.acons (.var 2) .anil))))) (.cons (.ret (.bin .add (.var 4) (.bin .mul (.var 5) (.var 3)))) .nil))
def g_height_of : Nat → Fn
  | 25 => f_stretch
  | _ => noF
@[simp] theorem g_height_of_25 : g_height_of 25 = f_stretch := PL.nrfl rfl
def f_height_of : Fn := runDef g_height_of 6 4 c_height_of
def b_begin_behind_0 : CS := (.cons (.ife (.cmp .lt (.var 3) (.var 1)) (.cons (.set 2 (.var 3)) (.frz 2 .nil)) .nil) .nil)
def c_begin_behind : CS := (.cons (.set 2 (.lit (.int 0))) (.frz 2 (.cons (.for [3] (.nm 3) .seq (.acons (.call 5 (.acons (.idx (.var 0) (.lit (.int 1))) .anil)) .anil) b_begin_behind_0) (.cons (.retV 2) .nil))))
def g_begin_behind : Nat → Fn
  | 5 => f_breaks_of
  | _ => noF
@[simp] theorem g_begin_behind_5 : g_begin_behind 5 = f_breaks_of := PL.nrfl rfl
def f_begin_behind : Fn := runDef g_begin_behind 4 2 c_begin_behind
def b_bar_0 : CS := (.cons (.set 7 (.bin .add (.lc [10] (.nm 10) .seq (.acons (.call 5 (.acons (.idx (.var 0) (.lit (.int 1))) .anil)) .anil) (.acons (.cmp .gt (.var 10) (.var 5)) .anil) (.var 10)) (.lst (.acons (.bi .len (.acons (.idx (.var 0) (.lit (.int 1))) .anil)) .anil)))) (.frz 7 (.cons (.set 8 (.lc [9] (.nm 9) .seq (.acons (.var 7) .anil) (.acons (.cmp .gt (.call 75 (.acons (.var 0) (.acons (.var 5) (.acons (.var 9) (.acons (.var 3) .anil))))) (.var 2)) .anil) (.var 9))) (.frz 8 (.cons (.ife (.cmp .eq (.var 8) (.lst .anil)) (.cons (.ret (.lit .non)) .nil) .nil) (.cons (.set 4 (.bin .add (.var 4) (.tup (.acons (.idx (.var 8) (.lit (.int 0))) .anil)))) (.frz 4 (.cons (.set 5 (.call 76 (.acons (.var 0) (.acons (.idx (.var 8) (.lit (.int 0))) .anil)))) (.frz 5 .nil)))))))))
def c_bar : CS := (.cons (.expr (.call 7 (.acons (.var 0) .anil))) (.cons (.expr (.call 36 (.acons (.var 1) .anil))) (.cons (.expr (.call 64 (.acons (.var 2) .anil))) (.cons (.expr (.call 24 (.acons (.var 3) .anil))) (.cons (.set 4 (.tup .anil)) (.frz 4 (.cons (.set 5 (.lit (.int 0))) (.frz 5 (.cons (.for [6, 7, 8] (.nm 6) .rng1 (.acons (.var 1) .anil) b_bar_0) (.cons (.retV 4) .nil))))))))))
def g_bar : Nat → Fn
  | 5 => f_breaks_of
  | 7 => f_need_content
  | 24 => f_need_size
  | 36 => f_need_columns
  | 64 => f_need_height
  | 75 => f_height_of
  | 76 => f_begin_behind
  | _ => noF
@[simp] theorem g_bar_5 : g_bar 5 = f_breaks_of := PL.nrfl rfl
@[simp] theorem g_bar_7 : g_bar 7 = f_need_content := PL.nrfl rfl
@[simp] theorem g_bar_24 : g_bar 24 = f_need_size := PL.nrfl rfl
@[simp] theorem g_bar_36 : g_bar 36 = f_need_columns := PL.nrfl rfl
@[simp] theorem g_bar_64 : g_bar 64 = f_need_height := PL.nrfl rfl
@[simp] theorem g_bar_75 : g_bar 75 = f_height_of := PL.nrfl rfl
@[simp] theorem g_bar_76 : g_bar 76 = f_begin_behind := PL.nrfl rfl
def f_bar : Fn := runDef g_bar 11 4 c_bar
def b_is_bar_0 : CS := (.cons (.ife (.or (.acons (.not (.call 0 (.acons (.var 7) (.acons (.lit (.int 1)) (.acons (.lit .non) .anil))))) (.acons (.cmp .nmem (.var 7) (.var 5)) (.acons (.cmp .le (.var 7) (.var 6)) .anil)))) (.cons (.ret (.lit (.bl false))) .nil) .nil) (.cons (.ife (.cmp .le (.call 75 (.acons (.var 0) (.acons (.var 6) (.acons (.var 7) (.acons (.var 4) .anil))))) (.var 2)) (.cons (.ret (.lit (.bl false))) .nil) .nil) (.cons (.set 6 (.call 76 (.acons (.var 0) (.acons (.var 7) .anil)))) (.frz 6 .nil))))
def c_is_bar : CS := (.cons (.expr (.call 7 (.acons (.var 0) .anil))) (.cons (.expr (.call 36 (.acons (.var 1) .anil))) (.cons (.expr (.call 64 (.acons (.var 2) .anil))) (.cons (.expr (.call 24 (.acons (.var 4) .anil))) (.cons (.ife (.or (.acons (.not (.bi (.isi [.tuple]) (.acons (.var 3) .anil))) (.acons (.cmp .ne (.bi .len (.acons (.var 3) .anil)) (.var 1)) .anil))) (.cons (.ret (.lit (.bl false))) .nil) .nil) (.cons (.set 5 (.bin .add (.call 5 (.acons (.idx (.var 0) (.lit (.int 1))) .anil)) (.lst (.acons (.bi .len (.acons (.idx (.var 0) (.lit (.int 1))) .anil)) .anil)))) (.frz 5 (.cons (.set 6 (.lit (.int 0))) (.frz 6 (.cons (.for [7] (.nm 7) .seq (.acons (.var 3) .anil) b_is_bar_0) (.cons (.ret (.lit (.bl true))) .nil)))))))))))
def g_is_bar : Nat → Fn
  | 0 => f_is_integer
  | 5 => f_breaks_of
  | 7 => f_need_content
  | 24 => f_need_size
  | 36 => f_need_columns
  | 64 => f_need_height
  | 75 => f_height_of
  | 76 => f_begin_behind
  | _ => noF
@[simp] theorem g_is_bar_0 : g_is_bar 0 = f_is_integer := PL.nrfl rfl
@[simp] theorem g_is_bar_5 : g_is_bar 5 = f_breaks_of := PL.nrfl rfl
@[simp] theorem g_is_bar_7 : g_is_bar 7 = f_need_content := PL.nrfl rfl
@[simp] theorem g_is_bar_24 : g_is_bar 24 = f_need_size := PL.nrfl rfl
@[simp] theorem g_is_bar_36 : g_is_bar 36 = f_need_columns := PL.nrfl rfl
@[simp] theorem g_is_bar_64 : g_is_bar 64 = f_need_height := PL.nrfl rfl
@[simp] theorem g_is_bar_75 : g_is_bar 75 = f_height_of := PL.nrfl rfl
@[simp] theorem g_is_bar_76 : g_is_bar 76 = f_begin_behind := PL.nrfl rfl
def f_is_bar : Fn := runDef g_is_bar 8 5 c_is_bar
def b__law_is_bar_0 : CS := (.cons (.ife (.or (.acons (.not (.bi (.isi [.int]) (.acons (.var 7) .anil))) (.acons (.bi (.isi [.bool]) (.acons (.var 7) .anil)) (.acons (.cmp .nmem (.var 7) (.var 5)) (.acons (.cmp .le (.var 7) (.var 6)) .anil))))) (.cons (.ret (.lit (.bl false))) .nil) .nil) (.cons (.ife (.cmp .le (.call 32 (.acons (.var 0) (.acons (.var 6) (.acons (.var 7) (.acons (.var 4) .anil))))) (.var 2)) (.cons (.ret (.lit (.bl false))) .nil) .nil) (.cons (.set 6 (.idx (.bin .add (.lst (.acons (.lit (.int 0)) .anil)) (.lc [8] (.nm 8) .seq (.acons (.call 14 (.acons (.var 0) .anil)) .anil) (.acons (.cmp .lt (.var 8) (.var 7)) .anil) (.var 8))) (.neg (.lit (.int 1))))) (.frz 6 .nil))))
def c__law_is_bar : CS := (.cons (.ife (.or (.acons (.not (.bi (.isi [.tuple]) (.acons (.var 3) .anil))) (.acons (.cmp .ne (.bi .len (.acons (.var 3) .anil)) (.var 1)) .anil))) (.cons (.ret (.lit (.bl false))) .nil) .nil) (.cons (.par 5 6 (.fzE (.bin .add (.call 14 (.acons (.var 0) .anil)) (.lst (.acons (.bi .len (.acons (.idx (.var 0) (.lit (.int 1))) .anil)) .anil)))) (.lit (.int 0))) (.frz 5 (.frz 6 (.cons (.for [7] (.nm 7) .seq (.acons (.var 3) .anil) b__law_is_bar_0) (.cons (.ret (.lit (.bl true))) .nil))))))
def g__law_is_bar : Nat → Fn
  | 14 => f__law_breaks
  | 32 => f__law_high
  | _ => noF
@[simp] theorem g__law_is_bar_14 : g__law_is_bar 14 = f__law_breaks := PL.nrfl rfl
@[simp] theorem g__law_is_bar_32 : g__law_is_bar 32 = f__law_high := PL.nrfl rfl
def f__law_is_bar : Fn := runDef g__law_is_bar 9 5 c__law_is_bar
def b_law_k07_0 : CS := (.cons (.ife (.cmp .lt (.var 6) (.lit (.int 0))) (.cons .cont .nil) .nil) (.cons (.set 9 (.callK 77 (.acons (.var 3) (.acons (.var 7) (.acons (.var 6) .anil))) (.var 8))) (.frz 9 (.cons (.ife (.cmp .ne (.cmp .is (.var 9) (.lit .non)) (.cmp .le (.var 5) (.var 6))) (.cons (.ret (.lit (.bl false))) .nil) .nil) (.cons (.ife (.cmp .is (.var 9) (.lit .non)) (.cons .cont .nil) .nil) (.cons (.ife (.not (.call 79 (.acons (.var 3) (.acons (.var 7) (.acons (.var 6) (.acons (.var 9) (.acons (.var 8) .anil))))))) (.cons (.ret (.lit (.bl false))) .nil) .nil) (.cons (.ife (.cmp .isnot (.callK 78 (.acons (.var 3) (.acons (.var 7) (.acons (.var 6) (.acons (.var 9) .anil)))) (.var 8)) (.lit (.bl true))) (.cons (.ret (.lit (.bl false))) .nil) .nil) (.cons (.ife (.cmp .isnot (.callK 78 (.acons (.var 3) (.acons (.var 7) (.acons (.var 5) (.acons (.var 9) .anil)))) (.var 8)) (.lit (.bl false))) (.cons (.ret (.lit (.bl false))) .nil) .nil) .nil))))))))
def b_law_k07_1 : CS := (.cons (.par 7 8 (.bin .add (.lit (.int 1)) (.call 10 (.acons (.var 2) (.acons (.lit (.int 4)) .anil)))) (.call 11 (.acons (.var 2) (.acons (.lst (.acons (.lit (.int 0)) (.acons (.call 10 (.acons (.var 2) (.acons (.lit (.int 30)) .anil))) (.acons (.call 10 (.acons (.var 2) (.acons (.bin .pow (.lit (.int 10)) (.lit (.int 6))) .anil))) .anil)))) .anil)))) (.frz 7 (.frz 8 (.cons (.set 5 (.call 45 (.acons (.var 3) (.acons (.var 7) (.acons (.var 8) .anil))))) (.frz 5 (.cons (.for [] (.nm 6) .seq (.acons (.lst (.acons (.var 5) (.acons (.bin .sub (.var 5) (.lit (.int 1))) (.acons (.bin .add (.var 5) (.lit (.int 1))) (.acons (.bin .fdiv (.var 5) (.lit (.int 2))) (.acons (.lit (.int 0)) (.acons (.call 10 (.acons (.var 2) (.acons (.bin .add (.var 5) (.lit (.int 2))) .anil))) .anil))))))) .anil) b_law_k07_0) .nil))))))
def b_law_k07_2 : CS := (.cons (.set 2 (.call 9 (.acons (.var 0) (.acons (.var 1) .anil)))) (.frz 2 (.cons (.set 3 (.call 13 (.acons (.var 2) (.acons (.lit (.int 1)) (.acons (.lit (.int 7)) (.acons (.call 11 (.acons (.var 2) (.acons (.lst (.acons (.lit (.int 4)) (.acons (.lit (.int 12)) (.acons (.lit (.int 60)) .anil)))) .anil))) .anil)))))) (.frz 3 (.cons (.for [4] (.nm 4) .rng1 (.acons (.lit (.int 4)) .anil) b_law_k07_1) .nil)))))
def c_law_k07 : CS := (.cons (.for [1, 2, 3, 4, 5, 6, 7, 8, 9] (.nm 1) .rng1 (.acons (.bi .max (.acons (.lit (.int 5)) (.acons (.bi .min (.acons (.lit (.int 14)) (.acons (.bi .len (.acons (.var 0) .anil)) .anil))) .anil))) .anil) b_law_k07_2) (.cons (.ret (.lit (.bl true))) .nil))
def g_law_k07 : Nat → Fn
  | 9 => f__law_bag
  | 10 => f__law_take
  | 11 => f__law_of
  | 13 => f__law_content
  | 45 => f__law_need
  | 77 => f_bar
  | 78 => f_is_bar
  | 79 => f__law_is_bar
  | _ => noF
@[simp] theorem g_law_k07_9 : g_law_k07 9 = f__law_bag := PL.nrfl rfl
@[simp] theorem g_law_k07_10 : g_law_k07 10 = f__law_take := PL.nrfl rfl
@[simp] theorem g_law_k07_11 : g_law_k07 11 = f__law_of := PL.nrfl rfl
@[simp] theorem g_law_k07_13 : g_law_k07 13 = f__law_content := PL.nrfl rfl
@[simp] theorem g_law_k07_45 : g_law_k07 45 = f__law_need := PL.nrfl rfl
@[simp] theorem g_law_k07_77 : g_law_k07 77 = f_bar := PL.nrfl rfl
@[simp] theorem g_law_k07_78 : g_law_k07 78 = f_is_bar := PL.nrfl rfl
@[simp] theorem g_law_k07_79 : g_law_k07 79 = f__law_is_bar := PL.nrfl rfl
def f_law_k07 : Fn := runDef g_law_k07 10 1 c_law_k07
def b_law_k08_0 : CS := (.cons (.app 6 (.bi .tuple (.acons (.lc [13] (.nm 13) .rng1 (.acons (.var 10) .anil) .none (.call 11 (.acons (.var 2) (.acons (.var 7) .anil)))) .anil))) .nil)
def b_law_k08_1 : CS := (.cons (.set 12 (.call 79 (.acons (.var 3) (.acons (.var 10) (.acons (.var 4) (.acons (.var 9) (.acons (.var 11) .anil))))))) (.frz 12 (.cons (.ife (.not (.call 21 (.acons (.callK 78 (.acons (.var 3) (.acons (.var 10) (.acons (.var 4) (.acons (.var 9) .anil)))) (.var 11)) (.acons (.var 12) .anil)))) (.cons (.ret (.lit (.bl false))) .nil) .nil) .nil)))
def b_law_k08_2 : CS := (.cons (.set 2 (.call 9 (.acons (.var 0) (.acons (.var 1) .anil)))) (.frz 2 (.cons (.set 3 (.call 13 (.acons (.var 2) (.acons (.lit (.int 1)) (.acons (.lit (.int 10)) (.acons (.call 11 (.acons (.var 2) (.acons (.lst (.acons (.lit (.int 4)) (.acons (.lit (.int 60)) .anil))) .anil))) .anil)))))) (.frz 3 (.cons (.par 10 11 (.bin .add (.lit (.int 1)) (.call 10 (.acons (.var 2) (.acons (.lit (.int 4)) .anil)))) (.call 10 (.acons (.var 2) (.acons (.lit (.int 40)) .anil)))) (.frz 10 (.frz 11 (.cons (.set 4 (.call 10 (.acons (.var 2) (.acons (.bin .add (.call 32 (.acons (.var 3) (.acons (.lit (.int 0)) (.acons (.bi .len (.acons (.idx (.var 3) (.lit (.int 1))) .anil)) (.acons (.var 11) .anil))))) (.lit (.int 3))) .anil)))) (.frz 4 (.cons (.set 4 (.bin .fdiv (.var 4) (.call 11 (.acons (.var 2) (.acons (.lst (.acons (.lit (.int 1)) (.acons (.lit (.int 2)) (.acons (.lit (.int 4)) (.acons (.lit (.int 8)) .anil))))) .anil))))) (.frz 4 (.cons (.set 5 (.callK 77 (.acons (.var 3) (.acons (.var 10) (.acons (.var 4) .anil))) (.var 11))) (.frz 5 (.cons (.set 6 (.lst (.acons (.var 5) (.acons (.lit .non) (.acons (.tup .anil) (.acons (.bin .mul (.tup (.acons (.bi .len (.acons (.idx (.var 3) (.lit (.int 1))) .anil)) .anil)) (.var 10)) (.acons (.lst (.acons (.var 5) .anil)) (.acons (.call 15 (.acons (.var 2) (.acons (.lit (.int 3)) .anil))) .anil)))))))) (.cons (.set 7 (.bin .add (.call 14 (.acons (.var 3) .anil)) (.lst (.acons (.bi .len (.acons (.idx (.var 3) (.lit (.int 1))) .anil)) .anil)))) (.frz 7 (.cons (.for [8] (.nm 8) .rng1 (.acons (.lit (.int 10)) .anil) b_law_k08_0) (.cons (.ife (.cmp .isnot (.var 5) (.lit .non)) (.cons (.set 6 (.bin .add (.var 6) (.lst (.acons (.bi .list (.acons (.var 5) .anil)) (.acons (.bin .add (.var 5) (.slc (.var 5) (.neg (.lit (.int 1))) .none)) (.acons (.slc (.var 5) .none (.neg (.lit (.int 1)))) (.acons (.bin .add (.tup (.acons (.lit (.bl true)) .anil)) (.slc (.var 5) (.lit (.int 1)) .none)) .anil))))))) (.cons (.set 6 (.bin .add (.var 6) (.lc [8] (.nm 8) .rng1 (.acons (.lit (.int 5)) .anil) .none (.call 16 (.acons (.var 2) (.acons (.var 5) .anil)))))) .nil)) .nil) (.frz 6 (.cons (.for [] (.nm 9) .seq (.acons (.var 6) .anil) b_law_k08_1) .nil))))))))))))))))))))
def c_law_k08 : CS := (.cons (.for [1, 2, 3, 4, 5, 6, 7, 8, 9, 10, 11, 12] (.nm 1) .rng1 (.acons (.bi .max (.acons (.lit (.int 6)) (.acons (.bi .min (.acons (.lit (.int 20)) (.acons (.bi .len (.acons (.var 0) .anil)) .anil))) .anil))) .anil) b_law_k08_2) (.cons (.ret (.lit (.bl true))) .nil))
def g_law_k08 : Nat → Fn
  | 9 => f__law_bag
  | 10 => f__law_take
  | 11 => f__law_of
  | 13 => f__law_content
  | 14 => f__law_breaks
  | 15 => f__law_any_value 40
  | 16 => f__law_spoiled 40
  | 21 => f__law_truly
  | 32 => f__law_high
  | 77 => f_bar
  | 78 => f_is_bar
  | 79 => f__law_is_bar
  | _ => noF
@[simp] theorem g_law_k08_9 : g_law_k08 9 = f__law_bag := PL.nrfl rfl
@[simp] theorem g_law_k08_10 : g_law_k08 10 = f__law_take := PL.nrfl rfl
@[simp] theorem g_law_k08_11 : g_law_k08 11 = f__law_of := PL.nrfl rfl
@[simp] theorem g_law_k08_13 : g_law_k08 13 = f__law_content := PL.nrfl rfl
@[simp] theorem g_law_k08_14 : g_law_k08 14 = f__law_breaks := PL.nrfl rfl
@[simp] theorem g_law_k08_15 : g_law_k08 15 = f__law_any_value 40 := PL.nrfl rfl
@[simp] theorem g_law_k08_16 : g_law_k08 16 = f__law_spoiled 40 := PL.nrfl rfl
@[simp] theorem g_law_k08_21 : g_law_k08 21 = f__law_truly := PL.nrfl rfl
@[simp] theorem g_law_k08_32 : g_law_k08 32 = f__law_high := PL.nrfl rfl
@[simp] theorem g_law_k08_77 : g_law_k08 77 = f_bar := PL.nrfl rfl
@[simp] theorem g_law_k08_78 : g_law_k08 78 = f_is_bar := PL.nrfl rfl
@[simp] theorem g_law_k08_79 : g_law_k08 79 = f__law_is_bar := PL.nrfl rfl
def f_law_k08 : Fn := runDef g_law_k08 14 1 c_law_k08
def b_filled_so_0 : CS := (.cons (.set 10 (.lc [12] (.nm 12) .seq (.acons (.var 3) .anil) (.acons (.cmp .gt (.var 12) (.var 9)) .anil) (.var 12))) (.frz 10 (.cons (.set 11 (.lc [13] (.nm 13) .seq (.acons (.var 10) .anil) (.acons (.cmp .le (.idx (.var 4) (.tup (.acons (.var 9) (.acons (.var 13) .anil)))) (.var 1)) .anil) (.var 13))) (.frz 11 (.cons (.set 9 (.ife (.cmp .ne (.var 11) (.lst .anil)) (.idx (.var 11) (.neg (.lit (.int 1)))) (.idx (.var 10) (.lit (.int 0))))) (.frz 9 (.cons (.ife (.cmp .lt (.var 9) (.idx (.var 3) (.neg (.lit (.int 1))))) (.cons (.set 8 (.bin .add (.var 8) (.tup (.acons (.var 9) .anil)))) (.frz 8 .nil)) .nil) .nil)))))))
def c_filled_so : CS := (.cons (.set 3 (.call 35 (.acons (.idx (.var 0) (.lit (.int 1))) .anil))) (.frz 3 (.cons (.set 4 (.dcI [5, 6, 7] 5 (.tp (.cons (.nm 6) (.cons (.nm 7) .nil))) (.call 37 (.acons (.var 0) .anil)) (.bin .add (.var 6) (.bin .mul (.var 7) (.var 2))))) (.frz 4 (.cons (.set 8 (.tup .anil)) (.frz 8 (.cons (.set 9 (.lit (.int 0))) (.frz 9 (.cons (.wh 1000000 [10, 11] (.cmp .lt (.var 9) (.idx (.var 3) (.neg (.lit (.int 1))))) b_filled_so_0) (.cons (.retV 8) .nil))))))))))
def g_filled_so : Nat → Fn
  | 35 => f_stops_of
  | 37 => f_all_stretches
  | _ => noF
@[simp] theorem g_filled_so_35 : g_filled_so 35 = f_stops_of := PL.nrfl rfl
@[simp] theorem g_filled_so_37 : g_filled_so 37 = f_all_stretches := PL.nrfl rfl
def f_filled_so : Fn := runDef g_filled_so 14 3 c_filled_so
def c_number_so : CS := (.cons (.set 3 (.call 82 (.acons (.var 0) (.acons (.var 1) (.acons (.var 2) .anil))))) (.frz 3 (.cons (.ife (.bi .any (.acons (.lc [4] (.nm 4) .seq (.acons (.call 27 (.acons (.var 0) (.acons (.var 3) (.acons (.var 2) .anil)))) .anil) .none (.cmp .gt (.var 4) (.var 1))) .anil)) (.cons (.ret (.lit .non)) .nil) .nil) (.cons (.ret (.bi .len (.acons (.call 26 (.acons (.var 0) (.acons (.var 3) .anil))) .anil))) .nil))))
def g_number_so : Nat → Fn
  | 26 => f_columns_in
  | 27 => f_heights_in
  | 82 => f_filled_so
  | _ => noF
@[simp] theorem g_number_so_26 : g_number_so 26 = f_columns_in := PL.nrfl rfl
@[simp] theorem g_number_so_27 : g_number_so 27 = f_heights_in := PL.nrfl rfl
@[simp] theorem g_number_so_82 : g_number_so 82 = f_filled_so := PL.nrfl rfl
def f_number_so : Fn := runDef g_number_so 5 3 c_number_so
def c_filled : CS := (.cons (.expr (.call 7 (.acons (.var 0) .anil))) (.cons (.expr (.call 64 (.acons (.var 1) .anil))) (.cons (.expr (.call 24 (.acons (.var 2) .anil))) (.cons (.ret (.call 82 (.acons (.var 0) (.acons (.var 1) (.acons (.var 2) .anil))))) .nil))))
def g_filled : Nat → Fn
  | 7 => f_need_content
  | 24 => f_need_size
  | 64 => f_need_height
  | 82 => f_filled_so
  | _ => noF
@[simp] theorem g_filled_7 : g_filled 7 = f_need_content := PL.nrfl rfl
@[simp] theorem g_filled_24 : g_filled 24 = f_need_size := PL.nrfl rfl
@[simp] theorem g_filled_64 : g_filled 64 = f_need_height := PL.nrfl rfl
@[simp] theorem g_filled_82 : g_filled 82 = f_filled_so := PL.nrfl rfl
def f_filled : Fn := runDef g_filled 3 3 c_filled
def c_columns_needed : CS := (.cons (.expr (.call 7 (.acons (.var 0) .anil))) (.cons (.expr (.call 64 (.acons (.var 1) .anil))) (.cons (.expr (.call 24 (.acons (.var 2) .anil))) (.cons (.ret (.call 83 (.acons (.var 0) (.acons (.var 1) (.acons (.var 2) .anil))))) .nil))))
def g_columns_needed : Nat → Fn
  | 7 => f_need_content
  | 24 => f_need_size
  | 64 => f_need_height
  | 83 => f_number_so
  | _ => noF
@[simp] theorem g_columns_needed_7 : g_columns_needed 7 = f_need_content := PL.nrfl rfl
@[simp] theorem g_columns_needed_24 : g_columns_needed 24 = f_need_size := PL.nrfl rfl
@[simp] theorem g_columns_needed_64 : g_columns_needed 64 = f_need_height := PL.nrfl rfl
@[simp] theorem g_columns_needed_83 : g_columns_needed 83 = f_number_so := PL.nrfl rfl
def f_columns_needed : Fn := runDef g_columns_needed 3 3 c_columns_needed
def b__law_fill_0 : CS := (.cons (.set 6 (.lc [8] (.nm 8) .seq (.acons (.var 3) .anil) (.acons (.cmp .gt (.var 8) (.var 5)) .anil) (.var 8))) (.frz 6 (.cons (.set 7 (.lc [8] (.nm 8) .seq (.acons (.var 6) .anil) (.acons (.cmp .le (.call 32 (.acons (.var 0) (.acons (.var 5) (.acons (.var 8) (.acons (.var 2) .anil))))) (.var 1)) .anil) (.var 8))) (.frz 7 (.cons (.set 5 (.ife (.cmp .eq (.var 7) (.lst .anil)) (.idx (.bin .add (.var 7) (.slc (.var 6) .none (.lit (.int 1)))) (.lit (.int 0))) (.idx (.var 7) (.neg (.lit (.int 1)))))) (.frz 5 (.cons (.ife (.cmp .lt (.var 5) (.bi .len (.acons (.idx (.var 0) (.lit (.int 1))) .anil))) (.cons (.set 4 (.bin .add (.var 4) (.tup (.acons (.var 5) .anil)))) (.frz 4 .nil)) .nil) .nil)))))))
def c__law_fill : CS := (.cons (.unp (.tp (.cons (.nm 3) (.cons (.nm 4) (.cons (.nm 5) .nil)))) (.tup (.acons (.bin .add (.call 14 (.acons (.var 0) .anil)) (.lst (.acons (.bi .len (.acons (.idx (.var 0) (.lit (.int 1))) .anil)) .anil))) (.acons (.tup .anil) (.acons (.lit (.int 0)) .anil))))) (.cons (.wh 1000000 [6, 7] (.cmp .lt (.var 5) (.bi .len (.acons (.idx (.var 0) (.lit (.int 1))) .anil))) b__law_fill_0) (.cons (.retV 4) .nil)))
def g__law_fill : Nat → Fn
  | 14 => f__law_breaks
  | 32 => f__law_high
  | _ => noF
@[simp] theorem g__law_fill_14 : g__law_fill 14 = f__law_breaks := PL.nrfl rfl
@[simp] theorem g__law_fill_32 : g__law_fill 32 = f__law_high := PL.nrfl rfl
def f__law_fill : Fn := runDef g__law_fill 9 3 c__law_fill
def b_law_k09_0 : CS := (.cons (.ife (.cmp .le (.call 62 (.acons (.lc [13] (.nm 13) .seq (.acons (.var 4) .anil) (.acons (.cmp .le (.bi .len (.acons (.var 13) .anil)) (.var 12)) .anil) (.var 13)) (.acons (.var 6) .anil))) (.var 8)) (.cons (.app 11 (.var 12)) .nil) .nil) .nil)
def b_law_k09_1 : CS := (.cons (.set 6 (.call 11 (.acons (.var 2) (.acons (.lst (.acons (.lit (.int 0)) (.acons (.call 10 (.acons (.var 2) (.acons (.lit (.int 30)) .anil))) (.acons (.call 10 (.acons (.var 2) (.acons (.bin .pow (.lit (.int 10)) (.lit (.int 6))) .anil))) .anil)))) .anil)))) (.frz 6 (.cons (.set 7 (.bin .add (.lit (.int 1)) (.call 10 (.acons (.var 2) (.acons (.lit (.int 5)) .anil))))) (.frz 7 (.cons (.set 8 (.bin .add (.call 62 (.acons (.lc [13] (.nm 13) .seq (.acons (.var 4) .anil) (.acons (.cmp .le (.bi .len (.acons (.var 13) .anil)) (.var 7)) .anil) (.var 13)) (.acons (.var 6) .anil))) (.call 11 (.acons (.var 2) (.acons (.lst (.acons (.lit (.int 0)) (.acons (.lit (.int 0)) (.acons (.neg (.lit (.int 1))) (.acons (.lit (.int 1)) (.acons (.lit (.int 7)) .anil)))))) .anil))))) (.frz 8 (.cons (.set 8 (.bi .max (.acons (.lit (.int 0)) (.acons (.bi .int (.acons (.var 8) .anil)) .anil)))) (.frz 8 (.cons (.set 9 (.call 86 (.acons (.var 3) (.acons (.var 8) (.acons (.var 6) .anil))))) (.frz 9 (.cons (.set 10 (.bin .add (.bi .len (.acons (.var 9) .anil)) (.lit (.int 1)))) (.frz 10 (.cons (.ife (.cmp .ne (.lc [12] (.nm 12) .seq (.acons (.call 33 (.acons (.var 3) (.acons (.var 9) .anil))) .anil) (.acons (.cmp .gt (.call 32 (.acons (.var 3) (.acons (.idx (.var 12) (.lit (.int 0))) (.acons (.idx (.var 12) (.lit (.int 1))) (.acons (.var 6) .anil))))) (.var 8)) .anil) (.var 12)) (.lst .anil)) (.cons (.set 10 (.lit .non)) (.frz 10 .nil)) .nil) (.cons (.ife (.or (.acons (.cmp .ne (.callK 84 (.acons (.var 3) (.acons (.var 8) .anil)) (.var 6)) (.var 9)) (.acons (.cmp .ne (.callK 85 (.acons (.var 3) (.acons (.var 8) .anil)) (.var 6)) (.var 10)) .anil))) (.cons (.ret (.lit (.bl false))) .nil) .nil) (.cons (.set 11 (.lst .anil)) (.cons (.for [] (.nm 12) .rng2 (.acons (.lit (.int 1)) (.acons (.lit (.int 8)) .anil)) b_law_k09_0) (.cons (.ife (.or (.acons (.cmp .ne (.cmp .eq (.var 11) (.lst .anil)) (.cmp .is (.var 10) (.lit .non))) (.acons (.and (.acons (.cmp .ne (.var 11) (.lst .anil)) (.acons (.cmp .ne (.idx (.var 11) (.lit (.int 0))) (.var 10)) .anil))) .anil))) (.cons (.ret (.lit (.bl false))) .nil) .nil) .nil)))))))))))))))))
def b_law_k09_2 : CS := (.cons (.set 2 (.call 9 (.acons (.var 0) (.acons (.var 1) .anil)))) (.frz 2 (.cons (.set 3 (.call 13 (.acons (.var 2) (.acons (.lit (.int 1)) (.acons (.lit (.int 7)) (.acons (.call 11 (.acons (.var 2) (.acons (.lst (.acons (.lit (.int 4)) (.acons (.lit (.int 12)) (.acons (.lit (.int 60)) .anil)))) .anil))) .anil)))))) (.frz 3 (.cons (.set 4 (.call 61 (.acons (.var 3) (.acons (.lit (.int 7)) .anil)))) (.frz 4 (.cons (.for [5] (.nm 5) .rng1 (.acons (.lit (.int 4)) .anil) b_law_k09_1) (.cons (.ife (.cmp .ne (.callD 84 (.acons (.var 3) (.acons (.lit (.int 0)) .anil)) (.int 0)) (.call 86 (.acons (.var 3) (.acons (.lit (.int 0)) (.acons (.lit (.int 0)) .anil))))) (.cons (.ret (.lit (.bl false))) .nil) .nil) .nil))))))))
def c_law_k09 : CS := (.cons (.for [1, 2, 3, 4, 5, 6, 7, 8, 9, 10, 11, 12] (.nm 1) .rng1 (.acons (.bi .max (.acons (.lit (.int 5)) (.acons (.bi .min (.acons (.lit (.int 14)) (.acons (.bi .len (.acons (.var 0) .anil)) .anil))) .anil))) .anil) b_law_k09_2) (.cons (.ret (.lit (.bl true))) .nil))
def g_law_k09 : Nat → Fn
  | 9 => f__law_bag
  | 10 => f__law_take
  | 11 => f__law_of
  | 13 => f__law_content
  | 32 => f__law_high
  | 33 => f__law_columns
  | 61 => f__law_rows
  | 62 => f__law_least
  | 84 => f_filled
  | 85 => f_columns_needed
  | 86 => f__law_fill
  | _ => noF
@[simp] theorem g_law_k09_9 : g_law_k09 9 = f__law_bag := PL.nrfl rfl
@[simp] theorem g_law_k09_10 : g_law_k09 10 = f__law_take := PL.nrfl rfl
@[simp] theorem g_law_k09_11 : g_law_k09 11 = f__law_of := PL.nrfl rfl
@[simp] theorem g_law_k09_13 : g_law_k09 13 = f__law_content := PL.nrfl rfl
@[simp] theorem g_law_k09_32 : g_law_k09 32 = f__law_high := PL.nrfl rfl
@[simp] theorem g_law_k09_33 : g_law_k09 33 = f__law_columns := PL.nrfl rfl
@[simp] theorem g_law_k09_61 : g_law_k09 61 = f__law_rows := PL.nrfl rfl
@[simp] theorem g_law_k09_62 : g_law_k09 62 = f__law_least := PL.nrfl rfl
@[simp] theorem g_law_k09_84 : g_law_k09 84 = f_filled := PL.nrfl rfl
@[simp] theorem g_law_k09_85 : g_law_k09 85 = f_columns_needed := PL.nrfl rfl
@[simp] theorem g_law_k09_86 : g_law_k09 86 = f__law_fill := PL.nrfl rfl
def f_law_k09 : Fn := runDef g_law_k09 14 1 c_law_k09
def c__law_number : CS := (.cons (.set 3 (.call 33 (.acons (.var 0) (.acons (.call 86 (.acons (.var 0) (.acons (.var 1) (.acons (.var 2) .anil)))) .anil)))) (.frz 3 (.cons (.ife (.cmp .ne (.lc [4] (.nm 4) .seq (.acons (.var 3) .anil) (.acons (.cmp .gt (.call 32 (.acons (.var 0) (.acons (.idx (.var 4) (.lit (.int 0))) (.acons (.idx (.var 4) (.lit (.int 1))) (.acons (.var 2) .anil))))) (.var 1)) .anil) (.var 4)) (.lst .anil)) (.cons (.ret (.lit .non)) .nil) .nil) (.cons (.ret (.bi .len (.acons (.var 3) .anil))) .nil))))
def g__law_number : Nat → Fn
  | 32 => f__law_high
  | 33 => f__law_columns
  | 86 => f__law_fill
  | _ => noF
@[simp] theorem g__law_number_32 : g__law_number 32 = f__law_high := PL.nrfl rfl
@[simp] theorem g__law_number_33 : g__law_number 33 = f__law_columns := PL.nrfl rfl
@[simp] theorem g__law_number_86 : g__law_number 86 = f__law_fill := PL.nrfl rfl
def f__law_number : Fn := runDef g__law_number 5 3 c__law_number
def c_need_without : CS := (.cons (.set 4 (.lc [5] (.nm 5) .seq (.acons (.call 35 (.acons (.idx (.var 0) (.lit (.int 1))) .anil)) .anil) (.acons (.cmp .ne (.var 5) (.var 3)) .anil) (.var 5))) (.frz 4 (.cons (.ret (.idx (.call 38 (.acons (.var 0) (.acons (.var 4) (.acons (.var 1) (.acons (.var 2) .anil))))) (.tup (.acons (.lit (.int 0)) (.acons (.var 1) .anil))))) .nil)))
def g_need_without : Nat → Fn
  | 35 => f_stops_of
  | 38 => f_least_from
  | _ => noF
@[simp] theorem g_need_without_35 : g_need_without 35 = f_stops_of := PL.nrfl rfl
@[simp] theorem g_need_without_38 : g_need_without 38 = f_least_from := PL.nrfl rfl
def f_need_without : Fn := runDef g_need_without 6 4 c_need_without
def b_fewest_columns_0 : CS := (.cons (.set 12 (.lc [6] (.nm 6) .seq (.acons (.var 5) .anil) (.acons (.and (.acons (.cmp .gt (.var 6) (.var 11)) (.acons (.cmp .le (.idx (.var 7) (.tup (.acons (.var 11) (.acons (.var 6) .anil)))) (.var 3)) .anil))) .anil) (.var 6))) (.frz 12 (.cons (.ife (.cmp .eq (.var 12) (.lst .anil)) (.cons (.ret (.lit .non)) .nil) .nil) (.cons (.unp (.tp (.cons (.nm 10) (.cons (.nm 11) .nil))) (.tup (.acons (.bin .add (.var 10) (.lit (.int 1))) (.acons (.idx (.var 12) (.neg (.lit (.int 1)))) .anil)))) .nil))))
def c_fewest_columns : CS := (.cons (.set 5 (.lc [6] (.nm 6) .seq (.acons (.call 35 (.acons (.idx (.var 0) (.lit (.int 1))) .anil)) .anil) (.acons (.chain .le .le (.var 1) (.var 6) (.var 2)) .anil) (.var 6))) (.frz 5 (.cons (.set 7 (.dcI [8, 9, 10] 8 (.tp (.cons (.nm 9) (.cons (.nm 10) .nil))) (.call 37 (.acons (.var 0) .anil)) (.bin .add (.var 9) (.bin .mul (.var 10) (.var 4))))) (.frz 7 (.cons (.unp (.tp (.cons (.nm 10) (.cons (.nm 11) .nil))) (.tup (.acons (.lit (.int 0)) (.acons (.var 1) .anil)))) (.cons (.wh 1000000 [12] (.cmp .lt (.var 11) (.var 2)) b_fewest_columns_0) (.cons (.retV 10) .nil)))))))
def g_fewest_columns : Nat → Fn
  | 35 => f_stops_of
  | 37 => f_all_stretches
  | _ => noF
@[simp] theorem g_fewest_columns_35 : g_fewest_columns 35 = f_stops_of := PL.nrfl rfl
@[simp] theorem g_fewest_columns_37 : g_fewest_columns 37 = f_all_stretches := PL.nrfl rfl
def f_fewest_columns : Fn := runDef g_fewest_columns 13 5 c_fewest_columns
def c_is_possible : CS := (.cons (.set 5 (.call 96 (.acons (.var 0) (.acons (.lit (.int 0)) (.acons (.var 4) (.acons (.var 2) (.acons (.var 3) .anil))))))) (.frz 5 (.cons (.set 6 (.call 96 (.acons (.var 0) (.acons (.var 4) (.acons (.bi .len (.acons (.idx (.var 0) (.lit (.int 1))) .anil)) (.acons (.var 2) (.acons (.var 3) .anil))))))) (.frz 6 (.cons (.ret (.and (.acons (.cmp .isnot (.var 5) (.lit .non)) (.acons (.cmp .isnot (.var 6) (.lit .non)) (.acons (.cmp .le (.bin .add (.var 5) (.var 6)) (.var 1)) .anil))))) .nil)))))
def g_is_possible : Nat → Fn
  | 96 => f_fewest_columns
  | _ => noF
@[simp] theorem g_is_possible_96 : g_is_possible 96 = f_fewest_columns := PL.nrfl rfl
def f_is_possible : Fn := runDef g_is_possible 7 5 c_is_possible
def c_sure_breaks : CS := (.cons (.expr (.call 7 (.acons (.var 0) .anil))) (.cons (.expr (.call 36 (.acons (.var 1) .anil))) (.cons (.expr (.call 24 (.acons (.var 2) .anil))) (.cons (.set 3 (.call 39 (.acons (.var 0) (.acons (.var 1) (.acons (.var 2) .anil))))) (.frz 3 (.cons (.ret (.lc [4] (.nm 4) .seq (.acons (.call 5 (.acons (.idx (.var 0) (.lit (.int 1))) .anil)) .anil) (.acons (.cmp .gt (.call 95 (.acons (.var 0) (.acons (.var 1) (.acons (.var 2) (.acons (.var 4) .anil))))) (.var 3)) .anil) (.var 4))) .nil))))))
def g_sure_breaks : Nat → Fn
  | 5 => f_breaks_of
  | 7 => f_need_content
  | 24 => f_need_size
  | 36 => f_need_columns
  | 39 => f_need_of
  | 95 => f_need_without
  | _ => noF
@[simp] theorem g_sure_breaks_5 : g_sure_breaks 5 = f_breaks_of := PL.nrfl rfl
@[simp] theorem g_sure_breaks_7 : g_sure_breaks 7 = f_need_content := PL.nrfl rfl
@[simp] theorem g_sure_breaks_24 : g_sure_breaks 24 = f_need_size := PL.nrfl rfl
@[simp] theorem g_sure_breaks_36 : g_sure_breaks 36 = f_need_columns := PL.nrfl rfl
@[simp] theorem g_sure_breaks_39 : g_sure_breaks 39 = f_need_of := PL.nrfl rfl
@[simp] theorem g_sure_breaks_95 : g_sure_breaks 95 = f_need_without := PL.nrfl rfl
def f_sure_breaks : Fn := runDef g_sure_breaks 5 3 c_sure_breaks
def c_possible_breaks : CS := (.cons (.expr (.call 7 (.acons (.var 0) .anil))) (.cons (.expr (.call 36 (.acons (.var 1) .anil))) (.cons (.expr (.call 24 (.acons (.var 2) .anil))) (.cons (.set 3 (.call 39 (.acons (.var 0) (.acons (.var 1) (.acons (.var 2) .anil))))) (.frz 3 (.cons (.ret (.lc [4] (.nm 4) .seq (.acons (.call 5 (.acons (.idx (.var 0) (.lit (.int 1))) .anil)) .anil) (.acons (.call 97 (.acons (.var 0) (.acons (.var 1) (.acons (.var 3) (.acons (.var 2) (.acons (.var 4) .anil)))))) .anil) (.var 4))) .nil))))))
def g_possible_breaks : Nat → Fn
  | 5 => f_breaks_of
  | 7 => f_need_content
  | 24 => f_need_size
  | 36 => f_need_columns
  | 39 => f_need_of
  | 97 => f_is_possible
  | _ => noF
@[simp] theorem g_possible_breaks_5 : g_possible_breaks 5 = f_breaks_of := PL.nrfl rfl
@[simp] theorem g_possible_breaks_7 : g_possible_breaks 7 = f_need_content := PL.nrfl rfl
@[simp] theorem g_possible_breaks_24 : g_possible_breaks 24 = f_need_size := PL.nrfl rfl
@[simp] theorem g_possible_breaks_36 : g_possible_breaks 36 = f_need_columns := PL.nrfl rfl
@[simp] theorem g_possible_breaks_39 : g_possible_breaks 39 = f_need_of := PL.nrfl rfl
@[simp] theorem g_possible_breaks_97 : g_possible_breaks 97 = f_is_possible := PL.nrfl rfl
def f_possible_breaks : Fn := runDef g_possible_breaks 5 3 c_possible_breaks
def b_law_k12_0 : CS := (.cons (.unp (.tp (.cons (.nm 12) (.cons (.nm 13) .nil))) (.tup (.acons (.bin .add (.lit (.int 1)) (.call 10 (.acons (.var 2) (.acons (.lit (.int 5)) .anil)))) (.acons (.call 11 (.acons (.var 2) (.acons (.lst (.acons (.lit (.int 0)) (.acons (.call 10 (.acons (.var 2) (.acons (.lit (.int 30)) .anil))) (.acons (.call 10 (.acons (.var 2) (.acons (.bin .pow (.lit (.int 10)) (.lit (.int 6))) .anil))) .anil)))) .anil))) .anil)))) (.cons (.set 5 (.call 45 (.acons (.var 3) (.acons (.var 12) (.acons (.var 13) .anil))))) (.frz 5 (.cons (.set 6 (.lc [14] (.nm 14) .seq (.acons (.call 44 (.acons (.var 3) (.acons (.var 12) .anil))) .anil) (.acons (.cmp .eq (.call 43 (.acons (.var 3) (.acons (.var 14) (.acons (.var 13) .anil)))) (.var 5)) .anil) (.var 14))) (.frz 6 (.cons (.set 7 (.call 14 (.acons (.var 3) .anil))) (.frz 7 (.cons (.set 8 (.lc [15] (.nm 15) .seq (.acons (.var 7) .anil) (.acons (.cmp .eq (.bi .len (.acons (.lc [14] (.nm 14) .seq (.acons (.var 6) .anil) (.acons (.cmp .mem (.var 15) (.var 14)) .anil) (.var 14)) .anil)) (.bi .len (.acons (.var 6) .anil))) .anil) (.var 15))) (.frz 8 (.cons (.set 9 (.lc [15] (.nm 15) .seq (.acons (.var 7) .anil) (.acons (.cmp .ne (.lc [14] (.nm 14) .seq (.acons (.var 6) .anil) (.acons (.cmp .mem (.var 15) (.var 14)) .anil) (.var 14)) (.lst .anil)) .anil) (.var 15))) (.frz 9 (.cons (.set 10 (.callK 98 (.acons (.var 3) (.acons (.var 12) .anil)) (.var 13))) (.cons (.set 11 (.callK 99 (.acons (.var 3) (.acons (.var 12) .anil)) (.var 13))) (.cons (.ife (.or (.acons (.cmp .ne (.var 10) (.var 8)) (.acons (.cmp .ne (.var 11) (.var 9)) .anil))) (.cons (.ret (.lit (.bl false))) .nil) .nil) (.cons (.app 10 (.lit (.int 0))) (.cons (.app 11 (.lit (.int 0))) (.cons (.ife (.or (.acons (.cmp .ne (.callK 98 (.acons (.var 3) (.acons (.var 12) .anil)) (.var 13)) (.var 8)) (.acons (.cmp .ne (.callK 99 (.acons (.var 3) (.acons (.var 12) .anil)) (.var 13)) (.var 9)) .anil))) (.cons (.ret (.lit (.bl false))) .nil) .nil) .nil)))))))))))))))))
def b_law_k12_1 : CS := (.cons (.set 2 (.call 9 (.acons (.var 0) (.acons (.var 1) .anil)))) (.frz 2 (.cons (.set 3 (.call 13 (.acons (.var 2) (.acons (.lit (.int 1)) (.acons (.lit (.int 7)) (.acons (.call 11 (.acons (.var 2) (.acons (.lst (.acons (.lit (.int 3)) (.acons (.lit (.int 12)) (.acons (.lit (.int 60)) .anil)))) .anil))) .anil)))))) (.frz 3 (.cons (.for [4] (.nm 4) .rng1 (.acons (.lit (.int 4)) .anil) b_law_k12_0) .nil)))))
def c_law_k12 : CS := (.cons (.for [1, 2, 3, 4, 5, 6, 7, 8, 9, 10, 11, 12, 13] (.nm 1) .rng1 (.acons (.bi .max (.acons (.lit (.int 5)) (.acons (.bi .min (.acons (.lit (.int 14)) (.acons (.bi .len (.acons (.var 0) .anil)) .anil))) .anil))) .anil) b_law_k12_1) (.cons (.ret (.lit (.bl true))) .nil))
def g_law_k12 : Nat → Fn
  | 9 => f__law_bag
  | 10 => f__law_take
  | 11 => f__law_of
  | 13 => f__law_content
  | 14 => f__law_breaks
  | 43 => f__law_top
  | 44 => f__law_layouts
  | 45 => f__law_need
  | 98 => f_sure_breaks
  | 99 => f_possible_breaks
  | _ => noF
@[simp] theorem g_law_k12_9 : g_law_k12 9 = f__law_bag := PL.nrfl rfl
@[simp] theorem g_law_k12_10 : g_law_k12 10 = f__law_take := PL.nrfl rfl
@[simp] theorem g_law_k12_11 : g_law_k12 11 = f__law_of := PL.nrfl rfl
@[simp] theorem g_law_k12_13 : g_law_k12 13 = f__law_content := PL.nrfl rfl
@[simp] theorem g_law_k12_14 : g_law_k12 14 = f__law_breaks := PL.nrfl rfl
@[simp] theorem g_law_k12_43 : g_law_k12 43 = f__law_top := PL.nrfl rfl
@[simp] theorem g_law_k12_44 : g_law_k12 44 = f__law_layouts := PL.nrfl rfl
@[simp] theorem g_law_k12_45 : g_law_k12 45 = f__law_need := PL.nrfl rfl
@[simp] theorem g_law_k12_98 : g_law_k12 98 = f_sure_breaks := PL.nrfl rfl
@[simp] theorem g_law_k12_99 : g_law_k12 99 = f_possible_breaks := PL.nrfl rfl
def f_law_k12 : Fn := runDef g_law_k12 16 1 c_law_k12
def b_layouts_from_0 : CS := (.cons (.app 3 (.var 6)) .nil)
def b_layouts_from_1 : CS := (.cons (.for [] (.nm 6) .seq (.acons (.call 102 (.acons (.slc (.var 0) (.bin .add (.var 4) (.lit (.int 1))) .none) (.acons (.bin .add (.var 1) (.tup (.acons (.var 5) .anil))) (.acons (.bin .sub (.var 2) (.lit (.int 1))) .anil)))) .anil) b_layouts_from_0) .nil)
def c_layouts_from : CS := (.cons (.set 3 (.lst (.acons (.var 1) .anil))) (.cons (.ife (.cmp .gt (.var 2) (.lit (.int 0))) (.cons (.for [4, 5, 6] (.tp (.cons (.nm 4) (.cons (.nm 5) .nil))) .enm (.acons (.var 0) .anil) b_layouts_from_1) .nil) .nil) (.cons (.retV 3) .nil)))
def g_layouts_from (self : Fn) : Nat → Fn
  | 102 => self
  | _ => noF
@[simp] theorem g_layouts_from_102 (self : Fn) : g_layouts_from self 102 = self := PL.nrfl rfl
def f_layouts_from : Nat → Fn
  | 0 => noF
  | n + 1 => runDef (g_layouts_from (f_layouts_from n)) 7 3 c_layouts_from
def c_layouts_of : CS := (.cons (.ret (.call 102 (.acons (.call 5 (.acons (.idx (.var 0) (.lit (.int 1))) .anil)) (.acons (.tup .anil) (.acons (.var 1) .anil))))) .nil)
def g_layouts_of : Nat → Fn
  | 5 => f_breaks_of
  | 102 => f_layouts_from 40
  | _ => noF
@[simp] theorem g_layouts_of_5 : g_layouts_of 5 = f_breaks_of := PL.nrfl rfl
@[simp] theorem g_layouts_of_102 : g_layouts_of 102 = f_layouts_from 40 := PL.nrfl rfl
def f_layouts_of : Fn := runDef g_layouts_of 2 2 c_layouts_of
def b_most_even_0 : CS := (.cons (.ife (.cmp .eq (.bi .len (.acons (.var 4) .anil)) (.bin .sub (.var 1) (.lit (.int 1)))) (.cons (.set 5 (.call 27 (.acons (.var 0) (.acons (.var 4) (.acons (.var 2) .anil))))) (.frz 5 (.cons (.set 6 (.bin .sub (.bi .max (.acons (.lc [7] (.nm 7) .seq (.acons (.var 5) .anil) .none (.bi .int (.acons (.var 7) .anil))) .anil)) (.bi .min (.acons (.lc [7] (.nm 7) .seq (.acons (.var 5) .anil) .none (.bi .int (.acons (.var 7) .anil))) .anil)))) (.frz 6 (.cons (.ife (.or (.acons (.cmp .is (.var 3) (.lit .non)) (.acons (.cmp .lt (.var 6) (.idx (.var 3) (.lit (.int 0)))) .anil))) (.cons (.set 3 (.tup (.acons (.var 6) (.acons (.var 4) .anil)))) (.frz 3 .nil)) .nil) .nil))))) .nil) .nil)
def c_most_even : CS := (.cons (.expr (.call 7 (.acons (.var 0) .anil))) (.cons (.expr (.call 36 (.acons (.var 1) .anil))) (.cons (.expr (.call 24 (.acons (.var 2) .anil))) (.cons (.set 3 (.lit .non)) (.frz 3 (.cons (.for [4, 5, 6] (.nm 4) .seq (.acons (.call 101 (.acons (.var 0) (.acons (.bin .sub (.var 1) (.lit (.int 1))) .anil))) .anil) b_most_even_0) (.cons (.retV 3) .nil)))))))
def g_most_even : Nat → Fn
  | 7 => f_need_content
  | 24 => f_need_size
  | 27 => f_heights_in
  | 36 => f_need_columns
  | 101 => f_layouts_of
  | _ => noF
@[simp] theorem g_most_even_7 : g_most_even 7 = f_need_content := PL.nrfl rfl
@[simp] theorem g_most_even_24 : g_most_even 24 = f_need_size := PL.nrfl rfl
@[simp] theorem g_most_even_27 : g_most_even 27 = f_heights_in := PL.nrfl rfl
@[simp] theorem g_most_even_36 : g_most_even 36 = f_need_columns := PL.nrfl rfl
@[simp] theorem g_most_even_101 : g_most_even 101 = f_layouts_of := PL.nrfl rfl
def f_most_even : Fn := runDef g_most_even 8 3 c_most_even
def b_law_k13_0 : CS := (.cons (.set 8 (.call 33 (.acons (.var 3) (.acons (.var 7) .anil)))) (.frz 8 (.cons (.set 9 (.lc [11] (.nm 11) .seq (.acons (.var 8) .anil) .none (.call 32 (.acons (.var 3) (.acons (.idx (.var 11) (.lit (.int 0))) (.acons (.idx (.var 11) (.lit (.int 1))) (.acons (.var 5) .anil))))))) (.frz 9 (.cons (.set 10 (.bin .sub (.bi .max (.acons (.lc [12] (.nm 12) .seq (.acons (.var 9) .anil) .none (.bi .int (.acons (.var 12) .anil))) .anil)) (.bi .min (.acons (.lc [12] (.nm 12) .seq (.acons (.var 9) .anil) .none (.bi .int (.acons (.var 12) .anil))) .anil)))) (.frz 10 (.cons (.ife (.and (.acons (.cmp .eq (.bi .len (.acons (.var 8) .anil)) (.var 4)) (.acons (.or (.acons (.cmp .is (.var 6) (.lit .non)) (.acons (.cmp .lt (.var 10) (.idx (.var 6) (.lit (.int 0)))) .anil))) .anil))) (.cons (.set 6 (.tup (.acons (.var 10) (.acons (.var 7) .anil)))) (.frz 6 .nil)) .nil) .nil)))))))
def b_law_k13_1 : CS := (.cons (.set 5 (.call 11 (.acons (.var 2) (.acons (.lst (.acons (.lit (.int 0)) (.acons (.call 10 (.acons (.var 2) (.acons (.lit (.int 30)) .anil))) (.acons (.call 10 (.acons (.var 2) (.acons (.bin .pow (.lit (.int 10)) (.lit (.int 6))) .anil))) .anil)))) .anil)))) (.frz 5 (.cons (.set 6 (.lit .non)) (.frz 6 (.cons (.for [] (.nm 7) .seq (.acons (.call 44 (.acons (.var 3) (.acons (.var 4) .anil))) .anil) b_law_k13_0) (.cons (.ife (.cmp .ne (.callK 103 (.acons (.var 3) (.acons (.var 4) .anil)) (.var 5)) (.var 6)) (.cons (.ret (.lit (.bl false))) .nil) .nil) .nil))))))
def b_law_k13_2 : CS := (.cons (.set 2 (.call 9 (.acons (.var 0) (.acons (.var 1) .anil)))) (.frz 2 (.cons (.set 3 (.call 13 (.acons (.var 2) (.acons (.lit (.int 1)) (.acons (.lit (.int 8)) (.acons (.call 11 (.acons (.var 2) (.acons (.lst (.acons (.lit (.int 3)) (.acons (.lit (.int 12)) (.acons (.lit (.int 60)) .anil)))) .anil))) .anil)))))) (.frz 3 (.cons (.for [] (.nm 4) .rng2 (.acons (.lit (.int 1)) (.acons (.lit (.int 7)) .anil)) b_law_k13_1) .nil)))))
def c_law_k13 : CS := (.cons (.for [1, 2, 3, 4, 5, 6, 7, 8, 9, 10] (.nm 1) .rng1 (.acons (.bi .max (.acons (.lit (.int 5)) (.acons (.bi .min (.acons (.lit (.int 14)) (.acons (.bi .len (.acons (.var 0) .anil)) .anil))) .anil))) .anil) b_law_k13_2) (.cons (.ret (.lit (.bl true))) .nil))
def g_law_k13 : Nat → Fn
  | 9 => f__law_bag
  | 10 => f__law_take
  | 11 => f__law_of
  | 13 => f__law_content
  | 32 => f__law_high
  | 33 => f__law_columns
  | 44 => f__law_layouts
  | 103 => f_most_even
  | _ => noF
@[simp] theorem g_law_k13_9 : g_law_k13 9 = f__law_bag := PL.nrfl rfl
@[simp] theorem g_law_k13_10 : g_law_k13 10 = f__law_take := PL.nrfl rfl
@[simp] theorem g_law_k13_11 : g_law_k13 11 = f__law_of := PL.nrfl rfl
@[simp] theorem g_law_k13_13 : g_law_k13 13 = f__law_content := PL.nrfl rfl
@[simp] theorem g_law_k13_32 : g_law_k13 32 = f__law_high := PL.nrfl rfl
@[simp] theorem g_law_k13_33 : g_law_k13 33 = f__law_columns := PL.nrfl rfl
@[simp] theorem g_law_k13_44 : g_law_k13 44 = f__law_layouts := PL.nrfl rfl
@[simp] theorem g_law_k13_103 : g_law_k13 103 = f_most_even := PL.nrfl rfl
def f_law_k13 : Fn := runDef g_law_k13 13 1 c_law_k13
def b_touching_0 : CS := (.cons (.ife (.and (.acons (.cmp .ne (.var 1) (.lst .anil)) (.acons (.cmp .eq (.idx (.idx (.var 1) (.neg (.lit (.int 1)))) (.lit (.int 1))) (.bin .sub (.var 2) (.lit (.int 1)))) .anil))) (.cons (.seti 1 (.neg (.lit (.int 1))) (.tup (.acons (.idx (.idx (.var 1) (.neg (.lit (.int 1)))) (.lit (.int 0))) (.acons (.var 3) .anil)))) .nil) (.cons (.app 1 (.tup (.acons (.var 2) (.acons (.var 3) .anil)))) .nil)) .nil)
def c_touching : CS := (.cons (.set 1 (.lst .anil)) (.cons (.for [2, 3] (.tp (.cons (.nm 2) (.cons (.nm 3) .nil))) .seq (.acons (.var 0) .anil) b_touching_0) (.cons (.retV 1) .nil)))
def g_touching : Nat → Fn
  | _ => noF
def f_touching : Fn := runDef g_touching 4 1 c_touching
def c__law_is_in : CS := (.cons (.ret (.cmp .ne (.lc [2] (.nm 2) .seq (.acons (.var 0) .anil) (.acons (.and (.acons (.cmp .le (.idx (.var 2) (.lit (.int 0))) (.var 1)) (.acons (.or (.acons (.cmp .is (.idx (.var 2) (.lit (.int 1))) (.lit .non)) (.acons (.cmp .le (.var 1) (.idx (.var 2) (.lit (.int 1)))) .anil))) .anil))) .anil) (.var 2)) (.lst .anil))) .nil)
def g__law_is_in : Nat → Fn
  | _ => noF
def f__law_is_in : Fn := runDef g__law_is_in 3 2 c__law_is_in
def b__law_ranges_0 : CS := (.cons (.unp (.tp (.cons (.nm 2) (.cons (.nm 3) .nil))) (.idx (.var 0) (.var 1))) (.cons (.ife (.or (.acons (.and (.acons (.cmp .isnot (.var 3) (.lit .non)) (.acons (.cmp .lt (.var 3) (.var 2)) .anil))) (.acons (.and (.acons (.cmp .is (.var 3) (.lit .non)) (.acons (.cmp .lt (.var 1) (.bin .sub (.bi .len (.acons (.var 0) .anil)) (.lit (.int 1)))) .anil))) .anil))) (.cons (.ret (.lit (.bl false))) .nil) .nil) (.cons (.ife (.and (.acons (.cmp .gt (.var 1) (.lit (.int 0))) (.acons (.cmp .gt (.bin .add (.idx (.idx (.var 0) (.bin .sub (.var 1) (.lit (.int 1)))) (.lit (.int 1))) (.lit (.int 2))) (.var 2)) .anil))) (.cons (.ret (.lit (.bl false))) .nil) .nil) .nil)))
def c__law_ranges : CS := (.cons (.ife (.not (.bi (.isi [.list]) (.acons (.var 0) .anil))) (.cons (.ret (.lit (.bl false))) .nil) .nil) (.cons (.for [1, 2, 3] (.nm 1) .rng1 (.acons (.bi .len (.acons (.var 0) .anil)) .anil) b__law_ranges_0) (.cons (.ret (.lit (.bl true))) .nil)))
def g__law_ranges : Nat → Fn
  | _ => noF
def f__law_ranges : Fn := runDef g__law_ranges 4 1 c__law_ranges
def c_holds : CS := (.cons (.ret (.bi .any (.acons (.lc [2, 3] (.tp (.cons (.nm 2) (.cons (.nm 3) .nil))) .seq (.acons (.var 0) .anil) .none (.and (.acons (.cmp .le (.var 2) (.var 1)) (.acons (.or (.acons (.cmp .is (.var 3) (.lit .non)) (.acons (.cmp .le (.var 1) (.var 3)) .anil))) .anil)))) .anil))) .nil)
def g_holds : Nat → Fn
  | _ => noF
def f_holds : Fn := runDef g_holds 4 2 c_holds
def b_cover_0 : CS := (.cons (.set 4 (.call 114 (.acons (.slc (.var 0) (.bin .add (.var 3) (.lit (.int 1))) .none) (.acons (.lc [7] (.nm 7) .seq (.acons (.var 1) .anil) (.acons (.not (.call 113 (.acons (.var 6) (.acons (.var 7) .anil)))) .anil) (.var 7)) (.acons (.bin .sub (.var 2) (.lit (.int 1))) .anil))))) (.frz 4 (.cons (.ife (.cmp .isnot (.var 4) (.lit .non)) (.cons (.ret (.bin .add (.tup (.acons (.var 5) .anil)) (.var 4))) .nil) .nil) .nil)))
def c_cover : CS := (.cons (.ife (.cmp .eq (.var 2) (.lit (.int 0))) (.cons (.ret (.ife (.cmp .eq (.var 1) (.lst .anil)) (.tup .anil) (.lit .non))) .nil) .nil) (.cons (.for [3, 4, 5, 6] (.tp (.cons (.nm 3) (.cons (.tp (.cons (.nm 5) (.cons (.nm 6) .nil))) .nil))) .enm (.acons (.var 0) .anil) b_cover_0) (.cons (.ret (.lit .non)) .nil)))
def g_cover (self : Fn) : Nat → Fn
  | 113 => f_holds
  | 114 => self
  | _ => noF
@[simp] theorem g_cover_113 (self : Fn) : g_cover self 113 = f_holds := PL.nrfl rfl
@[simp] theorem g_cover_114 (self : Fn) : g_cover self 114 = self := PL.nrfl rfl
def f_cover : Nat → Fn
  | 0 => noF
  | n + 1 => runDef (g_cover (f_cover n)) 8 3 c_cover
def b__law_chosen_0 : CS := (.cons (.set 4 (.lc [6] (.nm 6) .seq (.acons (.var 2) .anil) (.acons (.cmp .nmem (.var 6) (.idx (.idx (.var 0) (.var 3)) (.lit (.int 1)))) .anil) (.var 6))) (.frz 4 (.cons (.set 5 (.call 117 (.acons (.slc (.var 0) (.bin .add (.var 3) (.lit (.int 1))) .none) (.acons (.bin .sub (.var 1) (.lit (.int 1))) (.acons (.var 4) .anil))))) (.frz 5 (.cons (.ife (.cmp .isnot (.var 5) (.lit .non)) (.cons (.ret (.bin .add (.tup (.acons (.idx (.idx (.var 0) (.var 3)) (.lit (.int 0))) .anil)) (.var 5))) .nil) .nil) .nil)))))
def c__law_chosen : CS := (.cons (.ife (.cmp .eq (.var 1) (.lit (.int 0))) (.cons (.ret (.ife (.cmp .eq (.var 2) (.lst .anil)) (.tup .anil) (.lit .non))) .nil) .nil) (.cons (.for [3, 4, 5] (.nm 3) .rng1 (.acons (.bi .len (.acons (.var 0) .anil)) .anil) b__law_chosen_0) (.cons (.ret (.lit .non)) .nil)))
def g__law_chosen (self : Fn) : Nat → Fn
  | 117 => self
  | _ => noF
@[simp] theorem g__law_chosen_117 (self : Fn) : g__law_chosen self 117 = self := PL.nrfl rfl
def f__law_chosen : Nat → Fn
  | 0 => noF
  | n + 1 => runDef (g__law_chosen (f__law_chosen n)) 7 3 c__law_chosen
def c_need_three : CS := (.cons (.expr (.call 7 (.acons (.var 0) .anil))) (.cons (.expr (.call 7 (.acons (.var 1) .anil))) (.cons (.expr (.call 36 (.acons (.var 2) .anil))) .nil)))
def g_need_three : Nat → Fn
  | 7 => f_need_content
  | 36 => f_need_columns
  | _ => noF
@[simp] theorem g_need_three_7 : g_need_three 7 = f_need_content := PL.nrfl rfl
@[simp] theorem g_need_three_36 : g_need_three 36 = f_need_columns := PL.nrfl rfl
def f_need_three : Fn := runDef g_need_three 3 3 c_need_three
def b__law_turned_0 : CS := (.cons (.unp (.tp (.cons (.nm 4) (.cons (.nm 5) .nil))) (.ife (.cmp .gt (.var 3) (.lit (.int 0))) (.tup (.acons (.idx (.idx (.var 1) (.bin .sub (.var 3) (.lit (.int 1)))) (.lit (.int 1))) (.acons (.idx (.idx (.var 1) (.bin .sub (.var 3) (.lit (.int 1)))) (.lit (.int 3))) .anil))) (.tup (.acons (.lit (.int 0)) (.acons (.lit (.bl false)) .anil))))) (.cons (.app 2 (.tup (.acons (.idx (.idx (.var 1) (.var 3)) (.lit (.int 0))) (.acons (.var 4) (.acons (.idx (.idx (.var 1) (.var 3)) (.lit (.int 2))) (.acons (.var 5) .anil)))))) .nil))
def c__law_turned : CS := (.cons (.par 1 2 (.idx (.var 0) (.lit (.int 1))) (.lst .anil)) (.frz 1 (.cons (.for [3, 4, 5] (.nm 3) .rng3 (.acons (.bin .sub (.bi .len (.acons (.var 1) .anil)) (.lit (.int 1))) (.acons (.neg (.lit (.int 1))) (.acons (.neg (.lit (.int 1))) .anil))) b__law_turned_0) (.cons (.ret (.tup (.acons (.idx (.var 0) (.lit (.int 0))) (.acons (.bi .tuple (.acons (.var 2) .anil)) .anil)))) .nil))))
def g__law_turned : Nat → Fn
  | _ => noF
def f__law_turned : Fn := runDef g__law_turned 6 1 c__law_turned
def b_turned_lines_0 : CS := (.cons (.unp (.tp (.cons (.nm 3) (.cons (.nm 4) (.cons (.nm 5) (.cons (.nm 6) .nil))))) (.idx (.var 0) (.var 2))) (.cons (.set 1 (.bin .add (.var 1) (.tup (.acons (.tup (.acons (.var 3) (.acons (.idx (.idx (.var 0) (.bin .sub (.var 2) (.lit (.int 1)))) (.lit (.int 1))) (.acons (.var 5) (.acons (.idx (.idx (.var 0) (.bin .sub (.var 2) (.lit (.int 1)))) (.lit (.int 3))) .anil))))) .anil)))) (.frz 1 .nil)))
def c_turned_lines : CS := (.cons (.set 1 (.tup .anil)) (.frz 1 (.cons (.for [2, 3, 4, 5, 6] (.nm 2) .rng3 (.acons (.bin .sub (.bi .len (.acons (.var 0) .anil)) (.lit (.int 1))) (.acons (.lit (.int 0)) (.acons (.neg (.lit (.int 1))) .anil))) b_turned_lines_0) (.cons (.ret (.bin .add (.var 1) (.tup (.acons (.tup (.acons (.idx (.idx (.var 0) (.lit (.int 0))) (.lit (.int 0))) (.acons (.lit (.int 0)) (.acons (.idx (.idx (.var 0) (.lit (.int 0))) (.lit (.int 2))) (.acons (.lit (.bl false)) .anil))))) .anil)))) .nil))))
def g_turned_lines : Nat → Fn
  | _ => noF
def f_turned_lines : Fn := runDef g_turned_lines 7 1 c_turned_lines
def c_turned : CS := (.cons (.expr (.call 7 (.acons (.var 0) .anil))) (.cons (.ret (.tup (.acons (.idx (.var 0) (.lit (.int 0))) (.acons (.call 127 (.acons (.idx (.var 0) (.lit (.int 1))) .anil)) .anil)))) .nil))
def g_turned : Nat → Fn
  | 7 => f_need_content
  | 127 => f_turned_lines
  | _ => noF
@[simp] theorem g_turned_7 : g_turned 7 = f_need_content := PL.nrfl rfl
@[simp] theorem g_turned_127 : g_turned 127 = f_turned_lines := PL.nrfl rfl
def f_turned : Fn := runDef g_turned 1 1 c_turned
def c_joined : CS := (.cons (.expr (.call 7 (.acons (.var 0) .anil))) (.cons (.expr (.call 7 (.acons (.var 1) .anil))) (.cons (.ife (.or (.acons (.not (.call 0 (.acons (.var 2) (.acons (.lit (.int 0)) (.acons (.lit (.int 200)) .anil))))) (.acons (.cmp .ne (.idx (.var 0) (.lit (.int 0))) (.idx (.var 1) (.lit (.int 0)))) .anil))) (.cons (.raise 1 "InvalidContent" "") .nil) .nil) (.cons (.unp (.tp (.cons (.nm 3) (.cons (.nm 4) (.cons (.nm 5) (.cons (.nm 6) .nil))))) (.idx (.idx (.var 0) (.lit (.int 1))) (.neg (.lit (.int 1))))) (.cons (.set 7 (.tup (.acons (.idx (.var 0) (.lit (.int 0))) (.acons (.bin .add (.bin .add (.slc (.idx (.var 0) (.lit (.int 1))) .none (.neg (.lit (.int 1)))) (.tup (.acons (.tup (.acons (.var 3) (.acons (.var 2) (.acons (.var 5) (.acons (.var 6) .anil))))) .anil))) (.idx (.var 1) (.lit (.int 1)))) .anil)))) (.frz 7 (.cons (.expr (.call 7 (.acons (.var 7) .anil))) (.cons (.retV 7) .nil))))))))
def g_joined : Nat → Fn
  | 0 => f_is_integer
  | 7 => f_need_content
  | _ => noF
@[simp] theorem g_joined_0 : g_joined 0 = f_is_integer := PL.nrfl rfl
@[simp] theorem g_joined_7 : g_joined 7 = f_need_content := PL.nrfl rfl
def f_joined : Fn := runDef g_joined 8 3 c_joined
def c__law_joined : CS := (.cons (.set 3 (.idx (.idx (.var 0) (.lit (.int 1))) (.neg (.lit (.int 1))))) (.frz 3 (.cons (.ret (.tup (.acons (.idx (.var 0) (.lit (.int 0))) (.acons (.bin .add (.bin .add (.slc (.idx (.var 0) (.lit (.int 1))) .none (.neg (.lit (.int 1)))) (.tup (.acons (.tup (.acons (.idx (.var 3) (.lit (.int 0))) (.acons (.var 2) (.acons (.idx (.var 3) (.lit (.int 2))) (.acons (.idx (.var 3) (.lit (.int 3))) .anil))))) .anil))) (.idx (.var 1) (.lit (.int 1)))) .anil)))) .nil)))
def g__law_joined : Nat → Fn
  | _ => noF
def f__law_joined : Fn := runDef g__law_joined 4 3 c__law_joined
def c_untied : CS := (.cons (.unp (.tp (.cons (.nm 2) (.cons (.nm 3) (.cons (.nm 4) (.cons (.nm 5) .nil))))) (.idx (.idx (.var 0) (.lit (.int 1))) (.var 1))) (.cons (.ret (.tup (.acons (.idx (.var 0) (.lit (.int 0))) (.acons (.bin .add (.bin .add (.slc (.idx (.var 0) (.lit (.int 1))) .none (.var 1)) (.tup (.acons (.tup (.acons (.var 2) (.acons (.var 3) (.acons (.var 4) (.acons (.lit (.bl false)) .anil))))) .anil))) (.slc (.idx (.var 0) (.lit (.int 1))) (.bin .add (.var 1) (.lit (.int 1))) .none)) .anil)))) .nil))
def g_untied : Nat → Fn
  | _ => noF
def f_untied : Fn := runDef g_untied 6 2 c_untied
def c__law_untied : CS := (.cons (.set 2 (.idx (.idx (.var 0) (.lit (.int 1))) (.var 1))) (.frz 2 (.cons (.ret (.tup (.acons (.idx (.var 0) (.lit (.int 0))) (.acons (.bin .add (.bin .add (.slc (.idx (.var 0) (.lit (.int 1))) .none (.var 1)) (.tup (.acons (.bin .add (.slc (.var 2) .none (.lit (.int 3))) (.tup (.acons (.lit (.bl false)) .anil))) .anil))) (.slc (.idx (.var 0) (.lit (.int 1))) (.bin .add (.var 1) (.lit (.int 1))) .none)) .anil)))) .nil)))
def g__law_untied : Nat → Fn
  | _ => noF
def f__law_untied : Fn := runDef g__law_untied 3 2 c__law_untied
def c_edited_so : CS := (.cons (.set 4 (.bi .len (.acons (.idx (.var 0) (.lit (.int 1))) .anil))) (.frz 4 (.cons (.ife (.not (.call 0 (.acons (.var 1) (.acons (.lit (.int 0)) (.acons (.var 4) .anil))))) (.cons (.raise 8 "InvalidIndex" "") .nil) .nil) (.cons (.ife (.not (.call 0 (.acons (.var 2) (.acons (.lit (.int 0)) (.acons (.bin .sub (.var 4) (.var 1)) .anil))))) (.cons (.raise 8 "InvalidIndex" "") .nil) .nil) (.cons (.ife (.not (.call 3 (.acons (.var 3) .anil))) (.cons (.raise 1 "InvalidContent" "") .nil) .nil) (.cons (.set 5 (.tup (.acons (.idx (.var 0) (.lit (.int 0))) (.acons (.bin .add (.bin .add (.slc (.idx (.var 0) (.lit (.int 1))) .none (.var 1)) (.var 3)) (.slc (.idx (.var 0) (.lit (.int 1))) (.bin .add (.var 1) (.var 2)) .none)) .anil)))) (.frz 5 (.cons (.expr (.call 7 (.acons (.var 5) .anil))) (.cons (.retV 5) .nil)))))))))
def g_edited_so : Nat → Fn
  | 0 => f_is_integer
  | 3 => f_are_lines
  | 7 => f_need_content
  | _ => noF
@[simp] theorem g_edited_so_0 : g_edited_so 0 = f_is_integer := PL.nrfl rfl
@[simp] theorem g_edited_so_3 : g_edited_so 3 = f_are_lines := PL.nrfl rfl
@[simp] theorem g_edited_so_7 : g_edited_so 7 = f_need_content := PL.nrfl rfl
def f_edited_so : Fn := runDef g_edited_so 6 4 c_edited_so
def c_edited : CS := (.cons (.expr (.call 7 (.acons (.var 0) .anil))) (.cons (.ret (.call 139 (.acons (.var 0) (.acons (.var 1) (.acons (.var 2) (.acons (.var 3) .anil)))))) .nil))
def g_edited : Nat → Fn
  | 7 => f_need_content
  | 139 => f_edited_so
  | _ => noF
@[simp] theorem g_edited_7 : g_edited 7 = f_need_content := PL.nrfl rfl
@[simp] theorem g_edited_139 : g_edited 139 = f_edited_so := PL.nrfl rfl
def f_edited : Fn := runDef g_edited 4 4 c_edited
def c__law_due : CS := (.cons (.ife (.not (.call 19 (.acons (.var 0) .anil))) (.cons (.ret (.lit (.str (PySem.Str.ofString "content")))) .nil) .nil) (.cons (.ife (.or (.acons (.not (.call 17 (.acons (.var 1) (.acons (.lit (.int 0)) (.acons (.bi .len (.acons (.idx (.var 0) (.lit (.int 1))) .anil)) .anil))))) (.acons (.not (.call 17 (.acons (.var 2) (.acons (.lit (.int 0)) (.acons (.bin .sub (.bi .len (.acons (.idx (.var 0) (.lit (.int 1))) .anil)) (.var 1)) .anil))))) .anil))) (.cons (.ret (.lit (.str (PySem.Str.ofString "index")))) .nil) .nil) (.cons (.ife (.or (.acons (.not (.bi (.isi [.tuple]) (.acons (.var 3) .anil))) (.acons (.cmp .ne (.lc [4] (.nm 4) .seq (.acons (.var 3) .anil) (.acons (.not (.call 18 (.acons (.var 4) .anil))) .anil) (.var 4)) (.lst .anil)) .anil))) (.cons (.ret (.lit (.str (PySem.Str.ofString "content")))) .nil) .nil) (.cons (.set 5 (.tup (.acons (.idx (.var 0) (.lit (.int 0))) (.acons (.bin .add (.bin .add (.slc (.idx (.var 0) (.lit (.int 1))) .none (.var 1)) (.var 3)) (.slc (.idx (.var 0) (.lit (.int 1))) (.bin .add (.var 1) (.var 2)) .none)) .anil)))) (.frz 5 (.cons (.ret (.ife (.call 19 (.acons (.var 5) .anil)) (.var 5) (.lit (.str (PySem.Str.ofString "content"))))) .nil))))))
def g__law_due : Nat → Fn
  | 17 => f__law_whole
  | 18 => f__law_is_line
  | 19 => f__law_is_content
  | _ => noF
@[simp] theorem g__law_due_17 : g__law_due 17 = f__law_whole := PL.nrfl rfl
@[simp] theorem g__law_due_18 : g__law_due 18 = f__law_is_line := PL.nrfl rfl
@[simp] theorem g__law_due_19 : g__law_due 19 = f__law_is_content := PL.nrfl rfl
def f__law_due : Fn := runDef g__law_due 6 4 c__law_due
def b__law_old_0 : CS := (.cons (.ife (.chain .le .lt (.var 1) (.var 7) (.bin .add (.var 1) (.var 3))) (.cons (.ret (.lit (.bl false))) .nil) .nil) (.cons (.app 6 (.ife (.cmp .lt (.var 7) (.var 1)) (.var 7) (.bin .add (.bin .sub (.var 7) (.var 3)) (.var 2)))) .nil))
def c__law_old : CS := (.cons (.set 6 (.lst .anil)) (.cons (.for [7] (.nm 7) .rng2 (.acons (.var 4) (.acons (.var 5) .anil)) b__law_old_0) (.cons (.ret (.and (.acons (.cmp .mem (.tup (.acons (.idx (.var 6) (.lit (.int 0))) (.acons (.bin .add (.idx (.var 6) (.neg (.lit (.int 1)))) (.lit (.int 1))) .anil))) (.var 0)) (.acons (.cmp .eq (.bin .sub (.idx (.var 6) (.neg (.lit (.int 1)))) (.idx (.var 6) (.lit (.int 0)))) (.bin .sub (.bin .sub (.var 5) (.var 4)) (.lit (.int 1)))) .anil)))) .nil)))
def g__law_old : Nat → Fn
  | _ => noF
def f__law_old : Fn := runDef g__law_old 8 6 c__law_old
def b_need_sightings_0 : CS := (.cons (.ife (.or (.acons (.not (.bi (.isi [.tuple]) (.acons (.var 2) .anil))) (.acons (.cmp .ne (.bi .len (.acons (.var 2) .anil)) (.lit (.int 2))) (.acons (.not (.call 0 (.acons (.idx (.var 2) (.lit (.int 0))) (.acons (.lit (.int 0)) (.acons (.glob "MOST_HEIGHT" (.int 10000000)) .anil))))) .anil)))) (.cons (.raise 9 "InvalidSightings" "") .nil) .nil) (.cons (.ife (.not (.call 6 (.acons (.idx (.var 0) (.lit (.int 1))) (.acons (.idx (.var 2) (.lit (.int 1))) .anil)))) (.cons (.raise 9 "InvalidSightings" "") .nil) .nil) .nil))
def c_need_sightings : CS := (.cons (.ife (.or (.acons (.not (.bi (.isi [.tuple]) (.acons (.var 1) .anil))) (.acons (.not (.chain .le .le (.lit (.int 1)) (.bi .len (.acons (.var 1) .anil)) (.glob "MOST_SIGHTINGS" (.int 8)))) .anil))) (.cons (.raise 9 "InvalidSightings" "") .nil) .nil) (.cons (.for [2] (.nm 2) .seq (.acons (.var 1) .anil) b_need_sightings_0) .nil))
def g_need_sightings : Nat → Fn
  | 0 => f_is_integer
  | 6 => f_is_layout_of
  | _ => noF
@[simp] theorem g_need_sightings_0 : g_need_sightings 0 = f_is_integer := PL.nrfl rfl
@[simp] theorem g_need_sightings_6 : g_need_sightings 6 = f_is_layout_of := PL.nrfl rfl
def f_need_sightings : Fn := runDef g_need_sightings 3 2 c_need_sightings
def c_narrowed : CS := (.cons (.ife (.cmp .is (.var 0) (.lit .non)) (.cons (.ret (.lit .non)) .nil) .nil) (.cons (.unp (.tp (.cons (.nm 5) (.cons (.nm 6) .nil))) (.var 0)) (.cons (.ife (.cmp .eq (.var 2) (.lit (.int 0))) (.cons (.ret (.ife (.cmp .eq (.cmp .le (.var 1) (.var 3)) (.var 4)) (.var 0) (.lit .non))) .nil) .nil) (.cons (.set 7 (.bin .fdiv (.bin .sub (.var 3) (.var 1)) (.var 2))) (.frz 7 (.cons (.ife (.var 4) (.cons (.set 6 (.ife (.cmp .is (.var 6) (.lit .non)) (.var 7) (.bi .min (.acons (.bi .int (.acons (.var 6) .anil)) (.acons (.bi .int (.acons (.var 7) .anil)) .anil))))) (.frz 6 .nil)) (.cons (.set 5 (.bi .max (.acons (.bi .int (.acons (.var 5) .anil)) (.acons (.bi .int (.acons (.bin .add (.var 7) (.lit (.int 1))) .anil)) .anil)))) (.frz 5 .nil))) (.cons (.ret (.ife (.or (.acons (.cmp .is (.var 6) (.lit .non)) (.acons (.cmp .le (.var 5) (.var 6)) .anil))) (.tup (.acons (.var 5) (.acons (.var 6) .anil))) (.lit .non))) .nil)))))))
def g_narrowed : Nat → Fn
  | _ => noF
def f_narrowed : Fn := runDef g_narrowed 8 5 c_narrowed
def c_need_index : CS := (.cons (.ife (.not (.call 0 (.acons (.var 1) (.acons (.lit (.int 0)) (.acons (.bin .sub (.bi .len (.acons (.idx (.var 0) (.lit (.int 1))) .anil)) (.lit (.int 1))) .anil))))) (.cons (.raise 8 "InvalidIndex" "") .nil) .nil) .nil)
def g_need_index : Nat → Fn
  | 0 => f_is_integer
  | _ => noF
@[simp] theorem g_need_index_0 : g_need_index 0 = f_is_integer := PL.nrfl rfl
def f_need_index : Fn := runDef g_need_index 2 2 c_need_index
def c__law_with : CS := (.cons (.ret (.tup (.acons (.idx (.var 0) (.lit (.int 0))) (.acons (.bin .add (.bin .add (.slc (.idx (.var 0) (.lit (.int 1))) .none (.var 1)) (.tup (.acons (.bin .add (.tup (.acons (.var 2) .anil)) (.slc (.idx (.idx (.var 0) (.lit (.int 1))) (.var 1)) (.lit (.int 1)) .none)) .anil))) (.slc (.idx (.var 0) (.lit (.int 1))) (.bin .add (.var 1) (.lit (.int 1))) .none)) .anil)))) .nil)
def g__law_with : Nat → Fn
  | _ => noF
def f__law_with : Fn := runDef g__law_with 3 3 c__law_with
def c__law_smaller : CS := (.cons (.par 2 3 (.call 10 (.acons (.var 0) (.acons (.bi .len (.acons (.idx (.var 1) (.lit (.int 1))) .anil)) .anil))) (.call 10 (.acons (.var 0) (.acons (.lit (.int 5)) .anil)))) (.frz 2 (.frz 3 (.cons (.unp (.tp (.cons (.nm 4) (.cons (.tp (.cons (.nm 5) (.cons (.nm 6) (.cons (.nm 7) (.cons (.nm 8) .nil))))) .nil))) (.tup (.acons (.idx (.var 1) (.lit (.int 0))) (.acons (.idx (.idx (.var 1) (.lit (.int 1))) (.var 2)) .anil)))) (.cons (.ife (.and (.acons (.cmp .eq (.var 3) (.lit (.int 0))) (.acons (.cmp .ne (.var 5) (.lit (.str (PySem.Str.ofString "x")))) .anil))) (.cons (.set 5 (.bin .add (.lit (.int 1)) (.call 10 (.acons (.var 0) (.acons (.var 5) .anil))))) (.frz 5 .nil)) (.cons (.ife (.cmp .eq (.var 3) (.lit (.int 1))) (.cons (.set 6 (.call 10 (.acons (.var 0) (.acons (.bin .add (.var 6) (.lit (.int 1))) .anil)))) (.frz 6 .nil)) (.cons (.ife (.cmp .eq (.var 3) (.lit (.int 2))) (.cons (.set 7 (.call 10 (.acons (.var 0) (.acons (.bin .add (.var 7) (.lit (.int 1))) .anil)))) (.frz 7 .nil)) (.cons (.ife (.cmp .eq (.var 3) (.lit (.int 3))) (.cons (.set 4 (.call 10 (.acons (.var 0) (.acons (.bin .add (.var 4) (.lit (.int 1))) .anil)))) (.frz 4 .nil)) (.cons (.set 8 (.lit (.bl false))) (.frz 8 .nil))) .nil)) .nil)) .nil)) (.cons (.ret (.tup (.acons (.var 4) (.acons (.bin .add (.bin .add (.slc (.idx (.var 1) (.lit (.int 1))) .none (.var 2)) (.tup (.acons (.tup (.acons (.var 5) (.acons (.var 6) (.acons (.var 7) (.acons (.var 8) .anil))))) .anil))) (.slc (.idx (.var 1) (.lit (.int 1))) (.bin .add (.var 2) (.lit (.int 1))) .none)) .anil)))) .nil))))))
def g__law_smaller : Nat → Fn
  | 10 => f__law_take
  | _ => noF
@[simp] theorem g__law_smaller_10 : g__law_smaller 10 = f__law_take := PL.nrfl rfl
def f__law_smaller : Fn := runDef g__law_smaller 9 2 c__law_smaller
def b__law_most_in_a_column_0 : CS := (.cons (.set 2 (.bi .max (.acons (.var 2) (.acons (.bi .len (.acons (.lc [5] (.nm 5) .seq (.acons (.slc (.idx (.var 0) (.lit (.int 1))) (.var 3) (.var 4)) .anil) (.acons (.cmp .eq (.idx (.var 5) (.lit (.int 0))) (.lit (.str (PySem.Str.ofString "x")))) .anil) (.var 5)) .anil)) .anil)))) (.frz 2 .nil))
def c__law_most_in_a_column : CS := (.cons (.set 2 (.lit (.int 0))) (.frz 2 (.cons (.for [3, 4] (.tp (.cons (.nm 3) (.cons (.nm 4) .nil))) .seq (.acons (.call 33 (.acons (.var 0) (.acons (.var 1) .anil))) .anil) b__law_most_in_a_column_0) (.cons (.retV 2) .nil))))
def g__law_most_in_a_column : Nat → Fn
  | 33 => f__law_columns
  | _ => noF
@[simp] theorem g__law_most_in_a_column_33 : g__law_most_in_a_column 33 = f__law_columns := PL.nrfl rfl
def f__law_most_in_a_column : Fn := runDef g__law_most_in_a_column 6 2 c__law_most_in_a_column
def b_has_value_0 : CS := (.cons (.ife (.cmp .eq (.var 1) (.var 3)) (.cons (.ret (.lit (.bl true))) .nil) .nil) (.cons (.ife (.and (.acons (.cmp .ne (.var 4) (.lit (.int 0))) (.acons (.cmp .eq (.bin .mod (.bin .sub (.var 1) (.var 3)) (.var 4)) (.lit (.int 0))) .anil))) (.cons (.set 6 (.bin .fdiv (.bin .sub (.var 1) (.var 3)) (.var 4))) (.frz 6 (.cons (.ife (.and (.acons (.cmp .gt (.var 6) (.lit (.int 0))) (.acons (.or (.acons (.cmp .is (.var 5) (.lit .non)) (.acons (.cmp .lt (.bin .add (.var 2) (.var 6)) (.var 5)) .anil))) .anil))) (.cons (.ret (.lit (.bl true))) .nil) .nil) .nil))) .nil) .nil))
def c_has_value : CS := (.cons (.for [2, 3, 4, 5, 6] (.tp (.cons (.nm 2) (.cons (.nm 3) (.cons (.nm 4) (.cons (.nm 5) .nil))))) .seq (.acons (.call 48 (.acons (.var 0) .anil)) .anil) b_has_value_0) (.cons (.ret (.lit (.bl false))) .nil))
def g_has_value : Nat → Fn
  | 48 => f_ends
  | _ => noF
@[simp] theorem g_has_value_48 : g_has_value 48 = f_ends := PL.nrfl rfl
def f_has_value : Fn := runDef g_has_value 7 2 c_has_value
def c__law_compared : CS := (.cons (.ret (.lst (.acons (.cmp .le (.var 0) (.var 1)) (.acons (.cmp .lt (.var 0) (.var 1)) (.acons (.cmp .ge (.var 0) (.var 1)) (.acons (.cmp .gt (.var 0) (.var 1)) (.acons (.cmp .eq (.var 0) (.var 1)) (.acons (.cmp .ne (.var 0) (.var 1)) .anil)))))))) .nil)
def g__law_compared : Nat → Fn
  | _ => noF
def f__law_compared : Fn := runDef g__law_compared 2 2 c__law_compared
def c__law_due_k27 : CS := (.cons (.set 2 (.cmp .eq (.lc [3, 4] (.tp (.cons (.nm 3) (.cons (.nm 4) .nil))) .zip (.acons (.var 0) (.acons (.var 1) .anil)) (.acons (.cmp .gt (.var 3) (.var 4)) .anil) (.lit (.int 1))) (.lst .anil))) (.frz 2 (.cons (.set 5 (.cmp .eq (.lc [3, 4] (.tp (.cons (.nm 3) (.cons (.nm 4) .nil))) .zip (.acons (.var 0) (.acons (.var 1) .anil)) (.acons (.cmp .lt (.var 3) (.var 4)) .anil) (.lit (.int 1))) (.lst .anil))) (.frz 5 (.cons (.set 6 (.and (.acons (.var 2) (.acons (.var 5) .anil)))) (.frz 6 (.cons (.ret (.lst (.acons (.var 2) (.acons (.and (.acons (.var 2) (.acons (.not (.var 6)) .anil))) (.acons (.var 5) (.acons (.and (.acons (.var 5) (.acons (.not (.var 6)) .anil))) (.acons (.var 6) (.acons (.not (.var 6)) .anil)))))))) .nil)))))))
def g__law_due_k27 : Nat → Fn
  | _ => noF
def f__law_due_k27 : Fn := runDef g__law_due_k27 7 2 c__law_due_k27
def c_need_rows : CS := (.cons (.ife (.or (.acons (.not (.bi (.isi [.tuple]) (.acons (.var 0) .anil))) (.acons (.not (.bi .all (.acons (.lc [1] (.nm 1) .seq (.acons (.var 0) .anil) .none (.and (.acons (.bi (.isi [.tuple]) (.acons (.var 1) .anil)) (.acons (.cmp .eq (.bi .len (.acons (.var 1) .anil)) (.lit (.int 2))) .anil)))) .anil))) .anil))) (.cons (.raise 10 "InvalidRows" "") .nil) .nil) .nil)
def g_need_rows : Nat → Fn
  | _ => noF
def f_need_rows : Fn := runDef g_need_rows 2 1 c_need_rows
def c__law_after : CS := (.cons (.unp (.tp (.cons (.nm 2) (.cons (.nm 3) .nil))) (.var 0)) (.cons (.par 4 5 (.idx (.var 2) (.lit (.int 1))) (.idx (.var 1) (.lit (.int 0)))) (.frz 4 (.frz 5 (.cons (.ife (.cmp .eq (.var 5) (.lit (.str (PySem.Str.ofString "size")))) (.cons (.ret (.ife (.call 17 (.acons (.idx (.var 1) (.lit (.int 1))) (.acons (.lit (.int 0)) (.acons (.bin .pow (.lit (.int 10)) (.lit (.int 6))) .anil)))) (.tup (.acons (.tup (.acons (.var 2) (.acons (.idx (.var 1) (.lit (.int 1))) .anil))) (.acons (.lit (.str (PySem.Str.ofString ""))) .anil))) (.tup (.acons (.var 0) (.acons (.lit (.str (PySem.Str.ofString "size"))) .anil))))) .nil) .nil) (.cons (.ife (.cmp .eq (.var 5) (.lit (.str (PySem.Str.ofString "turn")))) (.cons (.ret (.tup (.acons (.tup (.acons (.call 124 (.acons (.var 2) .anil)) (.acons (.var 3) .anil))) (.acons (.lit (.str (PySem.Str.ofString ""))) .anil)))) .nil) .nil) (.cons (.ife (.cmp .eq (.var 5) (.lit (.str (PySem.Str.ofString "add")))) (.cons (.ife (.not (.bi (.isi [.tuple]) (.acons (.idx (.var 1) (.lit (.int 1))) .anil))) (.cons (.ret (.tup (.acons (.var 0) (.acons (.lit (.str (PySem.Str.ofString "content"))) .anil)))) .nil) .nil) (.cons (.set 4 (.bin .add (.var 4) (.idx (.var 1) (.lit (.int 1))))) (.frz 4 .nil))) (.cons (.ife (.not (.call 17 (.acons (.idx (.var 1) (.lit (.int 1))) (.acons (.lit (.int 0)) (.acons (.bin .sub (.bi .len (.acons (.var 4) .anil)) (.lit (.int 1))) .anil))))) (.cons (.ret (.tup (.acons (.var 0) (.acons (.lit (.str (PySem.Str.ofString "index"))) .anil)))) .nil) .nil) (.cons (.set 4 (.bin .add (.bin .add (.slc (.var 4) .none (.idx (.var 1) (.lit (.int 1)))) (.ife (.cmp .eq (.var 5) (.lit (.str (PySem.Str.ofString "put")))) (.tup (.acons (.idx (.var 1) (.lit (.int 2))) .anil)) (.tup .anil))) (.slc (.var 4) (.bin .add (.idx (.var 1) (.lit (.int 1))) (.lit (.int 1))) .none))) (.frz 4 .nil)))) (.cons (.set 6 (.tup (.acons (.idx (.var 2) (.lit (.int 0))) (.acons (.var 4) .anil)))) (.frz 6 (.cons (.ret (.ife (.call 19 (.acons (.var 6) .anil)) (.tup (.acons (.tup (.acons (.var 6) (.acons (.var 3) .anil))) (.acons (.lit (.str (PySem.Str.ofString ""))) .anil))) (.tup (.acons (.var 0) (.acons (.lit (.str (PySem.Str.ofString "content"))) .anil))))) .nil))))))))))
def g__law_after : Nat → Fn
  | 17 => f__law_whole
  | 19 => f__law_is_content
  | 124 => f__law_turned
  | _ => noF
@[simp] theorem g__law_after_17 : g__law_after 17 = f__law_whole := PL.nrfl rfl
@[simp] theorem g__law_after_19 : g__law_after 19 = f__law_is_content := PL.nrfl rfl
@[simp] theorem g__law_after_124 : g__law_after 124 = f__law_turned := PL.nrfl rfl
def f__law_after : Fn := runDef g__law_after 7 2 c__law_after
def c__law_best : CS := (.cons (.set 2 (.lc [3] (.nm 3) .seq (.acons (.call 44 (.acons (.idx (.var 0) (.lit (.int 0))) (.acons (.var 1) .anil))) .anil) .none (.tup (.acons (.call 43 (.acons (.idx (.var 0) (.lit (.int 0))) (.acons (.var 3) (.acons (.idx (.var 0) (.lit (.int 1))) .anil)))) (.acons (.var 3) .anil))))) (.frz 2 (.cons (.set 4 (.bi .min (.acons (.lc [3, 5] (.tp (.cons (.nm 5) (.cons (.nm 3) .nil))) .seq (.acons (.var 2) .anil) .none (.bi .int (.acons (.var 5) .anil))) .anil))) (.frz 4 (.cons (.ret (.tup (.acons (.var 4) (.acons (.idx (.lc [3, 5] (.tp (.cons (.nm 5) (.cons (.nm 3) .nil))) .seq (.acons (.var 2) .anil) (.acons (.cmp .eq (.var 5) (.var 4)) .anil) (.var 3)) (.lit (.int 0))) .anil)))) .nil)))))
def g__law_best : Nat → Fn
  | 43 => f__law_top
  | 44 => f__law_layouts
  | _ => noF
@[simp] theorem g__law_best_43 : g__law_best 43 = f__law_top := PL.nrfl rfl
@[simp] theorem g__law_best_44 : g__law_best 44 = f__law_layouts := PL.nrfl rfl
def f__law_best : Fn := runDef g__law_best 6 2 c__law_best
def c__law_put : CS := (.cons (.set 2 (.call 11 (.acons (.var 0) (.acons (.bin .add (.bin .add (.lst (.acons (.lit (.int 0)) (.acons (.bin .sub (.bi .len (.acons (.idx (.var 1) (.lit (.int 1))) .anil)) (.lit (.int 1))) .anil))) (.bin .mul (.lst (.acons (.call 10 (.acons (.var 0) (.acons (.bi .len (.acons (.idx (.var 1) (.lit (.int 1))) .anil)) .anil))) .anil)) (.lit (.int 6)))) (.lst (.acons (.bi .len (.acons (.idx (.var 1) (.lit (.int 1))) .anil)) (.acons (.neg (.lit (.int 1))) (.acons (.lit .non) .anil))))) .anil)))) (.frz 2 (.cons (.set 3 (.call 12 (.acons (.var 0) (.acons (.lit (.int 9)) (.acons (.lit (.bl true)) .anil))))) (.frz 3 (.cons (.ife (.cmp .eq (.var 2) (.bin .sub (.bi .len (.acons (.idx (.var 1) (.lit (.int 1))) .anil)) (.lit (.int 1)))) (.cons (.set 3 (.bin .add (.slc (.var 3) .none (.lit (.int 3))) (.tup (.acons (.cmp .eq (.call 10 (.acons (.var 0) (.acons (.lit (.int 5)) .anil))) (.lit (.int 0))) .anil)))) (.frz 3 .nil)) .nil) (.cons (.ret (.tup (.acons (.var 2) (.acons (.call 11 (.acons (.var 0) (.acons (.bin .add (.bin .mul (.lst (.acons (.var 3) .anil)) (.lit (.int 9))) (.lst (.acons (.slc (.var 3) .none (.lit (.int 3))) (.acons (.bi .list (.acons (.var 3) .anil)) (.acons (.bin .add (.tup (.acons (.lit (.int 0)) .anil)) (.slc (.var 3) (.lit (.int 1)) .none)) .anil))))) .anil))) .anil)))) .nil))))))
def g__law_put : Nat → Fn
  | 10 => f__law_take
  | 11 => f__law_of
  | 12 => f__law_line
  | _ => noF
@[simp] theorem g__law_put_10 : g__law_put 10 = f__law_take := PL.nrfl rfl
@[simp] theorem g__law_put_11 : g__law_put 11 = f__law_of := PL.nrfl rfl
@[simp] theorem g__law_put_12 : g__law_put 12 = f__law_line := PL.nrfl rfl
def f__law_put : Fn := runDef g__law_put 4 2 c__law_put
def c__law_deed : CS := (.cons (.set 2 (.call 10 (.acons (.var 0) (.acons (.lit (.int 13)) .anil)))) (.frz 2 (.cons (.ife (.cmp .gt (.bi .len (.acons (.idx (.idx (.var 1) (.lit (.int 0))) (.lit (.int 1))) .anil)) (.lit (.int 7))) (.cons (.ret (.tup (.acons (.lit (.str (PySem.Str.ofString "take"))) (.acons (.lit (.int 0)) .anil)))) .nil) .nil) (.cons (.ife (.cmp .lt (.var 2) (.lit (.int 4))) (.cons (.ret (.bin .add (.tup (.acons (.lit (.str (PySem.Str.ofString "put"))) .anil)) (.call 185 (.acons (.var 0) (.acons (.idx (.var 1) (.lit (.int 0))) .anil))))) .nil) .nil) (.cons (.ife (.cmp .eq (.var 2) (.lit (.int 4))) (.cons (.set 3 (.tup (.acons (.call 12 (.acons (.var 0) (.acons (.lit (.int 9)) (.acons (.lit (.bl true)) .anil)))) (.acons (.bin .add (.slc (.call 12 (.acons (.var 0) (.acons (.lit (.int 9)) (.acons (.lit (.bl true)) .anil)))) .none (.lit (.int 3))) (.tup (.acons (.lit (.bl false)) .anil))) .anil)))) (.frz 3 (.cons (.ret (.tup (.acons (.lit (.str (PySem.Str.ofString "add"))) (.acons (.call 11 (.acons (.var 0) (.acons (.lst (.acons (.slc (.var 3) .none (.lit (.int 1))) (.acons (.slc (.var 3) (.lit (.int 1)) .none) (.acons (.var 3) (.acons (.var 3) (.acons (.tup .anil) (.acons (.bi .list (.acons (.var 3) .anil)) (.acons (.lit .non) (.acons (.tup (.acons (.lit (.int 1)) .anil)) .anil))))))))) .anil))) .anil)))) .nil))) .nil) (.cons (.ife (.cmp .lt (.var 2) (.lit (.int 7))) (.cons (.ret (.tup (.acons (.lit (.str (PySem.Str.ofString "take"))) (.acons (.call 10 (.acons (.var 0) (.acons (.bin .add (.bi .len (.acons (.idx (.idx (.var 1) (.lit (.int 0))) (.lit (.int 1))) .anil)) (.lit (.int 1))) .anil))) .anil)))) .nil) .nil) (.cons (.ife (.cmp .lt (.var 2) (.lit (.int 9))) (.cons (.ret (.tup (.acons (.lit (.str (PySem.Str.ofString "size"))) (.acons (.call 11 (.acons (.var 0) (.acons (.lst (.acons (.lit (.int 0)) (.acons (.call 10 (.acons (.var 0) (.acons (.lit (.int 30)) .anil))) (.acons (.call 10 (.acons (.var 0) (.acons (.lit (.int 30)) .anil))) (.acons (.bin .pow (.lit (.int 10)) (.lit (.int 6))) (.acons (.bin .add (.bin .pow (.lit (.int 10)) (.lit (.int 6))) (.lit (.int 1))) (.acons (.neg (.lit (.int 1))) (.acons (.lit .non) .anil)))))))) .anil))) .anil)))) .nil) .nil) (.cons (.ret (.idx (.lst (.acons (.tup (.acons (.lit (.str (PySem.Str.ofString "turn"))) .anil)) (.acons (.tup (.acons (.lit (.str (PySem.Str.ofString "undo"))) .anil)) (.acons (.tup (.acons (.lit (.str (PySem.Str.ofString "undo"))) .anil)) (.acons (.tup (.acons (.lit (.str (PySem.Str.ofString "undo"))) .anil)) .anil))))) (.bin .sub (.var 2) (.lit (.int 9))))) .nil))))))))
def g__law_deed : Nat → Fn
  | 10 => f__law_take
  | 11 => f__law_of
  | 12 => f__law_line
  | 185 => f__law_put
  | _ => noF
@[simp] theorem g__law_deed_10 : g__law_deed 10 = f__law_take := PL.nrfl rfl
@[simp] theorem g__law_deed_11 : g__law_deed 11 = f__law_of := PL.nrfl rfl
@[simp] theorem g__law_deed_12 : g__law_deed 12 = f__law_line := PL.nrfl rfl
@[simp] theorem g__law_deed_185 : g__law_deed 185 = f__law_put := PL.nrfl rfl
def f__law_deed : Fn := runDef g__law_deed 4 2 c__law_deed
def b__law_all_0 : CS := (.cons (.unp (.tp (.cons (.nm 7) (.cons (.nm 8) .nil))) (.call 181 (.acons (.idx (.var 4) (.neg (.lit (.int 1)))) (.acons (.tup (.acons (.lit (.str (PySem.Str.ofString "put"))) (.acons (.var 5) (.acons (.var 6) .anil)))) .anil)))) (.cons (.ife (.cmp .ne (.var 8) (.lit (.str (PySem.Str.ofString "")))) (.frz 4 (.cons (.ret (.tup (.acons (.var 4) (.acons (.var 8) .anil)))) .nil)) .nil) (.cons (.app 4 (.var 7)) .nil)))
def c__law_all : CS := (.cons (.ife (.or (.acons (.not (.bi (.isi [.tuple]) (.acons (.var 1) .anil))) (.acons (.cmp .ne (.lc [3] (.nm 3) .seq (.acons (.var 1) .anil) (.acons (.or (.acons (.not (.bi (.isi [.tuple]) (.acons (.var 3) .anil))) (.acons (.cmp .ne (.bi .len (.acons (.var 3) .anil)) (.lit (.int 2))) .anil))) .anil) (.var 3)) (.lst .anil)) .anil))) (.cons (.ret (.tup (.acons (.lst (.acons (.var 0) .anil)) (.acons (.lit (.str (PySem.Str.ofString "rows"))) .anil)))) .nil) .nil) (.cons (.set 4 (.lst (.acons (.var 0) .anil))) (.cons (.ife (.cmp .ne (.idx (.call 181 (.acons (.var 0) (.acons (.tup (.acons (.lit (.str (PySem.Str.ofString "size"))) (.acons (.var 2) .anil))) .anil))) (.lit (.int 1))) (.lit (.str (PySem.Str.ofString "")))) (.frz 4 (.cons (.ret (.tup (.acons (.var 4) (.acons (.lit (.str (PySem.Str.ofString "size"))) .anil)))) .nil)) .nil) (.cons (.for [5, 6, 7, 8] (.tp (.cons (.nm 5) (.cons (.nm 6) .nil))) .seq (.acons (.var 1) .anil) b__law_all_0) (.frz 4 (.cons (.ret (.tup (.acons (.var 4) (.acons (.lit (.str (PySem.Str.ofString ""))) .anil)))) .nil))))))
def g__law_all : Nat → Fn
  | 181 => f__law_after
  | _ => noF
@[simp] theorem g__law_all_181 : g__law_all 181 = f__law_after := PL.nrfl rfl
def f__law_all : Fn := runDef g__law_all 9 3 c__law_all
def c_number_of : CS := (.cons (.ife (.or (.acons (.cmp .eq (.var 0) (.lit (.str (PySem.Str.ofString "")))) (.acons (.cmp .gt (.bi .len (.acons (.var 0) .anil)) (.lit (.int 6))) (.acons (.not (.bi .all (.acons (.lc [1] (.nm 1) .seq (.acons (.var 0) .anil) .none (.cmp .mem (.var 1) (.glob "FIGURES" (.str (PySem.Str.ofString "0123456789"))))) .anil))) .anil)))) (.cons (.ret (.neg (.lit (.int 1)))) .nil) .nil) (.cons (.ret (.ife (.or (.acons (.cmp .eq (.var 0) (.lit (.str (PySem.Str.ofString "0")))) (.acons (.cmp .ne (.idx (.var 0) (.lit (.int 0))) (.lit (.str (PySem.Str.ofString "0")))) .anil))) (.bi .int (.acons (.var 0) .anil)) (.neg (.lit (.int 1))))) .nil))
def g_number_of : Nat → Fn
  | _ => noF
def f_number_of : Fn := runDef g_number_of 2 1 c_number_of
def c__law_number_k32 : CS := (.cons (.ife (.or (.acons (.cmp .eq (.var 0) (.lit (.str (PySem.Str.ofString "")))) (.acons (.cmp .gt (.bi .len (.acons (.var 0) .anil)) (.lit (.int 9))) (.acons (.cmp .ne (.lc [3] (.nm 3) .seq (.acons (.var 0) .anil) (.acons (.cmp .nmem (.var 3) (.lit (.str (PySem.Str.ofString "0123456789")))) .anil) (.var 3)) (.lst .anil)) .anil)))) (.cons (.ret (.lit .non)) .nil) .nil) (.cons (.ret (.ife (.and (.acons (.cmp .eq (.bi .str (.acons (.bi .int (.acons (.var 0) .anil)) .anil)) (.var 0)) (.acons (.chain .le .le (.var 1) (.bi .int (.acons (.var 0) .anil)) (.var 2)) .anil))) (.bi .int (.acons (.var 0) .anil)) (.lit .non))) .nil))
def g__law_number_k32 : Nat → Fn
  | _ => noF
def f__law_number_k32 : Fn := runDef g__law_number_k32 4 3 c__law_number_k32
def c_need_range : CS := (.cons (.expr (.call 24 (.acons (.var 0) .anil))) (.cons (.expr (.call 24 (.acons (.var 1) .anil))) (.cons (.ife (.cmp .gt (.var 0) (.var 1)) (.cons (.raise 3 "InvalidSize" "") .nil) .nil) .nil)))
def g_need_range : Nat → Fn
  | 24 => f_need_size
  | _ => noF
@[simp] theorem g_need_range_24 : g_need_range 24 = f_need_size := PL.nrfl rfl
def f_need_range : Fn := runDef g_need_range 2 2 c_need_range
def b__law_times_0 : CS := (.cons (.app 2 (.tup (.acons (.ife (.cmp .eq (.var 3) (.lit (.str (PySem.Str.ofString "x")))) (.var 3) (.bin .mul (.var 1) (.var 3))) (.acons (.bin .mul (.var 1) (.var 4)) (.acons (.bin .mul (.var 1) (.var 5)) (.acons (.var 6) .anil)))))) .nil)
def c__law_times : CS := (.cons (.set 2 (.lst .anil)) (.cons (.for [3, 4, 5, 6] (.tp (.cons (.nm 3) (.cons (.nm 4) (.cons (.nm 5) (.cons (.nm 6) .nil))))) .seq (.acons (.idx (.var 0) (.lit (.int 1))) .anil) b__law_times_0) (.cons (.ret (.tup (.acons (.bin .mul (.var 1) (.idx (.var 0) (.lit (.int 0)))) (.acons (.bi .tuple (.acons (.var 2) .anil)) .anil)))) .nil)))
def g__law_times : Nat → Fn
  | _ => noF
def f__law_times : Fn := runDef g__law_times 7 2 c__law_times
def c__law_same : CS := (.cons (.ife (.cmp .ne (.callK 41 (.acons (.var 1) (.acons (.var 2) .anil)) (.bin .mul (.var 4) (.var 3))) (.bin .mul (.var 4) (.callK 41 (.acons (.var 0) (.acons (.var 2) .anil)) (.var 3)))) (.cons (.ret (.lit (.bl false))) .nil) .nil) (.cons (.ife (.cmp .ne (.callK 42 (.acons (.var 0) (.acons (.var 2) .anil)) (.var 3)) (.callK 42 (.acons (.var 1) (.acons (.var 2) .anil)) (.bin .mul (.var 4) (.var 3)))) (.cons (.ret (.lit (.bl false))) .nil) .nil) (.cons (.ife (.cmp .lt (.bi .len (.acons (.idx (.var 0) (.lit (.int 1))) .anil)) (.lit (.int 10))) (.cons (.set 5 (.callK 103 (.acons (.var 0) (.acons (.var 2) .anil)) (.var 3))) (.frz 5 (.cons (.set 6 (.ife (.cmp .is (.var 5) (.lit .non)) (.lit .non) (.tup (.acons (.bin .mul (.var 4) (.idx (.var 5) (.lit (.int 0)))) (.acons (.idx (.var 5) (.lit (.int 1))) .anil))))) (.frz 6 (.cons (.ife (.cmp .ne (.callK 103 (.acons (.var 1) (.acons (.var 2) .anil)) (.bin .mul (.var 4) (.var 3))) (.var 6)) (.cons (.ret (.lit (.bl false))) .nil) .nil) .nil))))) .nil) (.cons (.ife (.cmp .ne (.callK 98 (.acons (.var 0) (.acons (.var 2) .anil)) (.var 3)) (.callK 98 (.acons (.var 1) (.acons (.var 2) .anil)) (.bin .mul (.var 4) (.var 3)))) (.cons (.ret (.lit (.bl false))) .nil) .nil) (.cons (.ret (.cmp .eq (.callK 99 (.acons (.var 0) (.acons (.var 2) .anil)) (.var 3)) (.callK 99 (.acons (.var 1) (.acons (.var 2) .anil)) (.bin .mul (.var 4) (.var 3))))) .nil)))))
def g__law_same : Nat → Fn
  | 41 => f_need
  | 42 => f_least_layout
  | 98 => f_sure_breaks
  | 99 => f_possible_breaks
  | 103 => f_most_even
  | _ => noF
@[simp] theorem g__law_same_41 : g__law_same 41 = f_need := PL.nrfl rfl
@[simp] theorem g__law_same_42 : g__law_same 42 = f_least_layout := PL.nrfl rfl
@[simp] theorem g__law_same_98 : g__law_same 98 = f_sure_breaks := PL.nrfl rfl
@[simp] theorem g__law_same_99 : g__law_same 99 = f_possible_breaks := PL.nrfl rfl
@[simp] theorem g__law_same_103 : g__law_same 103 = f_most_even := PL.nrfl rfl
def f__law_same : Fn := runDef g__law_same 7 5 c__law_same
def b__law_excess_0 : CS := (.cons (.set 5 (.bin .sub (.bi .max (.acons (.lc [6, 7] (.tp (.cons (.nm 6) (.cons (.nm 7) .nil))) .seq (.acons (.var 0) .anil) .none (.bi .int (.acons (.bin .add (.var 6) (.bin .mul (.var 7) (.var 4))) .anil))) .anil)) (.idx (.var 1) (.var 4)))) (.frz 5 (.cons (.ife (.or (.acons (.cmp .is (.var 3) (.lit .non)) (.acons (.cmp .gt (.var 5) (.idx (.var 3) (.lit (.int 0)))) .anil))) (.cons (.set 3 (.tup (.acons (.var 5) (.acons (.var 4) .anil)))) (.frz 3 .nil)) .nil) .nil)))
def c__law_excess : CS := (.cons (.set 3 (.lit .non)) (.frz 3 (.cons (.for [4, 5] (.nm 4) .seq (.acons (.var 2) .anil) b__law_excess_0) (.cons (.retV 3) .nil))))
def g__law_excess : Nat → Fn
  | _ => noF
def f__law_excess : Fn := runDef g__law_excess 8 3 c__law_excess
def b__wall_0 : CS := (.cons .pass .nil)
def c__wall : CS := (.cons (.wh 1000000 [] (.lit (.bl true)) b__wall_0) .nil)
def g__wall : Nat → Fn
  | _ => noF
def f__wall : Fn := runDef g__wall 1 1 c__wall
def c__law_content_so : CS := (.cons (.ret (.tup (.acons (.lit (.int 2)) (.acons (.tup (.acons (.tup (.acons (.lit (.int 10)) (.acons (.lit (.int 3)) (.acons (.lit (.int 0)) (.acons (.lit (.bl false)) .anil))))) (.acons (.tup (.acons (.lit (.str (PySem.Str.ofString "x"))) (.acons (.lit (.int 3)) (.acons (.lit (.int 0)) (.acons (.lit (.bl false)) .anil))))) (.acons (.tup (.acons (.lit (.int 12)) (.acons (.lit (.int 3)) (.acons (.lit (.int 5)) (.acons (.lit (.bl false)) .anil))))) (.acons (.tup (.acons (.lit (.int 8)) (.acons (.lit (.int 3)) (.acons (.lit (.int 0)) (.acons (.lit (.bl true)) .anil))))) (.acons (.tup (.acons (.lit (.int 9)) (.acons (.lit (.int 0)) (.acons (.lit (.int 0)) (.acons (.lit (.bl false)) .anil))))) .anil)))))) .anil)))) .nil)
def g__law_content_so : Nat → Fn
  | _ => noF
def f__law_content_so : Fn := runDef g__law_content_so 0 0 c__law_content_so
end LW
end
section
set_option linter.all false
set_option maxRecDepth 100000
set_option autoImplicit false
namespace LW
open PL
theorem nrfl {α : Type} {a b : α} (h : a = b) : a = b := h
section
variable {G : Nat → Fn} {ds : List Sl} {M : MS} {a b c es r : CE} {op : BOp} {o o2 : COp}
abbrev EV := List Sl → MS → R RV
abbrev TV := List Sl → MS → R Bool
abbrev AV := List Sl → MS → R (List RV)
abbrev PV := List Sl → MS → R (Option Int)
def lT (x : RV) (M : MS) : R Bool := R.of (truth? x.1) M
def lP (x : RV) (M : MS) : R (Option Int) := match x.1 with
  | .int i => .ok (some i) M
  | _ => .stuck
@[simp] theorem lT_bl (b : Bool) (k : Kd) (M : MS) : lT (.bl b, k) M = .ok b M := nrfl rfl
@[simp] theorem lP_int (i : Int) (k : Kd) (M : MS) : lP (.int i, k) M = .ok (some i) M := nrfl rfl
def lBin2 (op : BOp) (x y : RV) (M : MS) : R RV := R.of (oBin op x.1 y.1) M
def lBin1 (op : BOp) (g : EV) (ds : List Sl) (x : RV) (M : MS) : R RV := (g ds M).bind (lBin2 op x)
@[simp] theorem lBin1_ap (g : EV) (x : RV) : lBin1 op g ds x M = (g ds M).bind (lBin2 op x) := nrfl rfl
@[simp] theorem lBin2_add (i j : Int) (k k' : Kd) : lBin2 .add (.int i, k) (.int j, k') M = .ok (.int (i + j), .fz) M := nrfl rfl
@[simp] theorem lBin2_sub (i j : Int) (k k' : Kd) : lBin2 .sub (.int i, k) (.int j, k') M = .ok (.int (i - j), .fz) M := nrfl rfl
@[simp] theorem lBin2_mul (i j : Int) (k k' : Kd) : lBin2 .mul (.int i, k) (.int j, k') M = R.of (oMul (.int i) (.int j)) M := nrfl rfl
@[simp] theorem lBin2_fdiv (i j : Int) (k k' : Kd) : lBin2 .fdiv (.int i, k) (.int j, k') M = R.of (oFdiv (.int i) (.int j)) M := nrfl rfl
@[simp] theorem lBin2_mod (i j : Int) (k k' : Kd) : lBin2 .mod (.int i, k) (.int j, k') M = R.of (oMod (.int i) (.int j)) M := nrfl rfl
@[simp] theorem lBin2_pow (i j : Int) (k k' : Kd) : lBin2 .pow (.int i, k) (.int j, k') M = R.of (oPow (.int i) (.int j)) M := nrfl rfl
@[simp] theorem lBin2_lst (i j : List D) (k k' : Kd) : lBin2 .add (.lst i, k) (.lst j, k') M = R.of (oAdd (.lst i) (.lst j)) M := nrfl rfl
@[simp] theorem lBin2_tup (i j : List D) (k k' : Kd) : lBin2 .add (.tup i, k) (.tup j, k') M = R.of (oAdd (.tup i) (.tup j)) M := nrfl rfl
def lNeg (x : RV) (M : MS) : R RV := match x.1 with
  | .int i => .ok (.int (-i), .fz) M
  | _ => .stuck
@[simp] theorem lNeg_int (i : Int) (k : Kd) : lNeg (.int i, k) M = .ok (.int (-i), .fz) M := nrfl rfl
def lCmp2 (o : COp) (x y : RV) (M : MS) : R RV := R.of ((oCmp M o x.1 y.1).map fun c => (.bl c, .fz)) M
def lCmp1 (o : COp) (g : EV) (ds : List Sl) (x : RV) (M : MS) : R RV := (g ds M).bind (lCmp2 o x)
@[simp] theorem lCmp1_ap (g : EV) (x : RV) : lCmp1 o g ds x M = (g ds M).bind (lCmp2 o x) := nrfl rfl
@[simp] theorem lCmp2_lt (i j : Int) (k k' : Kd) : lCmp2 .lt (.int i, k) (.int j, k') M = .ok (.bl (decide (i < j)), .fz) M := nrfl rfl
@[simp] theorem lCmp2_le (i j : Int) (k k' : Kd) : lCmp2 .le (.int i, k) (.int j, k') M = .ok (.bl (decide (i ≤ j)), .fz) M := nrfl rfl
@[simp] theorem lCmp2_gt (i j : Int) (k k' : Kd) : lCmp2 .gt (.int i, k) (.int j, k') M = .ok (.bl (decide (j < i)), .fz) M := nrfl rfl
@[simp] theorem lCmp2_ge (i j : Int) (k k' : Kd) : lCmp2 .ge (.int i, k) (.int j, k') M = .ok (.bl (decide (j ≤ i)), .fz) M := nrfl rfl
@[simp] theorem lCmp2_eqI (i j : Int) (k k' : Kd) : lCmp2 .eq (.int i, k) (.int j, k') M = .ok (.bl (i == j), .fz) M := nrfl rfl
@[simp] theorem lCmp2_neI (i j : Int) (k k' : Kd) : lCmp2 .ne (.int i, k) (.int j, k') M = .ok (.bl (!(i == j)), .fz) M := nrfl rfl
@[simp] theorem lCmp2_isN (k k' : Kd) : lCmp2 .is (.non, k) (.non, k') M = .ok (.bl true, .fz) M := nrfl rfl
@[simp] theorem lCmp2_isI (i : Int) (k k' : Kd) : lCmp2 .is (.int i, k) (.non, k') M = .ok (.bl false, .fz) M := nrfl rfl
@[simp] theorem lCmp2_isL (i : List D) (k k' : Kd) : lCmp2 .is (.lst i, k) (.non, k') M = .ok (.bl false, .fz) M := nrfl rfl
@[simp] theorem lCmp2_isT (i : List D) (k k' : Kd) : lCmp2 .is (.tup i, k) (.non, k') M = .ok (.bl false, .fz) M := nrfl rfl
@[simp] theorem lCmp2_inN (k k' : Kd) : lCmp2 .isnot (.non, k) (.non, k') M = .ok (.bl false, .fz) M := nrfl rfl
@[simp] theorem lCmp2_inI (i : Int) (k k' : Kd) : lCmp2 .isnot (.int i, k) (.non, k') M = .ok (.bl true, .fz) M := nrfl rfl
@[simp] theorem lCmp2_inT (i : List D) (k k' : Kd) : lCmp2 .isnot (.tup i, k) (.non, k') M = .ok (.bl true, .fz) M := nrfl rfl
@[simp] theorem lCmp2_inB (i j : Bool) (k k' : Kd) : lCmp2 .isnot (.bl i, k) (.bl j, k') M = .ok (.bl (!(i == j)), .fz) M := nrfl rfl
def lCh3 (o : COp) (y z : RV) (M : MS) : R RV := R.of ((oCmp M o y.1 z.1).map fun c => (.bl c, .fz)) M
def lCh2 (o o2 : COp) (h : EV) (ds : List Sl) (x y : RV) (M : MS) : R RV := match oCmp M o x.1 y.1 with
  | some true => (h ds M).bind (lCh3 o2 y)
  | some false => .ok (.bl false, .fz) M
  | none => .stuck
def lCh1 (o o2 : COp) (g h : EV) (ds : List Sl) (x : RV) (M : MS) : R RV := (g ds M).bind (lCh2 o o2 h ds x)
@[simp] theorem lCh1_ap (g h : EV) (x : RV) : lCh1 o o2 g h ds x M = (g ds M).bind (lCh2 o o2 h ds x) := nrfl rfl
@[simp] theorem lCh3_ap (y z : RV) : lCh3 o y z M = lCmp2 o y z M := nrfl rfl
theorem lCh2_le (h : EV) (i j : Int) (k k' : Kd) : lCh2 .le o2 h ds (.int i, k) (.int j, k') M = if i ≤ j then (h ds M).bind (lCmp2 o2 (.int j, k')) else .ok (.bl false, .fz) M := by
  by_cases q : i ≤ j
  · rw [if_pos q]; unfold lCh2; simp [oCmp, q]; rfl
  · rw [if_neg q]; unfold lCh2; simp [oCmp, q]
theorem lCh2_lt (h : EV) (i j : Int) (k k' : Kd) : lCh2 .lt o2 h ds (.int i, k) (.int j, k') M = if i < j then (h ds M).bind (lCmp2 o2 (.int j, k')) else .ok (.bl false, .fz) M := by
  by_cases q : i < j
  · rw [if_pos q]; unfold lCh2; simp [oCmp, q]; rfl
  · rw [if_neg q]; unfold lCh2; simp [oCmp, q]
def lNot (x : RV) (M : MS) : R RV := match x.1 with
  | .bl b => .ok (.bl (!b), .fz) M
  | _ => .stuck
@[simp] theorem lNot_bl (b : Bool) (k : Kd) : lNot (.bl b, k) M = .ok (.bl (!b), .fz) M := nrfl rfl
def lNotT (b : Bool) (M : MS) : R Bool := .ok (!b) M
@[simp] theorem lNotT_ap (b : Bool) : lNotT b M = .ok (!b) M := nrfl rfl
def lIte (f g : EV) (ds : List Sl) (k : Bool) (M : MS) : R RV := if k then f ds M else g ds M
@[simp] theorem lIte_t (f g : EV) : lIte f g ds true M = f ds M := nrfl rfl
@[simp] theorem lIte_f (f g : EV) : lIte f g ds false M = g ds M := nrfl rfl
def lTup (vs : List RV) (M : MS) : R RV := if anyBo vs || decide (LIM < vs.length) then .stuck else .ok (.tup (vs.map (·.1)), .fz) M
def lLst (vs : List RV) (M : MS) : R RV := if anyBo vs || decide (LIM < vs.length) then .stuck else .ok (.lst (vs.map (·.1)), .fr) M
def lIdx2 (x y : RV) (M : MS) : R RV := R.of ((oIdx M x.1 y.1).map fun d => (d, .fz)) M
def lIdx1 (g : EV) (ds : List Sl) (x : RV) (M : MS) : R RV := (g ds M).bind (lIdx2 x)
@[simp] theorem lIdx1_ap (g : EV) (x : RV) : lIdx1 g ds x M = (g ds M).bind (lIdx2 x) := nrfl rfl
def lSlc3 (x : RV) (lo hi : Option Int) (M : MS) : R RV := R.of (oSlc M x.1 lo hi) M
def lSlc2 (h : PV) (ds : List Sl) (x : RV) (lo : Option Int) (M : MS) : R RV := (h ds M).bind (lSlc3 x lo)
def lSlc1 (l h : PV) (ds : List Sl) (x : RV) (M : MS) : R RV := (l ds M).bind (lSlc2 h ds x)
@[simp] theorem lSlc1_ap (l h : PV) (x : RV) : lSlc1 l h ds x M = (l ds M).bind (lSlc2 h ds x) := nrfl rfl
@[simp] theorem lSlc2_ap (h : PV) (x : RV) (lo : Option Int) : lSlc2 h ds x lo M = (h ds M).bind (lSlc3 x lo) := nrfl rfl
@[simp] theorem lSlc3_tup (xs : List D) (k : Kd) (lo hi : Option Int) : lSlc3 (.tup xs, k) lo hi M = .ok (.tup (cutL xs lo hi), .fz) M := nrfl rfl
@[simp] theorem lSlc3_lst (xs : List D) (k : Kd) (lo hi : Option Int) : lSlc3 (.lst xs, k) lo hi M = .ok (.lst (cutL xs lo hi), .fr) M := nrfl rfl
def lCall (F : Fn) (vs : List RV) (M : MS) : R RV := if anyBo vs then .stuck else F (vs.map (·.1)) M
def lCallK2 (F : Fn) (vs : List RV) (w : RV) (M : MS) : R RV := if anyBo vs || w.2 == .bo then .stuck else F (vs.map (·.1) ++ [w.1]) M
def lCallK1 (F : Fn) (g : EV) (ds : List Sl) (vs : List RV) (M : MS) : R RV := (g ds M).bind (lCallK2 F vs)
@[simp] theorem lCallK1_ap (F : Fn) (g : EV) (vs : List RV) : lCallK1 F g ds vs M = (g ds M).bind (lCallK2 F vs) := nrfl rfl
def lCallD (F : Fn) (d : D) (vs : List RV) (M : MS) : R RV := if anyBo vs then .stuck else F (vs.map (·.1) ++ [d]) M
def lBi (b : BI) (vs : List RV) (M : MS) : R RV := R.of (oBi M b vs) M
def lLz2 (x y : RV) (M : MS) : R RV := match x.1, y.1 with
  | .tup xs, .tup ys => .ok (.lst (zipL xs ys), .fr) M
  | _, _ => .stuck
def lLz1 (g : EV) (ds : List Sl) (x : RV) (M : MS) : R RV := (g ds M).bind (lLz2 x)
@[simp] theorem lLz1_ap (g : EV) (x : RV) : lLz1 g ds x M = (g ds M).bind (lLz2 x) := nrfl rfl
@[simp] theorem lLz2_ap (xs ys : List D) (k k' : Kd) : lLz2 (.tup xs, k) (.tup ys, k') M = .ok (.lst (zipL xs ys), .fr) M := nrfl rfl
def lCons2 (x : RV) (xs : List RV) (M : MS) : R (List RV) := .ok (x :: xs) M
@[simp] theorem lCons2_ap (x : RV) (xs : List RV) : lCons2 x xs M = .ok (x :: xs) M := nrfl rfl
def lCons1 (g : AV) (ds : List Sl) (x : RV) (M : MS) : R (List RV) := (g ds M).bind (lCons2 x)
@[simp] theorem lCons1_ap (g : AV) (x : RV) : lCons1 g ds x M = (g ds M).bind (lCons2 x) := nrfl rfl
def lAnd (g : EV) (ds : List Sl) (x : RV) (M : MS) : R RV := match x.1 with
  | .bl true => g ds M
  | .bl false => .ok (.bl false, .fz) M
  | _ => .stuck
@[simp] theorem lAnd_bl (g : EV) (b : Bool) (k : Kd) : lAnd g ds (.bl b, k) M = if b then g ds M else .ok (.bl false, .fz) M := by cases b <;> rfl
def lOr (g : EV) (ds : List Sl) (x : RV) (M : MS) : R RV := match x.1 with
  | .bl true => .ok (.bl true, .fz) M
  | .bl false => g ds M
  | _ => .stuck
@[simp] theorem lOr_bl (g : EV) (b : Bool) (k : Kd) : lOr g ds (.bl b, k) M = if b then .ok (.bl true, .fz) M else g ds M := by cases b <;> rfl
def lAndT (g : TV) (ds : List Sl) (b : Bool) (M : MS) : R Bool := if b then g ds M else .ok false M
@[simp] theorem lAndT_ap (g : TV) (b : Bool) : lAndT g ds b M = if b then g ds M else .ok false M := nrfl rfl
def lOrT (g : TV) (ds : List Sl) (b : Bool) (M : MS) : R Bool := if b then .ok true M else g ds M
@[simp] theorem lOrT_ap (g : TV) (b : Bool) : lOrT g ds b M = if b then .ok true M else g ds M := nrfl rfl
def lIt (ik : IK) (vs : List RV) (M : MS) : R (List D) := R.of (oIter ik vs) M
def lItF (ik : IK) (vs : List RV) (M : MS) : R (List D) := if anyBo vs then .stuck else R.of (oIter ik vs) M
def lLc2 (ys : List D) (M : MS) : R RV := if ys.length ≤ LIM then .ok (.lst ys, .fr) M else .stuck
def lLc1 (own : List Nat) (tg : TGt) (c : TV) (f : EV) (ds : List Sl) (xs : List D) (M : MS) : R RV := (lcL (fun d => bindT tg d (wipeD own ds)) c f xs M).bind lLc2
theorem lLc1_ap (own : List Nat) (tg : TGt) (c : TV) (f : EV) (xs : List D) : lLc1 own tg c f ds xs M = (lcL (fun d => bindT tg d (wipeD own ds)) c f xs M).bind lLc2 := nrfl rfl
def lCell (x : RV) (M : MS) : R RV := match x with
  | (.lst xs, .fr) => .ok (.ref M.length, .fz) (M ++ [xs])
  | _ => .stuck
@[simp] theorem lCell_ap (xs : List D) : lCell (.lst xs, .fr) M = .ok (.ref M.length, .fz) (M ++ [xs]) := nrfl rfl
@[simp] theorem e_var (i : Nat) : (den G (.var i)).e ds M = kVar i ds M := nrfl rfl
@[simp] theorem e_lit (d : D) : (den G (.lit d)).e ds M = .ok (d, .fz) M := nrfl rfl
@[simp] theorem e_glob (x : String) (d : D) : (den G (.glob x d)).e ds M = .ok (d, .fz) M := nrfl rfl
@[simp] theorem e_bin : (den G (.bin op a b)).e ds M = ((den G a).e ds M).bind (lBin1 op (den G b).e ds) := nrfl rfl
@[simp] theorem e_neg : (den G (.neg a)).e ds M = ((den G a).e ds M).bind lNeg := nrfl rfl
@[simp] theorem e_cmp : (den G (.cmp o a b)).e ds M = ((den G a).e ds M).bind (lCmp1 o (den G b).e ds) := nrfl rfl
@[simp] theorem e_chain : (den G (.chain o o2 a b c)).e ds M = ((den G a).e ds M).bind (lCh1 o o2 (den G b).e (den G c).e ds) := nrfl rfl
@[simp] theorem e_and : (den G (.and es)).e ds M = (den G es).ne ds M := nrfl rfl
@[simp] theorem e_or : (den G (.or es)).e ds M = (den G es).oe ds M := nrfl rfl
@[simp] theorem e_not : (den G (.not a)).e ds M = ((den G a).e ds M).bind lNot := nrfl rfl
@[simp] theorem e_ife : (den G (.ife c a b)).e ds M = ((den G c).t ds M).bind (lIte (den G a).e (den G b).e ds) := nrfl rfl
@[simp] theorem e_tup : (den G (.tup es)).e ds M = ((den G es).a ds M).bind lTup := nrfl rfl
@[simp] theorem e_lst : (den G (.lst es)).e ds M = ((den G es).a ds M).bind lLst := nrfl rfl
@[simp] theorem e_idx : (den G (.idx a b)).e ds M = ((den G a).e ds M).bind (lIdx1 (den G b).e ds) := nrfl rfl
@[simp] theorem e_slc : (den G (.slc a b c)).e ds M = ((den G a).e ds M).bind (lSlc1 (den G b).p (den G c).p ds) := nrfl rfl
@[simp] theorem e_call (f : Nat) : (den G (.call f es)).e ds M = ((den G es).a ds M).bind (lCall (G f)) := nrfl rfl
@[simp] theorem e_callK (f : Nat) : (den G (.callK f es a)).e ds M = ((den G es).a ds M).bind (lCallK1 (G f) (den G a).e ds) := nrfl rfl
@[simp] theorem e_callD (f : Nat) (d : D) : (den G (.callD f es d)).e ds M = ((den G es).a ds M).bind (lCallD (G f) d) := nrfl rfl
@[simp] theorem e_bi (bi : BI) : (den G (.bi bi es)).e ds M = ((den G es).a ds M).bind (lBi bi) := nrfl rfl
@[simp] theorem e_lz : (den G (.lz a b)).e ds M = ((den G a).e ds M).bind (lLz1 (den G b).e ds) := nrfl rfl
@[simp] theorem e_lc (own : List Nat) (tg : TGt) (ik : IK) : (den G (.lc own tg ik es c a)).e ds M = (((den G es).a ds M).bind (lIt ik)).bind (lLc1 own tg (den G c).nt (den G a).e ds) := nrfl rfl
def lFz (x : RV) (M : MS) : R RV := if x.2 = .bo then .stuck else .ok (x.1, .fz) M
@[simp] theorem lFz_z (d : D) : lFz (d, .fz) M = .ok (d, .fz) M := nrfl rfl
@[simp] theorem lFz_r (d : D) : lFz (d, .fr) M = .ok (d, .fz) M := nrfl rfl
@[simp] theorem e_fzE : (den G (.fzE a)).e ds M = ((den G a).e ds M).bind lFz := nrfl rfl
@[simp] theorem e_cell : (den G (.cell a)).e ds M = ((den G a).e ds M).bind lCell := nrfl rfl
@[simp] theorem a_nil : (den G .anil).a ds M = .ok [] M := nrfl rfl
@[simp] theorem a_cons : (den G (.acons a r)).a ds M = ((den G a).e ds M).bind (lCons1 (den G r).a ds) := nrfl rfl
@[simp] theorem ne_one : (den G (.acons a .anil)).ne ds M = (den G a).e ds M := nrfl rfl
@[simp] theorem ne_cons (b r) : (den G (.acons a (.acons b r))).ne ds M = ((den G a).e ds M).bind (lAnd (den G (.acons b r)).ne ds) := nrfl rfl
@[simp] theorem oe_one : (den G (.acons a .anil)).oe ds M = (den G a).e ds M := nrfl rfl
@[simp] theorem oe_cons (b r) : (den G (.acons a (.acons b r))).oe ds M = ((den G a).e ds M).bind (lOr (den G (.acons b r)).oe ds) := nrfl rfl
@[simp] theorem nt_one : (den G (.acons a .anil)).nt ds M = (den G a).t ds M := nrfl rfl
@[simp] theorem nt_none : (den G .none).nt ds M = .ok true M := nrfl rfl
@[simp] theorem nt_cons (b r) : (den G (.acons a (.acons b r))).nt ds M = ((den G a).t ds M).bind (lAndT (den G (.acons b r)).nt ds) := nrfl rfl
@[simp] theorem ot_one : (den G (.acons a .anil)).ot ds M = (den G a).t ds M := nrfl rfl
@[simp] theorem ot_cons (b r) : (den G (.acons a (.acons b r))).ot ds M = ((den G a).t ds M).bind (lOrT (den G (.acons b r)).ot ds) := nrfl rfl
@[simp] theorem t_and : (den G (.and es)).t ds M = (den G es).nt ds M := nrfl rfl
@[simp] theorem t_or : (den G (.or es)).t ds M = (den G es).ot ds M := nrfl rfl
@[simp] theorem t_not : (den G (.not a)).t ds M = ((den G a).t ds M).bind lNotT := nrfl rfl
@[simp] theorem t_var (i : Nat) : (den G (.var i)).t ds M = (kVar i ds M).bind lT := nrfl rfl
@[simp] theorem t_cmp : (den G (.cmp o a b)).t ds M = ((den G (.cmp o a b)).e ds M).bind lT := nrfl rfl
@[simp] theorem t_chain : (den G (.chain o o2 a b c)).t ds M = ((den G (.chain o o2 a b c)).e ds M).bind lT := nrfl rfl
@[simp] theorem t_bi (bi : BI) : (den G (.bi bi es)).t ds M = ((den G (.bi bi es)).e ds M).bind lT := nrfl rfl
@[simp] theorem t_call (f : Nat) : (den G (.call f es)).t ds M = ((den G (.call f es)).e ds M).bind lT := nrfl rfl
@[simp] theorem t_idx : (den G (.idx a b)).t ds M = ((den G (.idx a b)).e ds M).bind lT := nrfl rfl
@[simp] theorem t_lit (d : D) : (den G (.lit d)).t ds M = lT (d, .fz) M := nrfl rfl
@[simp] theorem p_none : (den G .none).p ds M = .ok none M := nrfl rfl
@[simp] theorem p_lit (i : Int) : (den G (.lit (.int i))).p ds M = .ok (some i) M := nrfl rfl
@[simp] theorem p_var (i : Nat) : (den G (.var i)).p ds M = (kVar i ds M).bind lP := nrfl rfl
@[simp] theorem p_neg : (den G (.neg a)).p ds M = ((den G (.neg a)).e ds M).bind lP := nrfl rfl
@[simp] theorem p_bin : (den G (.bin op a b)).p ds M = ((den G (.bin op a b)).e ds M).bind lP := nrfl rfl
end
end LW
end
section
set_option linter.all false
set_option maxRecDepth 100000
set_option autoImplicit false
namespace LW
open PL
section
variable {G : Nat → Fn} {ds : List Sl} {M : MS} {e c k its : CE} {s r b1 b2 b : CS} {i j n : Nat} {kl : List Nat} {tg : TGt} {ik : IK}
def sFrz (i : Nat) (f : List Sl → MS → Out) (o : Option Sl) (ds : List Sl) (M : MS) : Out := match o with
  | some (.ow d) => f (ds.set i (.fz d)) M
  | some (.fz _) => f ds M
  | _ => .stuck
@[simp] theorem sFrz_ow (f : List Sl → MS → Out) (d : D) : sFrz i f (some (.ow d)) ds M = f (ds.set i (.fz d)) M := nrfl rfl
@[simp] theorem sFrz_fz (f : List Sl → MS → Out) (d : D) : sFrz i f (some (.fz d)) ds M = f ds M := nrfl rfl
def sExpr (ds : List Sl) (x : RV) (M : MS) : Out := .next ds M
@[simp] theorem sExpr_ap (x : RV) : sExpr ds x M = .next ds M := nrfl rfl
def sSet (i : Nat) (ds : List Sl) (v : RV) (M : MS) : Out := match putS ds i v with
  | some ds1 => .next ds1 M
  | none => .stuck
@[simp] theorem sSet_fz (d : D) : sSet i ds (d, .fz) M = .next (ds.set i (.fz d)) M := nrfl rfl
@[simp] theorem sSet_fr (d : D) : sSet i ds (d, .fr) M = .next (ds.set i (.ow d)) M := nrfl rfl
def sUnp (tg : TGt) (ds : List Sl) (v : RV) (M : MS) : Out := match bindT tg v.1 ds with
  | some ds1 => .next ds1 M
  | none => .stuck
def sPar2 (ds : List Sl) (i j : Nat) (v w : RV) (M : MS) : Out := parN ds i j v w M
def sPar1 (i j : Nat) (g : EV) (ds : List Sl) (v : RV) (M : MS) : Out := (g ds M).then ds (sPar2 ds i j v)
@[simp] theorem sPar1_ap (g : EV) (v : RV) : sPar1 i j g ds v M = (g ds M).then ds (sPar2 ds i j v) := nrfl rfl
@[simp] theorem sPar2_zz (d d' : D) : sPar2 ds i j (d, .fz) (d', .fz) M = .next ((ds.set i (.fz d)).set j (.fz d')) M := nrfl rfl
@[simp] theorem sPar2_zr (d d' : D) : sPar2 ds i j (d, .fz) (d', .fr) M = .next ((ds.set i (.fz d)).set j (.ow d')) M := nrfl rfl
@[simp] theorem sPar2_rz (d d' : D) : sPar2 ds i j (d, .fr) (d', .fz) M = .next ((ds.set i (.ow d)).set j (.fz d')) M := nrfl rfl
def sRet (v : RV) (M : MS) : Out := if v.2 = .bo then .stuck else .ret v M
@[simp] theorem sRet_fz (d : D) : sRet (d, .fz) M = .ret (d, .fz) M := nrfl rfl
@[simp] theorem sRet_fr (d : D) : sRet (d, .fr) M = .ret (d, .fr) M := nrfl rfl
def sIte (f g : List Sl → MS → Out) (ds : List Sl) (k : Bool) (M : MS) : Out := if k then f ds M else g ds M
@[simp] theorem sIte_ap (f g : List Sl → MS → Out) (k : Bool) : sIte f g ds k M = if k then f ds M else g ds M := nrfl rfl
def sFor (tg : TGt) (f : List Sl → MS → Out) (kl : List Nat) (ds : List Sl) (xs : List D) (M : MS) : Out := forL (bindT tg) f kl xs ds M
def sAppO (i : Nat) (xs : List D) (ds : List Sl) (v : RV) (M : MS) : Out := if v.2 = .bo then .stuck else if xs.length < LIM then .next (ds.set i (.ow (.lst (xs ++ [v.1])))) M else .stuck
def sAppR (n : Nat) (ds : List Sl) (v : RV) (M : MS) : Out := if v.2 = .bo then .stuck else match M[n]? with
  | some xs => if xs.length < LIM then .next ds (M.set n (xs ++ [v.1])) else .stuck
  | none => .stuck
def sApp (i : Nat) (f : EV) (o : Option Sl) (ds : List Sl) (M : MS) : Out := match o with
  | some (.ow (.lst xs)) => (f ds M).then ds (sAppO i xs ds)
  | some (.fz (.ref n)) => (f ds M).then ds (sAppR n ds)
  | _ => .stuck
@[simp] theorem sApp_ow (f : EV) (xs : List D) : sApp i f (some (.ow (.lst xs))) ds M = (f ds M).then ds (sAppO i xs ds) := nrfl rfl
@[simp] theorem sApp_fz (f : EV) : sApp i f (some (.fz (.ref n))) ds M = (f ds M).then ds (sAppR n ds) := nrfl rfl
def sSetO (i : Nat) (xs : List D) (v : D) (ds : List Sl) (j : RV) (M : MS) : Out := match j.1 with
  | .int j => (match ixD xs.length j with
    | some p => .next (ds.set i (.ow (.lst (xs.set p v)))) M
    | none => .stuck)
  | _ => .stuck
def sSetR (n : Nat) (v : D) (ds : List Sl) (j : RV) (M : MS) : Out := match M[n]?, j.1 with
  | some xs, .int j => (match ixD xs.length j with
    | some p => .next ds (M.set n (xs.set p v))
    | none => .stuck)
  | _, _ => .stuck
def sSetT (i : Nat) (ks : List (List Int)) (vs : List D) (v : D) (ds : List Sl) (j : RV) (M : MS) : Out := match j.2, keyT j.1 with
  | .fz, some kk => if ks.length < LIM then .next (ds.set i (.ow (.dT (putT ks vs kk v).1 (putT ks vs kk v).2))) M else .stuck
  | _, _ => .stuck
def sSetI (i : Nat) (ks : List Int) (vs : List D) (v : D) (ds : List Sl) (j : RV) (M : MS) : Out := match j.1 with
  | .int kk => if ks.length < LIM then .next (ds.set i (.ow (.dI (putI ks vs kk v).1 (putI ks vs kk v).2))) M else .stuck
  | _ => .stuck
def sSeti2 (i : Nat) (g : EV) (o : Option Sl) (d : D) (ds : List Sl) (M : MS) : Out := match o with
  | some (.ow (.lst xs)) => (g ds M).then ds (sSetO i xs d ds)
  | some (.ow (.dT ks vs)) => (g ds M).then ds (sSetT i ks vs d ds)
  | some (.ow (.dI ks vs)) => (g ds M).then ds (sSetI i ks vs d ds)
  | some (.fz (.ref n)) => (g ds M).then ds (sSetR n d ds)
  | _ => .stuck
def sSeti (i : Nat) (g : EV) (ds : List Sl) (v : RV) (M : MS) : Out := if v.2 = .bo then .stuck else sSeti2 i g ds[i]? v.1 ds M
@[simp] theorem sSeti_fz (g : EV) (d : D) : sSeti i g ds (d, .fz) M = sSeti2 i g ds[i]? d ds M := nrfl rfl
@[simp] theorem sSeti_fr (g : EV) (d : D) : sSeti i g ds (d, .fr) M = sSeti2 i g ds[i]? d ds M := nrfl rfl
@[simp] theorem sSeti2_ow (g : EV) (xs : List D) (d : D) : sSeti2 i g (some (.ow (.lst xs))) d ds M = (g ds M).then ds (sSetO i xs d ds) := nrfl rfl
@[simp] theorem sSeti2_dT (g : EV) (ks : List (List Int)) (vs : List D) (d : D) : sSeti2 i g (some (.ow (.dT ks vs))) d ds M = (g ds M).then ds (sSetT i ks vs d ds) := nrfl rfl
@[simp] theorem sSeti2_dI (g : EV) (ks : List Int) (vs : List D) (d : D) : sSeti2 i g (some (.ow (.dI ks vs))) d ds M = (g ds M).then ds (sSetI i ks vs d ds) := nrfl rfl
@[simp] theorem sSeti2_fz (g : EV) (d : D) : sSeti2 i g (some (.fz (.ref n))) d ds M = (g ds M).then ds (sSetR n d ds) := nrfl rfl
@[simp] theorem x_nil : exec G .nil ds M = .next ds M := nrfl rfl
@[simp] theorem x_cons : exec G (.cons s r) ds M = (exec G s ds M).andThen (exec G r) := nrfl rfl
@[simp] theorem x_frz : exec G (.frz i r) ds M = sFrz i (exec G r) ds[i]? ds M := nrfl rfl
@[simp] theorem x_kill : exec G (.kill i r) ds M = exec G r (ds.set i .no) M := nrfl rfl
@[simp] theorem x_expr : exec G (.expr e) ds M = ((den G e).e ds M).then ds (sExpr ds) := nrfl rfl
@[simp] theorem x_set : exec G (.set i e) ds M = ((den G e).e ds M).then ds (sSet i ds) := nrfl rfl
@[simp] theorem x_unp : exec G (.unp tg e) ds M = ((den G e).e ds M).then ds (sUnp tg ds) := nrfl rfl
@[simp] theorem x_par (a2 : CE) : exec G (.par i j e a2) ds M = ((den G e).e ds M).then ds (sPar1 i j (den G a2).e ds) := nrfl rfl
@[simp] theorem x_ret : exec G (.ret e) ds M = ((den G e).e ds M).then ds sRet := nrfl rfl
@[simp] theorem x_retV : exec G (.retV i) ds M = xRetV i ds M := nrfl rfl
@[simp] theorem x_retN : exec G .retN ds M = .ret (.non, .fz) M := nrfl rfl
@[simp] theorem x_ife : exec G (.ife c b1 b2) ds M = ((den G c).t ds M).then ds (sIte (exec G b1) (exec G b2) ds) := nrfl rfl
@[simp] theorem x_for : exec G (.for kl tg ik its b) ds M = (((den G its).a ds M).bind (lItF ik)).then ds (sFor tg (exec G b) kl ds) := nrfl rfl
@[simp] theorem x_wh : exec G (.wh n kl c b) ds M = whL (den G c).t (exec G b) kl n ds M := nrfl rfl
@[simp] theorem x_brk : exec G .brk ds M = .brk ds M := nrfl rfl
@[simp] theorem x_cont : exec G .cont ds M = .cont ds M := nrfl rfl
@[simp] theorem x_pass : exec G .pass ds M = .next ds M := nrfl rfl
@[simp] theorem x_doc : exec G .doc ds M = .next ds M := nrfl rfl
@[simp] theorem x_raise (x m : String) : exec G (.raise n x m) ds M = .exc (.own n) ds M := nrfl rfl
@[simp] theorem x_app : exec G (.app i e) ds M = sApp i (den G e).e ds[i]? ds M := by
  show xApp i (den G e).e ds M = _
  unfold xApp sApp
  cases ds[i]? with
  | none => rfl
  | some s =>
    cases s with
    | ow d => cases d <;> rfl
    | fz d => cases d <;> rfl
    | no => rfl
@[simp] theorem x_seti (v : CE) : exec G (.seti i k v) ds M = ((den G v).e ds M).then ds (sSeti i (den G k).e ds) := by
  show xSeti i (den G k).e (den G v).e ds M = _
  unfold xSeti
  congr 1
end
/-- a def's body -/
theorem run_ok {G : Nat → Fn} {n p : Nat} {c : CS} {vs : List D} {M M' : MS} {v : RV} (hl : vs.length = p) (h : exec G c (vs.map Sl.fz ++ List.replicate (n - p) .no) M = .ret v M') : runDef G n p c vs M = .ok v M' := by
  unfold runDef
  rw [if_pos hl, h]; rfl
theorem run_none {G : Nat → Fn} {n p : Nat} {c : CS} {vs : List D} {M M' : MS} {ds : List Sl} (hl : vs.length = p) (h : exec G c (vs.map Sl.fz ++ List.replicate (n - p) .no) M = .next ds M') : runDef G n p c vs M = .ok (.non, .fz) M' := by
  unfold runDef
  rw [if_pos hl, h]; rfl
theorem run_exc {G : Nat → Fn} {n p : Nat} {c : CS} {vs : List D} {M M' : MS} {ds : List Sl} {e : Ex} (hl : vs.length = p) (h : exec G c (vs.map Sl.fz ++ List.replicate (n - p) .no) M = .exc e ds M') : runDef G n p c vs M = .exc e M' := by
  unfold runDef
  rw [if_pos hl, h]; rfl
/-- a loop that keeps I -/
theorem for_ok {f : List Sl → MS → Out} {tg : TGt} {kl : List Nat} (I : Nat → List Sl → MS → Prop) : ∀ (xs : List D) (n : Nat) (ds : List Sl) (M : MS), I n ds M →
    (∀ (i : Nat) (x : D) (ds : List Sl) (M : MS), xs[i]? = some x → I (n + i) ds M → ∃ ds1 ds2 M2, bindT tg x ds = some ds1 ∧ (f ds1 M = .next ds2 M2 ∨ f ds1 M = .cont ds2 M2) ∧ I (n + i + 1) (killD kl ds2) M2) →
    ∃ ds' M', forL (bindT tg) f kl xs ds M = .next ds' M' ∧ I (n + xs.length) ds' M'
  | [], n, ds, M, h, _ => ⟨ds, M, rfl, h⟩
  | x :: xs, n, ds, M, h, st => by
    obtain ⟨ds1, ds2, M2, h1, h2, h3⟩ := st 0 x ds M rfl h
    obtain ⟨ds', M', h4, h5⟩ := for_ok I xs (n + 1) (killD kl ds2) M2 h3 fun i y ds M hy hi => by
      have := st (i + 1) y ds M (by simpa using hy) (by rw [← Nat.add_assoc, Nat.add_right_comm]; exact hi)
      obtain ⟨a, b, c, g1, g2, g3⟩ := this
      exact ⟨a, b, c, g1, g2, by rw [Nat.add_right_comm n 1 i]; exact g3⟩
    refine ⟨ds', M', ?_, by rw [List.length_cons]; rw [show n + (xs.length + 1) = n + 1 + xs.length by omega]; exact h5⟩
    simp only [forL, h1]
    rcases h2 with h2 | h2 <;> rw [h2] <;> exact h4
/-- a comprehension that keeps I -/
theorem lc_ok {c : TV} {f : EV} {bnd : D → Option (List Sl)} (I : MS → Prop) (P : D → D → Prop) : ∀ (xs : List D) (M : MS), I M →
    (∀ (x : D) (M : MS), x ∈ xs → I M → ∃ ds b M1, bnd x = some ds ∧ c ds M = .ok b M1 ∧ I M1 ∧ (b = true → ∃ v M2, f ds M1 = .ok v M2 ∧ v.2 ≠ .bo ∧ I M2 ∧ P x v.1)) →
    ∃ ys M', lcL bnd c f xs M = .ok ys M' ∧ I M' ∧ ys.length ≤ xs.length ∧ ∀ y ∈ ys, ∃ x ∈ xs, P x y
  | [], M, h, _ => ⟨[], M, rfl, h, Nat.le_refl _, fun y hy => by simp at hy⟩
  | x :: xs, M, h, st => by
    obtain ⟨ds, b, M1, h1, h2, h3, h4⟩ := st x M List.mem_cons_self h
    cases b with
    | false =>
      obtain ⟨ys, M', g1, g2, g3, g4⟩ := lc_ok I P xs M1 h3 fun y M hy => st y M (List.mem_cons_of_mem _ hy)
      refine ⟨ys, M', ?_, g2, by rw [List.length_cons]; omega, fun y hy => let ⟨z, hz, q⟩ := g4 y hy; ⟨z, List.mem_cons_of_mem _ hz, q⟩⟩
      simp only [lcL, h1, h2, R.nox_ok, R.bind_ok]
      simpa using g1
    | true =>
      obtain ⟨v, M2, e1, e2, e3, e4⟩ := h4 rfl
      obtain ⟨ys, M', g1, g2, g3, g4⟩ := lc_ok I P xs M2 e3 fun y M hy => st y M (List.mem_cons_of_mem _ hy)
      refine ⟨v.1 :: ys, M', ?_, g2, by rw [List.length_cons, List.length_cons]; omega, fun y hy => ?_⟩
      · simp only [lcL, h1, h2, R.nox_ok, R.bind_ok, if_true, e1, e2, if_false, g1]
      · rcases List.mem_cons.mp hy with q | q
        · exact ⟨x, List.mem_cons_self, by rw [q]; exact e4⟩
        · obtain ⟨z, hz, q⟩ := g4 y q
          exact ⟨z, List.mem_cons_of_mem _ hz, q⟩
/-- a comprehension that changes nothing -/
theorem lc_pure {c : TV} {f : EV} {bnd : D → Option (List Sl)} {M : MS} (Pb : D → Bool) (g : D → D) : ∀ (xs : List D), (∀ x ∈ xs, ∃ ds, bnd x = some ds ∧ c ds M = .ok (Pb x) M ∧ (Pb x = true → ∃ k, k ≠ Kd.bo ∧ f ds M = .ok (g x, k) M)) →
    lcL bnd c f xs M = .ok ((xs.filter Pb).map g) M
  | [], _ => rfl
  | x :: xs, st => by
    obtain ⟨ds, h1, h2, h3⟩ := st x List.mem_cons_self
    have ih := lc_pure Pb g xs fun y hy => st y (List.mem_cons_of_mem _ hy)
    simp only [lcL, h1, h2, R.nox_ok, R.bind_ok]
    cases hb : Pb x with
    | false => simp [List.filter_cons, hb, ih]
    | true =>
      obtain ⟨k, hk, h4⟩ := h3 hb
      simp [List.filter_cons, hb, ih, h4, hk]
end LW
end
section
set_option linter.all false
set_option maxRecDepth 100000
set_option maxHeartbeats 1000000
set_option autoImplicit false
namespace LW
open PL
theorem fmod_pos {a c : Int} (h : 0 < c) : a.fmod c = a % c := Int.fmod_eq_emod_of_nonneg a (by omega)
theorem fdiv_pos {a c : Int} (h : 0 < c) : a.fdiv c = a / c := Int.fdiv_eq_ediv_of_nonneg a (by omega)
/-- a bag: two whole numbers, none of them less than 0 -/
def Bag (M : MS) (n : Nat) : Prop := ∃ a b : Int, M[n]? = some [.int a, .int b] ∧ 0 ≤ a ∧ 0 ≤ b
theorem take_ok {M : MS} {n : Nat} {c : Int} (h : Bag M n) (hc : 0 < c) (hc2 : c < 1073741824) : ∃ (r : Int) (M' : MS), f__law_take [.ref n, .int c] M = .ok (.int r, .fz) M' ∧ 0 ≤ r ∧ r < c ∧ Bag M' n ∧ M'.length = M.length := by
  obtain ⟨a, b, h, ha, hb⟩ := h
  have c0 : c ≠ 0 := by omega
  have c1 : c.natAbs < 1073741824 := by omega
  have hn : n < M.length := (List.getElem?_eq_some_iff.mp h).1
  by_cases h0 : 0 < a
  · refine ⟨a % c, M.set n [.int (a / c), .int b], run_ok rfl ?_, Int.emod_nonneg _ c0, Int.emod_lt_of_pos _ hc, ⟨a / c, b, by rw [List.getElem?_set_self hn], Int.ediv_nonneg ha (by omega), hb⟩, by rw [List.length_set]⟩
    unfold c__law_take
    simp [lLc1_ap, kVar, lIdx2, oIdx, h, L2.atI, L2.ixN, h0, lBi, oBi, oBi1, toInt, oMod, c0, c1, oFdiv, sSetR, xRetV, fmod_pos hc, fdiv_pos hc]
  · let b' := b * 48271 % 2147483647
    have q1 : ¬ a > 0 := h0
    have hb' : 0 ≤ b' := Int.emod_nonneg _ (by decide)
    let mx := b' / 13 * (b' % 32749 + 17)
    have hr : (0 : Int) ≤ b' % 32749 := Int.emod_nonneg _ (by decide)
    have hr2 : b' % 32749 < 32749 := Int.emod_lt_of_pos _ (by decide)
    refine ⟨mx % 2147483629 / 32 % c, M.set n [.int a, .int b'], run_ok rfl ?_, Int.emod_nonneg _ c0, Int.emod_lt_of_pos _ hc, ⟨a, b', by rw [List.getElem?_set_self hn], ha, hb'⟩, by rw [List.length_set]⟩
    unfold c__law_take
    have e1 : (b * 48271).fmod 2147483647 = b' := fmod_pos (by decide)
    have e2 : b'.fdiv 13 = b' / 13 := fdiv_pos (by decide)
    have e3 : b'.fmod 32749 = b' % 32749 := fmod_pos (by decide)
    have e4 : mx.fmod 2147483629 = mx % 2147483629 := fmod_pos (by decide)
    have e5 : (mx % 2147483629).fdiv 32 = mx % 2147483629 / 32 := fdiv_pos (by decide)
    have e6 : b' / 13 * (b' % 32749 + 17) = mx := rfl
    have e0 : (M.set n [D.int a, D.int b'])[n]? = some [D.int a, D.int b'] := by rw [List.getElem?_set_self hn]
    have l1 : -18446744073709551616 < b' % 32749 + 17 := by omega
    have l2 : b' % 32749 + 17 < 18446744073709551616 := by omega
    simp [lLc1_ap, kVar, lIdx2, oIdx, h, L2.atI, L2.ixN, h0, lBi, oBi, oBi1, toInt, oMod, c0, c1, oFdiv, sSetR, xRetV, oMul, B64, e0, e1, e2, e3, e4, e5, e6, l1, l2, fmod_pos hc]

theorem int_mul_ok {i j : Int} (h : (-18446744073709551616 < i ∧ i < 18446744073709551616) ∨ (-18446744073709551616 < j ∧ j < 18446744073709551616)) : oMul (.int i) (.int j) = some (.int (i * j), .fz) := by
  show (if _ then _ else none) = _
  rw [if_pos]
  unfold B64
  rcases h with h | h
  · simp [h.1, h.2]
  · simp [h.1, h.2]
/-- 10 ** 60, 10 ** 18 -/
def P60 : Int := 10 ^ 60
def P18 : Int := 10 ^ 18
theorem P60_pos : 0 < P60 := by unfold P60; decide
theorem pow60 : oPow (.int 10) (.int 60) = some (.int P60, .fz) := rfl
theorem pow18 : oPow (.int 10) (.int 18) = some (.int P18, .fz) := rfl
def bagRest : CS := match c__law_bag with
  | .cons _ (.frz _ (.cons _ r)) => r
  | _ => .nil
def bagIf : CS := match c__law_bag with
  | .cons _ (.frz _ (.cons i _)) => i
  | _ => .nil
theorem bag_cut : c__law_bag = .cons (.set 2 (.lit (.int 0))) (.frz 2 (.cons bagIf bagRest)) := rfl
theorem bag_rest {ns : List Int} {k : Int} {M : MS} (k1 : k < 1000) (k0 : 0 ≤ k) (c : Int) (hc : 0 ≤ c) : ∃ M', exec g__law_bag bagRest [.fz (.scr ns), .fz (.int k), .fz (.int c), .no, .no] M = .ret (.ref M.length, .fz) M' ∧ Bag M' M.length ∧ M'.length = M.length + 1 := by
  have fin : ∀ c s : Int, 0 ≤ c → 0 ≤ s → Bag (M ++ [[.int c, .int s]]) M.length := fun c s h1 h2 => ⟨c, s, by simp, h1, h2⟩
  have e1 : c.fmod 2147483629 = c % 2147483629 := fmod_pos (by decide)
  have e2 : oMul (.int (c % 2147483629)) (.int 16807) = some (.int (c % 2147483629 * 16807), .fz) := int_mul_ok (.inr (by decide))
  have e3 : oMul (.int 40009) (.int k) = some (.int (40009 * k), .fz) := int_mul_ok (.inl (by decide))
  have e4 : oMul (.int (40009 * k)) (.int k) = some (.int (40009 * k * k), .fz) := int_mul_ok (.inr (by omega))
  have e5 : oMul (.int 7919) (.int k) = some (.int (7919 * k), .fz) := int_mul_ok (.inl (by decide))
  generalize ha : c % 2147483629 * 16807 + 40009 * k * k = a at *
  have e6 : (a + 7919 * k + 1009).fmod 2147483645 = (a + 7919 * k + 1009) % 2147483645 := fmod_pos (by decide)
  have hs0 : 0 ≤ (a + 7919 * k + 1009) % 2147483645 := Int.emod_nonneg _ (by decide)
  generalize hs : (a + 7919 * k + 1009) % 2147483645 = s at *
  unfold bagRest c__law_bag
  by_cases h : c < P18
  · refine ⟨M ++ [[.int 0, .int (1 + s)]], ?_, fin 0 (1 + s) (by decide) (by omega), by simp⟩
    simp [lLc1_ap, kVar, lBi, oBi, oBi1, toInt, oMod, e1, e2, e3, e4, e5, e6, ha, hs, pow18, h, lLst, anyBo, LIM]
  · refine ⟨M ++ [[.int c, .int (1 + s)]], ?_, fin c (1 + s) hc (by omega), by simp⟩
    simp [lLc1_ap, kVar, lBi, oBi, oBi1, toInt, oMod, e1, e2, e3, e4, e5, e6, ha, hs, pow18, h, lLst, anyBo, LIM]
theorem bagIf_eq : bagIf = .ife (.cmp .lt (.var 1) (.bi .len (.acons (.var 0) .anil))) (.cons (.set 2 (.bin .mod (.bi .int (.acons (.idx (.var 0) (.var 1)) .anil)) (.bin .pow (.lit (.int 10)) (.lit (.int 60))))) (.frz 2 .nil)) .nil := rfl
theorem bag_no {ns : List Int} {k : Int} {M M' : MS} {v : RV} (hn : ¬ k < ns.length) (h : exec g__law_bag bagRest [.fz (.scr ns), .fz (.int k), .fz (.int 0), .no, .no] M = .ret v M') : exec g__law_bag c__law_bag [.fz (.scr ns), .fz (.int k), .no, .no, .no] M = .ret v M' := by
  rw [bag_cut, bagIf_eq]
  simp [lLc1_ap, kVar, lBi, oBi, oBi1, lenD, items?, hn, h]
theorem bag_yes {ns : List Int} {k c : Int} {M M' : MS} {v : RV} (k0 : 0 ≤ k) (hn : k < ns.length) (hl : k.toNat < ns.length) (hc : ns[k.toNat] = c) (h : exec g__law_bag bagRest [.fz (.scr ns), .fz (.int k), .fz (.int (c % P60)), .no, .no] M = .ret v M') : exec g__law_bag c__law_bag [.fz (.scr ns), .fz (.int k), .no, .no, .no] M = .ret v M' := by
  have e1 : c.fmod P60 = c % P60 := fmod_pos P60_pos
  have p0 : P60 ≠ 0 := by have := P60_pos; omega
  rw [bag_cut, bagIf_eq]
  simp [lLc1_ap, kVar, lBi, oBi, oBi1, lenD, items?, hn, k0, lIdx2, oIdx, L2.atI, L2.ixN, toInt, oMod, pow60, hc, e1, p0, h]
/-- the bag of a cell -/
theorem bag_ok {ns : List Int} {k : Int} {M : MS} (k0 : 0 ≤ k) (k1 : k < 1000) : ∃ (M' : MS), f__law_bag [.scr ns, .int k] M = .ok (.ref M.length, .fz) M' ∧ Bag M' M.length ∧ M'.length = M.length + 1 := by
  by_cases hn : k < ns.length
  · have hl : k.toNat < ns.length := by omega
    obtain ⟨M', h1, h2⟩ := bag_rest (ns := ns) (M := M) k1 k0 (ns[k.toNat] % P60) (Int.emod_nonneg _ (by have := P60_pos; omega))
    exact ⟨M', run_ok rfl (bag_yes k0 hn hl rfl h1), h2⟩
  · obtain ⟨M', h1, h2⟩ := bag_rest (ns := ns) (M := M) k1 k0 0 (Int.le_refl 0)
    exact ⟨M', run_ok rfl (bag_no hn h1), h2⟩
theorem call2 {F : Fn} {x y : D} {M : MS} : lCall F [(x, .fz), (y, .fz)] M = F [x, y] M := rfl
theorem of_ok {M : MS} {n : Nat} {xs : List D} (h : Bag M n) (hx : 0 < xs.length) (hl : xs.length < 1000000) {k : Kd} (hk : k ≠ .bo) : ∃ (r : Nat) (d : D) (M' : MS), f__law_of [.ref n, .lst xs] M = .ok (d, .fz) M' ∧ xs[r]? = some d ∧ Bag M' n ∧ M'.length = M.length := by
  obtain ⟨r, M', e, r0, r1, b, l⟩ := take_ok (c := xs.length) h (by omega) (by omega)
  have hr : r.toNat < xs.length := by omega
  refine ⟨r.toNat, xs[r.toNat], M', run_ok rfl ?_, by simp [hr], b, l⟩
  unfold c__law_of
  have g : g__law_of 10 = f__law_take := rfl
  have c : ¬ (r < 0) := by omega
  simp [lLc1_ap, kVar, lBi, oBi, oBi1, lenD, items?, g, lCall, anyBo, e, lIdx2, oIdx, L2.atI, L2.ixN, r0, r1, hr]
end LW
end
section
set_option linter.all false
set_option maxRecDepth 100000
set_option maxHeartbeats 1000000
set_option autoImplicit false
namespace LW
open PL
theorem of_ints {M : MS} {n : Nat} {l : List Int} (h : Bag M n) (hx : 0 < l.length) (hl : l.length < 1000000) : ∃ (z : Int) (M' : MS), f__law_of [.ref n, .lst (l.map D.int)] M = .ok (.int z, .fz) M' ∧ z ∈ l ∧ Bag M' n ∧ M'.length = M.length := by
  obtain ⟨r, d, M', e, hd, b, q⟩ := of_ok (xs := l.map D.int) (k := .fz) h (by rw [List.length_map]; exact hx) (by rw [List.length_map]; exact hl) (by simp)
  rw [List.getElem?_map] at hd
  obtain ⟨z, h1, h2⟩ := Option.map_eq_some_iff.mp hd
  subst h2
  exact ⟨z, M', e, List.mem_of_getElem? h1, b, q⟩
/-- a line -/
structure Ln where
  h : Option Int
  s : Int
  n : Int
  t : Bool
def X : PySem.Str := PySem.Str.ofString "x"
def Ln.hd (l : Ln) : D := match l.h with
  | none => .str X
  | some h => .int h
def Ln.d (l : Ln) : D := .tup [l.hd, .int l.s, .int l.n, .bl l.t]
structure LnOk (w : Int) (l : Ln) : Prop where
  h : ∀ h, l.h = some h → 1 ≤ h ∧ h ≤ w
  s0 : 0 ≤ l.s
  s1 : l.s ≤ 200
  n0 : 0 ≤ l.n
  n1 : l.n ≤ 500
theorem line_ok {M : MS} {n : Nat} {w : Int} {p : Bool} (h : Bag M n) (hw : 0 < w) (hw2 : w ≤ 1000) : ∃ (l : Ln) (M' : MS), f__law_line [.ref n, .int w, .bl p] M = .ok (l.d, .fz) M' ∧ LnOk w l ∧ (p = false → l.h ≠ none) ∧ Bag M' n ∧ M'.length = M.length := by
  have g1 : g__law_line 10 = f__law_take := rfl
  have g2 : g__law_line 11 = f__law_of := rfl
  obtain ⟨r1, M1, e1, a1, b1, k1, l1⟩ := take_ok h hw (by omega)
  -- the rest, from the height on
  have rest : ∀ (hd : D) (Mz : MS), Bag Mz n → Mz.length = M.length → ∃ (s z : Int) (t : Bool) (M' : MS), 0 ≤ s ∧ s ≤ 200 ∧ 0 ≤ z ∧ z ≤ 500 ∧ Bag M' n ∧ M'.length = M.length ∧
      exec g__law_line (match c__law_line with | .cons _ (.frz _ (.cons _ r)) => r | _ => .nil) [.fz (.ref n), .fz (.int w), .fz (.bl p), .fz hd, .no, .no] Mz = .ret (.tup [hd, .int s, .int z, .bl t], .fz) M' := by
    intro hd Mz hz lz
    obtain ⟨r3, M3, e3, a3, b3, k3, l3⟩ := take_ok (c := 12) hz (by decide) (by decide)
    obtain ⟨s, M4, e4, m4, k4, l4⟩ := of_ints (l := [0, 0, 1, 3, r3]) k3 (by simp) (by simp)
    obtain ⟨r5, M5, e5, a5, b5, k5, l5⟩ := take_ok (c := 14) k4 (by decide) (by decide)
    obtain ⟨z, M6, e6, m6, k6, l6⟩ := of_ints (l := [0, 0, 0, 2, 5, r5]) k5 (by simp) (by simp)
    obtain ⟨r7, M7, e7, a7, b7, k7, l7⟩ := take_ok (c := 4) k6 (by decide) (by decide)
    simp only [List.map_cons, List.map_nil] at e4 e6
    refine ⟨s, z, r7 == 0, M7, ?_, ?_, ?_, ?_, k7, by omega, ?_⟩
    · simp at m4; omega
    · simp at m4; omega
    · simp at m6; omega
    · simp at m6; omega
    · simp [c__law_line, kVar, g1, g2, lCall, anyBo, e3, e4, e5, e6, e7, lLst, lTup, LIM]
  by_cases hp : p = true
  · subst hp
    obtain ⟨r2, M2, e2, a2, b2, k2, l2⟩ := take_ok (c := 3) k1 (by decide) (by decide)
    by_cases h0 : r2 = 0
    · obtain ⟨s, z, t, M', q1, q2, q3, q4, q5, q6, q7⟩ := rest (.str X) M2 k2 (by omega)
      refine ⟨⟨none, s, z, t⟩, M', run_ok rfl ?_, ⟨fun h e => (by cases e), q1, q2, q3, q4⟩, fun e => (by cases e), q5, q6⟩
      simp only [c__law_line] at q7
      simp [c__law_line, kVar, g1, g2, lCall, anyBo, e1, e2, h0]
      exact q7
    · obtain ⟨s, z, t, M', q1, q2, q3, q4, q5, q6, q7⟩ := rest (.int (1 + r1)) M2 k2 (by omega)
      refine ⟨⟨some (1 + r1), s, z, t⟩, M', run_ok rfl ?_, ⟨fun h e => (by cases e; omega), q1, q2, q3, q4⟩, fun e => (by cases e), q5, q6⟩
      simp only [c__law_line] at q7
      simp [c__law_line, kVar, g1, g2, lCall, anyBo, e1, e2, h0]
      exact q7
  · have hp : p = false := by simpa using hp
    subst hp
    obtain ⟨s, z, t, M', q1, q2, q3, q4, q5, q6, q7⟩ := rest (.int (1 + r1)) M1 k1 (by omega)
    refine ⟨⟨some (1 + r1), s, z, t⟩, M', run_ok rfl ?_, ⟨fun h e => (by cases e; omega), q1, q2, q3, q4⟩, fun _ e => (by cases e), q5, q6⟩
    simp only [c__law_line] at q7
    simp [c__law_line, kVar, g1, g2, lCall, anyBo, e1]
    exact q7
end LW
end
section
set_option linter.all false
set_option maxRecDepth 100000
set_option maxHeartbeats 1000000
set_option autoImplicit false
namespace LW
open PL
structure Co where
  r : Int
  ls : List Ln
def Co.d (c : Co) : D := .tup [.int c.r, .tup (c.ls.map Ln.d)]
/-- how many plates -/
def pc (ls : List Ln) : Nat := ((ls.map Ln.h).filter Option.isNone).length
structure CoOk (w : Int) (a b : Nat) (c : Co) : Prop where
  r0 : 0 ≤ c.r
  r1 : c.r ≤ 100
  ls : ∀ l ∈ c.ls, LnOk w l
  la : a ≤ c.ls.length
  lb : c.ls.length ≤ b
  pl : pc c.ls ≤ 4
  lt : ∀ l, c.ls[c.ls.length - 1]? = some l → l.t = false
def isPl : D → Bool
  | .tup (.str _ :: _) => true
  | _ => false
theorem isPl_d (l : Ln) : isPl l.d = l.h.isNone := by
  unfold Ln.d Ln.hd
  cases l.h <;> rfl
theorem X_ok : (X.cps.all fun c => decide (c < 1114112)) = true := by decide +kernel
theorem dep_int (n : Nat) (i : Int) : D.dep n (.int i) = true := by cases n <;> rfl
theorem dep_bl (n : Nat) (i : Bool) : D.dep n (.bl i) = true := by cases n <;> rfl
theorem dep_X (n : Nat) : D.dep n (.str X) = true := by cases n <;> exact X_ok
theorem cmpX {M : MS} (l : Ln) (k k' : Kd) : lCmp2 .eq (l.hd, k) (.str X, k') M = .ok (.bl l.h.isNone, .fz) M := by
  unfold lCmp2 Ln.hd
  cases l.h with
  | none => simp [oCmp, oEq, dep_X, D.eq]
  | some h => simp [oCmp, oEq, dep_X, dep_int, D.eq]
theorem hd_at (l : Ln) {M : MS} {k k' : Kd} : lIdx2 (l.d, k) (.int 0, k') M = .ok (l.hd, .fz) M := by
  simp [lIdx2, oIdx, Ln.d, L2.atI, L2.ixN]
theorem bi_len {M : MS} {xs : List D} {k : Kd} : lBi .len [(.lst xs, k)] M = .ok (.int xs.length, .fz) M := rfl
theorem bi_lenT {M : MS} {xs : List D} {k : Kd} : lBi .len [(.tup xs, k)] M = .ok (.int xs.length, .fz) M := rfl
theorem it_seqL {M : MS} {xs : List D} {k : Kd} : lIt .seq [(.lst xs, k)] M = .ok xs M := rfl
theorem it_seqT {M : MS} {xs : List D} {k : Kd} : lIt .seq [(.tup xs, k)] M = .ok xs M := rfl
theorem lLc2_ok {M : MS} {ys : List D} (h : ys.length ≤ LIM) : lLc2 ys M = .ok (.lst ys, .fr) M := by unfold lLc2; rw [if_pos h]
theorem filter_map_d (ls : List Ln) : (((ls.map Ln.d).filter isPl).map id).length = pc ls := by
  unfold pc
  rw [List.map_id, List.filter_map, List.length_map, List.filter_map, List.length_map]
  congr 1
  apply List.filter_congr
  intro l _
  exact isPl_d l
def cbody : CS := b__law_content_0
def crest : CS := match c__law_content with
  | .cons _ (.frz _ (.cons _ r)) => r
  | _ => .nil
theorem ccut : c__law_content = .cons (.par 4 5 (.lst .anil) (.bin .add (.var 1) (.call 10 (.acons (.var 0) (.acons (.bin .add (.bin .sub (.var 2) (.var 1)) (.lit (.int 1))) .anil))))) (.frz 5 (.cons (.for [6, 7] (.nm 6) .rng1 (.acons (.var 5) .anil) cbody) crest)) := rfl
theorem turn_ok {M : MS} {n : Nat} {a b mn : D} {wi : Int} (hw : 0 < wi) (hw2 : wi ≤ 1000) (x : D) (ls : List Ln) (h : Bag M n) (hl : ls.length < 100) (hp : pc ls ≤ 4) :
    ∃ (l : Ln) (p : D) (M' : MS), exec g__law_content cbody [.fz (.ref n), .fz a, .fz b, .fz (.int wi), .ow (.lst (ls.map Ln.d)), .fz mn, .fz x, .no, .no, .no] M =
      .next [.fz (.ref n), .fz a, .fz b, .fz (.int wi), .ow (.lst ((ls ++ [l]).map Ln.d)), .fz mn, .fz x, .fz p, .no, .no] M' ∧ LnOk wi l ∧ pc (ls ++ [l]) ≤ 4 ∧ Bag M' n ∧ M'.length = M.length := by
  have g1 : g__law_content 12 = f__law_line := rfl
  obtain ⟨l, M', e, h1, h2, h3, h4⟩ := line_ok (p := decide ((pc ls : Int) < 4)) h hw hw2
  have lc : ∀ (ds : List Sl) (M : MS), 8 < ds.length → lcL (fun d => bindT (.nm 8) d (wipeD [8] ds)) (den g__law_content (.acons (.cmp .eq (.idx (.var 8) (.lit (.int 0))) (.lit (.str (PySem.Str.ofString "x")))) .anil)).nt (den g__law_content (.var 8)).e (ls.map Ln.d) M = .ok (((ls.map Ln.d).filter isPl).map id) M := by
    intro ds M hd
    refine lc_pure isPl id _ fun y hy => ?_
    obtain ⟨l, _, rfl⟩ := List.mem_map.mp hy
    refine ⟨_, rfl, ?_, fun _ => ⟨.fz, by simp, ?_⟩⟩
    · have hk : kVar 8 ((wipeD [8] ds).set 8 (Sl.fz l.d)) M = .ok (l.d, .fz) M := by
        unfold kVar
        rw [List.getElem?_set_self (by rw [wipeD_length]; exact hd)]
      have hc : lCmp2 .eq (l.hd, .fz) (.str (PySem.Str.ofString "x"), .fz) M = .ok (.bl l.h.isNone, .fz) M := cmpX l _ _
      simp [hk, hd_at, hc, isPl_d]
    · show kVar 8 ((wipeD [8] ds).set 8 (Sl.fz l.d)) M = .ok (l.d, .fz) M
      unfold kVar
      rw [List.getElem?_set_self (by rw [wipeD_length]; exact hd)]
  refine ⟨l, .bl (decide ((pc ls : Int) < 4)), M', ?_, h1, ?_, h3, h4⟩
  · have hlen := filter_map_d ls
    have hle : (((ls.map Ln.d).filter isPl).map id).length ≤ LIM := by
      rw [hlen]; unfold LIM; omega
    have q := lc [.fz (.ref n), .fz a, .fz b, .fz (.int wi), .ow (.lst (ls.map Ln.d)), .fz mn, .fz x, .no, .no, .no] M (by simp)
    have hlen2 : (((ls.map Ln.d).filter isPl).map id).length < LIM := by rw [hlen]; unfold LIM; omega
    unfold cbody b__law_content_0
    generalize hz : ((ls.map Ln.d).filter isPl).map id = zs at *
    simp [lLc1_ap, kVar, it_seqL, q, lLc2_ok hle, bi_len, hlen, g1, lCall, anyBo, e, sAppO, hl]
    have : ls.length < LIM := by unfold LIM; omega
    simp [this]
  · by_cases hb : ((pc ls : Int) < 4)
    · have : pc (ls ++ [l]) ≤ pc ls + 1 := by
        unfold pc
        rw [List.map_append, List.filter_append, List.length_append]
        have := List.length_filter_le Option.isNone ([l].map Ln.h)
        simp only [List.length_map, List.length_singleton] at this
        omega
      omega
    · have hn := h2 (by simpa using hb)
      have : pc (ls ++ [l]) = pc ls := by
        unfold pc
        rw [List.map_append, List.filter_append, List.length_append]
        have : ([l].map Ln.h).filter Option.isNone = [] := by
          cases q : l.h with
          | none => exact absurd q hn
          | some _ => simp [q]
        rw [this]; rfl
      omega
theorem rngL_get {lo hi : Int} {i : Nat} {x : D} (h : (rngL lo hi)[i]? = some x) : x = .int (lo + i) ∧ (i : Int) < hi - lo := by
  unfold rngL at h
  rw [List.getElem?_map] at h
  obtain ⟨j, h1, h2⟩ := Option.map_eq_some_iff.mp h
  obtain ⟨h3, h4⟩ := List.getElem?_eq_some_iff.mp h1
  rw [List.getElem_range] at h4
  rw [List.length_range] at h3
  subst h4
  exact ⟨h2.symm, by omega⟩
theorem rngL_len (lo hi : Int) : (rngL lo hi).length = (hi - lo).toNat := by
  unfold rngL
  rw [List.length_map, List.length_range]
theorem pc_set (ls : List Ln) (i : Nat) (l : Ln) (h : ls[i]? = some l) : pc (ls.set i { l with t := false }) = pc ls := by
  unfold pc
  have : (ls.set i { l with t := false }).map Ln.h = ls.map Ln.h := by
    apply List.ext_getElem?
    intro j
    rw [List.getElem?_map, List.getElem?_map, List.getElem?_set]
    split
    · rename_i q
      subst q
      split
      · rw [h]; rfl
      · rename_i hl; exact absurd (List.getElem?_eq_some_iff.mp h).1 hl
    · rfl
  rw [this]
theorem content_ok {M : MS} {n : Nat} {a b : Nat} {wi : Int} (h : Bag M n) (ha : 1 ≤ a) (hab : a ≤ b) (hb : b ≤ 16) (hw : 0 < wi) (hw2 : wi ≤ 1000) :
    ∃ (c : Co) (M' : MS), f__law_content [.ref n, .int a, .int b, .int wi] M = .ok (c.d, .fz) M' ∧ CoOk wi a b c ∧ Bag M' n ∧ M'.length = M.length := by
  have g1 : g__law_content 10 = f__law_take := rfl
  have g2 : g__law_content 11 = f__law_of := rfl
  obtain ⟨r, M1, e1, a1, b1, k1, l1⟩ := take_ok (c := (b : Int) - a + 1) h (by omega) (by omega)
  -- the loop
  obtain ⟨m, hm⟩ : ∃ m : Nat, (m : Int) = a + r := ⟨(a + r).toNat, by omega⟩
  let st : List Ln → List Sl := fun ls => [.fz (.ref n), .fz (.int a), .fz (.int b), .fz (.int wi), .ow (.lst (ls.map Ln.d)), .fz (.int (a + r)), .no, .no, .no, .no]
  let I : Nat → List Sl → MS → Prop := fun i ds M' => ∃ ls : List Ln, ds = st ls ∧ ls.length = i ∧ (∀ l ∈ ls, LnOk wi l) ∧ pc ls ≤ 4 ∧ Bag M' n ∧ M'.length = M.length
  obtain ⟨ds2, M2, f1, ls, rfl, hlen, hall, hpc, k2, l2⟩ := for_ok (f := exec g__law_content cbody) (tg := .nm 6) (kl := [6, 7]) I (rngL 0 (a + r)) 0 (st []) M1 ⟨[], rfl, rfl, by simp, by simp [pc], k1, by omega⟩ fun i x ds M' hx ⟨ls, hds, hli, hal, hp, hb', hM⟩ => by
    subst hds
    obtain ⟨hx1, hx2⟩ := rngL_get hx
    obtain ⟨l, p, M3, e, q1, q2, q3, q4⟩ := turn_ok (a := .int a) (b := .int b) (mn := .int (a + r)) hw hw2 x ls hb' (by omega) hp
    refine ⟨_, _, M3, rfl, .inl e, ls ++ [l], rfl, by simp [hli], fun y hy => ?_, q2, q3, by omega⟩
    rcases List.mem_append.mp hy with z | z
    · exact hal y z
    · rw [show y = l by simpa using z]; exact q1
  rw [rngL_len] at hlen
  have hlm : ls.length = m := by omega
  have hne : ls.length - 1 < ls.length := by omega
  let l := ls[ls.length - 1]
  have hl : ls[ls.length - 1]? = some l := by simp [l, hne]
  obtain ⟨r4, M4, e4, a4, b4, k4, l4⟩ := take_ok (c := 9) k2 (by decide) (by decide)
  obtain ⟨z, M5, e5, m5, k5, l5⟩ := of_ints (l := [0, 1, 3, r4]) k4 (by simp) (by simp)
  simp only [List.map_cons, List.map_nil] at e5
  let ls' := ls.set (ls.length - 1) { l with t := false }
  refine ⟨⟨z, ls'⟩, M5, run_ok rfl ?_, ⟨?_, ?_, ?_, ?_, ?_, ?_, ?_⟩, k5, by omega⟩
  · have f2 : forL (bindT (.nm 6)) (exec g__law_content cbody) [6, 7] (rngL 0 (a + r)) [.fz (.ref n), .fz (.int a), .fz (.int b), .fz (.int wi), .ow (.lst []), .fz (.int (a + r)), .no, .no, .no, .no] M1 = .next (st ls) M2 := f1
    have hin : inB ((a : Int) + r) = true := by unfold inB; simp; omega
    have sf : ∀ {ds : List Sl} {xs : List D} {M : MS}, sFor (.nm 6) (exec g__law_content (match c__law_content with | .cons _ (.frz _ (.cons (.for _ _ _ _ b) _)) => b | _ => .nil)) [6, 7] ds xs M = forL (bindT (.nm 6)) (exec g__law_content cbody) [6, 7] xs ds M := rfl
    have at1 : L2.atI (ls.map Ln.d) (-1) = some l.d := by
      unfold L2.atI L2.ixN
      rw [if_neg (by decide), List.length_map, if_pos (by omega)]
      show (ls.map Ln.d)[((-1 : Int) + ls.length).toNat]? = _
      rw [show ((-1 : Int) + ls.length).toNat = ls.length - 1 by omega, List.getElem?_map, hl]; rfl
    have ix1 : L2.ixN (ls.map Ln.d).length (-1) = some (ls.length - 1) := by
      unfold L2.ixN
      rw [if_neg (by decide), List.length_map, if_pos (by omega)]
      rw [show ((-1 : Int) + ls.length).toNat = ls.length - 1 by omega]
    have setd : (ls.map Ln.d).set (ls.length - 1) (.tup [l.hd, .int l.s, .int l.n, .bl false]) = ls'.map Ln.d := by
      show _ = (ls.set _ _).map Ln.d
      rw [List.map_set]; rfl
    have i1 : lIdx2 (l.d, .fz) (.int 0, .fz) M2 = .ok (l.hd, .fz) M2 := hd_at l
    have i2 : lIdx2 (l.d, .fz) (.int 1, .fz) M2 = .ok (.int l.s, .fz) M2 := by simp [lIdx2, oIdx, Ln.d, L2.atI, L2.ixN]
    have i3 : lIdx2 (l.d, .fz) (.int 2, .fz) M2 = .ok (.int l.n, .fz) M2 := by simp [lIdx2, oIdx, Ln.d, L2.atI, L2.ixN]
    have i0 : lIdx2 (.lst (ls.map Ln.d), .bo) (.int (-1), .fz) M2 = .ok (l.d, .fz) M2 := by
      unfold lIdx2 oIdx
      show R.of ((L2.atI (ls.map Ln.d) (-1)).map _) M2 = _
      rw [at1]; rfl
    have s1 : ∀ (ds : List Sl), sSetO 4 (ls.map Ln.d) (.tup [l.hd, .int l.s, .int l.n, .bl false]) ds (.int (-1), .fz) M2 = .next (ds.set 4 (.ow (.lst (ls'.map Ln.d)))) M2 := fun ds => by
      unfold sSetO
      show (match L2.ixN (ls.map Ln.d).length (-1) with | some p => _ | none => _) = _
      rw [ix1]
      show Out.next _ _ = _
      rw [setd]
    have tp : ∀ {M : MS} {xs : List D} {k : Kd}, lBi .tuple [(.lst xs, k)] M = .ok (.tup xs, .fz) M := rfl
    have itr : lItF .rng1 [(.int (a + r), .fz)] M1 = .ok (rngL 0 (a + r)) M1 := by
      unfold lItF
      simp [anyBo, oIter, hin]
    have hrest : exec g__law_content crest (st ls) M2 = .ret (Co.d ⟨z, ls'⟩, .fz) M5 := by
      show exec g__law_content crest [.fz (.ref n), .fz (.int a), .fz (.int b), .fz (.int wi), .ow (.lst (ls.map Ln.d)), .fz (.int (a + r)), .no, .no, .no, .no] M2 = _
      generalize (a : Int) = A
      generalize (b : Int) = B
      unfold crest c__law_content
      simp [lLc1_ap, kVar, i0, i1, i2, i3, lTup, anyBo, LIM, s1, g1, g2, lCall, e4, lLst, e5, tp, Co.d]
    rw [ccut]
    have e1' := e1
    generalize hxs : rngL 0 (a + r) = xs at *
    generalize hmr : (a : Int) + r = mr at *
    generalize hA : (a : Int) = A at *
    generalize hB : (b : Int) = B at *
    simp [lLc1_ap, kVar, lLst, anyBo, LIM, g1, lCall, e1, hmr, itr, sFor, f2, hrest]
  · simp at m5; show 0 ≤ z; omega
  · simp at m5; show z ≤ 100; omega
  · intro y hy
    obtain ⟨j, hj⟩ := List.mem_iff_getElem?.mp hy
    have hj : (ls.set (ls.length - 1) { l with t := false })[j]? = some y := hj
    rw [List.getElem?_set] at hj
    split at hj
    · try rw [if_pos hne] at hj
      cases hj
      have := hall l (List.mem_of_getElem? hl)
      exact ⟨this.h, this.s0, this.s1, this.n0, this.n1⟩
    · exact hall y (List.mem_of_getElem? hj)
  · show a ≤ (ls.set _ _).length; rw [List.length_set]; omega
  · show (ls.set _ _).length ≤ b; rw [List.length_set]; omega
  · show pc (ls.set _ _) ≤ 4; rw [pc_set ls _ l hl]; exact hpc
  · intro y hy
    have hy : (ls.set (ls.length - 1) { l with t := false })[(ls.set (ls.length - 1) { l with t := false }).length - 1]? = some y := hy
    rw [List.length_set, List.getElem?_set_self hne] at hy
    cases hy; rfl
end LW
end
section
set_option linter.all false
set_option maxRecDepth 100000
set_option maxHeartbeats 1000000
set_option autoImplicit false
namespace LW
open PL
section
variable {M : MS}
theorem isi_int (v a b : Int) : f_is_integer [.int v, .int a, .int b] M = .ok (.bl (decide (a ≤ v) && decide (v ≤ b)), .fz) M := by
  refine run_ok rfl ?_
  unfold c_is_integer
  by_cases h : a ≤ v <;> simp [lLc1_ap, kVar, lBi, oBi, oBi1, anyTy, isTy, h]
theorem isi_non (v a : Int) : f_is_integer [.int v, .int a, .non] M = .ok (.bl (decide (a ≤ v)), .fz) M := by
  refine run_ok rfl ?_
  unfold c_is_integer
  by_cases h : a ≤ v <;> simp [lLc1_ap, kVar, lBi, oBi, oBi1, anyTy, isTy, h]
theorem isp (l : Ln) : f_is_plate [l.d] M = .ok (.bl l.h.isNone, .fz) M := by
  refine run_ok rfl ?_
  unfold c_is_plate
  simp [lLc1_ap, kVar, hd_at, lBi, oBi, oBi1]
  unfold Ln.hd
  cases l.h <;> simp [anyTy, isTy]
theorem cmp_neX (k k' : Kd) : lCmp2 .ne (.str X, k) (.str X, k') M = .ok (.bl false, .fz) M := by
  unfold lCmp2
  simp [oCmp, oEq, dep_X, D.eq]
theorem isl {l : Ln} (h : LnOk 1000 l) : f_is_line [l.d] M = .ok (.bl true, .fz) M := by
  have g : g_is_line 0 = f_is_integer := rfl
  have cX : lCmp2 .ne (.str X, .fz) (.str (PySem.Str.ofString "x"), .fz) M = .ok (.bl false, .fz) M := cmp_neX _ _
  refine run_ok rfl ?_
  obtain ⟨lh, s, n, t⟩ := l
  have s0 := h.s0; have s1 := h.s1; have n0 := h.n0; have n1 := h.n1
  simp only at s0 s1 n0 n1
  unfold c_is_line
  cases lh with
  | none => simp [lLc1_ap, kVar, lBi, oBi, oBi1, anyTy, isTy, Ln.d, Ln.hd, lenD, items?, sUnp, bindT, bindTs, g, lCall, anyBo, isi_int, s0, s1, n0, n1, cX]
  | some hh =>
    obtain ⟨h1, h2⟩ := h.h hh rfl
    simp [lLc1_ap, kVar, lBi, oBi, oBi1, anyTy, isTy, Ln.d, Ln.hd, lenD, items?, sUnp, bindT, bindTs, g, lCall, anyBo, isi_int, s0, s1, n0, n1, h1, h2]
theorem lc_one {α : Type} {c : TV} {e : EV} (i : Nat) (ds : List Sl) (L : List α) (f : α → D) (P : α → Bool) (g : α → D)
    (h : ∀ a ∈ L, c ((ds.set i .no).set i (.fz (f a))) M = .ok (P a) M ∧ (P a = true → ∃ k, k ≠ Kd.bo ∧ e ((ds.set i .no).set i (.fz (f a))) M = .ok (g a, k) M)) :
    lcL (fun d => bindT (.nm i) d (wipeD [i] ds)) c e (L.map f) M = .ok ((L.filter P).map g) M := by
  induction L with
  | nil => rfl
  | cons a L ih =>
    have ih := ih fun b hb => h b (List.mem_cons_of_mem _ hb)
    obtain ⟨h1, h2⟩ := h a List.mem_cons_self
    have hb : bindT (.nm i) (f a) (wipeD [i] ds) = some ((ds.set i .no).set i (.fz (f a))) := rfl
    rw [List.map_cons]
    simp only [lcL, hb, h1, R.nox_ok, R.bind_ok]
    cases hp : P a with
    | false => simp [List.filter_cons, hp, ih]
    | true =>
      obtain ⟨k, hk, h4⟩ := h2 hp
      simp only [List.filter_cons, hp, if_true, List.map_cons, h4, R.nox_ok, R.bind_ok, if_neg hk, ih]
theorem bls_map {α : Type} (L : List α) (p : α → Bool) : bls? (L.map fun a => D.bl (p a)) = some (L.map p) := by
  induction L with
  | nil => rfl
  | cons a L ih => simp [bls?, ih]
theorem ints_map {α : Type} (L : List α) (p : α → Int) : ints? (L.map fun a => D.int (p a)) = some (L.map p) := by
  induction L with
  | nil => rfl
  | cons a L ih => simp [ints?, ih]
theorem filter_true {α : Type} (L : List α) : L.filter (fun _ => true) = L := List.filter_eq_self.mpr fun _ _ => rfl
theorem arel {ls : List Ln} (h : ∀ l ∈ ls, LnOk 1000 l) (hl : ls.length ≤ LIM) : f_are_lines [.tup (ls.map Ln.d)] M = .ok (.bl true, .fz) M := by
  have g : g_are_lines 2 = f_is_line := rfl
  refine run_ok rfl ?_
  have q := lc_one (M := M) (c := (den g_are_lines .none).nt) (e := (den g_are_lines (.call 2 (.acons (.var 1) .anil))).e) 1 [.fz (.tup (ls.map Ln.d)), .no] ls Ln.d (fun _ => true) (fun _ => .bl true) (fun l hm => ⟨by simp, fun _ => ⟨.fz, by simp, by simp [lLc1_ap, kVar, g, lCall, anyBo, isl (h l hm)]⟩⟩)
  rw [filter_true] at q
  have hle : (ls.map fun _ => D.bl true).length ≤ LIM := by rw [List.length_map]; exact hl
  have hb : lBi .all [(.lst (ls.map fun _ => D.bl true), .fr)] M = .ok (.bl true, .fz) M := by
    unfold lBi oBi oBi1
    simp [asLst, bls_map]
  unfold c_are_lines
  simp [lLc1_ap, kVar, lBi, oBi, oBi1, anyTy, isTy, it_seqT, q, lLc2_ok hle]
  simpa [lBi, oBi, oBi1] using congrArg (fun r => (r.then [Sl.fz (D.tup (ls.map Ln.d)), Sl.no] sRet).andThen (exec g_are_lines CS.nil)) hb
end
end LW
end
section
set_option linter.all false
set_option maxRecDepth 100000
set_option maxHeartbeats 1000000
set_option autoImplicit false
namespace LW
open PL
section
variable {M : MS} {k k' : Kd}
theorem ixN_nn {n : Nat} {j : Int} (h0 : 0 ≤ j) (h : j.toNat < n) : L2.ixN n j = some j.toNat := by
  unfold L2.ixN
  rw [if_pos h0, if_pos (by omega)]
theorem atI_nn {α : Type} {xs : List α} {j : Int} {d : α} (h0 : 0 ≤ j) (h : xs[j.toNat]? = some d) : L2.atI xs j = some d := by
  unfold L2.atI
  rw [ixN_nn h0 (List.getElem?_eq_some_iff.mp h).1]
  exact h
theorem atI_last {α : Type} {xs : List α} {d : α} (h : xs[xs.length - 1]? = some d) : L2.atI xs (-1) = some d := by
  have := (List.getElem?_eq_some_iff.mp h).1
  unfold L2.atI L2.ixN
  rw [if_neg (by decide), if_pos (by omega)]
  show xs[((-1 : Int) + xs.length).toNat]? = _
  rw [show ((-1 : Int) + xs.length).toNat = xs.length - 1 by omega]
  exact h
theorem idxT {xs : List D} {j : Int} {d : D} (h0 : 0 ≤ j) (h : xs[j.toNat]? = some d) : lIdx2 (.tup xs, k) (.int j, k') M = .ok (d, .fz) M := by
  unfold lIdx2 oIdx
  show R.of ((L2.atI xs j).map _) M = _
  rw [atI_nn h0 h]; rfl
theorem idxL {xs : List D} {j : Int} {d : D} (h0 : 0 ≤ j) (h : xs[j.toNat]? = some d) : lIdx2 (.lst xs, k) (.int j, k') M = .ok (d, .fz) M := by
  unfold lIdx2 oIdx
  show R.of ((L2.atI xs j).map _) M = _
  rw [atI_nn h0 h]; rfl
theorem idxT_last {xs : List D} {d : D} (h : xs[xs.length - 1]? = some d) : lIdx2 (.tup xs, k) (.int (-1), k') M = .ok (d, .fz) M := by
  unfold lIdx2 oIdx
  show R.of ((L2.atI xs (-1)).map _) M = _
  rw [atI_last h]; rfl
theorem idxL_last {xs : List D} {d : D} (h : xs[xs.length - 1]? = some d) : lIdx2 (.lst xs, k) (.int (-1), k') M = .ok (d, .fz) M := by
  unfold lIdx2 oIdx
  show R.of ((L2.atI xs (-1)).map _) M = _
  rw [atI_last h]; rfl
theorem ln_1 (l : Ln) : lIdx2 (l.d, k) (.int 1, k') M = .ok (.int l.s, .fz) M := rfl
theorem ln_2 (l : Ln) : lIdx2 (l.d, k) (.int 2, k') M = .ok (.int l.n, .fz) M := rfl
theorem ln_3 (l : Ln) : lIdx2 (l.d, k) (.int 3, k') M = .ok (.bl l.t, .fz) M := rfl
theorem co_0 (c : Co) : lIdx2 (c.d, k) (.int 0, k') M = .ok (.int c.r, .fz) M := rfl
theorem co_1 (c : Co) : lIdx2 (c.d, k) (.int 1, k') M = .ok (.tup (c.ls.map Ln.d), .fz) M := rfl
theorem it_r1 {i : Int} (h : inB i = true) : lIt .rng1 [(.int i, k)] M = .ok (rngL 0 i) M := by
  show R.of (if inB i then some (rngL 0 i) else none) M = _
  rw [if_pos h]; rfl
theorem it_r2 {i j : Int} (h : inB i = true) (h2 : inB j = true) : lIt .rng2 [(.int i, k), (.int j, k')] M = .ok (rngL i j) M := by
  show R.of (if inB i && inB j then some (rngL i j) else none) M = _
  rw [h, h2]; rfl
theorem itF_r1 {i : Int} (h : inB i = true) : lItF .rng1 [(.int i, .fz)] M = .ok (rngL 0 i) M := by
  show R.of (if inB i then some (rngL 0 i) else none) M = _
  rw [if_pos h]; rfl
theorem itF_r2 {i j : Int} (h : inB i = true) (h2 : inB j = true) : lItF .rng2 [(.int i, .fz), (.int j, .fz)] M = .ok (rngL i j) M := by
  show R.of (if inB i && inB j then some (rngL i j) else none) M = _
  rw [h, h2]; rfl
theorem inB_nat {n : Nat} (h : n ≤ 1000000) : inB (n : Int) = true := by unfold inB; simp; omega
theorem inB_of {i : Int} (h0 : -1000000000 ≤ i) (h : i ≤ 1000000000) : inB i = true := by unfold inB; simp; omega
theorem rngL_nat (a : Int) (n : Nat) : rngL a (a + n) = (List.range n).map fun (i : Nat) => D.int (a + i) := by
  unfold rngL
  rw [show (a + n - a).toNat = n by omega]
theorem lc_two {α : Type} {c : TV} {e : EV} (i j : Nat) (ds : List Sl) (L : List α) (f f' : α → D) (P : α → Bool) (g : α → D)
    (h : ∀ a ∈ L, c ((((ds.set j .no).set i .no).set i (.fz (f a))).set j (.fz (f' a))) M = .ok (P a) M ∧ (P a = true → ∃ k, k ≠ Kd.bo ∧ e ((((ds.set j .no).set i .no).set i (.fz (f a))).set j (.fz (f' a))) M = .ok (g a, k) M)) :
    lcL (fun d => bindT (.tp (.cons (.nm i) (.cons (.nm j) .nil))) d (wipeD [i, j] ds)) c e (L.map fun a => .tup [f a, f' a]) M = .ok ((L.filter P).map g) M := by
  induction L with
  | nil => rfl
  | cons a L ih =>
    have ih := ih fun b hb => h b (List.mem_cons_of_mem _ hb)
    obtain ⟨h1, h2⟩ := h a List.mem_cons_self
    have hb : bindT (.tp (.cons (.nm i) (.cons (.nm j) .nil))) (.tup [f a, f' a]) (wipeD [i, j] ds) = some ((((ds.set j .no).set i .no).set i (.fz (f a))).set j (.fz (f' a))) := rfl
    rw [List.map_cons]
    simp only [lcL, hb, h1, R.nox_ok, R.bind_ok]
    cases hp : P a with
    | false => simp [List.filter_cons, hp, ih]
    | true =>
      obtain ⟨k, hk, h4⟩ := h2 hp
      simp only [List.filter_cons, hp, if_true, List.map_cons, h4, R.nox_ok, R.bind_ok, if_neg hk, ih]
/-- a comprehension that draws which ones stay -/
theorem lc_sub {α : Type} {c : TV} {e : EV} (i : Nat) (ds : List Sl) (f : α → D) (I : MS → Prop)
    (h : ∀ a M, I M → ∃ b M1, c ((ds.set i .no).set i (.fz (f a))) M = .ok b M1 ∧ I M1 ∧ e ((ds.set i .no).set i (.fz (f a))) M1 = .ok (f a, .fz) M1) :
    ∀ (L : List α) (M : MS), I M → ∃ (S : List α) (M' : MS), S.Sublist L ∧ lcL (fun d => bindT (.nm i) d (wipeD [i] ds)) c e (L.map f) M = .ok (S.map f) M' ∧ I M'
  | [], M, hM => ⟨[], M, List.Sublist.slnil, rfl, hM⟩
  | a :: L, M, hM => by
    obtain ⟨b, M1, h1, h2, h3⟩ := h a M hM
    obtain ⟨S, M', q1, q2, q3⟩ := lc_sub i ds f I h L M1 h2
    have hb : bindT (.nm i) (f a) (wipeD [i] ds) = some ((ds.set i .no).set i (.fz (f a))) := rfl
    rw [List.map_cons]
    cases b with
    | false =>
      refine ⟨S, M', q1.cons a, ?_, q3⟩
      simp only [lcL, hb, h1, R.nox_ok, R.bind_ok, Bool.false_eq_true, if_false, q2]
    | true =>
      refine ⟨a :: S, M', q1.cons₂ a, ?_, q3⟩
      simp only [lcL, hb, h1, h3, R.nox_ok, R.bind_ok, if_true, if_false, q2, List.map_cons, reduceCtorEq]
mutual
theorem eq_refl : ∀ (n : Nat) (d : D), D.dep n d = true → D.eq d d = true
  | _, .non, _ => rfl
  | _, .bl _, _ => by simp [D.eq]
  | _, .int _, _ => by simp [D.eq]
  | _, .str _, _ => by simp [D.eq]
  | n + 1, .tup xs, h => by
    rw [D.eq]; exact eq_reflL n xs (by simpa [D.dep] using h)
  | n + 1, .lst xs, h => by
    rw [D.eq]; exact eq_reflL n xs (by simpa [D.dep] using h)
  | 0, .tup _, h => by simp [D.dep] at h
  | 0, .lst _, h => by simp [D.dep] at h
  | 0, .dI _ _, h => by simp [D.dep] at h
  | n + 1, .dI _ _, h => by simp [D.dep] at h
  | 0, .dT _ _, h => by simp [D.dep] at h
  | n + 1, .dT _ _, h => by simp [D.dep] at h
  | 0, .ref _, h => by simp [D.dep] at h
  | n + 1, .ref _, h => by simp [D.dep] at h
  | 0, .scr _, h => by simp [D.dep] at h
  | n + 1, .scr _, h => by simp [D.dep] at h
theorem eq_reflL : ∀ (n : Nat) (xs : List D), (∀ x ∈ xs, D.dep n x = true) → D.eqL xs xs = true
  | _, [], _ => rfl
  | n, x :: xs, h => by
    rw [D.eqL, eq_refl n x (h x List.mem_cons_self), eq_reflL n xs fun y hy => h y (List.mem_cons_of_mem _ hy)]; rfl
end
theorem ne_same {d : D} (h : D.dep 12 d = true) : lCmp2 .ne (d, k) (d, k') M = .ok (.bl false, .fz) M := by
  unfold lCmp2
  simp [oCmp, oEq, DEP, h, eq_refl 12 d h]
theorem eq_same {d : D} (h : D.dep 12 d = true) : lCmp2 .eq (d, k) (d, k') M = .ok (.bl true, .fz) M := by
  unfold lCmp2
  simp [oCmp, oEq, DEP, h, eq_refl 12 d h]
theorem dep_ints (n : Nat) (L : List Int) : D.dep (n + 1) (.lst (L.map D.int)) = true := by
  simp [D.dep, dep_int]
theorem dep_intsT (n : Nat) (L : List Int) : D.dep (n + 1) (.tup (L.map D.int)) = true := by
  simp [D.dep, dep_int]
theorem cut_1 {α : Type} (xs : List α) : cutL xs (some 1) none = xs.drop 1 := by
  unfold cutL HT.sIx
  cases xs with
  | nil => rfl
  | cons x xs => simp
end
end LW
end
section
set_option linter.all false
set_option maxRecDepth 100000
set_option maxHeartbeats 1000000
set_option autoImplicit false
namespace LW
open PL
section
variable {M : MS} {k k' : Kd}
def tAt (ls : List Ln) (i : Nat) : Bool := (ls[i]?.map Ln.t).getD true
def brkN (ls : List Ln) : List Nat := (List.range (ls.length - 1)).filter fun i => !tAt ls i
def brk (ls : List Ln) : List Int := (brkN ls).map fun (i : Nat) => 1 + (i : Int)
def brkC (v i : Nat) : CE := .acons (.not (.idx (.idx (.var v) (.bin .sub (.var i) (.lit (.int 1)))) (.lit (.int 3)))) .anil
theorem brk_lc (G : Nat → Fn) (v i : Nat) (ds : List Sl) (ls : List Ln) (hv : ds[v]? = some (.fz (.tup (ls.map Ln.d)))) (hvi : i ≠ v) (hi : i < ds.length) (h1 : 1 ≤ ls.length) :
    lcL (fun d => bindT (.nm i) d (wipeD [i] ds)) (den G (brkC v i)).nt (den G (.var i)).e (rngL 1 (ls.length : Int)) M = .ok ((brk ls).map D.int) M := by
  have e : rngL 1 (ls.length : Int) = (List.range (ls.length - 1)).map fun (j : Nat) => D.int (1 + (j : Int)) := by
    rw [← rngL_nat]; congr 1; omega
  have e2 : (brk ls).map D.int = (brkN ls).map fun (j : Nat) => D.int (1 + (j : Int)) := by unfold brk; rw [List.map_map]; rfl
  rw [e, e2]
  refine lc_one i ds _ (fun (j : Nat) => D.int (1 + (j : Int))) (fun j => !tAt ls j) _ fun j hj => ?_
  rw [List.mem_range] at hj
  have hl : j < ls.length := by omega
  have ht : tAt ls j = ls[j].t := by unfold tAt; simp [hl]
  have x0 : (0 : Int) ≤ 1 + (j : Int) - 1 := by omega
  have x1 : (ls.map Ln.d)[(1 + (j : Int) - 1).toNat]? = some ls[j].d := by
    rw [show (1 + (j : Int) - 1).toNat = j by omega, List.getElem?_map, List.getElem?_eq_getElem hl]; rfl
  generalize (1 + (j : Int)) = J at *
  have hk : kVar i ((ds.set i .no).set i (.fz (.int J))) M = .ok (.int J, .fz) M := by
    unfold kVar
    rw [List.getElem?_set_self (by rw [List.length_set]; exact hi)]
  have hk2 : kVar v ((ds.set i .no).set i (.fz (.int J))) M = .ok (.tup (ls.map Ln.d), .fz) M := by
    unfold kVar
    rw [List.getElem?_set_ne hvi, List.getElem?_set_ne hvi, hv]
  have hix : lIdx2 (.tup (ls.map Ln.d), .fz) (.int (J - 1), .fz) M = .ok (ls[j].d, .fz) M := idxT x0 x1
  refine ⟨?_, fun _ => ⟨.fz, by simp, hk⟩⟩
  unfold brkC
  rw [nt_one, t_not, t_idx, e_idx, e_idx, e_var, hk2, R.bind_ok, lIdx1_ap, e_bin, e_var, hk, R.bind_ok, lBin1_ap, e_lit, R.bind_ok, lBin2_sub, R.bind_ok, hix, R.bind_ok, lIdx1_ap, e_lit, R.bind_ok, ln_3, R.bind_ok, lT_bl, R.bind_ok, lNotT_ap, ht]
theorem brk_len (ls : List Ln) : (brk ls).length ≤ ls.length := by
  unfold brk brkN
  rw [List.length_map]
  exact Nat.le_trans (List.length_filter_le _ _) (by rw [List.length_range]; omega)
theorem breaks_of_w (N : Int) (bs xs : List D) (hi : inB N = true) (hln : lBi .len [(.tup xs, .fz)] M = .ok (.int N, .fz) M)
    (q : lcL (fun d => bindT (.nm 1) d (wipeD [1] [.fz (.tup xs), .no])) (den g_breaks_of (brkC 0 1)).nt (den g_breaks_of (.var 1)).e (rngL 1 N) M = .ok bs M) (hle : bs.length ≤ LIM) : f_breaks_of [.tup xs] M = .ok (.lst bs, .fr) M := by
  refine run_ok rfl ?_
  have hi1 : inB 1 = true := inB_of (by decide) (by decide)
  have hr := it_r2 (k := .fz) (k' := .fz) (M := M) hi1 hi
  have e : c_breaks_of = .cons (.ret (.lc [1] (.nm 1) .rng2 (.acons (.lit (.int 1)) (.acons (.bi .len (.acons (.var 0) .anil)) .anil)) (brkC 0 1) (.var 1))) .nil := rfl
  rw [e]
  generalize brkC 0 1 = C at *
  simp [lLc1_ap, kVar, hln, hr]
  rw [q]
  simp [lLc2_ok hle]
theorem breaks_of_v (ls : List Ln) (h1 : 1 ≤ ls.length) (hi : inB (ls.length : Int) = true) (hle : ((brk ls).map D.int).length ≤ LIM) (hln : lBi .len [(.tup (ls.map Ln.d), .fz)] M = .ok (.int ls.length, .fz) M) : f_breaks_of [.tup (ls.map Ln.d)] M = .ok (.lst ((brk ls).map D.int), .fr) M := by
  have q := (brk_lc (M := M) g_breaks_of 0 1 [.fz (.tup (ls.map Ln.d)), .no] ls rfl (by simp) (by simp) h1) 
  exact breaks_of_w ls.length ((brk ls).map D.int) (ls.map Ln.d) hi hln q hle
theorem len_d (ls : List Ln) : lBi .len [(.tup (ls.map Ln.d), .fz)] M = .ok (.int ls.length, .fz) M := by rw [bi_lenT, List.length_map]
theorem brk_lim (ls : List Ln) (h2 : ls.length ≤ 1000) : ((brk ls).map D.int).length ≤ LIM := by rw [List.length_map]; have := brk_len ls; unfold LIM; omega
theorem breaks_of_ok (ls : List Ln) (h1 : 1 ≤ ls.length) (h2 : ls.length ≤ 1000) : f_breaks_of [.tup (ls.map Ln.d)] M = .ok (.lst ((brk ls).map D.int), .fr) M :=
  breaks_of_v ls h1 (inB_nat (Nat.le_trans h2 (by decide))) (brk_lim ls h2) (len_d ls)
theorem law_breaks_w (N : Int) (cd : D) (bs xs : List D) (hi : inB N = true) (h0 : lIdx2 (cd, .fz) (.int 1, .fz) M = .ok (.tup xs, .fz) M) (hln : lBi .len [(.tup xs, .fz)] M = .ok (.int N, .fz) M)
    (q : lcL (fun d => bindT (.nm 2) d (wipeD [2] [.fz cd, .fz (.tup xs), .no])) (den g__law_breaks (brkC 1 2)).nt (den g__law_breaks (.var 2)).e (rngL 1 N) M = .ok bs M) (hle : bs.length ≤ LIM) : f__law_breaks [cd] M = .ok (.lst bs, .fr) M := by
  refine run_ok rfl ?_
  have hi1 : inB 1 = true := inB_of (by decide) (by decide)
  have hr := it_r2 (k := .fz) (k' := .fz) (M := M) hi1 hi
  have e : c__law_breaks = .cons (.set 1 (.idx (.var 0) (.lit (.int 1)))) (.frz 1 (.cons (.ret (.lc [2] (.nm 2) .rng2 (.acons (.lit (.int 1)) (.acons (.bi .len (.acons (.var 1) .anil)) .anil)) (brkC 1 2) (.var 2))) .nil)) := rfl
  rw [e]
  generalize brkC 1 2 = C at *
  simp [lLc1_ap, kVar, h0, hln, hr]
  rw [q]
  simp [lLc2_ok hle]
theorem law_breaks_ok (c : Co) (h1 : 1 ≤ c.ls.length) (h2 : c.ls.length ≤ 1000) : f__law_breaks [c.d] M = .ok (.lst ((brk c.ls).map D.int), .fr) M :=
  law_breaks_w c.ls.length _ _ _ (inB_nat (by omega)) (co_1 c) (by rw [bi_lenT, List.length_map]) (brk_lc (M := M) g__law_breaks 1 2 [.fz c.d, .fz (.tup (c.ls.map Ln.d)), .no] c.ls rfl (by simp) (by simp) h1) (by rw [List.length_map]; have := brk_len c.ls; unfold LIM; omega)
end
end LW
end
section
set_option linter.all false
set_option maxRecDepth 100000
set_option maxHeartbeats 1000000
set_option autoImplicit false
namespace LW
open PL
section
variable {M : MS} {k k' : Kd}
theorem pl_lc (G : Nat → Fn) (f : Nat) (hG : G f = f_is_plate) (i : Nat) (ds : List Sl) (hi : i < ds.length) (ls : List Ln) :
    lcL (fun d => bindT (.nm i) d (wipeD [i] ds)) (den G (.acons (.call f (.acons (.var i) .anil)) .anil)).nt (den G (.var i)).e (ls.map Ln.d) M = .ok ((ls.filter fun l => l.h.isNone).map Ln.d) M := by
  refine lc_one i ds ls Ln.d (fun l => l.h.isNone) Ln.d fun l _ => ?_
  have hk : kVar i ((ds.set i .no).set i (.fz l.d)) M = .ok (l.d, .fz) M := by
    unfold kVar
    rw [List.getElem?_set_self (by rw [List.length_set]; exact hi)]
  exact ⟨by simp [-List.set_set, hk, hG, lCall, anyBo, isp], fun _ => ⟨.fz, by simp, hk⟩⟩
theorem pc_filter (ls : List Ln) : (ls.filter fun l => l.h.isNone).length = pc ls := by
  unfold pc
  rw [List.filter_map, List.length_map]; rfl
theorem is_content_w (cd : D) (xs ys : List D) (r n p : Int) (l : Ln) (h2 : lBi .len [(cd, .fz)] M = .ok (.int 2, .fz) M) (h1 : lBi (.isi [.tuple]) [(cd, .fz)] M = .ok (.bl true, .fz) M)
    (i0 : lIdx2 (cd, .fz) (.int 0, .fz) M = .ok (.int r, .fz) M) (i1 : lIdx2 (cd, .fz) (.int 1, .fz) M = .ok (.tup xs, .fz) M) (r0 : 0 ≤ r) (r1 : r ≤ 100)
    (ha : f_are_lines [.tup xs] M = .ok (.bl true, .fz) M) (hl : lBi .len [(.tup xs, .fz)] M = .ok (.int n, .fz) M) (n1 : 1 ≤ n) (n2 : n ≤ 16)
    (hx : lIdx2 (.tup xs, .fz) (.int (-1), .fz) M = .ok (l.d, .fz) M) (ht : l.t = false)
    (q : lcL (fun d => bindT (.nm 1) d (wipeD [1] [.fz cd, .no])) (den g_is_content (.acons (.call 1 (.acons (.var 1) .anil)) .anil)).nt (den g_is_content (.var 1)).e xs M = .ok ys M)
    (hle : ys.length ≤ LIM) (hp : lBi .len [(.lst ys, .fr)] M = .ok (.int p, .fz) M) (hp2 : p ≤ 4) : f_is_content [cd] M = .ok (.bl true, .fz) M := by
  refine run_ok rfl ?_
  have g0 : g_is_content 0 = f_is_integer := rfl
  have g3 : g_is_content 3 = f_are_lines := rfl
  generalize g_is_content = G at *
  unfold c_is_content
  generalize (CE.acons (.call 1 (.acons (.var 1) .anil)) .anil) = C at *
  simp [lLc1_ap, kVar, h1, h2, i0, i1, g0, g3, lCall, anyBo, isi_int, r0, r1, ha, hl, lCh2_le, n1, n2, hx, ln_3, ht]
  rw [it_seqT]
  simp [lLc1_ap, q, lLc2_ok hle, hp, hp2]
theorem is_content_ok {c : Co} (h : CoOk 1000 1 16 c) : f_is_content [c.d] M = .ok (.bl true, .fz) M := by
  have hla := h.la
  have hlb := h.lb
  have hn : c.ls.length - 1 < c.ls.length := by omega
  have hx : (c.ls.map Ln.d)[(c.ls.map Ln.d).length - 1]? = some c.ls[c.ls.length - 1].d := by
    rw [List.length_map, List.getElem?_map, List.getElem?_eq_getElem hn]; rfl
  refine is_content_w c.d (c.ls.map Ln.d) _ c.r c.ls.length (pc c.ls) c.ls[c.ls.length - 1] rfl rfl (co_0 c) (co_1 c) h.r0 h.r1 (arel h.ls (by unfold LIM; omega)) (len_d _) (by omega) (by omega)
    (idxT_last hx) (h.lt _ (List.getElem?_eq_getElem hn)) (pl_lc g_is_content 1 rfl 1 [.fz c.d, .no] (by simp) c.ls) ?_ ?_ (by have := h.pl; omega)
  · rw [List.length_map, pc_filter]; have := h.pl; unfold LIM; omega
  · rw [bi_len, List.length_map, pc_filter]
theorem need_content_ok {c : Co} (h : CoOk 1000 1 16 c) : f_need_content [c.d] M = .ok (.non, .fz) M := by
  have g : g_need_content 4 = f_is_content := rfl
  have q := is_content_ok (M := M) h
  generalize c.d = cd at *
  refine run_none (ds := [.fz cd]) rfl ?_
  unfold c_need_content
  simp [lLc1_ap, kVar, g, lCall, anyBo, q]
end
end LW
end
section
set_option linter.all false
set_option maxRecDepth 100000
set_option maxHeartbeats 1000000
set_option autoImplicit false
namespace LW
open PL
section
variable {M : MS} {k k' : Kd}
theorem mem_ints {z : Int} {L : List Int} : lCmp2 .mem (.int z, k) (.lst (L.map D.int), k') M = .ok (.bl (decide (z ∈ L)), .fz) M := by
  unfold lCmp2
  have h : D.dep 4 (.int z) = true := dep_int 4 z
  have h2 : D.dep 5 (.lst (L.map D.int)) = true := dep_ints 4 L
  have h3 : ((L.map D.int).any fun y => D.eq y (.int z)) = decide (z ∈ L) := by
    rw [List.any_map]
    induction L with
    | nil => rfl
    | cons a L ih =>
      rw [List.any_cons, ih (dep_ints 4 L)]
      have : (a == z) = decide (z = a) := by
        by_cases e : a = z
        · subst e; simp
        · have e2 : ¬ z = a := fun q => e q.symm
          simp [e, e2]
      simp [D.eq, this]
  simp [oCmp, oMem, h, h2, h3]
structure LayOk (ls : List Ln) (lay : List Int) : Prop where
  inc : lay.Pairwise (· < ·)
  mem : ∀ z ∈ lay, z ∈ brk ls
theorem brk_inc (ls : List Ln) : (brk ls).Pairwise (· < ·) := by
  unfold brk brkN
  refine List.Pairwise.map _ (R := fun (a b : Nat) => a < b) (fun a b h => by omega) ?_
  exact List.Pairwise.filter _ List.pairwise_lt_range
theorem brk_mem {ls : List Ln} {z : Int} (h : z ∈ brk ls) : 1 ≤ z ∧ z < ls.length ∧ tAt ls (z.toNat - 1) = false := by
  unfold brk brkN at h
  obtain ⟨i, h1, h2⟩ := List.mem_map.mp h
  rw [List.mem_filter, List.mem_range] at h1
  subst h2
  refine ⟨by omega, by omega, ?_⟩
  rw [show (1 + (i : Int)).toNat - 1 = i by omega]
  simpa using h1.2
theorem lay_of_sub {ls : List Ln} {lay : List Int} (h : lay.Sublist (brk ls)) : LayOk ls lay := ⟨(brk_inc ls).sublist h, fun _ hz => h.subset hz⟩
theorem lay_len {ls : List Ln} {lay : List Int} (h : LayOk ls lay) : lay.length ≤ ls.length := by
  have key : ∀ (L : List Int) (a b : Int), L.Pairwise (· < ·) → (∀ z ∈ L, a ≤ z ∧ z < b) → (L.length : Int) ≤ max 0 (b - a) := by
    intro L
    induction L with
    | nil => intro a b _ _; simp; omega
    | cons x L ih =>
      intro a b hp hm
      have h1 := hm x List.mem_cons_self
      have := ih (x + 1) b (List.pairwise_cons.mp hp).2 fun z hz => ⟨by have := (List.pairwise_cons.mp hp).1 z hz; omega, (hm z (List.mem_cons_of_mem _ hz)).2⟩
      rw [List.length_cons]; omega
  have := key lay 1 ls.length h.inc fun z hz => ⟨(brk_mem (h.mem z hz)).1, (brk_mem (h.mem z hz)).2.1⟩
  omega
theorem inc_zip {L : List Int} (h : L.Pairwise (· < ·)) : ∀ p ∈ L.zip (L.drop 1), p.1 < p.2 := by
  induction L with
  | nil => simp
  | cons a L ih =>
    rw [List.drop_one, List.tail_cons]
    cases L with
    | nil => simp
    | cons b L =>
      intro p hp
      rw [List.zip_cons_cons] at hp
      rcases List.mem_cons.mp hp with q | q
      · subst q
        exact (List.pairwise_cons.mp h).1 b List.mem_cons_self
      · exact ih (List.pairwise_cons.mp h).2 p (by simpa using q)
theorem zip_ints (xs ys : List Int) : zipL (xs.map D.int) (ys.map D.int) = (xs.zip ys).map fun p => .tup [.int p.1, .int p.2] := by
  unfold zipL
  rw [List.zip_map, List.map_map]; rfl
def layC : CE := (.and (.acons (.call 0 (.acons (.var 3) (.acons (.lit (.int 1)) (.acons (.lit .non) .anil)))) (.acons (.cmp .mem (.var 3) (.var 2)) .anil)))
theorem lay_lc1 {ls : List Ln} {lay : List Int} (h : LayOk ls lay) (a b x4 x5 : Sl) : lcL (fun d => bindT (.nm 3) d (wipeD [3] [a, b, .fz (.lst ((brk ls).map D.int)), .no, x4, x5])) (den g_is_layout_of .none).nt (den g_is_layout_of layC).e (lay.map D.int) M = .ok (lay.map fun _ => D.bl true) M := by
  have g0 : g_is_layout_of 0 = f_is_integer := rfl
  have q := lc_one (M := M) (c := (den g_is_layout_of .none).nt) (e := (den g_is_layout_of layC).e) 3 [a, b, .fz (.lst ((brk ls).map D.int)), .no, x4, x5] lay D.int (fun _ => true) (fun _ => .bl true) fun z hz => by
    have hm := h.mem z hz
    have h1 := (brk_mem hm).1
    exact ⟨by simp, fun _ => ⟨.fz, by simp, by simp [layC, kVar, g0, lCall, anyBo, isi_non, h1, mem_ints, hm]⟩⟩
  rw [filter_true] at q
  exact q
theorem lay_lc2 {lay : List Int} (h : lay.Pairwise (· < ·)) (a b c x3 : Sl) : lcL (fun d => bindT (.tp (.cons (.nm 4) (.cons (.nm 5) .nil))) d (wipeD [4, 5] [a, b, c, x3, .no, .no])) (den g_is_layout_of .none).nt (den g_is_layout_of (.cmp .lt (.var 4) (.var 5))).e (zipL (lay.map D.int) ((lay.drop 1).map D.int)) M = .ok ((lay.zip (lay.drop 1)).map fun _ => D.bl true) M := by
  rw [zip_ints]
  have q := lc_two (M := M) (c := (den g_is_layout_of .none).nt) (e := (den g_is_layout_of (.cmp .lt (.var 4) (.var 5))).e) 4 5 [a, b, c, x3, .no, .no] (lay.zip (lay.drop 1)) (fun p => D.int p.1) (fun p => D.int p.2) (fun _ => true) (fun _ => .bl true) fun p hp => by
    have h1 := inc_zip h p hp
    exact ⟨by simp, fun _ => ⟨.fz, by simp, by simp [lLc1_ap, kVar, h1]⟩⟩
  rw [filter_true] at q
  exact q
theorem all_true {α : Type} (L : List α) : lBi .all [(.lst (L.map fun _ => D.bl true), .fr)] M = .ok (.bl true, .fz) M := by
  unfold lBi oBi oBi1
  simp [asLst, bls_map L fun _ => true]
theorem is_layout_w (xl yl bs ts : List D) (us : List D) (e1 : f_breaks_of [.tup xl] M = .ok (.lst bs, .fr) M)
    (q1 : lcL (fun d => bindT (.nm 3) d (wipeD [3] [.fz (.tup xl), .fz (.tup yl), .fz (.lst bs), .no, .no, .no])) (den g_is_layout_of .none).nt (den g_is_layout_of layC).e yl M = .ok ts M)
    (q2 : lcL (fun d => bindT (.tp (.cons (.nm 4) (.cons (.nm 5) .nil))) d (wipeD [4, 5] [.fz (.tup xl), .fz (.tup yl), .fz (.lst bs), .no, .no, .no])) (den g_is_layout_of .none).nt (den g_is_layout_of (.cmp .lt (.var 4) (.var 5))).e (zipL yl (yl.drop 1)) M = .ok us M)
    (l1 : ts.length ≤ LIM) (l2 : us.length ≤ LIM) (a1 : lBi .all [(.lst ts, .fr)] M = .ok (.bl true, .fz) M) (a2 : lBi .all [(.lst us, .fr)] M = .ok (.bl true, .fz) M) : f_is_layout_of [.tup xl, .tup yl] M = .ok (.bl true, .fz) M := by
  refine run_ok rfl ?_
  have g5 : g_is_layout_of 5 = f_breaks_of := rfl
  have ht : lBi (.isi [.tuple]) [(.tup yl, .fz)] M = .ok (.bl true, .fz) M := rfl
  have hz : lIt .zip [(.tup yl, .fz), (.tup (yl.drop 1), .fz)] M = .ok (zipL yl (yl.drop 1)) M := rfl
  unfold c_is_layout_of
  rw [← layC]
  generalize layC = C at *
  generalize g_is_layout_of = G at *
  simp [lLc1_ap, kVar, ht, g5, lCall, anyBo, e1, it_seqT, cut_1]
  rw [q1]
  simp [lLc2_ok l1, a1, kVar, cut_1]
  simp only [List.drop_one] at hz q2
  rw [hz]
  simp [lLc1_ap]
  rw [q2]
  simp [lLc2_ok l2, a2]
theorem is_layout_ok {ls : List Ln} {lay : List Int} (h1 : 1 ≤ ls.length) (h2 : ls.length ≤ 1000) (h : LayOk ls lay) : f_is_layout_of [.tup (ls.map Ln.d), .tup (lay.map D.int)] M = .ok (.bl true, .fz) M := by
  have hl := lay_len h
  have hd : (lay.map D.int).drop 1 = (lay.drop 1).map D.int := by rw [List.map_drop]
  refine is_layout_w _ _ _ _ _ (breaks_of_ok ls h1 h2) (lay_lc1 h _ _ _ _) (by rw [hd]; exact lay_lc2 h.inc _ _ _ _) ?_ ?_ (all_true _) (all_true _)
  · rw [List.length_map]; unfold LIM; omega
  · rw [List.length_map, List.length_zip]; unfold LIM; omega
theorem need_layout_ok {c : Co} {lay : List Int} (h1 : 1 ≤ c.ls.length) (h2 : c.ls.length ≤ 1000) (h : LayOk c.ls lay) : f_need_layout [c.d, .tup (lay.map D.int)] M = .ok (.non, .fz) M := by
  have g : g_need_layout 6 = f_is_layout_of := rfl
  have q := is_layout_ok (M := M) h1 h2 h
  have i1 : lIdx2 (c.d, .fz) (.int 1, .fz) M = .ok (.tup (c.ls.map Ln.d), .fz) M := co_1 c
  generalize c.d = cd at *
  generalize c.ls.map Ln.d = xl at *
  generalize lay.map D.int = yl at *
  refine run_none (ds := [.fz cd, .fz (.tup yl)]) rfl ?_
  unfold c_need_layout
  simp [lLc1_ap, kVar, g, lCall, anyBo, i1, q]
end
end LW
end
section
set_option linter.all false
set_option maxRecDepth 100000
set_option maxHeartbeats 1000000
set_option autoImplicit false
namespace LW
open PL
section
variable {M : MS} {k k' : Kd}
/-- where columns begin and end -/
def plc (ls : List Ln) (lay : List Int) : List Int := 0 :: lay ++ [(ls.length : Int)]
def colD (ps : List Int) : List D := (ps.zip (ps.drop 1)).map fun p => .tup [.int p.1, .int p.2]
theorem plc_d (ls : List Ln) (lay : List Int) : (plc ls lay).map D.int = D.int 0 :: (lay.map D.int ++ [D.int ls.length]) := by
  unfold plc
  simp
theorem columns_in_w (cd : D) (xl yl : List D) (n : Int) (i1 : lIdx2 (cd, .fz) (.int 1, .fz) M = .ok (.tup xl, .fz) M) (hn : lBi .len [(.tup xl, .fz)] M = .ok (.int n, .fz) M) (hy : yl.length ≤ 1000) :
    f_columns_in [cd, .tup yl] M = .ok (.lst (zipL (D.int 0 :: (yl ++ [D.int n])) (yl ++ [D.int n])), .fr) M := by
  refine run_ok rfl ?_
  have a1 : lBin2 .add (.tup [.int 0], .fz) (.tup yl, .fz) M = .ok (.tup (D.int 0 :: yl), .fz) M := by
    rw [lBin2_tup]
    unfold oAdd
    simp only [List.length_singleton]
    rw [if_pos (by unfold LIM; omega)]; rfl
  have a2 : lBin2 .add (.tup (D.int 0 :: yl), .fz) (.tup [.int n], .fz) M = .ok (.tup (D.int 0 :: (yl ++ [.int n])), .fz) M := by
    rw [lBin2_tup]
    unfold oAdd
    simp only [List.length_cons, List.length_nil]
    rw [if_pos (by unfold LIM; omega)]; rfl
  have c1 : cutL (D.int 0 :: (yl ++ [.int n])) (some 1) none = yl ++ [.int n] := by rw [cut_1]; rfl
  unfold c_columns_in
  simp [lLc1_ap, kVar, i1, hn, lTup, anyBo, LIM, a1, a2]
  rw [c1]
theorem columns_in_ok {c : Co} {lay : List Int} (h : lay.length ≤ 1000) : f_columns_in [c.d, .tup (lay.map D.int)] M = .ok (.lst (colD (plc c.ls lay)), .fr) M := by
  rw [columns_in_w c.d (c.ls.map Ln.d) (lay.map D.int) c.ls.length (co_1 c) (len_d _) (by rw [List.length_map]; exact h), ← plc_d]
  unfold colD
  rw [← zip_ints]
  congr 5
  unfold plc
  simp
end
end LW
end
section
set_option linter.all false
set_option maxRecDepth 100000
set_option maxHeartbeats 1000000
set_option autoImplicit false
namespace LW
open PL
/-- a tuple, a list, the items of a loop -/
def TL {α : Type} (f : α → D) (L : List α) : D := .tup (L.map f)
def LL {α : Type} (f : α → D) (L : List α) : D := .lst (L.map f)
def mp {α : Type} (f : α → D) (L : List α) : List D := L.map f
/-- lo, lo + 1, .., hi - 1 -/
def irange (lo hi : Int) : List Int := (List.range (hi - lo).toNat).map fun (i : Nat) => lo + i
def enumI {α : Type} (n : Int) : List α → List (Int × α)
  | [] => []
  | a :: L => (n, a) :: enumI (n + 1) L
section
variable {α β : Type} {f : α → D} {g : β → D} {L L' : List α} {M : MS} {k k' k3 : Kd} {ds : List Sl}
theorem irange_mem {lo hi z : Int} : z ∈ irange lo hi ↔ lo ≤ z ∧ z < hi := by
  unfold irange
  rw [List.mem_map]
  constructor
  · rintro ⟨i, h, rfl⟩
    rw [List.mem_range] at h
    omega
  · rintro ⟨h1, h2⟩
    exact ⟨(z - lo).toNat, by rw [List.mem_range]; omega, by omega⟩
theorem irange_len {lo hi : Int} : (irange lo hi).length = (hi - lo).toNat := by
  unfold irange; rw [List.length_map, List.length_range]
theorem irange_get {lo hi : Int} {i : Nat} (h : (i : Int) < hi - lo) : (irange lo hi)[i]? = some (lo + i) := by
  unfold irange
  rw [List.getElem?_map, List.getElem?_range (by omega)]; rfl
theorem enumI_len (n : Int) (L : List α) : (enumI n L).length = L.length := by
  induction L generalizing n with
  | nil => rfl
  | cons a L ih => simp [enumI, ih]
theorem enumI_get (n : Int) (L : List α) (i : Nat) : (enumI n L)[i]? = L[i]?.map fun a => (n + i, a) := by
  induction L generalizing n i with
  | nil => simp [enumI]
  | cons a L ih =>
    cases i with
    | zero => simp [enumI]
    | succ i => rw [enumI, List.getElem?_cons_succ, ih, List.getElem?_cons_succ]; cases L[i]? <;> simp; omega
theorem enumI_mem {n i : Int} {a : α} {L : List α} (h : (i, a) ∈ enumI n L) : n ≤ i ∧ L[(i - n).toNat]? = some a := by
  obtain ⟨j, hj⟩ := List.mem_iff_getElem?.mp h
  rw [enumI_get] at hj
  obtain ⟨b, h1, h2⟩ := Option.map_eq_some_iff.mp hj
  cases h2
  exact ⟨by omega, by rw [show (n + (j : Int) - n).toNat = j by omega]; exact h1⟩
theorem rngL_ir (lo hi : Int) : rngL lo hi = mp D.int (irange lo hi) := by
  unfold rngL mp irange; rw [List.map_map]; rfl
theorem enumL_mp : enumL (L.map f) = mp (fun p : Int × α => .tup [.int p.1, f p.2]) (enumI 0 L) := by
  unfold enumL mp
  apply List.ext_getElem?
  intro i
  rw [List.getElem?_map, List.getElem?_zipIdx, List.getElem?_map, List.getElem?_map, enumI_get]
  cases L[i]? <;> simp
theorem zipL_mp (L' : List β) : zipL (L.map f) (L'.map g) = mp (fun p : α × β => .tup [f p.1, g p.2]) (L.zip L') := by
  unfold zipL mp
  rw [List.zip_map, List.map_map]; rfl
theorem mp_len : (mp f L).length = L.length := by unfold mp; rw [List.length_map]
@[simp] theorem w_lenT : lBi .len [(TL f L, k)] M = .ok (.int L.length, .fz) M := nrfl (by unfold TL; rw [bi_lenT, List.length_map])
@[simp] theorem w_lenL : lBi .len [(LL f L, k)] M = .ok (.int L.length, .fz) M := nrfl (by unfold LL; rw [bi_len, List.length_map])
@[simp] theorem w_slcT (lo hi : Option Int) : lSlc3 (TL f L, k) lo hi M = .ok (TL f (cutL L lo hi), .fz) M := by
  unfold TL; rw [lSlc3_tup]; unfold cutL; rw [List.length_map, List.map_take, List.map_drop]
@[simp] theorem w_slcL (lo hi : Option Int) : lSlc3 (LL f L, k) lo hi M = .ok (LL f (cutL L lo hi), .fr) M := by
  unfold LL; rw [lSlc3_lst]; unfold cutL; rw [List.length_map, List.map_take, List.map_drop]
@[simp] theorem w_seqT : lIt .seq [(TL f L, k)] M = .ok (mp f L) M := nrfl rfl
@[simp] theorem w_seqL : lIt .seq [(LL f L, k)] M = .ok (mp f L) M := nrfl rfl
@[simp] theorem w_seqFT : lItF .seq [(TL f L, .fz)] M = .ok (mp f L) M := nrfl rfl
@[simp] theorem w_seqFL : lItF .seq [(LL f L, .fz)] M = .ok (mp f L) M := nrfl rfl
@[simp] theorem w_seqFR : lItF .seq [(LL f L, .fr)] M = .ok (mp f L) M := nrfl rfl
@[simp] theorem w_enmT : lIt .enm [(TL f L, k)] M = .ok (mp (fun p : Int × α => .tup [.int p.1, f p.2]) (enumI 0 L)) M := by
  rw [← enumL_mp]; rfl
@[simp] theorem w_enmL : lIt .enm [(LL f L, k)] M = .ok (mp (fun p : Int × α => .tup [.int p.1, f p.2]) (enumI 0 L)) M := by
  rw [← enumL_mp]; rfl
@[simp] theorem w_enmFT : lItF .enm [(TL f L, .fz)] M = .ok (mp (fun p : Int × α => .tup [.int p.1, f p.2]) (enumI 0 L)) M := by
  rw [← enumL_mp]; rfl
@[simp] theorem w_enmFL : lItF .enm [(LL f L, .fz)] M = .ok (mp (fun p : Int × α => .tup [.int p.1, f p.2]) (enumI 0 L)) M := by
  rw [← enumL_mp]; rfl
@[simp] theorem w_zipT (L' : List β) : lIt .zip [(TL f L, k), (TL g L', k')] M = .ok (mp (fun p : α × β => .tup [f p.1, g p.2]) (L.zip L')) M := by
  rw [← zipL_mp]; rfl
@[simp] theorem w_zipL (L' : List β) : lIt .zip [(LL f L, k), (LL g L', k')] M = .ok (mp (fun p : α × β => .tup [f p.1, g p.2]) (L.zip L')) M := by
  rw [← zipL_mp]; rfl
@[simp] theorem w_lz (L' : List β) : lLz2 (TL f L, k) (TL g L', k') M = .ok (LL (fun p : α × β => .tup [f p.1, g p.2]) (L.zip L'), .fr) M := by
  unfold TL LL; rw [lLz2_ap, zipL_mp]; rfl
theorem w_r1 {i : Int} (h : inB i = true) : lIt .rng1 [(.int i, k)] M = .ok (mp D.int (irange 0 i)) M := by
  rw [it_r1 h, rngL_ir]
theorem w_r2 {i j : Int} (h : inB i = true) (h2 : inB j = true) : lIt .rng2 [(.int i, k), (.int j, k')] M = .ok (mp D.int (irange i j)) M := by
  rw [it_r2 h h2, rngL_ir]
theorem w_rF1 {i : Int} (h : inB i = true) : lItF .rng1 [(.int i, .fz)] M = .ok (mp D.int (irange 0 i)) M := by
  rw [itF_r1 h, rngL_ir]
theorem w_rF2 {i j : Int} (h : inB i = true) (h2 : inB j = true) : lItF .rng2 [(.int i, .fz), (.int j, .fz)] M = .ok (mp D.int (irange i j)) M := by
  rw [itF_r2 h h2, rngL_ir]
theorem w_idxT {j : Int} {a : α} (h0 : 0 ≤ j) (h : L[j.toNat]? = some a) : lIdx2 (TL f L, k) (.int j, k') M = .ok (f a, .fz) M :=
  idxT h0 (by rw [List.getElem?_map, h]; rfl)
theorem w_idxL {j : Int} {a : α} (h0 : 0 ≤ j) (h : L[j.toNat]? = some a) : lIdx2 (LL f L, k) (.int j, k') M = .ok (f a, .fz) M :=
  idxL h0 (by rw [List.getElem?_map, h]; rfl)
theorem w_lastT {a : α} (h : L[L.length - 1]? = some a) : lIdx2 (TL f L, k) (.int (-1), k') M = .ok (f a, .fz) M :=
  idxT_last (by rw [List.length_map, List.getElem?_map, h]; rfl)
theorem w_lastL {a : α} (h : L[L.length - 1]? = some a) : lIdx2 (LL f L, k) (.int (-1), k') M = .ok (f a, .fz) M :=
  idxL_last (by rw [List.length_map, List.getElem?_map, h]; rfl)
@[simp] theorem w_i0 (x : D) (xs : List D) : lIdx2 (.tup (x :: xs), k) (.int 0, k') M = .ok (x, .fz) M := idxT (by decide) rfl
@[simp] theorem w_i1 (x y : D) (xs : List D) : lIdx2 (.tup (x :: y :: xs), k) (.int 1, k') M = .ok (y, .fz) M := idxT (by decide) rfl
@[simp] theorem w_i2 (x y z : D) (xs : List D) : lIdx2 (.tup (x :: y :: z :: xs), k) (.int 2, k') M = .ok (z, .fz) M := idxT (by decide) rfl
@[simp] theorem w_i3 (x y z u : D) (xs : List D) : lIdx2 (.tup (x :: y :: z :: u :: xs), k) (.int 3, k') M = .ok (u, .fz) M := idxT (by decide) rfl
theorem w_addT (h : L.length + L'.length ≤ LIM) : lBin2 .add (TL f L, k) (TL f L', k') M = .ok (TL f (L ++ L'), .fz) M := by
  unfold TL
  rw [lBin2_tup]
  unfold oAdd
  simp only [List.length_map]
  rw [if_pos h, List.map_append]; rfl
theorem w_addL (h : L.length + L'.length ≤ LIM) : lBin2 .add (LL f L, k) (LL f L', k') M = .ok (LL f (L ++ L'), .fr) M := by
  unfold LL
  rw [lBin2_lst]
  unfold oAdd
  simp only [List.length_map]
  rw [if_pos h, List.map_append]; rfl
theorem w_addT1 {a : α} (h : L.length + 1 ≤ LIM) : lBin2 .add (TL f L, k) (.tup [f a], k') M = .ok (TL f (L ++ [a]), .fz) M := w_addT (L' := [a]) h
theorem w_addL1 {a : α} (h : L.length + 1 ≤ LIM) : lBin2 .add (LL f L, k) (.lst [f a], k') M = .ok (LL f (L ++ [a]), .fr) M := w_addL (L' := [a]) h
theorem w_add1T {a : α} (h : 1 + L.length ≤ LIM) : lBin2 .add (.tup [f a], k) (TL f L, k') M = .ok (TL f (a :: L), .fz) M := w_addT (L := [a]) h
theorem w_add1L {a : α} (h : 1 + L.length ≤ LIM) : lBin2 .add (.lst [f a], k) (LL f L, k') M = .ok (LL f (a :: L), .fr) M := w_addL (L := [a]) h
theorem w_sum {L : List Int} : lBi .sum [(LL D.int L, k)] M = .ok (.int L.sum, .fz) M := by
  unfold lBi oBi oBi1 LL
  have := ints_map L id
  simp only [id] at this
  simp [asLst, this]
theorem w_sumF (p : α → Int) : lBi .sum [(LL (fun a => .int (p a)) L, k)] M = .ok (.int (L.map p).sum, .fz) M := by
  have e : LL (fun a => D.int (p a)) L = LL D.int (L.map p) := by unfold LL; rw [List.map_map]; rfl
  rw [e, w_sum]
theorem w_max (p : α → Int) (h : L ≠ []) : lBi .max [(LL (fun a => .int (p a)) L, k)] M = .ok (.int (maxL (L.map p)), .fz) M := by
  unfold lBi oBi oBi1 LL
  simp [asLst, ints_map, h]
theorem w_min (p : α → Int) (h : L ≠ []) : lBi .min [(LL (fun a => .int (p a)) L, k)] M = .ok (.int (minL (L.map p)), .fz) M := by
  unfold lBi oBi oBi1 LL
  simp [asLst, ints_map, h]
theorem w_all (p : α → Bool) : lBi .all [(LL (fun a => .bl (p a)) L, k)] M = .ok (.bl (L.all p), .fz) M := by
  unfold lBi oBi oBi1 LL
  simp [asLst, bls_map, List.all_map]
theorem w_any (p : α → Bool) : lBi .any [(LL (fun a => .bl (p a)) L, k)] M = .ok (.bl (L.any p), .fz) M := by
  unfold lBi oBi oBi1 LL
  simp [asLst, bls_map, List.any_map]
@[simp] theorem w_tupL : lBi .tuple [(LL f L, k)] M = .ok (TL f L, .fz) M := nrfl rfl
@[simp] theorem w_tupT : lBi .tuple [(TL f L, k)] M = .ok (TL f L, .fz) M := nrfl rfl
@[simp] theorem w_lisL : lBi .list [(LL f L, k)] M = .ok (LL f L, .fr) M := nrfl rfl
@[simp] theorem w_lisT : lBi .list [(TL f L, k)] M = .ok (LL f L, .fr) M := nrfl rfl
@[simp] theorem w_int (i : Int) : lBi .int [(.int i, k)] M = .ok (.int i, .fz) M := nrfl rfl
@[simp] theorem w_intB (i : Bool) : lBi .int [(.bl i, k)] M = .ok (.int (if i then 1 else 0), .fz) M := nrfl rfl
@[simp] theorem w_max2 (i j : Int) : lBi .max [(.int i, k), (.int j, k')] M = .ok (.int (if j > i then j else i), .fz) M := nrfl rfl
@[simp] theorem w_min2 (i j : Int) : lBi .min [(.int i, k), (.int j, k')] M = .ok (.int (if j < i then j else i), .fz) M := nrfl rfl
@[simp] theorem w_isiT (ts : List Ty) : lBi (.isi ts) [(TL f L, k)] M = R.of ((anyTy (.tup []) ts).map fun b => (.bl b, .fz)) M := nrfl (by
  unfold lBi oBi oBi1
  congr 1
  show Option.map _ (anyTy (TL f L) ts) = _
  have : anyTy (TL f L) ts = anyTy (.tup []) ts := by
    induction ts with
    | nil => rfl
    | cons t ts ih => show (match isTy (TL f L) t, anyTy (TL f L) ts with | some a, some b => some (a || b) | _, _ => none) = _; rw [ih]; cases t <;> rfl
  rw [this])
@[simp] theorem wipe_n : wipeD [] ds = ds := nrfl rfl
@[simp] theorem wipe_c (i : Nat) (own : List Nat) : wipeD (i :: own) ds = (wipeD own ds).set i .no := nrfl rfl
@[simp] theorem kill_ap (kl : List Nat) : killD kl ds = wipeD kl ds := nrfl rfl
section
variable {c : Prop} [Decidable c]
@[simp] theorem ite_ok {α : Type} (a b : α) : (if c then R.ok a M else R.ok b M) = R.ok (if c then a else b) M := by split <;> rfl
@[simp] theorem ite_rv (a b : D) : (if c then ((a, k) : RV) else (b, k)) = (if c then a else b, k) := by split <;> rfl
@[simp] theorem ite_int (a b : Int) : (if c then D.int a else D.int b) = D.int (if c then a else b) := by split <;> rfl
@[simp] theorem ite_bl (a b : Bool) : (if c then D.bl a else D.bl b) = D.bl (if c then a else b) := by split <;> rfl
@[simp] theorem ite_TL (a b : List α) : (if c then TL f a else TL f b) = TL f (if c then a else b) := by split <;> rfl
@[simp] theorem ite_LL (a b : List α) : (if c then LL f a else LL f b) = LL f (if c then a else b) := by split <;> rfl
@[simp] theorem ite_fz (a b : D) : (if c then Sl.fz a else Sl.fz b) = Sl.fz (if c then a else b) := by split <;> rfl
@[simp] theorem ite_ow (a b : D) : (if c then Sl.ow a else Sl.ow b) = Sl.ow (if c then a else b) := by split <;> rfl
@[simp] theorem ite_sl (a b : Sl) (xs ys : List Sl) : (if c then a :: xs else b :: ys) = (if c then a else b) :: (if c then xs else ys) := by split <;> rfl
@[simp] theorem ite_nx (a b : List Sl) : (if c then Out.next a M else Out.next b M) = Out.next (if c then a else b) M := by split <;> rfl
@[simp] theorem ite_rt (a b : RV) : (if c then Out.ret a M else Out.ret b M) = Out.ret (if c then a else b) M := by split <;> rfl
end
@[simp] theorem lIte_ap (f g : EV) (b : Bool) : lIte f g ds b M = if b = true then f ds M else g ds M := nrfl rfl
theorem ite_then {c : Prop} [Decidable c] (a b : Out) (f : List Sl → MS → Out) : (if c then a else b).andThen f = if c then a.andThen f else b.andThen f := by split <;> rfl
/-- the steps that were left -/
def lVar (o : Option Sl) (M : MS) : R RV := match o with
  | some (.fz d) => .ok (d, .fz) M
  | some (.ow d) => .ok (d, .bo) M
  | _ => .stuck
@[simp] theorem kVar_ap (i : Nat) : kVar i ds M = lVar ds[i]? M := nrfl rfl
@[simp] theorem lVar_fz (d : D) : lVar (some (.fz d)) M = .ok (d, .fz) M := nrfl rfl
@[simp] theorem lVar_ow (d : D) : lVar (some (.ow d)) M = .ok (d, .bo) M := nrfl rfl
def lRetV (o : Option Sl) (M : MS) : Out := match o with
  | some (.fz d) => .ret (d, .fz) M
  | some (.ow d) => .ret (d, .fr) M
  | _ => .stuck
@[simp] theorem xRetV_ap (i : Nat) : xRetV i ds M = lRetV ds[i]? M := nrfl rfl
@[simp] theorem lRetV_fz (d : D) : lRetV (some (.fz d)) M = .ret (d, .fz) M := nrfl rfl
@[simp] theorem lRetV_ow (d : D) : lRetV (some (.ow d)) M = .ret (d, .fr) M := nrfl rfl
@[simp] theorem anyBo_n : anyBo [] = false := nrfl rfl
@[simp] theorem anyBo_z (d : D) (vs : List RV) : anyBo ((d, .fz) :: vs) = anyBo vs := nrfl rfl
@[simp] theorem anyBo_r (d : D) (vs : List RV) : anyBo ((d, .fr) :: vs) = anyBo vs := nrfl rfl
@[simp] theorem lCall_ap (F : Fn) (vs : List RV) : lCall F vs M = if anyBo vs = true then .stuck else F (vs.map (·.1)) M := nrfl rfl
@[simp] theorem lCallD_ap (F : Fn) (d : D) (vs : List RV) : lCallD F d vs M = if anyBo vs = true then .stuck else F (vs.map (·.1) ++ [d]) M := nrfl rfl
@[simp] theorem lCallK2_z (F : Fn) (d : D) (vs : List RV) : lCallK2 F vs (d, .fz) M = if anyBo vs = true then .stuck else F (vs.map (·.1) ++ [d]) M := by
  unfold lCallK2; cases anyBo vs <;> rfl
def optN (o : Option (List Sl)) (M : MS) : Out := match o with
  | some ds => .next ds M
  | none => .stuck
@[simp] theorem sUnp_ap (tg : TGt) (d : D) : sUnp tg ds (d, k) M = optN (bindT tg d ds) M := nrfl rfl
@[simp] theorem optN_some : optN (some ds) M = .next ds M := nrfl rfl
@[simp] theorem bindT_nm (i : Nat) (d : D) : bindT (.nm i) d ds = some (ds.set i (.fz d)) := nrfl rfl
@[simp] theorem bindT_tup (t : TGt) (xs : List D) : bindT (.tp t) (.tup xs) ds = bindTs t xs ds := nrfl rfl
@[simp] theorem bindTs_nil : bindTs .nil [] ds = some ds := nrfl rfl
@[simp] theorem bindTs_nm (i : Nat) (r : TGt) (x : D) (xs : List D) : bindTs (.cons (.nm i) r) (x :: xs) ds = bindTs r xs (ds.set i (.fz x)) := nrfl rfl
@[simp] theorem bindTs_tp (t r : TGt) (x : D) (xs : List D) : bindTs (.cons (.tp t) r) (x :: xs) ds = (bindT (.tp t) x ds).bind fun ds1 => bindTs r xs ds1 := nrfl rfl
/-- a literal's items -/
@[simp] theorem w_tup0 : lTup [] M = .ok (.tup [], .fz) M := nrfl rfl
@[simp] theorem w_tup1 (x : D) (hk : k ≠ .bo) : lTup [(x, k)] M = .ok (.tup [x], .fz) M := by cases k <;> first | rfl | exact absurd rfl hk
@[simp] theorem w_tup2 (x y : D) (h1 : k ≠ .bo) (h2 : k' ≠ .bo) : lTup [(x, k), (y, k')] M = .ok (.tup [x, y], .fz) M := by cases k <;> cases k' <;> first | rfl | exact absurd rfl h1 | exact absurd rfl h2
@[simp] theorem w_tup3 (x y z : D) (h1 : k ≠ .bo) (h2 : k' ≠ .bo) (h3 : k3 ≠ .bo) : lTup [(x, k), (y, k'), (z, k3)] M = .ok (.tup [x, y, z], .fz) M := by cases k <;> cases k' <;> cases k3 <;> first | rfl | exact absurd rfl h1 | exact absurd rfl h2 | exact absurd rfl h3
@[simp] theorem w_lst0 : lLst [] M = .ok (.lst [], .fr) M := nrfl rfl
@[simp] theorem w_lst1 (x : D) (hk : k ≠ .bo) : lLst [(x, k)] M = .ok (.lst [x], .fr) M := by cases k <;> first | rfl | exact absurd rfl hk
/-- a comprehension -/
theorem lc_g {tg : TGt} {own : List Nat} {c : TV} {e : EV} (u : α → List Sl) (hb : ∀ a, bindT tg (f a) (wipeD own ds) = some (u a)) (P : α → Bool) (q : α → D) : ∀ (L : List α),
    (∀ a ∈ L, c (u a) M = .ok (P a) M ∧ (P a = true → ∃ k, k ≠ Kd.bo ∧ e (u a) M = .ok (q a, k) M)) → lcL (fun d => bindT tg d (wipeD own ds)) c e (mp f L) M = .ok (mp q (L.filter P)) M
  | [], _ => rfl
  | a :: L, h => by
    have ih := lc_g u hb P q L fun b hb => h b (List.mem_cons_of_mem _ hb)
    obtain ⟨h1, h2⟩ := h a List.mem_cons_self
    have e0 : mp f (a :: L) = f a :: mp f L := rfl
    rw [e0]
    simp only [lcL, hb, h1, R.nox_ok, R.bind_ok]
    cases hp : P a with
    | false => simp [List.filter_cons, hp, ih]
    | true =>
      obtain ⟨k, hk, h4⟩ := h2 hp
      have e1 : mp q (a :: List.filter P L) = q a :: mp q (List.filter P L) := rfl
      simp only [List.filter_cons, hp, if_true, e1, h4, R.nox_ok, R.bind_ok, if_neg hk, ih]
/-- one without a test -/
theorem lc_a {tg : TGt} {own : List Nat} {G : Nat → Fn} {e : EV} (u : α → List Sl) (hb : ∀ a, bindT tg (f a) (wipeD own ds) = some (u a)) (q : α → D) (L : List α)
    (h : ∀ a ∈ L, ∃ k, k ≠ Kd.bo ∧ e (u a) M = .ok (q a, k) M) : lcL (fun d => bindT tg d (wipeD own ds)) (den G .none).nt e (mp f L) M = .ok (mp q L) M := by
  rw [lc_g u hb (fun _ => true) q L fun a ha => ⟨nt_none, fun _ => h a ha⟩, filter_true]
theorem w_lc2 (h : L.length ≤ LIM) : lLc2 (mp f L) M = .ok (LL f L, .fr) M := by
  unfold lLc2
  rw [if_pos (by rw [mp_len]; exact h)]; rfl
/-- a comprehension's value -/
theorem lcF {tg : TGt} {own : List Nat} {c : TV} {e : EV} {u : α → List Sl} (hb : ∀ a, bindT tg (f a) (wipeD own ds) = some (u a)) (P : α → Bool) (q : α → D) (hl : L.length ≤ LIM)
    (h : ∀ a ∈ L, c (u a) M = .ok (P a) M ∧ (P a = true → ∃ k, k ≠ Kd.bo ∧ e (u a) M = .ok (q a, k) M)) : lLc1 own tg c e ds (mp f L) M = .ok (LL q (L.filter P), .fr) M := by
  rw [lLc1_ap, lc_g u hb P q L h, R.bind_ok, w_lc2 (Nat.le_trans (List.length_filter_le _ _) hl)]
theorem lcA {tg : TGt} {own : List Nat} {G : Nat → Fn} {e : EV} {u : α → List Sl} (hb : ∀ a, bindT tg (f a) (wipeD own ds) = some (u a)) (q : α → D) (hl : L.length ≤ LIM)
    (h : ∀ a ∈ L, ∃ k, k ≠ Kd.bo ∧ e (u a) M = .ok (q a, k) M) : lLc1 own tg (den G .none).nt e ds (mp f L) M = .ok (LL q L, .fr) M := by
  rw [lLc1_ap, lc_a u hb q L h, R.bind_ok, w_lc2 hl]
/-- a loop that steps through states -/
theorem for_fold {tg : TGt} {body : List Sl → MS → Out} {kl : List Nat} {σ : Type} (st : σ → List Sl) (step : σ → α → σ) (I : σ → Prop) : ∀ (L : List α) (b : σ), I b →
    (∀ (b : σ) (a : α), a ∈ L → I b → I (step b a) ∧ ∃ ds1 ds2, bindT tg (f a) (st b) = some ds1 ∧ body ds1 M = .next ds2 M ∧ killD kl ds2 = st (step b a)) →
    forL (bindT tg) body kl (mp f L) (st b) M = .next (st (L.foldl step b)) M ∧ I (L.foldl step b)
  | [], b, hb, _ => ⟨rfl, hb⟩
  | a :: L, b, hb, h => by
    obtain ⟨i, ds1, ds2, h1, h2, h3⟩ := h b a List.mem_cons_self hb
    have ih := for_fold st step I L (step b a) i fun b a' ha => h b a' (List.mem_cons_of_mem _ ha)
    refine ⟨?_, ih.2⟩
    have e0 : mp f (a :: L) = f a :: mp f L := rfl
    rw [e0]
    simp only [forL, h1, h2, h3]
    exact ih.1
/-- one that may return -/
def runS {σ V : Type} (step : σ → α → Except V σ) : List α → σ → Except V σ
  | [], b => .ok b
  | a :: L, b => match step b a with
    | .ok b' => runS step L b'
    | .error v => .error v
theorem for_ret {tg : TGt} {body : List Sl → MS → Out} {kl : List Nat} {σ : Type} (st : σ → List Sl) (step : σ → α → Except RV σ) (I : σ → Prop) : ∀ (L : List α) (b : σ), I b →
    (∀ (b : σ) (a : α), a ∈ L → I b → ∃ ds1, bindT tg (f a) (st b) = some ds1 ∧ match step b a with
      | .ok b' => I b' ∧ ∃ ds2, body ds1 M = .next ds2 M ∧ killD kl ds2 = st b'
      | .error v => body ds1 M = .ret v M) →
    match runS step L b with
      | .ok b' => forL (bindT tg) body kl (mp f L) (st b) M = .next (st b') M ∧ I b'
      | .error v => forL (bindT tg) body kl (mp f L) (st b) M = .ret v M
  | [], b, hb, _ => ⟨rfl, hb⟩
  | a :: L, b, hb, h => by
    obtain ⟨ds1, h1, h2⟩ := h b a List.mem_cons_self hb
    have e0 : mp f (a :: L) = f a :: mp f L := rfl
    rw [e0]
    unfold runS
    cases hs : step b a with
    | error v =>
      rw [hs] at h2
      simp only [forL, h1, h2]
    | ok b' =>
      rw [hs] at h2
      obtain ⟨i, ds2, h3, h4⟩ := h2
      have ih := for_ret st step I L b' i fun b a' ha => h b a' (List.mem_cons_of_mem _ ha)
      simp only [forL, h1, h3, h4]
      exact ih
theorem wh_run {c : TV} {body : List Sl → MS → Out} {kl : List Nat} {σ : Type} (st : σ → List Sl) (t : σ → Bool) (step : σ → σ) (I : σ → Prop) (μ : σ → Nat)
    (hc : ∀ b, I b → c (st b) M = .ok (t b) M) (hs : ∀ b, I b → t b = true → I (step b) ∧ μ (step b) < μ b ∧ ∃ ds2, body (st b) M = .next ds2 M ∧ killD kl ds2 = st (step b)) :
    ∀ (n : Nat) (b : σ), I b → μ b < n → ∃ b', whL c body kl n (st b) M = .next (st b') M ∧ I b' ∧ t b' = false
  | 0, b, _, h => absurd h (Nat.not_lt_zero _)
  | n + 1, b, hb, h => by
    have h1 := hc b hb
    cases ht : t b with
    | false =>
      rw [ht] at h1
      exact ⟨b, by simp only [whL, h1, R.then_ok]; rfl, hb, ht⟩
    | true =>
      rw [ht] at h1
      obtain ⟨i, hm, ds2, h2, h3⟩ := hs b hb ht
      obtain ⟨b', g1, g2, g3⟩ := wh_run st t step I μ hc hs n (step b) i (by omega)
      refine ⟨b', ?_, g2, g3⟩
      simp only [whL, h1, R.then_ok, if_true, h2, h3]
      exact g1
end
end LW
end
section
set_option linter.all false
set_option maxRecDepth 100000
set_option maxHeartbeats 1000000
set_option autoImplicit false
namespace LW
open PL
section
variable {M : MS} {k k' : Kd}
theorem cut_last {α : Type} (xs : List α) : cutL xs none (some ((xs.length : Int) - 1)) = cutL xs none (some (-1)) := by
  have : HT.sIx xs.length xs.length (some ((xs.length : Int) - 1)) = HT.sIx xs.length xs.length (some (-1)) := by
    unfold HT.sIx
    simp only
    rw [if_pos (show (-1 : Int) < 0 by decide)]
    split <;> omega
  unfold cutL
  rw [this]
theorem cut_le {α : Type} (xs : List α) (lo hi : Option Int) : (cutL xs lo hi).length ≤ xs.length := by
  unfold cutL
  rw [List.length_take, List.length_drop]; omega
theorem cut_sub {α : Type} {xs : List α} {lo hi : Option Int} {x : α} (h : x ∈ cutL xs lo hi) : x ∈ xs := by
  unfold cutL at h
  exact List.mem_of_mem_drop (List.mem_of_mem_take h)
def nS (s : List Ln) : Int := (s.map Ln.n).sum
def hS (s : List Ln) : Int := ((s.filter fun l => !l.h.isNone).map fun l => l.h.getD 0).sum
def sS (s : List Ln) : Int := ((cutL s none (some (-1))).map Ln.s).sum
def baseS (r : Int) (s : List Ln) : Int := hS s + sS s + nS s + if 0 < nS s then r else 0
def stD (r : Int) (s : List Ln) : D := .tup [.int (baseS r s), .int (pc s)]
@[simp] theorem bind_co (ts : TGt) (c : Co) (ds : List Sl) : bindT (.tp ts) c.d ds = bindTs ts [.int c.r, TL Ln.d c.ls] ds := rfl
@[simp] theorem bind_ln (ts : TGt) (c : Ln) (ds : List Sl) : bindT (.tp ts) c.d ds = bindTs ts [c.hd, .int c.s, .int c.n, .bl c.t] ds := rfl
@[simp] theorem ln0 (l : Ln) : lIdx2 (l.d, k) (.int 0, k') M = .ok (l.hd, .fz) M := hd_at l
@[simp] theorem ln1 (l : Ln) : lIdx2 (l.d, k) (.int 1, k') M = .ok (.int l.s, .fz) M := nrfl rfl
@[simp] theorem ln2 (l : Ln) : lIdx2 (l.d, k) (.int 2, k') M = .ok (.int l.n, .fz) M := nrfl rfl
@[simp] theorem ln3 (l : Ln) : lIdx2 (l.d, k) (.int 3, k') M = .ok (.bl l.t, .fz) M := nrfl rfl
@[simp] theorem co0 (c : Co) : lIdx2 (c.d, k) (.int 0, k') M = .ok (.int c.r, .fz) M := nrfl rfl
@[simp] theorem co1 (c : Co) : lIdx2 (c.d, k) (.int 1, k') M = .ok (TL Ln.d c.ls, .fz) M := nrfl rfl
theorem hd_some {l : Ln} (h : l.h.isNone = false) : l.hd = .int (l.h.getD 0) := by
  unfold Ln.hd
  cases hh : l.h with
  | none => simp [hh] at h
  | some h => rfl
theorem stretch_ok {c : Co} {a b : Int} (hl : c.ls.length ≤ 1000) : f_stretch [c.d, .int a, .int b] M = .ok (stD c.r (cutL c.ls (some a) (some b)), .fz) M := by
  have hle := cut_le c.ls (some a) (some b)
  have hlim : LIM = 1000000 := rfl
  have h1 : (cutL c.ls (some a) (some b)).length ≤ LIM := by omega
  have h2 : ∀ s : List Ln, s.length ≤ LIM → (cutL s none (some (-1))).length ≤ LIM := fun s h => Nat.le_trans (cut_le s _ _) h
  refine run_ok rfl ?_
  unfold c_stretch
  simp
  generalize cutL c.ls (some a) (some b) = s at *
  rw [lcA (fun _ => rfl) (fun l => .int l.n) h1 fun l _ => ⟨.fz, by simp, by simp⟩]
  simp [w_sumF]
  rw [lcF (fun _ => rfl) (fun l => !l.h.isNone) (fun l => .int (l.h.getD 0)) h1 fun l _ => ⟨by simp [isp], fun hp => ⟨.fz, by simp, by simp [hd_some (by simpa using hp)]⟩⟩]
  simp [w_sumF]
  rw [lcA (fun _ => rfl) (fun l => .int l.s) (h2 s h1) fun l _ => ⟨.fz, by simp, by simp⟩]
  simp [w_sumF]
  rw [lcF (fun _ => rfl) (fun l => l.h.isNone) Ln.d h1 fun l _ => ⟨by simp [isp], fun hp => ⟨.fz, by simp, by simp⟩⟩]
  simp [pc_filter]
  unfold stD baseS hS sS nS
  by_cases hn : 0 < (s.map Ln.n).sum <;> simp [hn]
end
end LW
end
section
set_option linter.all false
set_option maxRecDepth 100000
set_option maxHeartbeats 1000000
set_option autoImplicit false
namespace LW
open PL
section
variable {M : MS} {k k' : Kd}
def prD (p : Int × Int) : D := .tup [.int p.1, .int p.2]
@[simp] theorem bind_pr (ts : TGt) (p : Int × Int) (ds : List Sl) : bindT (.tp ts) (prD p) ds = bindTs ts [.int p.1, .int p.2] ds := rfl
@[simp] theorem bind_st (ts : TGt) (r : Int) (s : List Ln) (ds : List Sl) : bindT (.tp ts) (stD r s) ds = bindTs ts [.int (baseS r s), .int (pc s)] ds := rfl
def cols (c : Co) (lay : List Int) : List (Int × Int) := (plc c.ls lay).zip ((plc c.ls lay).drop 1)
def colH (c : Co) (sz : Int) (p : Int × Int) : Int := baseS c.r (cutL c.ls (some p.1) (some p.2)) + (pc (cutL c.ls (some p.1) (some p.2)) : Int) * sz
theorem cols_len (c : Co) (lay : List Int) : (cols c lay).length = lay.length + 1 := by
  unfold cols plc
  simp
@[simp] theorem w_set (i : Nat) (b : Bool) : True := trivial
theorem t_breaks_of {ls : List Ln} (h1 : 1 ≤ ls.length) (h2 : ls.length ≤ 1000) : f_breaks_of [TL Ln.d ls] M = .ok (LL D.int (brk ls), .fr) M := breaks_of_ok ls h1 h2
theorem t_columns_in {c : Co} {lay : List Int} (h : lay.length ≤ 1000) : f_columns_in [c.d, TL D.int lay] M = .ok (LL prD (cols c lay), .fr) M := columns_in_ok h
theorem pc_le (s : List Ln) : pc s ≤ s.length := by rw [← pc_filter]; exact List.length_filter_le _ _
theorem mul_small {i j : Int} (h0 : -1000000000000 ≤ i) (h1 : i ≤ 1000000000000) : oMul (.int i) (.int j) = some (.int (i * j), .fz) := int_mul_ok (.inl (by omega))
theorem mul_small2 {i j : Int} (h0 : -1000000000000 ≤ j) (h1 : j ≤ 1000000000000) : oMul (.int i) (.int j) = some (.int (i * j), .fz) := int_mul_ok (.inr (by omega))
@[simp] theorem sAppO_fz (i : Nat) (xs : List D) (ds : List Sl) (d : D) (h : xs.length < LIM) : sAppO i xs ds (d, .fz) M = .next (ds.set i (.ow (.lst (xs ++ [d])))) M := by
  unfold sAppO; simp [h]
theorem sApp_LL {α : Type} {f : α → D} {L : List α} (i : Nat) (e : EV) (ds : List Sl) : sApp i e (some (.ow (LL f L))) ds M = (e ds M).then ds (sAppO i (L.map f) ds) := rfl
theorem LL_app {α : Type} (f : α → D) (L : List α) (a : α) : D.lst (L.map f ++ [f a]) = LL f (L ++ [a]) := by unfold LL; rw [List.map_append]; rfl
theorem foldl_app {α β : Type} (g : α → β) (L : List α) (acc : List β) : L.foldl (fun acc a => acc ++ [g a]) acc = acc ++ L.map g := by
  induction L generalizing acc with
  | nil => simp
  | cons a L ih => rw [List.foldl_cons, ih, List.map_cons, List.append_assoc]; rfl
/-- a loop that appends to a list -/
theorem for_app {α β : Type} {f : α → D} {h : β → D} {tg : TGt} {body : List Sl → MS → Out} {kl : List Nat} (st : D → List Sl) (g : α → β) (L : List α) (hl : L.length < LIM)
    (hs : ∀ (acc : List β) (a : α), a ∈ L → acc.length < LIM → ∃ ds1 ds2, bindT tg (f a) (st (LL h acc)) = some ds1 ∧ body ds1 M = .next ds2 M ∧ killD kl ds2 = st (.lst (acc.map h ++ [h (g a)]))) :
    forL (bindT tg) body kl (mp f L) (st (LL h [])) M = .next (st (LL h (L.map g))) M := by
  suffices H : ∀ (L' : List α) (acc : List β), (∀ a ∈ L', a ∈ L) → acc.length + L'.length < LIM → forL (bindT tg) body kl (mp f L') (st (LL h acc)) M = .next (st (LL h (acc ++ L'.map g))) M by
    simpa using H L [] (fun _ h => h) (by simpa using hl)
  intro L'
  induction L' with
  | nil => intro acc _ _; simp; rfl
  | cons a L' ih =>
    intro acc hm hlen
    rw [List.length_cons] at hlen
    obtain ⟨ds1, ds2, h1, h2, h3⟩ := hs acc a (hm a List.mem_cons_self) (by omega)
    have e0 : mp f (a :: L') = f a :: mp f L' := rfl
    rw [e0]
    simp only [forL, h1, h2, h3, LL_app]
    rw [ih (acc ++ [g a]) (fun b hb => hm b (List.mem_cons_of_mem _ hb)) (by rw [List.length_append]; simp; omega)]
    simp
theorem heights_in_ok {c : Co} {lay : List Int} {sz : Int} (hc : c.ls.length ≤ 1000) (h : lay.length ≤ 1000) : f_heights_in [c.d, TL D.int lay, .int sz] M = .ok (LL D.int ((cols c lay).map (colH c sz)), .fr) M := by
  have hl := cols_len c lay
  refine run_ok rfl ?_
  unfold c_heights_in
  simp [t_columns_in h, sFor]
  have q := for_app (M := M) (f := prD) (h := D.int) (tg := .tp (.cons (.nm 4) (.cons (.nm 5) .nil)))
    (body := exec g_heights_in b_heights_in_0) (kl := [4, 5, 6, 7])
    (fun d => [.fz c.d, .fz (TL D.int lay), .fz (.int sz), .ow d, .no, .no, .no, .no]) (colH c sz) (cols c lay) (by unfold LIM; omega) fun acc p _ ha => ⟨_, _, rfl, by
      have e := pc_le (cutL c.ls (some p.1) (some p.2))
      have e2 := cut_le c.ls (some p.1) (some p.2)
      simp [b_heights_in_0, stretch_ok hc, sApp_LL, mul_small (i := (pc (cutL c.ls (some p.1) (some p.2)) : Int)) (j := sz) (by omega) (by omega), ha]
      rfl, by simp; rfl⟩
  have e : D.lst [] = LL D.int [] := rfl
  rw [e, q]
  simp
end
end LW
end
section
set_option linter.all false
set_option maxRecDepth 100000
set_option maxHeartbeats 1000000
set_option autoImplicit false
namespace LW
open PL
section
variable {M : MS} {k k' : Kd}
@[simp] theorem sFor_ap (tg : TGt) (f : List Sl → MS → Out) (kl : List Nat) (ds : List Sl) (xs : List D) : sFor tg f kl ds xs M = forL (bindT tg) f kl xs ds M := rfl
theorem t_need_content {c : Co} (h : CoOk 1000 1 16 c) : f_need_content [c.d] M = .ok (.non, .fz) M := need_content_ok h
theorem t_need_layout {c : Co} {lay : List Int} (h : CoOk 1000 1 16 c) (hl : LayOk c.ls lay) : f_need_layout [c.d, TL D.int lay] M = .ok (.non, .fz) M :=
  need_layout_ok h.la (by have := h.lb; omega) hl
theorem t_need_size {s : Int} (h0 : 0 ≤ s) (h1 : s ≤ 1000000) : f_need_size [.int s] M = .ok (.non, .fz) M := by
  refine run_none (ds := [.fz (.int s)]) rfl ?_
  unfold c_need_size
  simp [isi_int, h0, h1]
theorem t_breaks {c : Co} (h : CoOk 1000 1 16 c) : f_breaks [c.d] M = .ok (LL D.int (brk c.ls), .fr) M := by
  have := h.la; have := h.lb
  refine run_ok rfl ?_
  unfold c_breaks
  simp [t_need_content h, t_breaks_of (show 1 ≤ c.ls.length by omega) (show c.ls.length ≤ 1000 by omega)]
def platesI (ls : List Ln) : List Int := ((enumI 0 ls).filter fun p => p.2.h.isNone).map (·.1)
theorem t_plates {c : Co} (h : CoOk 1000 1 16 c) : f_plates [c.d] M = .ok (LL D.int (platesI c.ls), .fr) M := by
  have := h.la; have := h.lb
  have hl : (enumI 0 c.ls).length ≤ LIM := by rw [enumI_len]; unfold LIM; omega
  refine run_ok rfl ?_
  unfold c_plates
  simp [t_need_content h]
  rw [lcF (fun _ => rfl) (fun p : Int × Ln => p.2.h.isNone) (fun p => .int p.1) hl fun p _ => ⟨by simp [isp], fun hp => ⟨.fz, by simp, by simp⟩⟩]
  simp
  unfold LL platesI
  rw [List.map_map]; rfl
theorem t_columns_of {c : Co} {lay : List Int} (h : CoOk 1000 1 16 c) (hl : LayOk c.ls lay) : f_columns_of [c.d, TL D.int lay] M = .ok (LL prD (cols c lay), .fr) M := by
  have := h.lb
  have := lay_len hl
  refine run_ok rfl ?_
  unfold c_columns_of
  simp [t_need_content h, t_need_layout h hl, t_columns_in (c := c) (show lay.length ≤ 1000 by omega)]
theorem t_heights {c : Co} {lay : List Int} {s : Int} (h : CoOk 1000 1 16 c) (hl : LayOk c.ls lay) (h0 : 0 ≤ s) (h1 : s ≤ 1000000) : f_heights [c.d, TL D.int lay, .int s] M = .ok (LL D.int ((cols c lay).map (colH c s)), .fr) M := by
  have := h.lb
  have := lay_len hl
  refine run_ok rfl ?_
  unfold c_heights
  simp [t_need_content h, t_need_layout h hl, t_need_size h0 h1, heights_in_ok (c := c) (lay := lay) (sz := s) (by omega) (by omega)]
theorem t_law_breaks {c : Co} (h : CoOk 1000 1 16 c) : f__law_breaks [c.d] M = .ok (LL D.int (brk c.ls), .fr) M := law_breaks_ok c h.la (by have := h.lb; omega)
theorem dropLast_cut {α : Type} (xs : List α) : xs.drop 1 = xs.tail := List.drop_one
theorem zip_tail_irange (ps : List Int) : (irange 0 ((ps.length : Int) - 1)).map (fun i => (ps.getD i.toNat 0, ps.getD (i + 1).toNat 0)) = ps.zip (ps.drop 1) := by
  apply List.ext_getElem?
  intro i
  rw [List.getElem?_map]
  by_cases h : (i : Int) < (ps.length : Int) - 1
  · rw [irange_get (by omega)]
    have h1 : i < ps.length := by omega
    have h2 : i + 1 < ps.length := by omega
    have h3 : (ps.drop 1)[i]? = some ps[i + 1] := by rw [List.getElem?_drop, Nat.add_comm]; simp [h2]
    have hz : (ps.zip (ps.drop 1))[i]? = some (ps[i], ps[i + 1]) := List.getElem?_zip_eq_some.mpr ⟨List.getElem?_eq_getElem h1, h3⟩
    rw [hz]
    show some _ = _
    simp [List.getD, h1, show (0 + (i : Int) + 1).toNat = i + 1 by omega, h2]
  · rw [List.getElem?_eq_none (by rw [irange_len]; omega), List.getElem?_eq_none (by rw [List.length_zip, List.length_drop]; omega)]
    rfl
theorem t_law_columns {c : Co} {lay : List Int} (hc : c.ls.length ≤ 1000) (hl : lay.length ≤ 1000) : f__law_columns [c.d, TL D.int lay] M = .ok (LL prD (cols c lay), .fr) M := by
  have hlim : LIM = 1000000 := rfl
  have hp : (plc c.ls lay).length = lay.length + 2 := by unfold plc; simp
  have e1 : D.lst [.int 0] = LL D.int [0] := rfl
  have e2 : D.lst [.int (c.ls.length : Int)] = LL D.int [(c.ls.length : Int)] := rfl
  have i1 : inB ((lay.length : Int) + 1 + 1 - 1) = true := inB_of (by omega) (by omega)
  refine run_ok rfl ?_
  unfold c__law_columns
  simp
  rw [w_add1L (by omega)]
  simp
  rw [w_addL1 (by simp; omega)]
  have e3 : (0 :: (lay ++ [(c.ls.length : Int)])) = plc c.ls lay := rfl
  simp [e3, hp]
  rw [w_r1 (inB_of (by omega) (by omega))]
  simp
  rw [lcA (fun _ => rfl) (fun i => prD ((plc c.ls lay).getD i.toNat 0, (plc c.ls lay).getD (i + 1).toNat 0)) (by rw [irange_len]; omega) fun i hi => ⟨.fz, by simp, by
    rw [irange_mem] at hi
    have h1 : (plc c.ls lay)[i.toNat]? = some ((plc c.ls lay).getD i.toNat 0) := by
      rw [List.getD, List.getElem?_eq_getElem (by omega)]; rfl
    have h2 : (plc c.ls lay)[(i + 1).toNat]? = some ((plc c.ls lay).getD (i + 1).toNat 0) := by
      rw [List.getD, List.getElem?_eq_getElem (by omega)]; rfl
    simp [w_idxL hi.1 h1, w_idxL (show 0 ≤ i + 1 by omega) h2, prD]⟩]
  simp
  have e4 := zip_tail_irange (plc c.ls lay)
  rw [hp] at e4
  unfold LL cols
  rw [← e4, List.map_map]
  congr 3
end
end LW
end
section
set_option linter.all false
set_option maxRecDepth 100000
set_option maxHeartbeats 1000000
set_option autoImplicit false
namespace LW
open PL
section
variable {M : MS} {k k' : Kd}
theorem cut_none {α : Type} (s : List α) : cutL s none (some (-1)) = s.dropLast := by
  have : HT.sIx s.length s.length (some (-1)) = s.length - 1 := by
    unfold HT.sIx
    simp only
    rw [if_pos (show (-1 : Int) < 0 by decide)]
    omega
  unfold cutL
  rw [this, List.dropLast_eq_take]
  show ((s.drop 0).take (s.length - 1 - 0)) = _
  rw [List.drop_zero, Nat.sub_zero]
@[simp] theorem cmpXT (l : Ln) : lCmp2 .eq (l.hd, k) (.str (PySem.Str.ofString "x"), k') M = .ok (.bl l.h.isNone, .fz) M := cmpX l k k'
/-- a line's height, of plates x -/
def lh (x : Int) (l : Ln) : Int := l.h.getD x
@[simp] theorem isNone_eq {l : Ln} (x : Int) [Decidable (l.h = none)] : (if l.h = none then D.int x else l.hd) = .int (lh x l) := by
  unfold lh Ln.hd
  by_cases h : l.h = none
  · rw [if_pos h, h]; rfl
  · rw [if_neg h]
    cases h2 : l.h with
    | none => exact absurd h2 h
    | some v => rfl
def sumF {α : Type} (f : α → Int) (L : List α) : Int := (L.map f).sum
theorem foldl_add {α : Type} (f : α → Int) (L : List α) (z : Int) : L.foldl (fun z l => z + f l) z = z + (L.map f).sum := by
  induction L generalizing z with
  | nil => simp
  | cons a L ih => rw [List.foldl_cons, ih, List.map_cons, List.sum_cons]; omega
theorem dep_ln (n : Nat) (l : Ln) : D.dep (n + 1) l.d = true := by
  have h : D.dep n l.hd = true := by
    unfold Ln.hd
    cases l.h with
    | none => exact dep_X n
    | some h => exact dep_int n h
  show ([l.hd, D.int l.s, D.int l.n, D.bl l.t].all (D.dep n)) = true
  simp [h, dep_int, dep_bl]
theorem dep_LL {α : Type} {f : α → D} {L : List α} {n : Nat} (h : ∀ a, D.dep n (f a) = true) : D.dep (n + 1) (LL f L) = true := by
  unfold LL; simp [D.dep, h]
theorem dep_TL {α : Type} {f : α → D} {L : List α} {n : Nat} (h : ∀ a, D.dep n (f a) = true) : D.dep (n + 1) (TL f L) = true := by
  unfold TL; simp [D.dep, h]
theorem eq_nilL {α : Type} {f : α → D} {L : List α} {n : Nat} (h : ∀ a, D.dep 11 (f a) = true) : lCmp2 .ne (LL f L, k) (.lst [], k') M = .ok (.bl (!L.isEmpty), .fz) M := by
  unfold lCmp2
  have h1 : D.dep DEP (LL f L) = true := dep_LL h
  have h2 : D.dep DEP (.lst []) = true := rfl
  simp [oCmp, oEq, h1, h2]
  unfold LL
  cases L <;> simp [D.eq, D.eqL]
def hiL (r x : Int) (s : List Ln) : Int := (s.map (lh x)).sum + nS s + sS s + if 0 < nS s then r else 0
theorem law_high_ok {c : Co} {a b x : Int} (hl : c.ls.length ≤ 1000) (hn : ∀ l ∈ c.ls, 0 ≤ l.n) : f__law_high [c.d, .int a, .int b, .int x] M = .ok (.int (hiL c.r x (cutL c.ls (some a) (some b))), .fz) M := by
  have hle := cut_le c.ls (some a) (some b)
  have hlim : LIM = 1000000 := rfl
  have hn : ∀ l ∈ cutL c.ls (some a) (some b), 0 ≤ l.n := fun l h => hn l (cut_sub h)
  have h1 : (cutL c.ls (some a) (some b)).length ≤ LIM := by omega
  refine run_ok rfl ?_
  unfold c__law_high
  simp
  generalize cutL c.ls (some a) (some b) = s at *
  have q := (for_fold (M := M) (f := Ln.d) (tg := .nm 6) (kl := []) (body := exec g__law_high b__law_high_0)
    (fun p : Int × Sl => [.fz c.d, .fz (.int a), .fz (.int b), .fz (.int x), .fz (TL Ln.d s), .fz (.int p.1), p.2]) (fun p l => (p.1 + (lh x l + l.n), .fz l.d)) (fun _ => True) s (0, .no) trivial fun p l _ _ => ⟨trivial, _, _, rfl, by simp [b__law_high_0]; rfl, by simp; omega⟩).1
  have q2 : (s.foldl (fun (p : Int × Sl) l => (p.1 + (lh x l + l.n), Sl.fz l.d)) (0, Sl.no)).1 = (s.map (lh x)).sum + nS s := by
    have : ∀ (L : List Ln) (z : Int) (o : Sl), (L.foldl (fun (p : Int × Sl) l => (p.1 + (lh x l + l.n), Sl.fz l.d)) (z, o)).1 = z + ((L.map (lh x)).sum + (L.map Ln.n).sum) := by
      intro L
      induction L with
      | nil => intro z o; simp
      | cons a L ih => intro z o; rw [List.foldl_cons, ih]; simp; omega
    rw [this]; unfold nS; omega
  rw [q]
  generalize (s.foldl (fun (p : Int × Sl) l => (p.1 + (lh x l + l.n), Sl.fz l.d)) (0, Sl.no)) = pp at *
  obtain ⟨p1, p2⟩ := pp
  simp only at q2
  simp
  rw [cut_last, lcA (fun _ => rfl) (fun l => .int l.s) (Nat.le_trans (cut_le s _ _) h1) fun l _ => ⟨.fz, by simp, by simp⟩]
  simp [w_sumF]
  rw [lcF (fun _ => rfl) (fun l => !(l.n == 0)) Ln.d h1 fun l _ => ⟨by simp, fun hp => ⟨.fz, by simp, by simp⟩⟩]
  simp [eq_nilL (n := 0) (dep_ln 10)]
  have e : (0 < nS s) ↔ ∃ l, l ∈ s ∧ ¬ l.n = 0 := by
    unfold nS
    clear q q2 hle h1
    induction s with
    | nil => simp
    | cons a s ih =>
      have := ih fun l h => hn l (List.mem_cons_of_mem _ h)
      have ha := hn a List.mem_cons_self
      have hs : 0 ≤ (s.map Ln.n).sum := by
        clear ih this
        induction s with
        | nil => simp
        | cons b s ih2 =>
          have := ih2 fun l h => hn l (by simp at h ⊢; rcases h with h | h <;> simp [h])
          have := hn b (by simp)
          simp; omega
      rw [List.map_cons, List.sum_cons]
      constructor
      · intro h
        by_cases h0 : a.n = 0
        · obtain ⟨l, h3, h4⟩ := this.mp (by omega)
          exact ⟨l, List.mem_cons_of_mem _ h3, h4⟩
        · exact ⟨a, List.mem_cons_self, h0⟩
      · rintro ⟨l, h3, h4⟩
        rcases List.mem_cons.mp h3 with rfl | h3
        · omega
        · have := this.mpr ⟨l, h3, h4⟩; omega
  unfold hiL
  by_cases h0 : ∃ l, l ∈ s ∧ ¬ l.n = 0
  · simp [h0, e.mpr h0, q2, sS]
  · have : ¬ 0 < nS s := fun z => h0 (e.mp z)
    simp [h0, this, q2, sS]
end
end LW
end
section
set_option linter.all false
set_option maxRecDepth 100000
set_option maxHeartbeats 1000000
set_option autoImplicit false
namespace LW
open PL
section
variable {M : MS} {k k' k3 : Kd} {ds : List Sl}
/-- a dict whose keys are pairs -/
def dT2 (L : List (Int × Int)) (v : Int × Int → D) : D := .dT (L.map fun p => [p.1, p.2]) (L.map v)
theorem getT_map {v : Int × Int → D} {a b : Int} : ∀ {L : List (Int × Int)}, (a, b) ∈ L → getT (L.map fun p => [p.1, p.2]) (L.map v) [a, b] = some (v (a, b))
  | [], h => by simp at h
  | p :: L, h => by
    obtain ⟨x, y⟩ := p
    rw [List.map_cons, List.map_cons]
    unfold getT
    by_cases e : [x, y] = [a, b]
    · rw [if_pos e]
      simp only [List.cons.injEq, and_true] at e
      rw [e.1, e.2]
    · rw [if_neg e]
      refine getT_map ?_
      rcases List.mem_cons.mp h with q | q
      · cases q; exact absurd rfl e
      · exact q
theorem w_getT2 {L : List (Int × Int)} {v : Int × Int → D} {a b : Int} (h : (a, b) ∈ L) : lIdx2 (dT2 L v, k) (.tup [.int a, .int b], k') M = .ok (v (a, b), .fz) M := by
  unfold lIdx2 dT2 oIdx
  simp [ints?, getT_map h]
theorem putD_new {κ : Type} [DecidableEq κ] {ks : List κ} {vs : List D} {q : κ} {x : D} (h : q ∉ ks) : putD ks vs q x = (ks ++ [q], vs ++ [x]) := by
  unfold putD; rw [if_neg h]
/-- a table: what is there by each key -/
structure Tab (d : D) (f : List Int → Option D) (n : Nat) : Prop where
  ex : ∃ ks vs, d = .dT ks vs ∧ ks.length = vs.length ∧ ks.length ≤ n ∧ ∀ q, getT ks vs q = f q
theorem Tab.nil : Tab (.dT [] []) (fun _ => none) 0 := ⟨[], [], rfl, rfl, Nat.le_refl _, fun _ => rfl⟩
theorem repl_same {q : List Int} {x : D} : ∀ {ks : List (List Int)} {vs : List D}, q ∉ ks → ks.length = vs.length → ((ks.zip vs).map fun p => if p.1 = q then x else p.2) = vs
  | [], [], _, _ => rfl
  | [], _ :: _, _, h => by cases h
  | _ :: _, [], _, h => by cases h
  | b :: ks, w :: vs, hq, h => by
    rw [List.zip_cons_cons, List.map_cons, repl_same (fun z => hq (List.mem_cons_of_mem _ z)) (by simpa using h)]
    have hb : ¬ b = q := fun z => hq (by rw [z]; exact List.mem_cons_self)
    simp [hb]
theorem getT_rep {q r : List Int} {x : D} : ∀ {ks : List (List Int)} {vs : List D}, q ∈ ks → ks.length = vs.length → getT ks ((ks.zip vs).map fun p => if p.1 = q then x else p.2) r = if r = q then some x else getT ks vs r
  | [], _, h, _ => by simp at h
  | _ :: _, [], _, h => by cases h
  | a :: ks, v :: vs, h, hl => by
    rw [List.zip_cons_cons, List.map_cons]
    show (if a = r then some (if a = q then x else v) else getT ks ((ks.zip vs).map fun p => if p.1 = q then x else p.2) r) = if r = q then some x else (if a = r then some v else getT ks vs r)
    by_cases e : a = r
    · subst e
      rw [if_pos rfl, if_pos rfl]
      split <;> rfl
    · rw [if_neg e, if_neg e]
      by_cases hq : q ∈ ks
      · exact getT_rep hq (by simpa using hl)
      · rw [repl_same hq (by simpa using hl)]
        have hr : ¬ r = q := by
          rcases List.mem_cons.mp h with z | z
          · rw [z]; exact fun z => e z.symm
          · exact absurd z hq
        rw [if_neg hr]
theorem getT_snoc {q r : List Int} {x : D} : ∀ {ks : List (List Int)} {vs : List D}, q ∉ ks → ks.length = vs.length → getT (ks ++ [q]) (vs ++ [x]) r = if r = q then some x else getT ks vs r
  | [], _ :: _, _, h => by cases h
  | [], [], _, _ => by
    show (if q = r then some x else none) = _
    by_cases e : r = q
    · rw [if_pos e, if_pos e.symm]
    · rw [if_neg e, if_neg fun z => e z.symm]; rfl
  | _ :: _, [], _, h => by cases h
  | a :: ks, v :: vs, h, hl => by
    have ih := getT_snoc (r := r) (x := x) (fun z => h (List.mem_cons_of_mem _ z)) (show ks.length = vs.length by simpa using hl)
    show (if a = r then some v else getT (ks ++ [q]) (vs ++ [x]) r) = if r = q then some x else (if a = r then some v else getT ks vs r)
    by_cases e : a = r
    · subst e
      have : ¬ a = q := fun z => h (by rw [z]; exact List.mem_cons_self)
      rw [if_pos rfl, if_neg this, if_pos rfl]
    · rw [if_neg e, if_neg e]; exact ih
theorem getT_put {ks : List (List Int)} {q r : List Int} {x : D} {vs : List D} (hl : ks.length = vs.length) : getT (putT ks vs q x).1 (putT ks vs q x).2 r = if r = q then some x else getT ks vs r := by
  unfold putT putD
  by_cases h : q ∈ ks
  · rw [if_pos h]; exact getT_rep h hl
  · rw [if_neg h]; exact getT_snoc h hl
theorem putD_len {κ : Type} [DecidableEq κ] {ks : List κ} {q : κ} {x : D} {vs : List D} (h : ks.length = vs.length) : (putD ks vs q x).1.length = (putD ks vs q x).2.length ∧ (putD ks vs q x).1.length ≤ ks.length + 1 := by
  unfold putD
  split
  · simp [h]
  · simp [h]
theorem Tab.put {ks : List (List Int)} {vs : List D} {f : List Int → Option D} {n : Nat} {q : List Int} {x : D} (h : Tab (.dT ks vs) f n) : Tab (.dT (putT ks vs q x).1 (putT ks vs q x).2) (fun r => if r = q then some x else f r) (n + 1) := by
  obtain ⟨ks', vs', e, h1, h2, h3⟩ := h.ex
  cases e
  obtain ⟨l1, l2⟩ := putD_len (q := q) (x := x) h1
  exact ⟨_, _, rfl, l1, Nat.le_trans l2 (by omega), fun r => by rw [getT_put h1, h3]⟩
theorem Tab.get {d : D} {f : List Int → Option D} {n : Nat} (h : Tab d f n) {l : List Int} {x : D} {xs : List D} (hi : ints? xs = some l) (hf : f l = some x) : lIdx2 (d, k) (.tup xs, k') M = .ok (x, .fz) M := by
  obtain ⟨ks, vs, rfl, h1, h2, h3⟩ := h.ex
  unfold lIdx2 oIdx
  simp [hi, h3, hf]
theorem Tab.get2 {d : D} {f : List Int → Option D} {n : Nat} (h : Tab d f n) {a b : Int} {x : D} (hf : f [a, b] = some x) : lIdx2 (d, k) (.tup [.int a, .int b], k') M = .ok (x, .fz) M := h.get rfl hf
/-- d[a, b] = x, d a table -/
theorem w_put2 {i : Nat} {g : EV} {d v : D} {f : List Int → Option D} {n : Nat} {a b : Int} (h : Tab d f n) (hn : n < LIM) (hg : g ds M = .ok (.tup [.int a, .int b], .fz) M) :
    ∃ d', sSeti2 i g (some (.ow d)) v ds M = .next (ds.set i (.ow d')) M ∧ Tab d' (fun r => if r = [a, b] then some v else f r) (n + 1) := by
  obtain ⟨ks, vs, rfl, h1, h2, h3⟩ := h.ex
  refine ⟨_, ?_, Tab.put ⟨ks, vs, rfl, h1, h2, h3⟩⟩
  rw [sSeti2_dT, hg, R.then_ok]
  unfold sSetT
  simp [keyT, ints?, show ks.length < LIM by omega]
/-- {key: val for ..} within a clause -/
theorem dcK_g {α : Type} {f : α → D} {bnd : D → Option (List Sl)} {c : TV} {kx vx : EV} (u : α → List Sl) (hb : ∀ a, bnd (f a) = some (u a)) (P : α → Bool) (q : α → Int × Int) (w : Int × Int → D) : ∀ (L : List α) (L0 : List (Int × Int)),
    (∀ a ∈ L, c (u a) M = .ok (P a) M ∧ (P a = true → kx (u a) M = .ok (.tup [.int (q a).1, .int (q a).2], .fz) M ∧ ∃ k, k ≠ Kd.bo ∧ vx (u a) M = .ok (w (q a), k) M)) →
    (L0 ++ (L.filter P).map q).Nodup →
    dcKL bnd c kx vx (mp f L) (L0.map fun p => [p.1, p.2], L0.map w) M = .ok ((L0 ++ (L.filter P).map q).map fun p => [p.1, p.2], (L0 ++ (L.filter P).map q).map w) M
  | [], L0, _, _ => by simp [mp, dcKL]
  | a :: L, L0, h, nd => by
    obtain ⟨h1, h2⟩ := h a List.mem_cons_self
    have e0 : mp f (a :: L) = f a :: mp f L := rfl
    rw [e0]
    simp only [dcKL, hb, h1, R.nox_ok, R.bind_ok]
    cases hp : P a with
    | false =>
      rw [List.filter_cons, hp] at nd
      rw [List.filter_cons, hp]
      simp only [Bool.false_eq_true, if_false] at nd ⊢
      exact dcK_g u hb P q w L L0 (fun b hb => h b (List.mem_cons_of_mem _ hb)) nd
    | true =>
      rw [List.filter_cons, hp] at nd
      rw [List.filter_cons, hp]
      simp only [if_true, List.map_cons] at nd ⊢
      obtain ⟨h3, k, hk, h4⟩ := h2 hp
      have hn : [(q a).1, (q a).2] ∉ L0.map fun p => [p.1, p.2] := fun hm => by
        obtain ⟨p, hp1, hp2⟩ := List.mem_map.mp hm
        simp only [List.cons.injEq, and_true] at hp2
        have : p = q a := Prod.ext hp2.1 hp2.2
        rw [this] at hp1
        have := (List.nodup_append.mp nd).2.2 (q a) hp1 (q a) List.mem_cons_self
        exact this rfl
      have ih := dcK_g u hb P q w L (L0 ++ [q a]) (fun b hb => h b (List.mem_cons_of_mem _ hb)) (by simpa using nd)
      simp only [h3, R.nox_ok, R.bind_ok, keyT, ints?, Option.map_some, h4, if_neg hk, putT, putD_new hn]
      rw [List.map_append, List.map_append] at ih
      simpa using ih
/-- the clause around it -/
theorem dcO_g {α : Type} {f : α → D} {bnd : D → Option (List Sl)} {it2 : List Sl → MS → R (List D)} {inn : List Sl → List D → List (List Int) × List D → MS → R (List (List Int) × List D)} (u : α → List Sl) (hb : ∀ a, bnd (f a) = some (u a)) (ys : α → List D) (q : α → List (Int × Int)) (w : Int × Int → D) : ∀ (L : List α) (L0 : List (Int × Int)),
    (∀ a ∈ L, it2 (u a) M = .ok (ys a) M ∧ ∀ L0 : List (Int × Int), (L0 ++ q a).Nodup → inn (u a) (ys a) (L0.map fun p => [p.1, p.2], L0.map w) M = .ok ((L0 ++ q a).map fun p => [p.1, p.2], (L0 ++ q a).map w) M) →
    (L0 ++ L.flatMap q).Nodup →
    dcOL bnd it2 inn (mp f L) (L0.map fun p => [p.1, p.2], L0.map w) M = .ok ((L0 ++ L.flatMap q).map fun p => [p.1, p.2], (L0 ++ L.flatMap q).map w) M
  | [], L0, _, _ => by simp [mp, dcOL]
  | a :: L, L0, h, nd => by
    obtain ⟨h1, h2⟩ := h a List.mem_cons_self
    have e0 : mp f (a :: L) = f a :: mp f L := rfl
    rw [e0]
    rw [List.flatMap_cons, ← List.append_assoc] at nd
    have h2 := h2 L0 (List.nodup_append.mp nd).1
    have ih := dcO_g u hb ys q w L (L0 ++ q a) (fun b hb => h b (List.mem_cons_of_mem _ hb)) nd
    simp only [dcOL, hb, h1, R.nox_ok, R.bind_ok, h2]
    rw [ih, List.flatMap_cons, List.append_assoc]
/-- {key: val for key, .. in d.items()} -/
theorem dcI_g {bnd : D → Option (List Sl)} {vx : EV} {v : Int × Int → D} (u : Int × Int → List Sl) (hb : ∀ p, bnd (v p) = some (u p)) (w : Int × Int → D) : ∀ (L L0 : List (Int × Int)),
    (∀ p ∈ L, ∃ k, k ≠ Kd.bo ∧ vx (u p) M = .ok (w p, k) M) → (L0 ++ L).Nodup →
    dcIL bnd vx (L.map fun p => [p.1, p.2]) (L.map v) (L0.map fun p => [p.1, p.2], L0.map w) M = .ok ((L0 ++ L).map fun p => [p.1, p.2], (L0 ++ L).map w) M
  | [], L0, _, _ => by simp [dcIL]
  | p :: L, L0, h, nd => by
    obtain ⟨k, hk, h1⟩ := h p List.mem_cons_self
    have hn : [p.1, p.2] ∉ L0.map fun p => [p.1, p.2] := fun hm => by
      obtain ⟨r, hp1, hp2⟩ := List.mem_map.mp hm
      simp only [List.cons.injEq, and_true] at hp2
      have : r = p := Prod.ext hp2.1 hp2.2
      rw [this] at hp1
      exact (List.nodup_append.mp nd).2.2 p hp1 p List.mem_cons_self rfl
    have ih := dcI_g u hb w L (L0 ++ [p]) (fun b hb => h b (List.mem_cons_of_mem _ hb)) (by simpa using nd)
    simp only [List.map_cons, dcIL, hb, h1, R.nox_ok, R.bind_ok, if_neg hk, putT, putD_new hn]
    rw [List.map_append, List.map_append] at ih
    simpa using ih
end
section
variable {G : Nat → Fn} {ds : List Sl} {M : MS}
def lDcI (own : List Nat) (tv : TGt) (g : EV) (ds : List Sl) (x : RV) (M1 : MS) : R RV := match x with
  | (.dT ks vs, .fr) => (dcIL (fun d => bindT tv d (wipeD own ds)) g ks vs ([], []) M1).nox.bind fun ys M2 => if ys.1.length ≤ LIM then .ok (.dT ys.1 ys.2, .fr) M2 else .stuck
  | _ => .stuck
def lDc2 (own own1 : List Nat) (t1 t2 : TGt) (it2 : List Sl → MS → R (List D)) (c : TV) (f g : EV) (ds : List Sl) (xs : List D) (M1 : MS) : R RV :=
  (dcOL (fun d => bindT t1 d (wipeD own ds)) it2 (fun ds1 => dcKL (fun d => bindT t2 d (wipeD own1 ds1)) c f g) xs ([], []) M1).nox.bind fun ys M2 => if ys.1.length ≤ LIM then .ok (.dT ys.1 ys.2, .fr) M2 else .stuck
@[simp] theorem e_dcI (own : List Nat) (i : Nat) (tv : TGt) (a b : CE) : (den G (.dcI own i tv a b)).e ds M = ((den G a).e ds M).bind (lDcI own tv (den G b).e ds) := nrfl rfl
@[simp] theorem e_dc2 (own own1 : List Nat) (t1 t2 : TGt) (i1 i2 c a b : CE) : (den G (.dc2 own own1 t1 i1 t2 i2 c a b)).e ds M = (((den G i1).a ds M).bind (lItF .seq)).bind (lDc2 own own1 t1 t2 (fun ds M => ((den G i2).a ds M).bind (lItF .seq)) (den G c).nt (den G a).e (den G b).e ds) := nrfl rfl
@[simp] theorem e_dct0 : (den G .dct0).e ds M = .ok (.dT [] [], .fr) M := nrfl rfl
@[simp] theorem e_dcti0 : (den G .dcti0).e ds M = .ok (.dI [] [], .fr) M := nrfl rfl
theorem lDcI_ok {own : List Nat} {tv : TGt} {g : EV} {L : List (Int × Int)} {v w : Int × Int → D} {u : Int × Int → List Sl} (hb : ∀ p, bindT tv (v p) (wipeD own ds) = some (u p)) (hl : L.length ≤ LIM) (nd : L.Nodup) (h : ∀ p ∈ L, ∃ k, k ≠ Kd.bo ∧ g (u p) M = .ok (w p, k) M) :
    lDcI own tv g ds (dT2 L v, .fr) M = .ok (dT2 L w, .fr) M := by
  have q := dcI_g (M := M) (bnd := fun d => bindT tv d (wipeD own ds)) (vx := g) u hb w L [] h (by simpa using nd)
  simp only [List.map_nil, List.nil_append] at q
  unfold lDcI dT2
  simp only [q, R.nox_ok, R.bind_ok]
  rw [if_pos (by rw [List.length_map]; exact hl)]
theorem lDc2_ok {own own1 : List Nat} {t1 t2 : TGt} {it2 : List Sl → MS → R (List D)} {c : TV} {kx vx : EV} {α β : Type} {f : α → D} {f2 : β → D} {u : α → List Sl} {u2 : α → β → List Sl} {L : List α} {L2 : α → List β} {P : α → β → Bool} {q : α → β → Int × Int} {w : Int × Int → D}
    (hb : ∀ a, bindT t1 (f a) (wipeD own ds) = some (u a)) (hb2 : ∀ a b, bindT t2 (f2 b) (wipeD own1 (u a)) = some (u2 a b)) (hi : ∀ a ∈ L, it2 (u a) M = .ok (mp f2 (L2 a)) M)
    (h : ∀ a ∈ L, ∀ b ∈ L2 a, c (u2 a b) M = .ok (P a b) M ∧ (P a b = true → kx (u2 a b) M = .ok (.tup [.int (q a b).1, .int (q a b).2], .fz) M ∧ ∃ k, k ≠ Kd.bo ∧ vx (u2 a b) M = .ok (w (q a b), k) M))
    (nd : (L.flatMap fun a => ((L2 a).filter (P a)).map (q a)).Nodup) (hl : (L.flatMap fun a => ((L2 a).filter (P a)).map (q a)).length ≤ LIM) :
    lDc2 own own1 t1 t2 it2 c kx vx ds (mp f L) M = .ok (dT2 (L.flatMap fun a => ((L2 a).filter (P a)).map (q a)) w, .fr) M := by
  have z := dcO_g (M := M) (bnd := fun d => bindT t1 d (wipeD own ds)) (it2 := it2) (inn := fun ds1 => dcKL (fun d => bindT t2 d (wipeD own1 ds1)) c kx vx) u hb (fun a => mp f2 (L2 a)) (fun a => ((L2 a).filter (P a)).map (q a)) w L []
    (fun a ha => ⟨hi a ha, fun L0 nd0 => dcK_g (u2 a) (hb2 a) (P a) (q a) w (L2 a) L0 (h a ha) nd0⟩) (by simpa using nd)
  simp only [List.map_nil, List.nil_append] at z
  unfold lDc2
  simp only [z, R.nox_ok, R.bind_ok]
  rw [if_pos (by rw [List.length_map]; exact hl)]
  rfl
end
end LW
end
section
set_option linter.all false
set_option maxRecDepth 100000
set_option maxHeartbeats 1000000
set_option autoImplicit false
namespace LW
open PL
section
variable {M : MS} {k k' : Kd}
def stp (ls : List Ln) : List Int := plc ls (brk ls)
theorem stp_eq (ls : List Ln) : stp ls = 0 :: (brk ls ++ [(ls.length : Int)]) := rfl
theorem t_stops_of {ls : List Ln} (h1 : 1 ≤ ls.length) (h2 : ls.length ≤ 1000) : f_stops_of [TL Ln.d ls] M = .ok (LL D.int (stp ls), .fr) M := by
  have hb := brk_len ls
  have hlim : LIM = 1000000 := rfl
  refine run_ok rfl ?_
  unfold c_stops_of
  simp [t_breaks_of h1 h2]
  rw [w_add1L (by omega)]
  simp
  rw [w_addL1 (by simp; omega)]
  simp
  rw [← stp_eq]
theorem stp_len (ls : List Ln) : (stp ls).length ≤ ls.length + 2 := by
  have := brk_len ls
  rw [stp_eq]; simp; omega
theorem stp_inc {ls : List Ln} (h : 1 ≤ ls.length) : (stp ls).Pairwise (· < ·) := by
  rw [stp_eq, List.pairwise_cons]
  refine ⟨fun z hz => ?_, ?_⟩
  · rcases List.mem_append.mp hz with q | q
    · have := (brk_mem q).1; omega
    · have : z = ls.length := by simpa using q
      omega
  · rw [List.pairwise_append]
    refine ⟨brk_inc ls, by simp, fun a ha b hb => ?_⟩
    have := (brk_mem ha).2.1
    have : b = ls.length := by simpa using hb
    omega
/-- all columns that layouts can have -/
def prsOf (S : List Int) : List (Int × Int) := S.flatMap fun a => (S.filter fun b => decide (a < b)).map fun b => (a, b)
theorem prs_mem {S : List Int} {a b : Int} : (a, b) ∈ prsOf S ↔ a ∈ S ∧ b ∈ S ∧ a < b := by
  unfold prsOf
  rw [List.mem_flatMap]
  constructor
  · rintro ⟨x, hx, h⟩
    obtain ⟨y, hy, e⟩ := List.mem_map.mp h
    rw [List.mem_filter] at hy
    cases e
    exact ⟨hx, hy.1, by simpa using hy.2⟩
  · rintro ⟨h1, h2, h3⟩
    exact ⟨a, h1, List.mem_map.mpr ⟨b, List.mem_filter.mpr ⟨h2, by simpa using h3⟩, rfl⟩⟩
theorem prs_nodup {S : List Int} (h : S.Pairwise (· < ·)) : (prsOf S).Nodup := by
  unfold prsOf List.Nodup
  rw [List.pairwise_flatMap]
  refine ⟨fun a _ => ?_, ?_⟩
  · refine List.Pairwise.map _ (R := fun (a b : Int) => a < b) (fun x y hxy e => ?_) (h.filter _)
    cases e; omega
  · refine h.imp fun {a b} hab x hx y hy e => ?_
    obtain ⟨u, _, rfl⟩ := List.mem_map.mp hx
    obtain ⟨v, _, rfl⟩ := List.mem_map.mp hy
    cases e; omega
theorem flat_len {α β : Type} {f : α → List β} {n : Nat} : ∀ {L : List α}, (∀ a ∈ L, (f a).length ≤ n) → (L.flatMap f).length ≤ L.length * n
  | [], _ => by simp
  | a :: L, h => by
    have := flat_len (L := L) fun b hb => h b (List.mem_cons_of_mem _ hb)
    have h1 := h a List.mem_cons_self
    rw [List.flatMap_cons, List.length_append, List.length_cons, Nat.succ_mul]; omega
theorem prs_len {S : List Int} (h : S.length ≤ 900) : (prsOf S).length ≤ LIM := by
  have := flat_len (f := fun a => (S.filter fun b => decide (a < b)).map fun b => (a, b)) (n := S.length) (L := S) fun a _ => by
    rw [List.length_map]; exact List.length_filter_le _ _
  unfold prsOf LIM
  have h2 : S.length * S.length ≤ 900 * 900 := Nat.mul_le_mul h h
  omega
def strD (c : Co) (p : Int × Int) : D := stD c.r (cutL c.ls (some p.1) (some p.2))
@[simp] theorem bind_str (ts : TGt) (c : Co) (p : Int × Int) (ds : List Sl) : bindT (.tp ts) (strD c p) ds = bindTs ts [.int (baseS c.r (cutL c.ls (some p.1) (some p.2))), .int (pc (cutL c.ls (some p.1) (some p.2)))] ds := rfl
theorem t_all_stretches {c : Co} (h1 : 1 ≤ c.ls.length) (h2 : c.ls.length ≤ 800) : f_all_stretches [c.d] M = .ok (dT2 (prsOf (stp c.ls)) (strD c), .fr) M := by
  have hs := stp_len c.ls
  refine run_ok rfl ?_
  unfold c_all_stretches
  simp [t_stops_of h1 (show c.ls.length ≤ 1000 by omega)]
  rw [lDc2_ok (f2 := D.int) (L2 := fun _ => stp c.ls) (P := fun a b => decide (a < b)) (q := fun a b => (a, b)) (w := strD c) (fun _ => rfl) (fun _ _ => rfl) (fun a ha => by simp)
    (fun a _ b _ => ⟨by simp, fun _ => ⟨by simp, .fz, by simp, by simp [stretch_ok (c := c) (show c.ls.length ≤ 1000 by omega)]; rfl⟩⟩) (prs_nodup (stp_inc h1)) (prs_len (by omega))]
  simp
  rfl
/-- the heights of all columns -/
def sumD (c : Co) (sz : Int) (p : Int × Int) : D := .int (colH c sz p)
theorem imax (i j : Int) : (if i < j then j else i) = max i j := by
  rw [Int.max_def]; split <;> split <;> omega
theorem imin (i j : Int) : (if j < i then j else i) = min i j := by
  rw [Int.min_def]; split <;> split <;> omega
def Bp (B : List Int) (p : Int) : List Int := B.filter fun e => decide (p < e)
/-- the least height of the lines from p on, with k + 1 columns, breaks out of B -/
def Fv (B : List Int) (h : Int × Int → Int) (n : Int) : Nat → Int → Int
  | 0, p => h (p, n)
  | k + 1, p => (Bp B p).foldl (fun b e => min b (max (h (p, e)) (Fv B h n k e))) (h (p, n))
theorem lf_inner {c : Co} {cols sz : Int} {q : Int} {n : Int} {d S : D} {L : List Int} {f : List Int → Option D} {N : Nat} {F : Int → Int} {P : List (Int × Int)} (x5 x6 : Sl) (place b0 : Int) (x12 : Sl) (ht : Tab d f N)
    (hf : ∀ e ∈ L, place < e → f [e, q - 1] = some (.int (F e))) (hp : ∀ e ∈ L, place < e → (place, e) ∈ P) :
    ∃ x12', forL (bindT (.nm 12)) (exec g_least_from b_least_from_0) [] (mp D.int L) [.fz c.d, .fz S, .fz (.int cols), .fz (.int sz), .fz (dT2 P (sumD c sz)), x5, x6, .fz (.int q), .fz (.int n), .ow d, .fz (.int place), .fz (.int b0), x12] M =
      .next [.fz c.d, .fz S, .fz (.int cols), .fz (.int sz), .fz (dT2 P (sumD c sz)), x5, x6, .fz (.int q), .fz (.int n), .ow d, .fz (.int place), .fz (.int ((Bp L place).foldl (fun b e => min b (max (colH c sz (place, e)) (F e))) b0)), x12'] M := by
  have z := (for_fold (M := M) (f := D.int) (tg := .nm 12) (kl := []) (body := exec g_least_from b_least_from_0)
    (fun s : Int × Sl => [.fz c.d, .fz S, .fz (.int cols), .fz (.int sz), .fz (dT2 P (sumD c sz)), x5, x6, .fz (.int q), .fz (.int n), .ow d, .fz (.int place), .fz (.int s.1), s.2])
    (fun s e => (if place < e then min s.1 (max (colH c sz (place, e)) (F e)) else s.1, .fz (.int e))) (fun _ => True) L (b0, x12) trivial fun s e he _ => ⟨trivial, _,
      [.fz c.d, .fz S, .fz (.int cols), .fz (.int sz), .fz (dT2 P (sumD c sz)), x5, x6, .fz (.int q), .fz (.int n), .ow d, .fz (.int place), .fz (.int (if place < e then min s.1 (max (colH c sz (place, e)) (F e)) else s.1)), .fz (.int e)], rfl, by
      unfold b_least_from_0
      by_cases hlt : place < e
      · have h1 := hf e he hlt
        have h2 := hp e he hlt
        simp [hlt, w_getT2 h2, ht.get2 h1, sumD, imax, imin]
      · simp [hlt], rfl⟩).1
  have : ∀ (L : List Int) (b : Int) (o : Sl), (L.foldl (fun (s : Int × Sl) e => (if place < e then min s.1 (max (colH c sz (place, e)) (F e)) else s.1, Sl.fz (.int e))) (b, o)).1 = (Bp L place).foldl (fun b e => min b (max (colH c sz (place, e)) (F e))) b := by
    intro L
    induction L with
    | nil => intro b o; rfl
    | cons a L ih =>
      intro b o
      rw [List.foldl_cons, ih]
      unfold Bp
      rw [List.filter_cons]
      by_cases h : place < a
      · simp [h]
      · simp [h]
  rw [this] at z
  exact ⟨_, z⟩
/-- what the table tells -/
def LfOk (B : List Int) (h : Int × Int → Int) (n : Int) (f : List Int → Option D) (q : Int) (p : Int) : Prop := f [p, q] = some (.int (Fv B h n (q - 1).toNat p))
theorem least_from_ok {c : Co} {cols sz : Int} {B : List Int} (h1 : 1 ≤ c.ls.length) (h2 : c.ls.length ≤ 100) (hB : B.Sublist (brk c.ls)) (hc0 : 0 ≤ cols) (hc1 : cols ≤ 100) :
    ∃ d f N, f_least_from [c.d, LL D.int (0 :: (B ++ [(c.ls.length : Int)])), .int cols, .int sz] M = .ok (d, .fr) M ∧ Tab d f N ∧ ∀ q p : Int, 1 ≤ q → q ≤ cols → p ∈ 0 :: B → LfOk B (colH c sz) c.ls.length f q p := by
  have hlim : LIM = 1000000 := rfl
  have hbl := brk_len c.ls
  have hBl := hB.length_le
  have hs := stp_len c.ls
  generalize hn : (c.ls.length : Int) = n at *
  generalize hP : prsOf (stp c.ls) = P at *
  -- where things are
  have inS : ∀ p ∈ 0 :: B, p ∈ stp c.ls ∧ p < n := fun p hp => by
    rw [stp_eq]
    rcases List.mem_cons.mp hp with rfl | hp
    · exact ⟨List.mem_cons_self, by omega⟩
    · have := hB.subset hp
      exact ⟨List.mem_cons_of_mem _ (List.mem_append_left _ this), by have := (brk_mem this).2.1; omega⟩
  have inP : ∀ p ∈ 0 :: B, ∀ e ∈ 0 :: B, p < e → (p, e) ∈ P := fun p hp e he hlt => by rw [← hP]; exact prs_mem.mpr ⟨(inS p hp).1, (inS e he).1, hlt⟩
  have inPn : ∀ p ∈ 0 :: B, (p, n) ∈ P := fun p hp => by
    rw [← hP]
    exact prs_mem.mpr ⟨(inS p hp).1, by rw [stp_eq, hn]; simp, (inS p hp).2⟩
  have B0 : ∀ e ∈ B, 0 < e := fun e he => by have := (brk_mem (hB.subset he)).1; omega
  have Bp0 : ∀ p : Int, 0 ≤ p → Bp (0 :: B) p = Bp B p := fun p hp => by
    unfold Bp
    rw [List.filter_cons, if_neg (by simpa using hp)]
  have p0 : ∀ p ∈ 0 :: B, 0 ≤ p := fun p hp => by
    rcases List.mem_cons.mp hp with rfl | hp
    · omega
    · have := B0 p hp; omega
  let S : D := LL D.int (0 :: (B ++ [n]))
  let st : D → Sl → Sl → Sl → Sl → List Sl := fun d a b x y => [.fz c.d, .fz S, .fz (.int cols), .fz (.int sz), .fz (dT2 P (sumD c sz)), .no, .no, a, .fz (.int n), .ow d, b, x, y]
  have slice : ∀ (M : MS), lSlc3 (S, .fz) none (some (-1)) M = .ok (LL D.int (0 :: B), .fr) M := fun M => by
    show lSlc3 (LL D.int _, .fz) _ _ M = _
    rw [w_slcL, cut_none, show 0 :: (B ++ [n]) = (0 :: B) ++ [n] from rfl, List.dropLast_concat]
  -- one place
  have place : ∀ (q p : Int) (d : D) (f : List Int → Option D) (N : Nat) (b x y : Sl), 1 ≤ q → q ≤ cols → p ∈ 0 :: B → N < 100000 → Tab d f N → (1 < q → ∀ e ∈ B, LfOk B (colH c sz) n f (q - 1) e) →
      ∃ d' x' y', exec g_least_from b_least_from_1 (st d (.fz (.int q)) (.fz (.int p)) x y) M = .next (st d' (.fz (.int q)) (.fz (.int p)) x' y') M ∧ Tab d' (fun r => if r = [p, q] then some (.int (Fv B (colH c sz) n (q - 1).toNat p)) else f r) (N + 1) := by
    intro q p d f N b x y q1 q2 hp hN ht hprev
    have hNl : N < LIM := by omega
    have g1 := w_getT2 (k := .fz) (k' := .fz) (M := M) (v := sumD c sz) (inPn p hp)
    have fin : ∀ (v : Int) (y' : Sl), ∃ d', exec g_least_from (.cons (.seti 9 (.tup (.acons (.var 10) (.acons (.var 7) .anil))) (.var 11)) .nil) (st d (.fz (.int q)) (.fz (.int p)) (.fz (.int v)) y') M = .next (st d' (.fz (.int q)) (.fz (.int p)) (.fz (.int v)) y') M ∧ Tab d' (fun r => if r = [p, q] then some (.int v) else f r) (N + 1) := fun v y' => by
      obtain ⟨d', e, t'⟩ := w_put2 (i := 9) (v := .int v) (M := M) (ds := st d (.fz (.int q)) (.fz (.int p)) (.fz (.int v)) y') (g := (den g_least_from (.tup (.acons (.var 10) (.acons (.var 7) .anil)))).e) (a := p) (b := q) ht hNl (by simp [st])
      refine ⟨d', ?_, t'⟩
      simp only [st] at e ⊢
      simp
      simp at e
      rw [e]
      rfl
    by_cases hq : 1 < q
    · obtain ⟨y', z⟩ := lf_inner (M := M) (c := c) (cols := cols) (sz := sz) (q := q) (n := n) (d := d) (S := S) (L := 0 :: B) (F := Fv B (colH c sz) n (q - 1 - 1).toNat) (P := P) .no .no p (colH c sz (p, n)) y ht
        (fun e he hlt => by
          rcases List.mem_cons.mp he with rfl | he
          · have := p0 p hp; omega
          · exact hprev hq e he) (fun e he hlt => inP p hp e he hlt)
      rw [Bp0 p (p0 p hp)] at z
      have ev : (Bp B p).foldl (fun b e => min b (max (colH c sz (p, e)) (Fv B (colH c sz) n (q - 1 - 1).toNat e))) (colH c sz (p, n)) = Fv B (colH c sz) n (q - 1).toNat p := by
        rw [show (q - 1).toNat = (q - 1 - 1).toNat + 1 by omega]; rfl
      rw [ev] at z
      obtain ⟨d', e1, t1⟩ := fin (Fv B (colH c sz) n (q - 1).toNat p) y'
      refine ⟨d', .fz (.int (Fv B (colH c sz) n (q - 1).toNat p)), y', ?_, t1⟩
      generalize Fv B (colH c sz) n (q - 1).toNat p = val at *
      unfold b_least_from_1
      simp only [st] at e1 z ⊢
      simp [g1, sumD, hq, slice, z]
      exact e1
    · obtain ⟨d', e1, t1⟩ := fin (colH c sz (p, n)) y
      have ev : Fv B (colH c sz) n (q - 1).toNat p = colH c sz (p, n) := by
        rw [show (q - 1).toNat = 0 by omega]; rfl
      rw [ev]
      clear ev
      refine ⟨d', .fz (.int (colH c sz (p, n))), y, ?_, t1⟩
      unfold b_least_from_1
      simp only [st] at e1 ⊢
      simp [g1, sumD, hq]
      exact e1
  -- all places
  have row : ∀ (q : Int) (d : D) (f : List Int → Option D) (N : Nat), 1 ≤ q → q ≤ cols → N + (B.length + 1) < 100000 → Tab d f N → (1 < q → ∀ e ∈ B, LfOk B (colH c sz) n f (q - 1) e) →
      ∃ d' f' pl x' y', forL (bindT (.nm 10)) (exec g_least_from b_least_from_1) [] (mp D.int (0 :: B)) (st d (.fz (.int q)) .no .no .no) M = .next (st d' (.fz (.int q)) pl x' y') M ∧ Tab d' f' (N + (B.length + 1)) ∧
        (∀ p ∈ 0 :: B, LfOk B (colH c sz) n f' q p) ∧ ∀ (p q' : Int), q' ≠ q → f' [p, q'] = f [p, q'] := by
    intro q d f N q1 q2 hN ht hprev
    let I : Nat → List Sl → MS → Prop := fun i ds M' => ∃ d' f' pl x y, ds = st d' (.fz (.int q)) pl x y ∧ M' = M ∧ Tab d' f' (N + i) ∧ (∀ j < i, ∀ p, (0 :: B)[j]? = some p → LfOk B (colH c sz) n f' q p) ∧ ∀ (p q' : Int), q' ≠ q → f' [p, q'] = f [p, q']
    obtain ⟨ds', M', z, d', f', pl, x', y', e1, e2, t1, t2, t3⟩ := for_ok (f := exec g_least_from b_least_from_1) (tg := .nm 10) (kl := []) I (mp D.int (0 :: B)) 0 (st d (.fz (.int q)) .no .no .no) M ⟨d, f, .no, .no, .no, rfl, rfl, ht, fun j h => by omega, fun _ _ _ => rfl⟩
      fun i x ds M' hx ⟨d1, f1, pl, x1, y1, hds, hM, ht1, hr1, hr2⟩ => by
        subst hds hM
        unfold mp at hx
        rw [List.getElem?_map] at hx
        obtain ⟨p, hp, rfl⟩ := Option.map_eq_some_iff.mp hx
        have hpm := List.mem_of_getElem? hp
        have hi := (List.getElem?_eq_some_iff.mp hp).1
        rw [List.length_cons] at hi
        obtain ⟨d2, x2, y2, ex, t2⟩ := place q p d1 f1 (N + (0 + i)) .no x1 y1 q1 q2 hpm (by omega) ht1 (fun hq e he => by
          show f1 [e, q - 1] = _
          rw [hr2 e (q - 1) (by omega)]; exact hprev hq e he)
        refine ⟨_, _, _, rfl, .inl ex, d2, _, _, x2, y2, rfl, rfl, t2, fun j hj p' hp' => ?_, fun p' q' hq' => ?_⟩
        · show (if [p', q] = [p, q] then _ else f1 [p', q]) = _
          by_cases e : p' = p
          · subst e; rw [if_pos rfl]
          · rw [if_neg (by simpa using e)]
            refine hr1 j ?_ p' hp'
            have : j ≠ 0 + i := fun z => by rw [z, Nat.zero_add, hp] at hp'; cases hp'; exact e rfl
            omega
        · show (if [p', q'] = [p, q] then _ else f1 [p', q']) = _
          rw [if_neg (by simp [hq'])]; exact hr2 p' q' hq'
    have z2 : forL (bindT (.nm 10)) (exec g_least_from b_least_from_1) [] (mp D.int (0 :: B)) (st d (.fz (.int q)) .no .no .no) M = .next ds' M' := z
    rw [e1, e2] at z2
    rw [show (mp D.int (0 :: B)).length = B.length + 1 by rw [mp_len, List.length_cons], Nat.zero_add] at t1 t2
    refine ⟨d', f', pl, x', y', z2, t1, fun p hp => ?_, t3⟩
    obtain ⟨j, hj⟩ := List.mem_iff_getElem?.mp hp
    have := (List.getElem?_eq_some_iff.mp hj).1
    rw [List.length_cons] at this
    exact t2 j this p hj
  -- all numbers of columns
  let I : Nat → List Sl → MS → Prop := fun i ds M' => ∃ d f, ds = st d .no .no .no .no ∧ M' = M ∧ Tab d f (i * (B.length + 1)) ∧ ∀ q p : Int, 1 ≤ q → q ≤ i → p ∈ 0 :: B → LfOk B (colH c sz) n f q p
  have hcl : (irange 1 (cols + 1)).length = cols.toNat := by rw [irange_len]; omega
  obtain ⟨ds', M', z, d', f', e1, e2, t1, t2⟩ := for_ok (f := exec g_least_from b_least_from_2) (tg := .nm 7) (kl := [7, 10, 11, 12]) I (mp D.int (irange 1 (cols + 1))) 0 (st (.dT [] []) .no .no .no .no) M ⟨.dT [] [], _, rfl, rfl, by rw [Nat.zero_mul]; exact Tab.nil, fun q p h1 h2 => by omega⟩
    fun i x ds M' hx ⟨d1, f1, hds, hM, ht1, hr1⟩ => by
      subst hds hM
      unfold mp at hx
      rw [List.getElem?_map] at hx
      obtain ⟨q, hq, rfl⟩ := Option.map_eq_some_iff.mp hx
      have hqm := irange_mem.mp (List.mem_of_getElem? hq)
      have hi := (List.getElem?_eq_some_iff.mp hq).1
      rw [hcl] at hi
      rw [irange_get (by omega)] at hq
      cases hq
      have hmul : (0 + i) * (B.length + 1) + (B.length + 1) = (0 + i + 1) * (B.length + 1) := by rw [Nat.succ_mul]
      have hle : (0 + i) * (B.length + 1) ≤ 100 * 101 := Nat.mul_le_mul (by omega) (by omega)
      obtain ⟨d2, f2, pl, x2, y2, ex, t1, t2, t3⟩ := row (1 + i) d1 f1 ((0 + i) * (B.length + 1)) (by omega) (by omega) (by omega) ht1 (fun hq e he => hr1 (1 + i - 1) e (by omega) (by omega) (List.mem_cons_of_mem _ he))
      rw [hmul] at t1
      refine ⟨_, st d2 (.fz (.int (1 + i))) pl x2 y2, _, rfl, .inl ?_, d2, f2, rfl, rfl, t1, fun q p h1 h2 hp => ?_⟩
      · unfold b_least_from_2
        simp only [st] at ex ⊢
        simp [slice, ex]
      · by_cases hq : q = 1 + i
        · rw [hq]; exact t2 p hp
        · show f2 [p, q] = _
          rw [t3 p q hq]
          exact hr1 q p h1 (by omega) hp
  refine ⟨d', f', _, run_ok rfl ?_, t1, fun q p h1 h2 hp => t2 q p h1 (by rw [mp_len, hcl]; omega) hp⟩
  have z2 : forL (bindT (.nm 7)) (exec g_least_from b_least_from_2) [7, 10, 11, 12] (mp D.int (irange 1 (cols + 1))) (st (.dT [] []) .no .no .no .no) M = .next ds' M' := z
  rw [e1, e2] at z2
  have last : ∀ (M : MS) (k' : Kd), lIdx2 (S, .fz) (.int (-1), k') M = .ok (.int n, .fz) M := fun M k' => w_lastL (by simp)
  have hS : LL D.int (0 :: (B ++ [n])) = S := rfl
  unfold c_least_from
  rw [hS]
  simp [t_all_stretches h1 (show c.ls.length ≤ 800 by omega)]
  rw [hP, lDcI_ok (w := sumD c sz) (fun _ => rfl) (by rw [← hP]; exact prs_len (by omega)) (by rw [← hP]; exact prs_nodup (stp_inc h1)) (fun p _ => ⟨.fz, by simp, by
    have e := pc_le (cutL c.ls (some p.1) (some p.2))
    have e2 := cut_le c.ls (some p.1) (some p.2)
    simp [mul_small (i := (pc (cutL c.ls (some p.1) (some p.2)) : Int)) (j := sz) (by omega) (by omega), sumD, colH]⟩)]
  simp only [st] at z2
  simp [last, w_rF2 (inB_of (show -1000000000 ≤ (1 : Int) by omega) (show (1 : Int) ≤ 1000000000 by omega)) (inB_of (show -1000000000 ≤ cols + 1 by omega) (show cols + 1 ≤ 1000000000 by omega)), z2]
end
end LW
end
section
set_option linter.all false
set_option maxRecDepth 100000
set_option maxHeartbeats 1000000
set_option autoImplicit false
namespace LW
open PL
/-- all ascending lists of at most k places out of B behind p -/
def tails (B : List Int) : Nat → Int → List (List Int)
  | 0, _ => [[]]
  | k + 1, p => [] :: (Bp B p).flatMap fun e => (tails B k e).map (e :: ·)
/-- the height of the columns from p on -/
def hT (h : Int × Int → Int) (n : Int) : Int → List Int → Int
  | p, [] => h (p, n)
  | p, e :: τ => max (h (p, e)) (hT h n e τ)
def IsMin (m : Int) (L : List Int) : Prop := m ∈ L ∧ ∀ x ∈ L, m ≤ x
theorem IsMin.uniq {a b : Int} {L : List Int} (h : IsMin a L) (g : IsMin b L) : a = b := by
  have := h.2 b g.1
  have := g.2 a h.1
  omega
theorem minL_is : ∀ {L : List Int}, L ≠ [] → IsMin (minL L) L
  | [], h => absurd rfl h
  | [x], _ => ⟨by simp [minL], by simp [minL]⟩
  | x :: y :: L, _ => by
    obtain ⟨h1, h2⟩ := minL_is (L := y :: L) (by simp)
    have e : minL (x :: y :: L) = min x (minL (y :: L)) := rfl
    rw [e]
    refine ⟨?_, fun z hz => ?_⟩
    · rw [Int.min_def]
      split
      · exact List.mem_cons_self
      · exact List.mem_cons_of_mem _ h1
    · rcases List.mem_cons.mp hz with rfl | hz
      · omega
      · have := h2 z hz; omega
theorem maxL_le {L : List Int} {m : Int} (h : L ≠ []) : maxL L ≤ m ↔ ∀ x ∈ L, x ≤ m := by
  induction L with
  | nil => exact absurd rfl h
  | cons x L ih =>
    cases L with
    | nil => simp [maxL]
    | cons y L =>
      have e : maxL (x :: y :: L) = max x (maxL (y :: L)) := rfl
      rw [e, Int.max_le, ih (by simp)]
      simp
theorem foldl_min {α : Type} (g : α → Int) : ∀ (L : List α) (b : Int), IsMin (L.foldl (fun b e => min b (g e)) b) (b :: L.map g)
  | [], b => ⟨by simp, by simp⟩
  | a :: L, b => by
    obtain ⟨h1, h2⟩ := foldl_min g L (min b (g a))
    rw [List.foldl_cons]
    refine ⟨?_, fun x hx => ?_⟩
    · rcases List.mem_cons.mp h1 with h | h
      · rw [h, Int.min_def]
        split
        · exact List.mem_cons_self
        · rw [List.map_cons]; exact List.mem_cons_of_mem _ List.mem_cons_self
      · rw [List.map_cons]; exact List.mem_cons_of_mem _ (List.mem_cons_of_mem _ h)
    · have hb := h2 (min b (g a)) List.mem_cons_self
      rw [List.map_cons] at hx
      rcases List.mem_cons.mp hx with rfl | hx
      · omega
      · rcases List.mem_cons.mp hx with rfl | hx
        · omega
        · exact h2 x (List.mem_cons_of_mem _ hx)
theorem foldl_min_le {α : Type} (g : α → Int) (L : List α) (b m : Int) : L.foldl (fun b e => min b (g e)) b ≤ m ↔ b ≤ m ∨ ∃ e ∈ L, g e ≤ m := by
  obtain ⟨h1, h2⟩ := foldl_min g L b
  constructor
  · intro h
    rcases List.mem_cons.mp h1 with q | q
    · rw [q] at h; exact .inl h
    · obtain ⟨e, he, q⟩ := List.mem_map.mp q
      exact .inr ⟨e, he, by omega⟩
  · rintro (h | ⟨e, he, h⟩)
    · have := h2 b List.mem_cons_self; omega
    · have := h2 (g e) (List.mem_cons_of_mem _ (List.mem_map.mpr ⟨e, he, rfl⟩)); omega
section
variable {B : List Int} {h : Int × Int → Int} {n : Int}
/-- the least height is that of a tail, and no tail is lower -/
theorem Fv_le {m : Int} : ∀ {k : Nat} {p : Int}, Fv B h n k p ≤ m ↔ ∃ τ ∈ tails B k p, hT h n p τ ≤ m
  | 0, p => by simp [Fv, tails, hT]
  | k + 1, p => by
    unfold Fv tails
    rw [foldl_min_le (fun e => max (h (p, e)) (Fv B h n k e))]
    constructor
    · rintro (hm | ⟨e, he, hm⟩)
      · exact ⟨[], List.mem_cons_self, hm⟩
      · obtain ⟨τ, h1, h2⟩ := (Fv_le (k := k) (p := e) (m := m)).mp (by omega)
        exact ⟨e :: τ, List.mem_cons_of_mem _ (List.mem_flatMap.mpr ⟨e, he, List.mem_map.mpr ⟨τ, h1, rfl⟩⟩), by unfold hT; omega⟩
    · rintro ⟨τ, ht, hm⟩
      rcases List.mem_cons.mp ht with rfl | ht
      · exact .inl hm
      · obtain ⟨e, he, ht⟩ := List.mem_flatMap.mp ht
        obtain ⟨σ, hs, rfl⟩ := List.mem_map.mp ht
        unfold hT at hm
        exact .inr ⟨e, he, by have := (Fv_le (k := k) (p := e) (m := m)).mpr ⟨σ, hs, by omega⟩; omega⟩
theorem Fv_min (k : Nat) (p : Int) : IsMin (Fv B h n k p) ((tails B k p).map (hT h n p)) := by
  obtain ⟨τ, h1, h2⟩ := (Fv_le (B := B) (h := h) (n := n) (k := k) (p := p)).mp (Int.le_refl _)
  have hle : ∀ σ ∈ tails B k p, Fv B h n k p ≤ hT h n p σ := fun σ hs => Fv_le.mpr ⟨σ, hs, Int.le_refl _⟩
  refine ⟨List.mem_map.mpr ⟨τ, h1, by have := hle τ h1; omega⟩, fun x hx => ?_⟩
  obtain ⟨σ, hs, rfl⟩ := List.mem_map.mp hx
  exact hle σ hs
/-- the first tail that is at most so high -/
def fstT (B : List Int) (h : Int × Int → Int) (n m : Int) : Nat → Int → List Int
  | 0, _ => []
  | k + 1, p => if h (p, n) ≤ m then [] else
    match (Bp B p).find? fun e => decide (h (p, e) ≤ m) && decide (Fv B h n k e ≤ m) with
    | some e => e :: fstT B h n m k e
    | none => []
theorem find_flat {α β : Type} {g : α → List β} {q : β → Bool} : ∀ (L : List α), (L.flatMap g).find? q = (L.findSome? fun a => (g a).find? q)
  | [] => rfl
  | a :: L => by
    rw [List.flatMap_cons, List.find?_append, List.findSome?_cons, find_flat L]
    cases (g a).find? q <;> rfl
theorem fst_is {m : Int} : ∀ {k : Nat} {p : Int}, Fv B h n k p ≤ m → (tails B k p).find? (fun τ => decide (hT h n p τ ≤ m)) = some (fstT B h n m k p)
  | 0, p, hm => by
    unfold tails fstT
    have : h (p, n) ≤ m := hm
    simp [hT, this]
  | k + 1, p, hm => by
    unfold tails fstT
    rw [List.find?_cons]
    by_cases h0 : h (p, n) ≤ m
    · simp [hT, h0]
    · have e0 : decide (hT h n p [] ≤ m) = false := decide_eq_false (by show ¬ h (p, n) ≤ m; exact h0)
      rw [e0, if_neg h0]
      dsimp only
      rw [find_flat]
      unfold Fv at hm
      rw [foldl_min_le (fun e => max (h (p, e)) (Fv B h n k e))] at hm
      rcases hm with hm | ⟨e, he, hm⟩
      · exact absurd hm h0
      · -- the first one
        have key : ∀ (L : List Int), (∃ e ∈ L, max (h (p, e)) (Fv B h n k e) ≤ m) → ∃ e, L.find? (fun e => decide (h (p, e) ≤ m) && decide (Fv B h n k e ≤ m)) = some e ∧
            L.findSome? (fun e => ((tails B k e).map (e :: ·)).find? fun τ => decide (hT h n p τ ≤ m)) = some (e :: fstT B h n m k e) := by
          intro L
          induction L with
          | nil => rintro ⟨e, he, _⟩; simp at he
          | cons a L ih =>
            intro hx
            rw [List.find?_cons, List.findSome?_cons]
            by_cases hq : h (p, a) ≤ m ∧ Fv B h n k a ≤ m
            · have := fst_is hq.2
              refine ⟨a, by simp [hq.1, hq.2], ?_⟩
              have e2 : ((tails B k a).map (a :: ·)).find? (fun τ => decide (hT h n p τ ≤ m)) = some (a :: fstT B h n m k a) := by
                rw [List.find?_map]
                have : (tails B k a).find? ((fun τ => decide (hT h n p τ ≤ m)) ∘ (a :: ·)) = some (fstT B h n m k a) := by
                  rw [← this]
                  congr 1
                  funext τ
                  show decide (max (h (p, a)) (hT h n a τ) ≤ m) = _
                  exact decide_eq_decide.mpr (by rw [Int.max_le]; exact ⟨fun z => z.2, fun z => ⟨hq.1, z⟩⟩)
                rw [this]; rfl
              rw [e2]
            · have e1 : (decide (h (p, a) ≤ m) && decide (Fv B h n k a ≤ m)) = false := by
                rw [← Bool.not_eq_true, Bool.and_eq_true, decide_eq_true_eq, decide_eq_true_eq]; exact hq
              have e2 : ((tails B k a).map (a :: ·)).find? (fun τ => decide (hT h n p τ ≤ m)) = none := by
                rw [List.find?_eq_none]
                intro τ ht
                obtain ⟨σ, hs, rfl⟩ := List.mem_map.mp ht
                show ¬ decide (max (h (p, a)) (hT h n a σ) ≤ m) = true
                rw [decide_eq_true_eq, Int.max_le]
                exact fun ⟨q1, q2⟩ => hq ⟨q1, Fv_le.mpr ⟨σ, hs, q2⟩⟩
              rw [e1, e2]
              obtain ⟨e, he, q⟩ := hx
              refine ih ⟨e, ?_, q⟩
              rcases List.mem_cons.mp he with rfl | he
              · exact absurd ⟨by omega, by omega⟩ hq
              · exact he
        obtain ⟨e, h1, h2⟩ := key (Bp B p) ⟨e, he, hm⟩
        rw [h1, h2]
end
end LW
end
section
set_option linter.all false
set_option maxRecDepth 100000
set_option maxHeartbeats 1000000
set_option autoImplicit false
namespace LW
open PL
section
variable {M : MS} {k k' : Kd}
theorem t_need_columns {s : Int} (h0 : 1 ≤ s) (h1 : s ≤ 6) : f_need_columns [.int s] M = .ok (.non, .fz) M := by
  refine run_none (ds := [.fz (.int s)]) rfl ?_
  unfold c_need_columns
  simp [isi_int, h0, h1]
/-- the need -/
def needV (c : Co) (cols sz : Int) : Int := Fv (brk c.ls) (colH c sz) c.ls.length (cols - 1).toNat 0
theorem t_need_of {c : Co} {cols sz : Int} (h1 : 1 ≤ c.ls.length) (h2 : c.ls.length ≤ 100) (hc0 : 1 ≤ cols) (hc1 : cols ≤ 100) : f_need_of [c.d, .int cols, .int sz] M = .ok (.int (needV c cols sz), .fz) M := by
  obtain ⟨d, f, N, e, ht, hl⟩ := least_from_ok (M := M) (c := c) (cols := cols) (sz := sz) (B := brk c.ls) h1 h2 (List.Sublist.refl _) (by omega) hc1
  have hg : f [0, cols] = some (.int (needV c cols sz)) := hl cols 0 hc0 (Int.le_refl _) List.mem_cons_self
  rw [← stp_eq] at e
  refine run_ok rfl ?_
  unfold c_need_of
  simp [t_stops_of h1 (show c.ls.length ≤ 1000 by omega), e, ht.get2 hg]
theorem head_find {α : Type} {p q : α → Bool} (L : List α) : ((L.filter p).filter q)[0]? = L.find? fun a => p a && q a := by
  rw [List.filter_filter]
  induction L with
  | nil => rfl
  | cons a L ih =>
    rw [List.filter_cons, List.find?_cons]
    cases hp : p a <;> cases hq : q a <;> simp [hp, hq] <;> simpa [Bool.and_comm] using ih
theorem find_Bp {B : List Int} {p : Int} {q : Int → Bool} : (0 :: B).find? (fun e => decide (p < e) && q e) = (Bp (0 :: B) p).find? q := by
  unfold Bp
  rw [List.find?_filter]
  congr 1
  funext a
  cases decide (p < a) <;> cases q a <;> rfl
theorem t_first_layout {c : Co} {cols sz : Int} (h1 : 1 ≤ c.ls.length) (h2 : c.ls.length ≤ 100) (hc0 : 1 ≤ cols) (hc1 : cols ≤ 100) :
    f_first_layout [c.d, .int cols, .int sz] M = .ok (TL D.int (fstT (brk c.ls) (colH c sz) c.ls.length (needV c cols sz) (cols - 1).toNat 0), .fz) M := by
  obtain ⟨d, f, N, e, ht, hl⟩ := least_from_ok (M := M) (c := c) (cols := cols) (sz := sz) (B := brk c.ls) h1 h2 (List.Sublist.refl _) (by omega) hc1
  have hg := hl cols 0 hc0 (Int.le_refl _) List.mem_cons_self
  have hlim : LIM = 1000000 := rfl
  have hs := stp_len c.ls
  have hbl := brk_len c.ls
  rw [← stp_eq] at e
  have hmost : f [0, cols] = some (.int (needV c cols sz)) := hg
  generalize hm : needV c cols sz = m at *
  generalize hB : brk c.ls = B at *
  generalize hn : (c.ls.length : Int) = n at *
  generalize hP : prsOf (stp c.ls) = P at *
  have hS : stp c.ls = 0 :: (B ++ [n]) := by rw [stp_eq, hB, hn]
  have inS : ∀ p ∈ 0 :: B, p ∈ stp c.ls ∧ p < n := fun p hp => by
    rw [hS]
    rcases List.mem_cons.mp hp with rfl | hp
    · exact ⟨List.mem_cons_self, by omega⟩
    · exact ⟨List.mem_cons_of_mem _ (List.mem_append_left _ hp), by rw [← hB] at hp; have := (brk_mem hp).2.1; omega⟩
  have inP : ∀ p ∈ 0 :: B, ∀ e ∈ 0 :: B, p < e → (p, e) ∈ P := fun p hp e he hlt => by rw [← hP]; exact prs_mem.mpr ⟨(inS p hp).1, (inS e he).1, hlt⟩
  have inPn : ∀ p ∈ 0 :: B, (p, n) ∈ P := fun p hp => by
    rw [← hP]
    exact prs_mem.mpr ⟨(inS p hp).1, by rw [hS]; simp, (inS p hp).2⟩
  have p0 : ∀ p ∈ 0 :: B, 0 ≤ p := fun p hp => by
    rcases List.mem_cons.mp hp with rfl | hp
    · omega
    · rw [← hB] at hp; have := (brk_mem hp).1; omega
  have Bp0 : ∀ p : Int, 0 ≤ p → Bp (0 :: B) p = Bp B p := fun p hp => by
    unfold Bp
    rw [List.filter_cons, if_neg (by simpa using hp)]
  let S : D := LL D.int (0 :: (B ++ [n]))
  have hSd : LL D.int (stp c.ls) = S := by rw [hS]
  have last : ∀ (M : MS) (k' : Kd), lIdx2 (S, .fz) (.int (-1), k') M = .ok (.int n, .fz) M := fun M k' => w_lastL (by simp)
  have slice : ∀ (M : MS), lSlc3 (S, .fz) none (some (-1)) M = .ok (LL D.int (0 :: B), .fr) M := fun M => by
    show lSlc3 (LL D.int _, .fz) _ _ M = _
    rw [w_slcL, cut_none, show 0 :: (B ++ [n]) = (0 :: B) ++ [n] from rfl, List.dropLast_concat]
  let h := colH c sz
  let st : List Int × Int × Nat → List Sl := fun s => [.fz c.d, .fz (.int cols), .fz (.int sz), .fz S, .fz d, .fz (.int m), .fz (dT2 P (sumD c sz)), .no, .no, .no, .fz (TL D.int s.1), .fz (.int s.2.1), .fz (.int ((s.2.2 : Int) + 1)), .no, .no]
  let goodP : Int → Int → Bool := fun p e => decide (p < e) && decide (h (p, e) ≤ m)
  let nx : List Int × Int × Nat → Int := fun s => ((((0 :: B).filter (goodP s.2.1)).filter fun e => decide (Fv B h n (s.2.2 - 1) e ≤ m))[0]?).getD 0
  obtain ⟨b', z, ⟨q1, q2, q3, q4, q5⟩, q6⟩ := wh_run (M := M) (c := (den g_first_layout (.cmp .gt (.idx (.var 6) (.tup (.acons (.var 11) (.acons (.idx (.var 3) (.neg (.lit (.int 1)))) .anil)))) (.var 5))).t) (body := exec g_first_layout b_first_layout_0) (kl := [13]) st
    (fun s => decide (m < h (s.2.1, n))) (fun s => (s.1 ++ [nx s], nx s, s.2.2 - 1)) (fun s => s.2.1 ∈ 0 :: B ∧ Fv B h n s.2.2 s.2.1 ≤ m ∧ s.1 ++ fstT B h n m s.2.2 s.2.1 = fstT B h n m (cols - 1).toNat 0 ∧ s.1.length + s.2.2 ≤ 100 ∧ (s.2.2 : Int) + 1 ≤ cols) (fun s => s.2.2)
    (fun s hI => by
      have := w_getT2 (k := .fz) (k' := .fz) (M := M) (v := sumD c sz) (inPn s.2.1 hI.1)
      simp [st, last, this, sumD, h])
    (fun s ⟨i1, i2, i3, i4, i5⟩ ht' => by
      obtain ⟨acc, p, kk⟩ := s
      simp only at i1 i2 i3 i4 i5 ht'
      have hgt : m < h (p, n) := by simpa using ht'
      cases kk with
      | zero => have : h (p, n) ≤ m := i2; omega
      | succ k =>
        have hne : ¬ h (p, n) ≤ m := by omega
        have hf2 : fstT B h n m (k + 1) p = match (Bp B p).find? fun e => decide (h (p, e) ≤ m) && decide (Fv B h n k e ≤ m) with
          | some e => e :: fstT B h n m k e
          | none => [] := by
          show (if h (p, n) ≤ m then [] else _) = _
          rw [if_neg hne]
          all_goals (cases (Bp B p).find? (fun e => decide (h (p, e) ≤ m) && decide (Fv B h n k e ≤ m)) <;> rfl)
        have hsome : ∃ e, (Bp B p).find? (fun e => decide (h (p, e) ≤ m) && decide (Fv B h n k e ≤ m)) = some e := by
          have i2' : (Bp B p).foldl (fun b e => min b (max (h (p, e)) (Fv B h n k e))) (h (p, n)) ≤ m := i2
          rw [foldl_min_le (fun e => max (h (p, e)) (Fv B h n k e))] at i2'
          rcases i2' with q | ⟨e, he, q⟩
          · exact absurd q hne
          · have : ((Bp B p).find? (fun e => decide (h (p, e) ≤ m) && decide (Fv B h n k e ≤ m))).isSome = true := by
              rw [List.find?_isSome]
              exact ⟨e, he, by simp; omega⟩
            exact Option.isSome_iff_exists.mp this
        obtain ⟨e, he⟩ := hsome
        have hprop := List.find?_some he
        simp only [Bool.and_eq_true, decide_eq_true_eq] at hprop
        have hmem := List.mem_of_find?_eq_some he
        have heB : e ∈ B ∧ p < e := by
          unfold Bp at hmem
          rw [List.mem_filter] at hmem
          exact ⟨hmem.1, by simpa using hmem.2⟩
        have hnx0 : (((0 :: B).filter (goodP p)).filter fun e => decide (Fv B h n k e ≤ m))[0]? = some e := by
          rw [head_find]
          rw [show (fun a => goodP p a && decide (Fv B h n k a ≤ m)) = fun a => decide (p < a) && (decide (h (p, a) ≤ m) && decide (Fv B h n k a ≤ m)) from by funext a; simp [goodP, Bool.and_assoc]]
          rw [find_Bp, Bp0 p (p0 p i1), he]
        have hnx : nx (acc, p, k + 1) = e := by
          show ((((0 :: B).filter (goodP p)).filter fun e => decide (Fv B h n (k + 1 - 1) e ≤ m))[0]?).getD 0 = e
          rw [Nat.add_sub_cancel, hnx0]; rfl
        simp only
        rw [hnx]
        refine ⟨⟨List.mem_cons_of_mem _ heB.1, hprop.2, ?_, ?_, ?_⟩, ?_, ?_⟩
        · show (acc ++ [e]) ++ fstT B h n m k e = _
          rw [← i3, hf2, he]
          simp
        · show (acc ++ [e]).length + k ≤ 100
          simp; omega
        · show (k : Int) + 1 ≤ cols
          omega
        · show k < k + 1
          omega
        · refine ⟨[.fz c.d, .fz (.int cols), .fz (.int sz), .fz S, .fz d, .fz (.int m), .fz (dT2 P (sumD c sz)), .no, .no, .no, .fz (TL D.int (acc ++ [e])), .fz (.int e), .fz (.int ((k : Int) + 1)), .fz (LL D.int ((0 :: B).filter (goodP p))), .no], ?_, by simp [st]⟩
          have hBl : B.length ≤ 100 := by omega
          have lB : (0 :: B).length ≤ LIM := by rw [List.length_cons]; omega
          have i4' : acc.length + 1 ≤ LIM := by omega
          simp only [st]
          unfold b_first_layout_0
          simp [slice]
          rw [lcF (fun _ => rfl) (goodP p) (fun e => .int e) lB fun e he => ⟨by
            by_cases hlt : p < e
            · simp [hlt, w_getT2 (inP p i1 e he hlt), sumD, goodP, h]
            · simp [hlt, goodP], fun _ => ⟨.fz, by simp, by simp⟩⟩]
          simp
          rw [lcF (fun _ => rfl) (fun e => decide (Fv B h n k e ≤ m)) (fun e => .int e) (Nat.le_trans (List.length_filter_le _ _) lB) fun e he => ⟨by
            have he0 : e ∈ 0 :: B := (List.mem_filter.mp he).1
            have hge := hl ((k : Int) + 1) e (by omega) (by omega) he0
            unfold LfOk at hge
            rw [show ((k : Int) + 1 - 1).toNat = k by omega] at hge
            simp [ht.get2 hge, h], fun _ => ⟨.fz, by simp, by simp⟩⟩]
          simp [-List.filter_filter, w_idxL (show (0 : Int) ≤ 0 by omega) hnx0]
          rw [w_addT1 i4']
          simp) 1000000 ([], 0, (cols - 1).toNat) ⟨List.mem_cons_self, by
            show Fv B h n _ 0 ≤ m
            rw [← hm]; unfold needV; rw [hB, hn]; exact Int.le_refl _, rfl, by simp; omega, by simp; omega⟩ (by simp; omega)
  obtain ⟨acc, p, kk⟩ := b'
  simp only at q1 q2 q3 q4 q5 q6
  have hfin : fstT B h n m kk p = [] := by
    cases kk with
    | zero => rfl
    | succ k =>
      show (if h (p, n) ≤ m then [] else _) = _
      rw [if_pos (by simpa using q6)]
  rw [hfin, List.append_nil] at q3
  have z : whL (den g_first_layout (.cmp .gt (.idx (.var 6) (.tup (.acons (.var 11) (.acons (.idx (.var 3) (.neg (.lit (.int 1)))) .anil)))) (.var 5))).t (exec g_first_layout b_first_layout_0) [13] 1000000 [.fz c.d, .fz (.int cols), .fz (.int sz), .fz S, .fz d, .fz (.int m), .fz (dT2 P (sumD c sz)), .no, .no, .no, .fz (TL D.int []), .fz (.int 0), .fz (.int (((cols - 1).toNat : Int) + 1)), .no, .no] M = _ := z
  rw [show ((cols - 1).toNat : Int) + 1 = cols by omega, show TL D.int [] = .tup [] from rfl] at z
  refine run_ok rfl ?_
  unfold c_first_layout
  simp [t_stops_of h1 (show c.ls.length ≤ 1000 by omega), e, ht.get2 hmost, t_all_stretches h1 (show c.ls.length ≤ 800 by omega)]
  rw [hP, lDcI_ok (w := sumD c sz) (fun _ => rfl) (by rw [← hP]; exact prs_len (by omega)) (by rw [← hP]; exact prs_nodup (stp_inc h1)) (fun p _ => ⟨.fz, by simp, by
    have e := pc_le (cutL c.ls (some p.1) (some p.2))
    have e2 := cut_le c.ls (some p.1) (some p.2)
    simp [mul_small (i := (pc (cutL c.ls (some p.1) (some p.2)) : Int)) (j := sz) (by omega) (by omega), sumD, colH]⟩)]
  rw [hSd]
  simp
  rw [z]
  simp [st]
  rw [q3]
  simp [h]
end
end LW
end
section
set_option linter.all false
set_option maxRecDepth 100000
set_option maxHeartbeats 1000000
set_option autoImplicit false
namespace LW
open PL
section
variable {M : MS} {k k' : Kd}
instance : Inhabited Ln := ⟨⟨none, 0, 0, true⟩⟩
theorem enumI_ir {α : Type} [Inhabited α] (L : List α) : enumI 0 L = (irange 0 (L.length : Int)).map fun i => (i, L[i.toNat]?.getD default) := by
  apply List.ext_getElem?
  intro i
  rw [enumI_get, List.getElem?_map]
  by_cases h : i < L.length
  · rw [irange_get (by omega), List.getElem?_eq_getElem h]
    show some _ = some _
    simp [show ((0 : Int) + i).toNat = i by omega, h]
  · rw [List.getElem?_eq_none (by omega), List.getElem?_eq_none (by rw [irange_len]; omega)]; rfl
theorem plates_ir (ls : List Ln) : platesI ls = (irange 0 (ls.length : Int)).filter fun i => (ls[i.toNat]?.getD default).h.isNone := by
  unfold platesI
  rw [enumI_ir, List.filter_map, List.map_map]
  show List.map (fun i => i) (List.filter (fun i : Int => (ls[i.toNat]?.getD default).h.isNone) _) = _
  rw [List.map_id']
theorem sum_lh (x : Int) (s : List Ln) : (s.map (lh x)).sum = hS s + (pc s : Int) * x := by
  unfold hS
  rw [← pc_filter]
  induction s with
  | nil => simp
  | cons a s ih =>
    rw [List.map_cons, List.sum_cons, ih]
    unfold lh
    cases h : a.h with
    | none => simp [List.filter_cons, h, Int.add_mul]; omega
    | some v => simp [List.filter_cons, h]; omega
theorem hiL_eq (r x : Int) (s : List Ln) : hiL r x s = baseS r s + (pc s : Int) * x := by
  unfold hiL baseS
  rw [sum_lh]; omega
/-- a comprehension that draws which ones stay -/
theorem lcS {α : Type} {f : α → D} {i : Nat} {ds : List Sl} {c : TV} {e : EV} (I : MS → Prop) {L : List α} (hl : L.length ≤ LIM) (hM : I M)
    (h : ∀ a M, I M → ∃ b M1, c ((ds.set i .no).set i (.fz (f a))) M = .ok b M1 ∧ I M1 ∧ e ((ds.set i .no).set i (.fz (f a))) M1 = .ok (f a, .fz) M1) :
    ∃ (S : List α) (M' : MS), S.Sublist L ∧ lLc1 [i] (.nm i) c e ds (mp f L) M = .ok (LL f S, .fr) M' ∧ I M' := by
  obtain ⟨S, M', h1, h2, h3⟩ := lc_sub i ds f I h L M hM
  refine ⟨S, M', h1, ?_, h3⟩
  rw [lLc1_ap]
  unfold mp
  rw [h2, R.bind_ok]
  exact w_lc2 (Nat.le_trans h1.length_le hl)
theorem neL {α : Type} {f : α → D} {L : List α} (h : ∀ a, D.dep 11 (f a) = true) : lCmp2 .ne (LL f L, k) (LL f L, k') M = .ok (.bl false, .fz) M := ne_same (dep_LL h)
theorem neT {α : Type} {f : α → D} {L : List α} (h : ∀ a, D.dep 11 (f a) = true) : lCmp2 .ne (TL f L, k) (TL f L, k') M = .ok (.bl false, .fz) M := ne_same (dep_TL h)
theorem dep_pr (n : Nat) (p : Int × Int) : D.dep (n + 1) (prD p) = true := by
  show ([D.int p.1, D.int p.2].all (D.dep n)) = true
  simp [dep_int]
@[simp] theorem w_isL {α : Type} {f : α → D} {L : List α} : lBi (.isi [.list]) [(LL f L, k)] M = .ok (.bl true, .fz) M := nrfl rfl
theorem cut_app {α : Type} (L : List α) (a : α) : cutL (L ++ [a]) none (some (-1)) = L := by rw [cut_none]; simp
theorem pow6 : oPow (.int 10) (.int 6) = some (.int 1000000, .fz) := rfl
end
end LW
end
section
set_option linter.all false
set_option maxRecDepth 100000
set_option maxHeartbeats 1000000
set_option autoImplicit false
namespace LW
open PL
section
variable {M : MS} {k k' : Kd}
theorem t_need {c : Co} {cols sz : Int} (h : CoOk 1000 1 16 c) (hc0 : 1 ≤ cols) (hc1 : cols ≤ 6) (h0 : 0 ≤ sz) (h1 : sz ≤ 1000000) : f_need [c.d, .int cols, .int sz] M = .ok (.int (needV c cols sz), .fz) M := by
  have := h.la; have := h.lb
  refine run_ok rfl ?_
  unfold c_need
  simp [t_need_content h, t_need_columns hc0 hc1, t_need_size h0 h1, t_need_of (c := c) (cols := cols) (sz := sz) (by omega) (by omega) hc0 (by omega)]
def leastL (c : Co) (cols sz : Int) : List Int := fstT (brk c.ls) (colH c sz) c.ls.length (needV c cols sz) (cols - 1).toNat 0
theorem t_least_layout {c : Co} {cols sz : Int} (h : CoOk 1000 1 16 c) (hc0 : 1 ≤ cols) (hc1 : cols ≤ 6) (h0 : 0 ≤ sz) (h1 : sz ≤ 1000000) : f_least_layout [c.d, .int cols, .int sz] M = .ok (TL D.int (leastL c cols sz), .fz) M := by
  have := h.la; have := h.lb
  refine run_ok rfl ?_
  unfold c_least_layout
  simp [t_need_content h, t_need_columns hc0 hc1, t_need_size h0 h1, t_first_layout (c := c) (cols := cols) (sz := sz) (by omega) (by omega) hc0 (by omega), leastL]
theorem hT_cols {h : Int × Int → Int} {n : Int} : ∀ (lay : List Int) (p : Int), maxL (((p :: (lay ++ [n])).zip (lay ++ [n])).map h) = hT h n p lay
  | [], p => rfl
  | e :: lay, p => by
    rw [List.cons_append, List.zip_cons_cons, List.map_cons]
    have ih := hT_cols (h := h) (n := n) lay e
    unfold hT
    rw [← ih]
    have hne : ((e :: (lay ++ [n])).zip (lay ++ [n])).map h ≠ [] := by
      cases lay <;> simp
    cases hL : ((e :: (lay ++ [n])).zip (lay ++ [n])).map h with
    | nil => exact absurd hL hne
    | cons a L => rfl
def topV (c : Co) (sz : Int) (lay : List Int) : Int := hT (colH c sz) c.ls.length 0 lay
theorem t_law_top {c : Co} {lay : List Int} {sz : Int} (h : CoOk 1000 1 16 c) (hl : lay.length ≤ 1000) : f__law_top [c.d, TL D.int lay, .int sz] M = .ok (.int (topV c sz lay), .fz) M := by
  have hlb := h.lb
  have hlim : LIM = 1000000 := rfl
  have hn : ∀ l ∈ c.ls, 0 ≤ l.n := fun l hl => (h.ls l hl).n0
  have hcl := cols_len c lay
  have kv : ∀ (p : Int × Int) (M : MS), f__law_high [c.d, .int p.1, .int p.2, .int sz] M = .ok (.int (colH c sz p), .fz) M := fun p M => by
    rw [law_high_ok (by omega) hn, hiL_eq]; rfl
  refine run_ok rfl ?_
  unfold c__law_top
  simp [t_law_columns (c := c) (lay := lay) (by omega) (by omega)]
  rw [lcA (fun _ => rfl) (fun p => .int (colH c sz p)) (by omega) fun p _ => ⟨.fz, by simp, by simp [kv]⟩]
  have hne : cols c lay ≠ [] := fun e => by rw [e] at hcl; simp at hcl
  simp [w_max _ hne]
  unfold topV
  rw [← hT_cols lay 0]
  rfl
def layD (lay : List Int) : D := TL D.int lay
def last0 (lay : List Int) : Int := lay.getLast?.getD 0
theorem tails_len {B : List Int} : ∀ (k : Nat) (p : Int), (tails B k p).length ≤ (B.length + 1) ^ k
  | 0, p => by simp [tails]
  | k + 1, p => by
    unfold tails
    rw [List.length_cons]
    have h1 := flat_len (f := fun e => (tails B k e).map (e :: ·)) (n := (B.length + 1) ^ k) (L := Bp B p) fun e _ => by rw [List.length_map]; exact tails_len k e
    have h2 : (Bp B p).length ≤ B.length := List.length_filter_le _ _
    have h3 : (Bp B p).length * (B.length + 1) ^ k ≤ B.length * (B.length + 1) ^ k := Nat.mul_le_mul_right _ h2
    have h4 : 0 < (B.length + 1) ^ k := Nat.pow_pos (by omega)
    rw [Nat.pow_succ, Nat.mul_succ, Nat.mul_comm ((B.length + 1) ^ k)]
    omega
def remL (B : List Int) (K : Nat) (w : List (List Int)) : List (List Int) := w.flatMap fun lay => (tails B (K - lay.length) (last0 lay)).map (lay ++ ·)
def laterL (B : List Int) (K : Nat) (lay : List Int) : List Int := if lay.length = K then [] else Bp B (last0 lay)
theorem rem_step {B : List Int} {K : Nat} {lay : List Int} {w : List (List Int)} (hl : lay.length ≤ K) : remL B K (lay :: w) = lay :: remL B K ((laterL B K lay).map (fun e => lay ++ [e]) ++ w) := by
  unfold remL laterL
  rw [List.flatMap_cons, List.flatMap_append]
  by_cases h : lay.length = K
  · rw [if_pos h, show K - lay.length = 0 by omega]
    simp [tails]
  · rw [if_neg h]
    obtain ⟨k, hk⟩ : ∃ k, K - lay.length = k + 1 := ⟨K - lay.length - 1, by omega⟩
    rw [hk]
    have et : ∀ p, tails B (k + 1) p = [] :: (Bp B p).flatMap fun e => (tails B k e).map (e :: ·) := fun _ => rfl
    rw [et, List.map_cons, List.append_nil, List.cons_append]
    congr 2
    rw [List.map_flatMap, List.flatMap_map]
    congr 1
    funext e
    rw [List.map_map]
    have h1 : K - (lay ++ [e]).length = k := by rw [List.length_append, List.length_singleton]; omega
    have h2 : last0 (lay ++ [e]) = e := by unfold last0; simp
    rw [h1, h2]
    congr 1
    funext τ
    simp
theorem rem_pos {B : List Int} {K : Nat} (w : List (List Int)) : w.length ≤ (remL B K w).length := by
  unfold remL
  induction w with
  | nil => simp
  | cons lay w ih =>
    rw [List.flatMap_cons, List.length_append, List.length_cons, List.length_map]
    have : 1 ≤ (tails B (K - lay.length) (last0 lay)).length := by
      cases K - lay.length <;> simp [tails]
    omega
def lysV (c : Co) (cols : Int) : List (List Int) := tails (brk c.ls) (cols - 1).toNat 0
theorem dep_lay (lay : List Int) : D.dep 11 (layD lay) = true := dep_TL (n := 10) (dep_int 10)
theorem eq_nilT {lay : List Int} : lCmp2 .eq (layD lay, k) (.tup [], k') M = .ok (.bl lay.isEmpty, .fz) M := by
  unfold lCmp2
  have h1 : D.dep DEP (layD lay) = true := dep_TL (n := 11) (dep_int 11)
  have h2 : D.dep DEP (.tup []) = true := rfl
  simp [oCmp, oEq, h1, h2]
  unfold layD TL
  cases lay <;> simp [D.eq, D.eqL]
theorem last_lay {lay : List Int} (h : lay ≠ []) : lIdx2 (layD lay, k) (.int (-1), k') M = .ok (.int (last0 lay), .fz) M := by
  refine w_lastT ?_
  unfold last0
  rw [List.getLast?_eq_getElem?]
  cases hh : lay[lay.length - 1]? with
  | none =>
    rw [List.getElem?_eq_none_iff] at hh
    have : 0 < lay.length := List.length_pos_iff.mpr h
    omega
  | some a => rfl
theorem t_law_layoutsW {c : Co} {cols : Int} (h : CoOk 1000 1 16 c) (hc0 : 1 ≤ cols) (hc1 : cols ≤ 900) (hl : (lysV c cols).length < 1000000) : f__law_layouts [c.d, .int cols] M = .ok (LL layD (lysV c cols), .fr) M := by
  have hla := h.la
  have hlb := h.lb
  have hlim : LIM = 1000000 := rfl
  have hbl := brk_len c.ls
  have hb0 : ∀ e ∈ brk c.ls, 0 < e := fun e he => by have := (brk_mem he).1; omega
  have hK : ((cols - 1).toNat : Int) = cols - 1 := by omega
  unfold lysV at hl ⊢
  generalize hKK : (cols - 1).toNat = K at *
  have tb := fun M => t_law_breaks (M := M) h
  generalize hB : brk c.ls = B at *
  let st : List (List Int) × List (List Int) → List Sl := fun s => [.fz c.d, .fz (.int cols), .ow (LL layD s.1), .fz (LL layD s.2), .no, .no, .no]
  obtain ⟨b', z, ⟨q1, q2⟩, q3⟩ := wh_run (M := M) (c := (den g__law_layouts (.cmp .ne (.var 3) (.lst .anil))).t) (body := exec g__law_layouts b__law_layouts_0) (kl := [4, 5]) st
    (fun s => !s.2.isEmpty) (fun s => match s.2 with
      | [] => s
      | lay :: w => (s.1 ++ [lay], (laterL B K lay).map (fun e => lay ++ [e]) ++ w)) (fun s => s.1 ++ remL B K s.2 = tails B K 0 ∧ ∀ lay ∈ s.2, lay.length ≤ K) (fun s => (remL B K s.2).length)
    (fun s _ => by simp [st, eq_nilL (n := 0) dep_lay])
    (fun s ⟨i1, i2⟩ ht => by
      obtain ⟨fd, wt⟩ := s
      cases wt with
      | nil => simp at ht
      | cons lay w =>
        simp only at i1 i2 ⊢
        have hlay := i2 lay List.mem_cons_self
        rw [rem_step hlay] at i1
        have i1' : (fd ++ [lay]) ++ remL B K ((laterL B K lay).map (fun e => lay ++ [e]) ++ w) = tails B K 0 := by rw [← i1]; simp
        have hlen := congrArg List.length i1'
        rw [List.length_append, List.length_append, List.length_singleton] at hlen
        have hw := rem_pos (B := B) (K := K) ((laterL B K lay).map (fun e => lay ++ [e]) ++ w)
        rw [List.length_append, List.length_map] at hw
        refine ⟨⟨i1', fun x hx => ?_⟩, ?_, ?_⟩
        · rcases List.mem_append.mp hx with hx | hx
          · obtain ⟨e, he, rfl⟩ := List.mem_map.mp hx
            unfold laterL at he
            by_cases hq : lay.length = K
            · rw [if_pos hq] at he; simp at he
            · rw [List.length_append, List.length_singleton]; omega
          · exact i2 x (List.mem_cons_of_mem _ hx)
        · show (remL B K ((laterL B K lay).map (fun e => lay ++ [e]) ++ w)).length < (remL B K (lay :: w)).length
          rw [rem_step hlay, List.length_cons]; omega
        · refine ⟨[.fz c.d, .fz (.int cols), .ow (LL layD (fd ++ [lay])), .fz (LL layD ((laterL B K lay).map (fun e => lay ++ [e]) ++ w)), .fz (layD lay), .fz (LL D.int (laterL B K lay)), .no], ?_, by simp [st]⟩
          have i0 : lIdx2 (LL layD (lay :: w), .fz) (.int 0, .fz) M = .ok (layD lay, .fz) M := w_idxL (by omega) rfl
          have fl : (fd.map layD).length < LIM := by rw [List.length_map]; omega
          have lB : B.length ≤ LIM := by omega
          have ln : lBi .len [(layD lay, .fz)] M = .ok (.int lay.length, .fz) M := w_lenT
          have sl : lSlc3 (LL layD (lay :: w), .fz) (some 1) none M = .ok (LL layD w, .fr) M := by rw [w_slcL, cut_1]; rfl
          unfold b__law_layouts_0
          simp [st, i0, sApp_LL]
          rw [sAppO_fz 2 _ _ _ fl, LL_app]
          simp [tb]
          rw [lcF (fun _ => rfl) (fun e => decide (last0 lay < e)) (fun e => .int e) lB fun e he => ⟨by
            simp [eq_nilT]
            cases hx : lay with
            | nil =>
              have := hb0 e he
              simp [last0, this]
            | cons a l =>
              rw [← hx]
              have hne : lay ≠ [] := by rw [hx]; simp
              simp [hne, last_lay hne], fun _ => ⟨.fz, by simp, by simp⟩⟩]
          have hcmp : ((lay.length : Int) == cols - 1) = decide (lay.length = K) := by
            rw [← hK]
            by_cases hq : lay.length = K
            · simp [hq]
            · have : ¬ (lay.length : Int) = K := by omega
              simp [hq, this]
          have happ : ∀ (e : Int), lBin2 .add (layD lay, .fz) (.tup [.int e], .fz) M = .ok (layD (lay ++ [e]), .fz) M := fun e => w_addT1 (f := D.int) (by omega)
          have hfin : ∀ (later : List Int), later.length + w.length ≤ LIM → lBin2 .add (LL (fun e => layD (lay ++ [e])) later, .fr) (LL layD w, .fr) M = .ok (LL layD (later.map (fun e => lay ++ [e]) ++ w), .fr) M := fun later hlt => by
            have e1 : LL (fun e => layD (lay ++ [e])) later = LL layD (later.map fun e => lay ++ [e]) := by unfold LL; rw [List.map_map]; rfl
            rw [e1, w_addL (by rw [List.length_map]; exact hlt)]
          have hw' : w.length ≤ LIM := by omega
          simp [ln, hcmp]
          by_cases hq : lay.length = K
          · have e0 : D.lst [] = LL D.int [] := rfl
            have el : laterL B K lay = [] := by unfold laterL; rw [if_pos hq]
            simp [hq, el]
            rw [e0]
            simp
            rw [lcA (fun _ => rfl) (fun e => layD (lay ++ [e])) (by simp) fun e _ => ⟨.fz, by simp, by simp [happ]⟩]
            simp [sl]
            rw [hfin [] (by simpa using hw')]
            simp
          · have el : laterL B K lay = B.filter fun e => decide (last0 lay < e) := by unfold laterL Bp; rw [if_neg hq]
            simp [hq]
            rw [← el]
            rw [lcA (fun _ => rfl) (fun e => layD (lay ++ [e])) (by omega) fun e _ => ⟨.fz, by simp, by simp [happ]⟩]
            simp [sl]
            rw [hfin _ (by omega)]
            simp) 1000000 ([], [[]]) ⟨by unfold remL; simp [last0], by simp⟩ (by
              show (remL B K [[]]).length < 1000000
              unfold remL; simpa [last0] using hl)
  obtain ⟨fd, wt⟩ := b'
  simp only at q1 q2 q3
  have hwt : wt = [] := by simpa using q3
  rw [hwt] at q1
  have q1 : fd = tails B K 0 := by simpa [remL] using q1
  have z : whL (den g__law_layouts (.cmp .ne (.var 3) (.lst .anil))).t (exec g__law_layouts b__law_layouts_0) [4, 5] 1000000 [.fz c.d, .fz (.int cols), .ow (.lst []), .fz (.lst [.tup []]), .no, .no, .no] M = _ := z
  refine run_ok rfl ?_
  unfold c__law_layouts
  simp
  rw [z]
  simp [st, q1]
theorem t_law_layouts {c : Co} {cols : Int} (h : CoOk 1000 1 16 c) (hc0 : 1 ≤ cols) (hc1 : cols ≤ 6) (hl : (lysV c cols).length < 1000000) : f__law_layouts [c.d, .int cols] M = .ok (LL layD (lysV c cols), .fr) M := t_law_layoutsW h hc0 (by omega) hl
end
end LW
end
section
set_option linter.all false
set_option maxRecDepth 100000
set_option maxHeartbeats 2000000
set_option autoImplicit false
namespace LW
open PL
section
variable {M : MS} {k k' : Kd}
theorem kv_hi {M : MS} {c : Co} {x : Int} (hc : c.ls.length ≤ 1000) (hn : ∀ l ∈ c.ls, 0 ≤ l.n) (p : Int × Int) :
    f__law_high [c.d, .int p.1, .int p.2, .int x] M = .ok (.int (colH c x p), .fz) M := by
  rw [law_high_ok hc hn, hiL_eq]; rfl
theorem k02_turn {n : Nat} {c : Co} (ns : List Int) (kk : D) (x4 : D) (x5 x6 x7 x8 x9 x10 : Sl) (h : CoOk 1000 1 16 c) (hB : Bag M n) :
    ∃ (d5 d6 d7 d8 d9 d10 : Sl) (M' : MS), exec g_law_k02 b_law_k02_0 [.fz (.scr ns), .fz kk, .fz (.ref n), .fz c.d, .fz x4, x5, x6, x7, x8, x9, x10, .no, .no, .no, .no] M = .next [.fz (.scr ns), .fz kk, .fz (.ref n), .fz c.d, .fz x4, d5, d6, d7, d8, d9, d10, .no, .no, .no, .no] M' ∧
      Bag M' n ∧ M'.length = M.length := by
  have hla := h.la
  have hlb := h.lb
  have hbl := brk_len c.ls
  have hlim : LIM = 1000000 := rfl
  obtain ⟨S, M1, s1, s2, s3, s4⟩ := lcS (f := D.int) (i := 12) (ds := [.fz (.scr ns), .fz kk, .fz (.ref n), .fz c.d, .fz x4, x5, x6, x7, x8, x9, x10, .no, .no, .no, .no]) (c := (den g_law_k02 (.acons (.cmp .eq (.call 10 (.acons (.var 2) (.acons (.lit (.int 2)) .anil))) (.lit (.int 0))) .anil)).nt) (e := (den g_law_k02 (.var 12)).e)
    (fun M' => Bag M' n ∧ M'.length = M.length) (L := brk c.ls) (by omega) ⟨hB, rfl⟩ fun a M2 ⟨b2, l2⟩ => by
      obtain ⟨r, M3, e3, r0, r1, b3, l3⟩ := take_ok (c := 2) b2 (by decide) (by decide)
      exact ⟨r == 0, M3, by simp [e3], ⟨b3, by omega⟩, by simp⟩
  have hL : LayOk c.ls S := lay_of_sub s1
  have hSl := lay_len hL
  obtain ⟨r1, M2, e2, a2, b2, k2, l2⟩ := take_ok (c := 50) s3 (by decide) (by decide)
  obtain ⟨r2, M3, e3, a3, b3, k3, l3⟩ := take_ok (c := 1000000) k2 (by decide) (by decide)
  obtain ⟨x, M4, e4, m4, k4, l4⟩ := of_ints (l := [0, 1, r1, r2, 1000000]) k3 (by simp) (by simp)
  simp only [List.map_cons, List.map_nil] at e4
  have x0 : 0 ≤ x := by simp at m4; omega
  have x1 : x ≤ 1000000 := by simp at m4; omega
  have hn : ∀ l ∈ c.ls, 0 ≤ l.n := fun l hl => (h.ls l hl).n0
  have hcl := cols_len c S
  have ecl : (cols c S).length ≤ LIM := by omega
  have nz : ∀ L : List Int, lCmp2 .ne (LL D.int L, Kd.fr) (LL D.int L, Kd.fr) M4 = .ok (.bl false, .fz) M4 := fun L => neL (dep_int 11)
  have neI : ∀ (y : Int) (L : List (Int × Int)) (k k' : Kd), lCmp2 .ne (LL D.int (L.map (colH c y)), k) (LL (fun p => D.int (colH c y p)) L, k') M4 = .ok (.bl false, .fz) M4 := fun y L k k' => by
    have : LL (fun p => D.int (colH c y p)) L = LL D.int (L.map (colH c y)) := by unfold LL; rw [List.map_map]; rfl
    rw [this]; exact neL (dep_int 11)
  refine ⟨.fz (TL D.int S), .fz (LL prD (cols c S)), .fz (.int x), .ow (.lst ((cols c S).map prD ++ [.int 0])), .ow (LL D.int ((cols c S).map (colH c x) ++ [0])), .fz (LL (fun p => .int (colH c x p)) (cols c S)), M4, ?_, k4, by omega⟩
  unfold b_law_k02_0
  simp [t_law_breaks h, s2, t_law_columns (c := c) (lay := S) (show c.ls.length ≤ 1000 by omega) (show S.length ≤ 1000 by omega), e2, pow6, e3, lLst, anyBo, LIM, e4, t_columns_of h hL, neL (dep_pr 10),
    t_heights h hL x0 x1]
  rw [lcA (fun _ => rfl) (fun p => .int (colH c x p)) ecl fun p _ => ⟨.fz, by simp, by simp [kv_hi (show c.ls.length ≤ 1000 by omega) hn]⟩]
  have nx := neI x (cols c S)
  have n0 := neI 0 (cols c S)
  have t1 := fun M => t_heights (M := M) h hL x0 x1
  have t2 := fun M => t_heights (M := M) (s := 0) h hL (by decide) (by decide)
  have l8 : ((cols c S).map prD).length < LIM := by rw [List.length_map]; omega
  have l9 : (((cols c S).map (colH c x)).map D.int).length < LIM := by rw [List.length_map, List.length_map]; omega
  generalize hhs : (cols c S).map (colH c x) = hs at *
  simp [nx]
  simp [sApp_LL]
  rw [sAppO_fz 8 _ _ _ l8]
  simp [sApp_LL]
  rw [sAppO_fz 9 _ _ _ l9]
  simp only [LL_app]
  simp [t_columns_of h hL, neL (dep_pr 10), t1, cut_app, neL (dep_int 11), t2]
  rw [lcA (fun _ => rfl) (fun p => .int (colH c 0 p)) ecl fun p _ => ⟨.fz, by simp, by simp [kv_hi (show c.ls.length ≤ 1000 by omega) hn]⟩]
  simp [n0]
end
end LW
end
section
set_option linter.all false
set_option maxRecDepth 100000
set_option maxHeartbeats 2000000
set_option autoImplicit false
namespace LW
open PL
section
variable {M : MS} {k k' : Kd}
theorem CoOk.up {w w' : Int} {a b b' : Nat} {c : Co} (h : CoOk w a b c) (hw : w ≤ w') (hb : b ≤ b') : CoOk w' a b' c :=
  ⟨h.r0, h.r1, fun l hl => ⟨fun x e => ⟨((h.ls l hl).h x e).1, by have := ((h.ls l hl).h x e).2; omega⟩, (h.ls l hl).s0, (h.ls l hl).s1, (h.ls l hl).n0, (h.ls l hl).n1⟩, h.la, by have := h.lb; omega, h.pl, h.lt⟩
/-- a drawn content, its bounds drawn too -/
theorem t_content {n : Nat} {a : Nat} {B W : Int} (h : Bag M n) (ha : 1 ≤ a) (h1 : (a : Int) ≤ B) (h2 : B ≤ 16) (h3 : 0 < W) (h4 : W ≤ 1000) :
    ∃ (c : Co) (M' : MS), f__law_content [.ref n, .int a, .int B, .int W] M = .ok (c.d, .fz) M' ∧ CoOk W a B.toNat c ∧ Bag M' n ∧ M'.length = M.length := by
  have := content_ok (a := a) (b := B.toNat) (wi := W) h ha (by omega) (by omega) h3 h4
  rwa [show ((B.toNat : Nat) : Int) = B by omega] at this
theorem get_some {α : Type} [Inhabited α] {L : List α} {i : Nat} (h : i < L.length) : L[i]? = some (L[i]?.getD default) := by
  rw [List.getElem?_eq_getElem h]; rfl
theorem k02_outer (ns : List Int) (kk : Int) (k0 : 0 ≤ kk) (k1 : kk < 1000) :
    ∃ (d2 d3 d5 d6 d7 d8 d9 d10 : Sl) (M' : MS), exec g_law_k02 b_law_k02_1 [.fz (.scr ns), .fz (.int kk), .no, .no, .no, .no, .no, .no, .no, .no, .no, .no, .no, .no, .no] M = .next [.fz (.scr ns), .fz (.int kk), d2, d3, .no, d5, d6, d7, d8, d9, d10, .no, .no, .no, .no] M' := by
  have hlim : LIM = 1000000 := rfl
  obtain ⟨M1, e1, b1, l1⟩ := bag_ok (ns := ns) (M := M) k0 k1
  generalize M.length = n at *
  obtain ⟨B, M2, e2, m2, b2, l2⟩ := of_ints (l := [4, 8, 16]) b1 (by simp) (by simp)
  obtain ⟨W, M3, e3, m3, b3, l3⟩ := of_ints (l := [9, 1000]) b2 (by simp) (by simp)
  simp only [List.map_cons, List.map_nil] at e2 e3
  simp at m2 m3
  obtain ⟨c, M4, e4, hc, b4, l4⟩ := t_content (a := 1) (B := B) (W := W) b3 (by decide) (by omega) (by omega) (by omega) (by omega)
  have hC : CoOk 1000 1 16 c := hc.up (by omega) (by omega)
  have hla := hC.la
  have hlb := hC.lb
  -- the turns
  let I : Nat → List Sl → MS → Prop := fun _ ds M' => ∃ d5 d6 d7 d8 d9 d10, ds = [.fz (.scr ns), .fz (.int kk), .fz (.ref n), .fz c.d, .no, d5, d6, d7, d8, d9, d10, .no, .no, .no, .no] ∧ Bag M' n
  obtain ⟨ds5, M5, f5, d5, d6, d7, d8, d9, d10, rfl, b5⟩ := for_ok (f := exec g_law_k02 b_law_k02_0) (tg := .nm 4) (kl := [4]) I (mp D.int (irange 0 6)) 0
    [.fz (.scr ns), .fz (.int kk), .fz (.ref n), .fz c.d, .no, .no, .no, .no, .no, .no, .no, .no, .no, .no, .no] M4 ⟨_, _, _, _, _, _, rfl, b4⟩ fun i x ds M' hx ⟨x5, x6, x7, x8, x9, x10, e, hB⟩ => by
      subst e
      obtain ⟨d5, d6, d7, d8, d9, d10, M6, q1, q2, q3⟩ := k02_turn ns (.int kk) x x5 x6 x7 x8 x9 x10 hC hB
      exact ⟨_, _, M6, rfl, .inl q1, d5, d6, d7, d8, d9, d10, rfl, q2⟩
  refine ⟨.fz (.ref n), .fz c.d, d5, d6, d7, d8, d9, d10, M5, ?_⟩
  have e4 : f__law_content [.ref n, .int 1, .int B, .int W] M3 = .ok (c.d, .fz) M4 := e4
  have i6 : inB 6 = true := inB_of (by decide) (by decide)
  have il : inB (c.ls.length : Int) = true := inB_of (by omega) (by omega)
  unfold b_law_k02_1
  simp [e1, lLst, anyBo, LIM, e2, e3, e4, t_breaks hC, t_law_breaks hC, neL (dep_int 11), t_plates hC, w_r1 il]
  rw [lcF (fun _ => rfl) (fun i => (c.ls[i.toNat]?.getD default).h.isNone) (fun i => .int i) (by rw [irange_len]; omega) fun i hi => ⟨by
    rw [irange_mem] at hi
    simp [w_idxT hi.1 (get_some (show i.toNat < c.ls.length by omega))], fun hp => ⟨.fz, by simp, by simp⟩⟩]
  rw [plates_ir]
  simp [neL (dep_int 11), w_rF1 i6]
  have f5 : forL (bindT (.nm 4)) (exec g_law_k02 b_law_k02_0) [4] (mp D.int (irange 0 6)) _ _ = _ := f5
  rw [f5]
  simp
theorem math_law_k02 : ∀ ns : List Int, ns.length ≤ 63 → ∃ (k : Kd) (M : MS), f_law_k02 [.scr ns] [] = .ok (.bl true, k) M := by
  intro ns hns
  let I : Nat → List Sl → MS → Prop := fun _ ds M' => ds = [.fz (.scr ns), .no, .no, .no, .no, .no, .no, .no, .no, .no, .no, .no, .no, .no, .no]
  obtain ⟨N, hN, h0, h1⟩ : ∃ N : Int, (if (8 : Int) < (if (ns.length : Int) < 30 then (ns.length : Int) else 30) then (if (ns.length : Int) < 30 then (ns.length : Int) else 30) else 8) = N ∧ 0 ≤ N ∧ N ≤ 30 := ⟨_, rfl, by split <;> split <;> omega, by split <;> split <;> omega⟩
  obtain ⟨ds5, M5, f5, e⟩ := for_ok (f := exec g_law_k02 b_law_k02_1) (tg := .nm 1) (kl := [1, 2, 3, 4, 5, 6, 7, 8, 9, 10]) I (mp D.int (irange 0 N)) 0 [.fz (.scr ns), .no, .no, .no, .no, .no, .no, .no, .no, .no, .no, .no, .no, .no, .no] [] rfl fun i x ds M' hx e => by
    have e : ds = _ := e
    subst e
    unfold mp at hx
    rw [List.getElem?_map] at hx
    obtain ⟨z, hz, rfl⟩ := Option.map_eq_some_iff.mp hx
    have hm := irange_mem.mp (List.mem_of_getElem? hz)
    obtain ⟨d2, d3, d5, d6, d7, d8, d9, d10, M6, q1⟩ := k02_outer (M := M') ns z hm.1 (by omega)
    exact ⟨_, _, M6, rfl, .inl q1, rfl⟩
  have e : ds5 = _ := e
  subst e
  refine ⟨.fz, M5, run_ok rfl ?_⟩
  unfold c_law_k02
  have f5 : forL (bindT (.nm 1)) (exec g_law_k02 b_law_k02_1) [1, 2, 3, 4, 5, 6, 7, 8, 9, 10] (mp D.int (irange 0 N)) _ _ = _ := f5
  have hl : ∀ M : MS, lBi .len [(.scr ns, .fz)] M = .ok (.int ns.length, .fz) M := fun M => by
    unfold lBi oBi oBi1 lenD items?
    simp
  simp [hl, hN, w_rF1 (inB_of (show -1000000000 ≤ N by omega) (show N ≤ 1000000000 by omega))]
  rw [f5]
  simp
end
end LW
end
section
set_option linter.all false
set_option maxRecDepth 100000
set_option maxHeartbeats 1000000
set_option autoImplicit false
namespace LW
open PL
section
variable {M : MS} {k k' : Kd}
theorem lys_len {c : Co} {cols : Int} (hl : c.ls.length ≤ 8) (hc : cols ≤ 6) : (lysV c cols).length < 1000000 := by
  have h1 := tails_len (B := brk c.ls) (cols - 1).toNat 0
  have h2 := brk_len c.ls
  have h3 : ((brk c.ls).length + 1) ^ (cols - 1).toNat ≤ 9 ^ (cols - 1).toNat := Nat.pow_le_pow_left (by omega) _
  have h4 : 9 ^ (cols - 1).toNat ≤ 9 ^ 5 := Nat.pow_le_pow_right (by decide) (by omega)
  unfold lysV
  have h5 : (9 : Nat) ^ 5 = 59049 := by decide
  omega
theorem needV_min (c : Co) (cols sz : Int) : IsMin (needV c cols sz) ((lysV c cols).map (topV c sz)) := Fv_min _ _
theorem lys_ne (c : Co) (cols : Int) : lysV c cols ≠ [] := by
  unfold lysV
  cases (cols - 1).toNat <;> simp [tails]
theorem tails_short {B : List Int} : ∀ {k : Nat} {p : Int} {τ : List Int}, τ ∈ tails B k p → τ.length ≤ k
  | 0, p, τ, h => by simp [tails] at h; simp [h]
  | k + 1, p, τ, h => by
    unfold tails at h
    rcases List.mem_cons.mp h with rfl | h
    · simp
    · obtain ⟨e, _, h⟩ := List.mem_flatMap.mp h
      obtain ⟨σ, hs, rfl⟩ := List.mem_map.mp h
      have := tails_short hs
      simp; omega
theorem lys_short {c : Co} {cols : Int} {lay : List Int} (hc : cols ≤ 6) (h : lay ∈ lysV c cols) : lay.length ≤ 1000 := by
  have := tails_short h; omega
theorem t_law_need {c : Co} {cols sz : Int} (h : CoOk 1000 1 16 c) (hl : c.ls.length ≤ 8) (hc0 : 1 ≤ cols) (hc1 : cols ≤ 6) : f__law_need [c.d, .int cols, .int sz] M = .ok (.int (needV c cols sz), .fz) M := by
  have hlen := lys_len (c := c) hl hc1
  have hlim : LIM = 1000000 := rfl
  refine run_ok rfl ?_
  unfold c__law_need
  simp [t_law_layouts h hc0 hc1 hlen]
  rw [lcA (fun _ => rfl) (fun lay => .int (topV c sz lay)) (by omega) fun lay hm => ⟨.fz, by simp, by
    have e : ∀ M, f__law_top [c.d, layD lay, .int sz] M = .ok (.int (topV c sz lay), .fz) M := fun M => t_law_top h (lys_short hc1 hm)
    simp [e]⟩]
  simp [w_min _ (lys_ne c cols)]
  exact (minL_is (by simpa using lys_ne c cols)).uniq (needV_min c cols sz)
/-- the first layout that is least -/
theorem first_least (c : Co) (cols sz : Int) : ((lysV c cols).filter fun lay => topV c sz lay == needV c cols sz)[0]? = some (leastL c cols sz) := by
  have h1 := fst_is (B := brk c.ls) (h := colH c sz) (n := c.ls.length) (m := needV c cols sz) (k := (cols - 1).toNat) (p := 0) (Int.le_refl _)
  have h2 := (needV_min c cols sz).2
  have e : (lysV c cols).filter (fun lay => topV c sz lay == needV c cols sz) = (lysV c cols).filter fun lay => decide (topV c sz lay ≤ needV c cols sz) := by
    refine List.filter_congr fun lay hm => ?_
    have := h2 (topV c sz lay) (List.mem_map.mpr ⟨lay, hm, rfl⟩)
    by_cases q : topV c sz lay ≤ needV c cols sz
    · have : topV c sz lay = needV c cols sz := by omega
      simp [this]
    · have : ¬ topV c sz lay = needV c cols sz := by omega
      simp [q, this]
  rw [e]
  have : ∀ (L : List (List Int)) (q : List Int → Bool), (L.filter q)[0]? = L.find? q := fun L q => by
    induction L with
    | nil => rfl
    | cons a L ih =>
      rw [List.filter_cons, List.find?_cons]
      cases q a <;> simp [ih]
  rw [this]
  exact h1
/-- the frame of a law -/
theorem main_ok {G : Nat → Fn} {N : Nat} {a b : Int} {kl : List Nat} {body : CS} (ha : 0 ≤ a) (ha2 : a ≤ 900) (hb : 0 ≤ b) (hb2 : b ≤ 900) (ns : List Int)
    (turn : ∀ (z : Int) (M : MS), 0 ≤ z → z < 1000 → ∃ ds2 M2, exec G body (.fz (.scr ns) :: .fz (.int z) :: List.replicate N .no) M = .next ds2 M2 ∧ killD kl ds2 = .fz (.scr ns) :: .no :: List.replicate N .no) :
    ∃ k M, runDef G (N + 2) 1 (.cons (.for kl (.nm 1) .rng1 (.acons (.bi .max (.acons (.lit (.int a)) (.acons (.bi .min (.acons (.lit (.int b)) (.acons (.bi .len (.acons (.var 0) .anil)) .anil))) .anil))) .anil) body) (.cons (.ret (.lit (.bl true))) .nil)) [.scr ns] [] = .ok (.bl true, k) M := by
  let I : Nat → List Sl → MS → Prop := fun _ ds M' => ds = .fz (.scr ns) :: .no :: List.replicate N .no
  obtain ⟨W, hW, h0, h1⟩ : ∃ W : Int, (if a < (if (ns.length : Int) < b then (ns.length : Int) else b) then (if (ns.length : Int) < b then (ns.length : Int) else b) else a) = W ∧ 0 ≤ W ∧ W ≤ 900 := ⟨_, rfl, by split <;> split <;> omega, by split <;> split <;> omega⟩
  obtain ⟨ds5, M5, f5, e⟩ := for_ok (f := exec G body) (tg := .nm 1) (kl := kl) I (mp D.int (irange 0 W)) 0 (.fz (.scr ns) :: .no :: List.replicate N .no) [] rfl fun i x ds M' hx e => by
    have e : ds = _ := e
    subst e
    unfold mp at hx
    rw [List.getElem?_map] at hx
    obtain ⟨z, hz, rfl⟩ := Option.map_eq_some_iff.mp hx
    have hm := irange_mem.mp (List.mem_of_getElem? hz)
    obtain ⟨ds2, M6, q1, q2⟩ := turn z M' hm.1 (by omega)
    exact ⟨_, ds2, M6, rfl, .inl q1, q2⟩
  have e : ds5 = _ := e
  subst e
  refine ⟨.fz, M5, run_ok rfl ?_⟩
  have f5 : forL (bindT (.nm 1)) (exec G body) kl (mp D.int (irange 0 W)) (.fz (.scr ns) :: .no :: List.replicate N .no) [] = _ := f5
  have hl : ∀ M : MS, lBi .len [(.scr ns, .fz)] M = .ok (.int ns.length, .fz) M := fun M => by
    unfold lBi oBi oBi1 lenD items?
    simp
  have hr : (List.replicate (N + 2 - 1) Sl.no) = .no :: List.replicate N .no := by rw [show N + 2 - 1 = N + 1 by omega]; rfl
  rw [hr]
  simp [hl, hW, w_rF1 (inB_of (show -1000000000 ≤ W by omega) (show W ≤ 1000000000 by omega))]
  rw [f5]
  simp
end
end LW
end
section
set_option linter.all false
set_option maxRecDepth 100000
set_option maxHeartbeats 2000000
set_option autoImplicit false
namespace LW
open PL
section
variable {M : MS}
/-- a drawn list's number, whatever the numbers are -/
theorem of_ge {l : List Int} {z lo hi : Int} (h : z ∈ l) (hl : ∀ x ∈ l, lo ≤ x ∧ x ≤ hi) : lo ≤ z ∧ z ≤ hi := hl z h
theorem k03_turn {n : Nat} {c : Co} (ns : List Int) (kk x4 : D) (x5 x6 x7 x8 : Sl) (h : CoOk 1000 1 16 c) (hl : c.ls.length ≤ 8) (hB : Bag M n) :
    ∃ (cols : Int) (d6 d7 d8 : Sl) (M' : MS), exec g_law_k03 b_law_k03_0 [.fz (.scr ns), .fz kk, .fz (.ref n), .fz c.d, .fz x4, x5, x6, x7, x8, .no] M = .next [.fz (.scr ns), .fz kk, .fz (.ref n), .fz c.d, .fz x4, .fz (.int cols), d6, d7, d8, .no] M' ∧
      1 ≤ cols ∧ cols ≤ 6 ∧ Bag M' n := by
  have hlim : LIM = 1000000 := rfl
  obtain ⟨r0, M1, e1, a1, b1, k1, _⟩ := take_ok (c := 6) hB (by decide) (by decide)
  obtain ⟨r2, M2, e2, a2, b2, k2, _⟩ := take_ok (c := 12) k1 (by decide) (by decide)
  obtain ⟨r3, M3, e3, a3, b3, k3, _⟩ := take_ok (c := 60) k2 (by decide) (by decide)
  obtain ⟨r4, M4, e4, a4, b4, k4, _⟩ := take_ok (c := 1000000) k3 (by decide) (by decide)
  obtain ⟨sz, M5, e5, m5, k5, _⟩ := of_ints (l := [0, r2, r3, r4]) k4 (by simp) (by simp)
  simp only [List.map_cons, List.map_nil] at e5
  have s0 : 0 ≤ sz ∧ sz ≤ 1000000 := by simp at m5; omega
  have hc0 : 1 ≤ 1 + r0 := by omega
  have hc1 : 1 + r0 ≤ 6 := by omega
  have tn := t_law_need (M := M5) (sz := sz) h hl hc0 hc1
  have tl := t_law_layouts (M := M5) h hc0 hc1 (lys_len hl hc1)
  have pn := t_need (M := M5) h hc0 hc1 s0.1 s0.2
  have pl := t_least_layout (M := M5) h hc0 hc1 s0.1 s0.2
  generalize hcc : 1 + r0 = cols at *
  have hlen := lys_len (c := c) hl hc1
  have fl := first_least c cols sz
  refine ⟨cols, .fz (.int sz), .fz (.int (needV c cols sz)), .fz (LL layD ((lysV c cols).filter fun lay => topV c sz lay == needV c cols sz)), M5, ?_, hc0, hc1, k5⟩
  unfold b_law_k03_0
  simp [e1, hcc, e2, e3, pow6, e4, lLst, anyBo, LIM, e5, tn, tl]
  rw [lcF (fun _ => rfl) (fun lay => topV c sz lay == needV c cols sz) layD (by omega) fun lay hm => ⟨by
    have e : ∀ M, f__law_top [c.d, layD lay, .int sz] M = .ok (.int (topV c sz lay), .fz) M := fun M => t_law_top h (lys_short hc1 hm)
    simp [e], fun _ => ⟨.fz, by simp, by simp⟩⟩]
  have ne1 : ∀ (k k' : Kd), lCmp2 .ne (TL D.int (leastL c cols sz), k) (layD (leastL c cols sz), k') M5 = .ok (.bl false, .fz) M5 := fun k k' => neT (dep_int 11)
  simp [pn, pl, w_idxL (show (0 : Int) ≤ 0 by omega) fl, ne1]
theorem k03_outer (ns : List Int) (kk : Int) (k0 : 0 ≤ kk) (k1 : kk < 1000) :
    ∃ (ds2 : List Sl) (M' : MS), exec g_law_k03 b_law_k03_1 (.fz (.scr ns) :: .fz (.int kk) :: List.replicate 8 .no) M = .next ds2 M' ∧ killD [1, 2, 3, 4, 5, 6, 7, 8] ds2 = .fz (.scr ns) :: .no :: List.replicate 8 .no := by
  have hlim : LIM = 1000000 := rfl
  obtain ⟨M1, e1, b1, _⟩ := bag_ok (ns := ns) (M := M) k0 k1
  generalize M.length = n at *
  obtain ⟨W, M2, e2, m2, b2, _⟩ := of_ints (l := [4, 12, 60, 1000]) b1 (by simp) (by simp)
  simp only [List.map_cons, List.map_nil] at e2
  simp at m2
  obtain ⟨c, M3, e3, hc, b3, _⟩ := t_content (a := 1) (B := 7) (W := W) b2 (by decide) (by omega) (by omega) (by omega) (by omega)
  have e3 : f__law_content [.ref n, .int 1, .int 7, .int W] M2 = .ok (c.d, .fz) M3 := e3
  have hC : CoOk 1000 1 16 c := hc.up (by omega) (by omega)
  have hl : c.ls.length ≤ 8 := by have := hc.lb; omega
  let I : Nat → List Sl → MS → Prop := fun i ds M' => (∃ x5 x6 x7 x8, ds = [.fz (.scr ns), .fz (.int kk), .fz (.ref n), .fz c.d, .no, x5, x6, x7, x8, .no] ∧ (0 < i → ∃ cols, x5 = .fz (.int cols) ∧ 1 ≤ cols ∧ cols ≤ 6)) ∧ Bag M' n
  obtain ⟨ds5, M5, f5, ⟨x5, x6, x7, x8, rfl, hx5⟩, b5⟩ := for_ok (f := exec g_law_k03 b_law_k03_0) (tg := .nm 4) (kl := [4]) I (mp D.int (irange 0 4)) 0
    [.fz (.scr ns), .fz (.int kk), .fz (.ref n), .fz c.d, .no, .no, .no, .no, .no, .no] M3 ⟨⟨_, _, _, _, rfl, fun h => by omega⟩, b3⟩ fun i x ds M' hx ⟨⟨x5, x6, x7, x8, e, _⟩, hB⟩ => by
      subst e
      obtain ⟨cols, d6, d7, d8, M6, q1, q2, q3, q4⟩ := k03_turn ns (.int kk) x x5 x6 x7 x8 hC hl hB
      exact ⟨_, _, M6, rfl, .inl q1, ⟨.fz (.int cols), d6, d7, d8, rfl, fun _ => ⟨cols, rfl, q2, q3⟩⟩, q4⟩
  obtain ⟨cols, rfl, hc0, hc1⟩ := hx5 (by rw [mp_len, irange_len]; decide)
  have f5 : forL (bindT (.nm 4)) (exec g_law_k03 b_law_k03_0) [4] (mp D.int (irange 0 4)) [.fz (.scr ns), .fz (.int kk), .fz (.ref n), .fz c.d, .no, .no, .no, .no, .no, .no] M3 = _ := f5
  refine ⟨[.fz (.scr ns), .fz (.int kk), .fz (.ref n), .fz c.d, .no, .fz (.int cols), x6, x7, x8, .no], M5, ?_, rfl⟩
  have i4 : inB 4 = true := inB_of (by decide) (by decide)
  have pn := t_need (M := M5) (sz := 0) hC hc0 hc1 (by decide) (by decide)
  have tn := t_law_need (M := M5) (sz := 0) hC hl hc0 hc1
  unfold b_law_k03_1
  simp [e1, lLst, anyBo, LIM, e2, e3, w_rF1 i4]
  rw [f5]
  simp [pn, tn]
theorem math_law_k03 : ∀ ns : List Int, ns.length ≤ 63 → ∃ (k : Kd) (M : MS), f_law_k03 [.scr ns] [] = .ok (.bl true, k) M := fun ns _ =>
  main_ok (G := g_law_k03) (N := 8) (a := 5) (b := 14) (kl := [1, 2, 3, 4, 5, 6, 7, 8]) (body := b_law_k03_1) (by decide) (by decide) (by decide) (by decide) ns fun z M h0 h1 => k03_outer ns z h0 h1
end
end LW
end
section
set_option linter.all false
set_option maxRecDepth 100000
set_option maxHeartbeats 1000000
set_option autoImplicit false
namespace LW
open PL
section
theorem cut_eq {α : Type} {xs : List α} {a b : Int} (h0 : 0 ≤ a) (h1 : a ≤ b) (h2 : b ≤ xs.length) : cutL xs (some a) (some b) = (xs.drop a.toNat).take (b - a).toNat := by
  unfold cutL HT.sIx
  simp only
  rw [if_neg (by omega), if_neg (by omega), show min a.toNat xs.length = a.toNat by omega, show min b.toNat xs.length = b.toNat by omega]
  congr 1
  omega
theorem cut_split {α : Type} {xs : List α} {a b d : Int} (h0 : 0 ≤ a) (h1 : a ≤ b) (h2 : b ≤ d) (h3 : d ≤ xs.length) : cutL xs (some a) (some d) = cutL xs (some a) (some b) ++ cutL xs (some b) (some d) := by
  rw [cut_eq h0 (by omega) h3, cut_eq h0 h1 (by omega), cut_eq (by omega) h2 h3]
  have e : (d - a).toNat = (b - a).toNat + (d - b).toNat := by omega
  rw [e, List.take_add, List.drop_drop]
  congr 3
  omega
theorem sum_nonneg {α : Type} {f : α → Int} {L : List α} (h : ∀ l ∈ L, 0 ≤ f l) : 0 ≤ (L.map f).sum := by
  induction L with
  | nil => simp
  | cons a L ih =>
    rw [List.map_cons, List.sum_cons]
    have := h a List.mem_cons_self
    have := ih fun l hl => h l (List.mem_cons_of_mem _ hl)
    omega
/-- lines as they may stand -/
def Pos (s : List Ln) : Prop := ∀ l ∈ s, (∀ v, l.h = some v → 0 ≤ v) ∧ 0 ≤ l.s ∧ 0 ≤ l.n
theorem hiL_app {r x : Int} {s t : List Ln} (hs : Pos s) (ht : Pos t) (hr : 0 ≤ r) (hx : 0 ≤ x) : hiL r x s ≤ hiL r x (s ++ t) ∧ hiL r x t ≤ hiL r x (s ++ t) := by
  have lhp : ∀ {u : List Ln}, Pos u → 0 ≤ (u.map (lh x)).sum := fun hu => sum_nonneg fun l hl => by
    unfold lh
    cases e : l.h with
    | none => simpa using hx
    | some v => have := (hu l hl).1 v e; simpa using this
  have np : ∀ {u : List Ln}, Pos u → 0 ≤ nS u := fun hu => sum_nonneg fun l hl => (hu l hl).2.2
  have sp : ∀ {u : List Ln}, Pos u → 0 ≤ (u.map Ln.s).sum := fun hu => sum_nonneg fun l hl => (hu l hl).2.1
  have sd : ∀ {u : List Ln}, Pos u → 0 ≤ sS u ∧ sS u ≤ (u.map Ln.s).sum := fun {u} hu => by
    unfold sS
    rw [cut_none]
    have h1 : Pos u.dropLast := fun l hl => hu l (List.dropLast_subset _ hl)
    refine ⟨sp h1, ?_⟩
    by_cases e : u = []
    · rw [e]; simp
    · have e2 : u = u.dropLast ++ [u.getLast e] := (List.dropLast_concat_getLast e).symm
      have := (hu _ (List.getLast_mem e)).2.1
      have e3 : (u.map Ln.s).sum = (u.dropLast.map Ln.s).sum + (u.getLast e).s := by
        conv => lhs; rw [e2]
        rw [List.map_append, List.sum_append]; simp
      omega
  have e1 : ((s ++ t).map (lh x)).sum = (s.map (lh x)).sum + (t.map (lh x)).sum := by rw [List.map_append, List.sum_append]
  have e2 : nS (s ++ t) = nS s + nS t := by unfold nS; rw [List.map_append, List.sum_append]
  have e3 : t ≠ [] → sS (s ++ t) = (s.map Ln.s).sum + sS t := fun hne => by
    unfold sS
    rw [cut_none, cut_none, List.dropLast_append_of_ne_nil hne, List.map_append, List.sum_append]
  have a1 := lhp hs
  have a2 := lhp ht
  have a3 := np hs
  have a4 := np ht
  have a5 := sd hs
  have a6 := sd ht
  have a7 := sp hs
  unfold hiL
  by_cases hne : t = []
  · subst hne
    rw [List.append_nil]
    refine ⟨Int.le_refl _, ?_⟩
    have z1 : nS ([] : List Ln) = 0 := rfl
    have z2 : sS ([] : List Ln) = 0 := rfl
    rw [z1, z2]
    simp only [List.map_nil, List.sum_nil]
    split <;> split <;> omega
  · rw [e1, e2, e3 hne]
    constructor
    · split <;> split <;> omega
    · split <;> split <;> omega
theorem CoOk.pos {w : Int} {a b : Nat} {c : Co} (h : CoOk w a b c) : Pos c.ls := fun l hl => ⟨fun v e => by have := ((h.ls l hl).h v e).1; omega, (h.ls l hl).s0, (h.ls l hl).n0⟩
theorem Pos.cut {ls : List Ln} (h : Pos ls) (a b : Option Int) : Pos (cutL ls a b) := fun l hl => h l (cut_sub hl)
/-- a part of a column is no higher -/
theorem colH_mono {w : Int} {x y : Nat} {c : Co} (h : CoOk w x y c) {sz : Int} (hz : 0 ≤ sz) {a a' b b' : Int} (h0 : 0 ≤ a) (h1 : a ≤ a') (h2 : a' ≤ b) (h3 : b ≤ b') (h4 : b' ≤ c.ls.length) : colH c sz (a', b) ≤ colH c sz (a, b') := by
  unfold colH
  rw [← hiL_eq, ← hiL_eq]
  show hiL c.r sz (cutL c.ls (some a') (some b)) ≤ hiL c.r sz (cutL c.ls (some a) (some b'))
  rw [cut_split h0 h1 (show a' ≤ b' by omega) h4, cut_split (show 0 ≤ a' by omega) h2 h3 h4]
  have p := h.pos
  have q1 := (hiL_app (r := c.r) (x := sz) (p.cut (some a') (some b)) (p.cut (some b) (some b')) h.r0 hz).1
  have q2 := (hiL_app (r := c.r) (x := sz) (s := cutL c.ls (some a) (some a')) (t := cutL c.ls (some a') (some b) ++ cutL c.ls (some b) (some b')) (p.cut _ _) (fun l hl => by
    rcases List.mem_append.mp hl with z | z
    · exact p.cut _ _ l z
    · exact p.cut _ _ l z) h.r0 hz).2
  omega
end
structure Grow (B : List Int) (h : Int × Int → Int) (n : Int) : Prop where
  inc : B.Pairwise (· < ·)
  pos : ∀ e ∈ B, 0 < e ∧ e < n
  n0 : 0 < n
  mono : ∀ a a' b b' : Int, 0 ≤ a → a ≤ a' → a' < b → b ≤ b' → b' ≤ n → h (a', b) ≤ h (a, b')
theorem grow_co {w : Int} {x y : Nat} {c : Co} (h : CoOk w (x + 1) y c) {sz : Int} (hz : 0 ≤ sz) : Grow (brk c.ls) (colH c sz) c.ls.length :=
  ⟨brk_inc c.ls, fun e he => by have := brk_mem he; omega, by have := h.la; omega, fun a a' b b' h0 h1 h2 h3 h4 => colH_mono h hz h0 h1 (by omega) h3 h4⟩
section
variable {B : List Int} {h : Int × Int → Int} {n : Int}
/-- k + 1 columns of this height hold the lines from p on -/
def Feas (B : List Int) (h : Int × Int → Int) (n H : Int) (k : Nat) (p : Int) : Prop := Fv B h n k p ≤ H
theorem feas0 {H p : Int} : Feas B h n H 0 p ↔ h (p, n) ≤ H := Iff.rfl
theorem feasS {H p : Int} {k : Nat} : Feas B h n H (k + 1) p ↔ h (p, n) ≤ H ∨ ∃ e ∈ Bp B p, h (p, e) ≤ H ∧ Feas B h n H k e := by
  unfold Feas
  show (Bp B p).foldl (fun b e => min b (max (h (p, e)) (Fv B h n k e))) (h (p, n)) ≤ H ↔ _
  rw [foldl_min_le (fun e => max (h (p, e)) (Fv B h n k e))]
  refine or_congr Iff.rfl (exists_congr fun e => and_congr Iff.rfl ?_)
  exact Int.max_le
theorem Bp_mem {p e : Int} : e ∈ Bp B p ↔ e ∈ B ∧ p < e := by unfold Bp; rw [List.mem_filter]; simp
theorem feas_up {H : Int} : ∀ {k : Nat} {p : Int}, Feas B h n H k p → Feas B h n H (k + 1) p
  | 0, p, f => feasS.mpr (.inl f)
  | k + 1, p, f => by
    rcases feasS.mp f with q | ⟨e, he, q1, q2⟩
    · exact feasS.mpr (.inl q)
    · exact feasS.mpr (.inr ⟨e, he, q1, feas_up q2⟩)
theorem feas_le {H : Int} {k j : Nat} {p : Int} (hkj : k ≤ j) (f : Feas B h n H k p) : Feas B h n H j p := by
  induction hkj with
  | refl => exact f
  | step _ ih => exact feas_up ih
/-- from a later place it is easier -/
theorem feas_later (g : Grow B h n) {H : Int} : ∀ {k : Nat} {p p' : Int}, 0 ≤ p → p ≤ p' → p' < n → Feas B h n H k p → Feas B h n H k p'
  | 0, p, p', h0, h1, h2, f => feas0.mpr (Int.le_trans (g.mono p p' n n h0 h1 h2 (Int.le_refl _) (Int.le_refl _)) (feas0.mp f))
  | k + 1, p, p', h0, h1, h2, f => by
    rcases feasS.mp f with q | ⟨e, he, q1, q2⟩
    · exact feasS.mpr (.inl (Int.le_trans (g.mono p p' n n h0 h1 h2 (Int.le_refl _) (Int.le_refl _)) q))
    · obtain ⟨he1, he2⟩ := Bp_mem.mp he
      have hen := (g.pos e he1).2
      by_cases hlt : p' < e
      · exact feasS.mpr (.inr ⟨e, Bp_mem.mpr ⟨he1, hlt⟩, Int.le_trans (g.mono p p' e e h0 h1 hlt (Int.le_refl _) (by omega)) q1, q2⟩)
      · exact feas_up (feas_later g (show 0 ≤ e by omega) (by omega) h2 q2)
/-- the last break ahead of e, or 0 -/
def behind (B : List Int) (e : Int) : Int := (B.filter fun z => decide (z < e)).getLast?.getD 0
theorem behind_ge (hinc : B.Pairwise (· < ·)) {e z : Int} (hz : z ∈ B) (hze : z < e) : z ≤ behind B e := by
  unfold behind
  have hm : z ∈ B.filter fun z => decide (z < e) := List.mem_filter.mpr ⟨hz, by simpa using hze⟩
  have hp : (B.filter fun z => decide (z < e)).Pairwise (· < ·) := hinc.filter _
  generalize B.filter (fun z => decide (z < e)) = L at *
  have hne : L ≠ [] := fun q => by rw [q] at hm; simp at hm
  rw [List.getLast?_eq_some_getLast hne]
  show z ≤ L.getLast hne
  have e2 : L = L.dropLast ++ [L.getLast hne] := (List.dropLast_concat_getLast hne).symm
  rw [e2] at hm hp
  rcases List.mem_append.mp hm with q | q
  · have := (List.pairwise_append.mp hp).2.2 z q _ (List.mem_singleton.mpr rfl); omega
  · have : z = L.getLast hne := by simpa using q
    omega
theorem behind_is {e : Int} : behind B e = 0 ∨ (behind B e ∈ B ∧ behind B e < e) := by
  unfold behind
  cases hL : (B.filter fun z => decide (z < e)).getLast? with
  | none => exact .inl rfl
  | some z =>
    have := List.mem_of_getLast? hL
    rw [List.mem_filter] at this
    exact .inr ⟨this.1, by simpa using this.2⟩
/-- the ends of a bar from p on -/
def barOk (B : List Int) (h : Int × Int → Int) (n H : Int) : Int → List Int → Prop
  | _, [] => True
  | p, e :: es => (e ∈ B ∨ e = n) ∧ p < e ∧ H < h (p, e) ∧ barOk B h n H (behind B e) es
/-- where there is a bar, nothing fits -/
theorem bar_no (g : Grow B h n) {H : Int} : ∀ {es : List Int} {k : Nat} {p : Int}, 0 ≤ p → es.length = k + 1 → barOk B h n H p es → ¬ Feas B h n H k p
  | [], k, p, _, hl, _, _ => by simp at hl
  | e :: es, 0, p, h0, hl, ⟨h1, h2, h3, _⟩, f => by
    have hen : e ≤ n := h1.elim (fun q => Int.le_of_lt (g.pos e q).2) fun q => by omega
    have := g.mono p p e n h0 (Int.le_refl _) h2 hen (Int.le_refl _)
    have := feas0.mp f
    omega
  | e :: es, k + 1, p, h0, hl, ⟨h1, h2, h3, h4⟩, f => by
    have hen : e ≤ n := h1.elim (fun q => Int.le_of_lt (g.pos e q).2) fun q => by omega
    rcases feasS.mp f with q | ⟨z, hz, q1, q2⟩
    · have := g.mono p p e n h0 (Int.le_refl _) h2 hen (Int.le_refl _)
      omega
    · obtain ⟨hz1, hz2⟩ := Bp_mem.mp hz
      have hze : z < e := by
        by_cases hq : z < e
        · exact hq
        · have := g.mono p p e z h0 (Int.le_refl _) h2 (by omega) (by have := (g.pos z hz1).2; omega)
          omega
      have hb := behind_ge g.inc hz1 hze
      have hb0 := (g.pos z hz1).1
      have hbn : behind B e < n := (behind_is (B := B) (e := e)).elim (fun q => by rw [q]; exact g.n0) fun q => (g.pos _ q.1).2
      exact bar_no g (by omega) (by simpa using hl) h4 (feas_later g (by omega) hb hbn q2)
/-- the first end that is too high -/
def highs (B : List Int) (h : Int × Int → Int) (n H p : Int) : List Int := (Bp B p ++ [n]).filter fun e => decide (H < h (p, e))
/-- a bar, or none -/
def barV (B : List Int) (h : Int × Int → Int) (n H : Int) : Nat → Int → Option (List Int)
  | 0, _ => some []
  | k + 1, p => match highs B h n H p with
    | [] => none
    | e :: _ => (barV B h n H k (behind B e)).map (e :: ·)
theorem high_head {H p e : Int} {L : List Int} (hh : highs B h n H p = e :: L) : (e ∈ Bp B p ∨ e = n) ∧ H < h (p, e) := by
  have : e ∈ highs B h n H p := by rw [hh]; exact List.mem_cons_self
  unfold highs at this
  rw [List.mem_filter] at this
  exact ⟨(List.mem_append.mp this.1).imp id fun q => by simpa using q, by simpa using this.2⟩
/-- what is ahead of the first high end is not -/
theorem high_first (g : Grow B h n) {H p e : Int} {L : List Int} (hh : highs B h n H p = e :: L) {z : Int} (hz : z ∈ Bp B p) (hze : z < e) : h (p, z) ≤ H := by
  by_cases hq : H < h (p, z)
  · have hs : (Bp B p ++ [n]).Pairwise (· < ·) := by
      rw [List.pairwise_append]
      exact ⟨g.inc.filter _, by simp, fun a ha b hb => by
        have := (g.pos a (Bp_mem.mp ha).1).2
        have : b = n := by simpa using hb
        omega⟩
    have hp : (highs B h n H p).Pairwise (· < ·) := hs.filter _
    have hm : z ∈ highs B h n H p := by
      unfold highs
      rw [List.mem_filter]
      exact ⟨List.mem_append_left _ hz, by simpa using hq⟩
    rw [hh] at hp hm
    rcases List.mem_cons.mp hm with q | q
    · omega
    · have := (List.pairwise_cons.mp hp).1 z q; omega
  · omega
theorem barV_ok (g : Grow B h n) {H : Int} : ∀ {k : Nat} {p : Int}, 0 ≤ p → p < n → match barV B h n H k p with
    | none => ∃ j, k = j + 1 ∧ Feas B h n H j p
    | some es => es.length = k ∧ barOk B h n H p es
  | 0, p, h0, hn => ⟨rfl, trivial⟩
  | k + 1, p, h0, hn => by
    unfold barV
    cases hh : highs B h n H p with
    | nil =>
      refine ⟨k, rfl, feas_le (Nat.zero_le k) (feas0.mpr ?_)⟩
      by_cases hq : H < h (p, n)
      · have : n ∈ highs B h n H p := by
          unfold highs
          rw [List.mem_filter]
          exact ⟨List.mem_append_right _ (List.mem_singleton.mpr rfl), by simpa using hq⟩
        rw [hh] at this; simp at this
      · omega
    | cons e L =>
      obtain ⟨h1, h2⟩ := high_head hh
      have hpe : p < e := h1.elim (fun q => (Bp_mem.mp q).2) fun q => by omega
      have hen : e ≤ n := h1.elim (fun q => Int.le_of_lt (g.pos e (Bp_mem.mp q).1).2) fun q => by omega
      have heB : e ∈ B ∨ e = n := h1.imp (fun q => (Bp_mem.mp q).1) id
      have hb0 : 0 ≤ behind B e := (behind_is (B := B) (e := e)).elim (fun q => by omega) fun q => Int.le_of_lt (g.pos _ q.1).1
      have hbn : behind B e < n := (behind_is (B := B) (e := e)).elim (fun q => by rw [q]; exact g.n0) fun q => (g.pos _ q.1).2
      have ih := barV_ok g (H := H) (k := k) hb0 hbn
      dsimp only
      cases hb : barV B h n H k (behind B e) with
      | some es =>
        rw [hb] at ih
        exact ⟨by simp [ih.1], heB, hpe, h2, ih.2⟩
      | none =>
        rw [hb] at ih
        obtain ⟨j, rfl, f⟩ := ih
        refine ⟨j + 1, rfl, ?_⟩
        by_cases hlt : p < behind B e
        · have hbB : behind B e ∈ B ∧ behind B e < e := (behind_is (B := B) (e := e)).elim (fun q => by omega) id
          exact feasS.mpr (.inr ⟨behind B e, Bp_mem.mpr ⟨hbB.1, hlt⟩, high_first g hh (Bp_mem.mpr ⟨hbB.1, hlt⟩) hbB.2, f⟩)
        · exact feas_up (feas_later g hb0 (by omega) hn f)
end
end LW
end
section
set_option linter.all false
set_option maxRecDepth 100000
set_option maxHeartbeats 1000000
set_option autoImplicit false
namespace LW
open PL
section
variable {M : MS} {k k' : Kd}
theorem mem_intsL {z : Int} {L : List Int} : lCmp2 .mem (.int z, k) (LL D.int L, k') M = .ok (.bl (decide (z ∈ L)), .fz) M := mem_ints
theorem nmem_intsL {z : Int} {L : List Int} : lCmp2 .nmem (.int z, k) (LL D.int L, k') M = .ok (.bl (!decide (z ∈ L)), .fz) M := by
  have h := mem_ints (z := z) (L := L) (k := k) (k' := k') (M := M)
  unfold lCmp2 at h ⊢
  simp only [oCmp] at h ⊢
  have e : (LL D.int L) = .lst (L.map D.int) := rfl
  rw [e]
  cases q : oMem M (.int z) (.lst (L.map D.int)) with
  | none => rw [q] at h; simp [R.of] at h
  | some b =>
    rw [q] at h
    simp [R.of] at h
    simp [R.of, h]
theorem t_height_of {c : Co} {a b sz : Int} (hl : c.ls.length ≤ 1000) : f_height_of [c.d, .int a, .int b, .int sz] M = .ok (.int (colH c sz (a, b)), .fz) M := by
  have e := pc_le (cutL c.ls (some a) (some b))
  have e2 := cut_le c.ls (some a) (some b)
  refine run_ok rfl ?_
  unfold c_height_of
  simp [stretch_ok hl, mul_small (i := (pc (cutL c.ls (some a) (some b)) : Int)) (j := sz) (by omega) (by omega)]
  rfl
theorem fold_behind {B : List Int} {e : Int} : ∀ (b : Int), B.foldl (fun f z => if z < e then z else f) b = ((B.filter fun z => decide (z < e)).getLast?).getD b := by
  induction B with
  | nil => intro b; rfl
  | cons a B ih =>
    intro b
    rw [List.foldl_cons, List.filter_cons, ih]
    by_cases q : a < e
    · simp only [q, decide_true, if_true]
      rw [List.getLast?_cons]
      simp
    · simp [q]
theorem t_begin_behind {c : Co} {e : Int} (h1 : 1 ≤ c.ls.length) (h2 : c.ls.length ≤ 1000) : f_begin_behind [c.d, .int e] M = .ok (.int (behind (brk c.ls) e), .fz) M := by
  have z := (for_fold (M := M) (f := D.int) (tg := .nm 3) (kl := [3]) (body := exec g_begin_behind b_begin_behind_0)
    (fun f : Int => [.fz c.d, .fz (.int e), .fz (.int f), .no]) (fun f z => if z < e then z else f) (fun _ => True) (brk c.ls) 0 trivial fun f z _ _ => ⟨trivial, _, [.fz c.d, .fz (.int e), .fz (.int (if z < e then z else f)), .fz (.int z)], rfl, by
      unfold b_begin_behind_0
      by_cases q : z < e <;> simp [q], by simp⟩).1
  rw [fold_behind] at z
  refine run_ok rfl ?_
  unfold c_begin_behind
  simp [t_breaks_of h1 h2]
  have z : forL (bindT (.nm 3)) (exec g_begin_behind b_begin_behind_0) [3] (mp D.int (brk c.ls)) [.fz c.d, .fz (.int e), .fz (.int 0), .no] M = _ := z
  have e3 : ((brk c.ls).filter fun z => decide (z < e)).getLast?.getD 0 = behind (brk c.ls) e := rfl
  rw [e3] at z
  rw [z]
  simp
/-- a height -/
theorem t_need_height {s : Int} (h0 : 0 ≤ s) (h1 : s ≤ 10000000) : f_need_height [.int s] M = .ok (.non, .fz) M := by
  refine run_none (ds := [.fz (.int s)]) rfl ?_
  unfold c_need_height
  simp [isi_int, h0, h1]
/-- a loop that may return, with a count -/
theorem for_retI {α : Type} {f : α → D} {tg : TGt} {body : List Sl → MS → Out} {kl : List Nat} {σ : Type} (st : σ → List Sl) (step : σ → α → Except RV σ) (I : Nat → σ → Prop) (N : Nat) : ∀ (L : List α) (n : Nat) (b : σ), L.length + n ≤ N → I n b →
    (∀ (n : Nat) (b : σ) (a : α), n < N → a ∈ L → I n b → ∃ ds1, bindT tg (f a) (st b) = some ds1 ∧ match step b a with
      | .ok b' => I (n + 1) b' ∧ ∃ ds2, body ds1 M = .next ds2 M ∧ killD kl ds2 = st b'
      | .error v => body ds1 M = .ret v M) →
    match runS step L b with
      | .ok b' => forL (bindT tg) body kl (mp f L) (st b) M = .next (st b') M
      | .error v => forL (bindT tg) body kl (mp f L) (st b) M = .ret v M
  | [], n, b, _, hb, _ => rfl
  | a :: L, n, b, hN, hb, h => by
    have hN' : L.length + 1 + n ≤ N := by simpa using hN
    obtain ⟨ds1, h1, h2⟩ := h n b a (by omega) List.mem_cons_self hb
    have e0 : mp f (a :: L) = f a :: mp f L := rfl
    rw [e0]
    unfold runS
    cases hs : step b a with
    | error v =>
      rw [hs] at h2
      simp only [forL, h1, h2]
    | ok b' =>
      rw [hs] at h2
      obtain ⟨i, ds2, h3, h4⟩ := h2
      have ih := for_retI st step I N L (n + 1) b' (by omega) i fun n b a' hn ha => h n b a' hn (List.mem_cons_of_mem _ ha)
      simp only [forL, h1, h3, h4]
      exact ih
def barE (H : Int) (B : List Int) (h : Int × Int → Int) (n : Int) (s : List Int × Int) (_ : Int) : Except RV (List Int × Int) :=
  match highs B h n H s.2 with
  | [] => .error (.non, .fz)
  | e :: _ => .ok (s.1 ++ [e], behind B e)
def obD : Option (List Int) → D
  | none => .non
  | some l => TL D.int l
theorem barE_run {H : Int} {B : List Int} {h : Int × Int → Int} {n : Int} : ∀ (L : List Int) (f : List Int) (p : Int), match runS (barE H B h n) L (f, p) with
    | .ok s => ∃ es, barV B h n H L.length p = some es ∧ s.1 = f ++ es
    | .error v => v = (.non, .fz) ∧ barV B h n H L.length p = none
  | [], f, p => ⟨[], rfl, by simp⟩
  | a :: L, f, p => by
    rw [List.length_cons]
    cases hh : highs B h n H p with
    | nil =>
      have e1 : runS (barE H B h n) (a :: L) (f, p) = .error (.non, .fz) := by
        unfold runS
        have : barE H B h n (f, p) a = .error (.non, .fz) := by unfold barE; simp only [hh]
        rw [this]
      have e2 : barV B h n H (L.length + 1) p = none := by unfold barV; rw [hh]
      rw [e1, e2]
      exact ⟨rfl, rfl⟩
    | cons e es =>
      have ih := barE_run (H := H) (B := B) (h := h) (n := n) L (f ++ [e]) (behind B e)
      have e1 : runS (barE H B h n) (a :: L) (f, p) = runS (barE H B h n) L (f ++ [e], behind B e) := by
        conv => lhs; unfold runS
        have : barE H B h n (f, p) a = .ok (f ++ [e], behind B e) := by unfold barE; simp only [hh]
        rw [this]
      have e2 : barV B h n H (L.length + 1) p = (barV B h n H L.length (behind B e)).map (e :: ·) := by conv => lhs; unfold barV; rw [hh]
      rw [e1, e2]
      cases q : runS (barE H B h n) L (f ++ [e], behind B e) with
      | ok s =>
        rw [q] at ih
        obtain ⟨es2, h1, h2⟩ := ih
        exact ⟨e :: es2, by rw [h1]; rfl, by rw [h2]; simp⟩
      | error v =>
        rw [q] at ih
        exact ⟨ih.1, by rw [ih.2]; rfl⟩
theorem eq_nilI {L : List Int} : lCmp2 .eq (LL D.int L, k) (.lst [], k') M = .ok (.bl L.isEmpty, .fz) M := by
  have h := eq_nilL (M := M) (k := k) (k' := k') (f := D.int) (L := L) (n := 0) (dep_int 11)
  unfold lCmp2 at h ⊢
  simp only [oCmp] at h ⊢
  cases q : oEq M (LL D.int L) (.lst []) with
  | none => rw [q] at h; simp [R.of] at h
  | some b =>
    rw [q] at h
    simp [R.of] at h
    simp [R.of, h]
theorem t_bar {c : Co} {cols H sz : Int} (h : CoOk 1000 1 16 c) (hc0 : 1 ≤ cols) (hc1 : cols ≤ 6) (hH0 : 0 ≤ H) (hH1 : H ≤ 10000000) (h0 : 0 ≤ sz) (h1 : sz ≤ 1000000) :
    f_bar [c.d, .int cols, .int H, .int sz] M = .ok (obD (barV (brk c.ls) (colH c sz) c.ls.length H cols.toNat 0), .fz) M := by
  have hla := h.la
  have hlb := h.lb
  have hbl := brk_len c.ls
  have hlim : LIM = 1000000 := rfl
  have hil : (irange 0 cols).length = cols.toNat := by rw [irange_len]; simp
  have z := for_retI (M := M) (f := D.int) (tg := .nm 6) (kl := [6, 7, 8]) (body := exec g_bar b_bar_0)
    (fun s : List Int × Int => [.fz c.d, .fz (.int cols), .fz (.int H), .fz (.int sz), .fz (TL D.int s.1), .fz (.int s.2), .no, .no, .no, .no, .no]) (barE H (brk c.ls) (colH c sz) c.ls.length) (fun n s => s.1.length = n) 6 (irange 0 cols) 0 ([], 0) (by omega) rfl fun n s a hn ha hI => by
      obtain ⟨f, p⟩ := s
      have hI : f.length = n := hI
      refine ⟨_, rfl, ?_⟩
      have hbi : ∀ M, f_breaks_of [TL Ln.d c.ls] M = .ok (LL D.int (brk c.ls), .fr) M := fun M => t_breaks_of hla (by omega)
      have hb : ∀ e M, f_begin_behind [c.d, .int e] M = .ok (.int (behind (brk c.ls) e), .fz) M := fun e M => t_begin_behind hla (by omega)
      have hh : ∀ a b M, f_height_of [c.d, .int a, .int b, .int sz] M = .ok (.int (colH c sz (a, b)), .fz) M := fun a b M => t_height_of (by omega)
      have hbp : (Bp (brk c.ls) p).length ≤ 16 := by
        unfold Bp
        have := List.length_filter_le (fun e => decide (p < e)) (brk c.ls)
        omega
      have hll : (Bp (brk c.ls) p ++ [(c.ls.length : Int)]).length ≤ 17 := by
        simp; omega
      have eB : (brk c.ls).filter (fun e => decide (p < e)) = Bp (brk c.ls) p := rfl
      have eH : (Bp (brk c.ls) p ++ [(c.ls.length : Int)]).filter (fun e => decide (H < colH c sz (p, e))) = highs (brk c.ls) (colH c sz) c.ls.length H p := rfl
      cases hq : highs (brk c.ls) (colH c sz) c.ls.length H p with
      | nil =>
        have e1 : barE H (brk c.ls) (colH c sz) c.ls.length (f, p) a = .error (.non, .fz) := by unfold barE; simp only [hq]
        rw [e1]
        unfold b_bar_0
        simp [hbi]
        rw [lcF (fun _ => rfl) (fun e => decide (p < e)) D.int (by omega) fun e _ => ⟨by simp, fun _ => ⟨.fz, by simp, by simp⟩⟩]
        rw [eB]
        simp
        rw [w_addL1 (by omega)]
        simp
        rw [lcF (fun _ => rfl) (fun e => decide (H < colH c sz (p, e))) D.int (by omega) fun e _ => ⟨by simp [hh], fun _ => ⟨.fz, by simp, by simp⟩⟩]
        rw [eH, hq]
        simp [eq_nilI]
      | cons e es =>
        have e1 : barE H (brk c.ls) (colH c sz) c.ls.length (f, p) a = .ok (f ++ [e], behind (brk c.ls) e) := by unfold barE; simp only [hq]
        rw [e1]
        refine ⟨by simp [hI], [.fz c.d, .fz (.int cols), .fz (.int H), .fz (.int sz), .fz (TL D.int (f ++ [e])), .fz (.int (behind (brk c.ls) e)), .fz (.int a), .fz (LL D.int (Bp (brk c.ls) p ++ [(c.ls.length : Int)])), .fz (LL D.int (e :: es)), .no, .no], ?_, by simp⟩
        unfold b_bar_0
        simp [hbi]
        rw [lcF (fun _ => rfl) (fun e => decide (p < e)) D.int (by omega) fun e _ => ⟨by simp, fun _ => ⟨.fz, by simp, by simp⟩⟩]
        rw [eB]
        simp
        rw [w_addL1 (by omega)]
        simp
        rw [lcF (fun _ => rfl) (fun e => decide (H < colH c sz (p, e))) D.int (by omega) fun e _ => ⟨by simp [hh], fun _ => ⟨.fz, by simp, by simp⟩⟩]
        rw [eH, hq]
        have i0 : ∀ k k', lIdx2 (LL D.int (e :: es), k) (.int 0, k') M = .ok (.int e, .fz) M := fun k k' => w_idxL (a := e) (by decide) rfl
        have ad : ∀ k k', lBin2 .add (TL D.int f, k) (.tup [.int e], k') M = .ok (TL D.int (f ++ [e]), .fz) M := fun k k' => w_addT1 (by omega)
        simp [eq_nilI, i0, ad, hb]
  have b := barE_run (H := H) (B := brk c.ls) (h := colH c sz) (n := c.ls.length) (irange 0 cols) [] 0
  rw [hil] at b
  refine run_ok rfl ?_
  unfold c_bar
  simp [t_need_content h, t_need_columns hc0 hc1, t_need_size h0 h1, t_need_height hH0 hH1, w_rF1 (inB_of (show -1000000000 ≤ cols by omega) (show cols ≤ 1000000000 by omega))]
  cases q : runS (barE H (brk c.ls) (colH c sz) c.ls.length) (irange 0 cols) ([], 0) with
  | ok s =>
    rw [q] at z b
    obtain ⟨es, h1, h2⟩ := b
    have z : forL (bindT (.nm 6)) (exec g_bar b_bar_0) [6, 7, 8] (mp D.int (irange 0 cols)) [.fz c.d, .fz (.int cols), .fz (.int H), .fz (.int sz), .fz (.tup []), .fz (.int 0), .no, .no, .no, .no, .no] M = _ := z
    rw [z, h1]
    simp at h2
    simp [h2, obD]
  | error v =>
    rw [q] at z b
    have z : forL (bindT (.nm 6)) (exec g_bar b_bar_0) [6, 7, 8] (mp D.int (irange 0 cols)) [.fz c.d, .fz (.int cols), .fz (.int H), .fz (.int sz), .fz (.tup []), .fz (.int 0), .no, .no, .no, .no, .no] M = _ := z
    rw [z, b.2, b.1]
    simp [obD]
end
end LW
end
section
set_option linter.all false
set_option maxRecDepth 100000
set_option maxHeartbeats 1000000
set_option autoImplicit false
namespace LW
open PL
section
variable {M : MS} {k k' : Kd}
def isInt1 : D → Bool
  | .int z => decide (1 ≤ z)
  | _ => false
theorem t_is_integer1 (d : D) (hd : (isTy d .int).isSome) : f_is_integer [d, .int 1, .non] M = .ok (.bl (isInt1 d), .fz) M := by
  cases d with
  | int z => exact isi_non z 1
  | dI => simp [isTy] at hd
  | dT => simp [isTy] at hd
  | scr => simp [isTy] at hd
  | _ =>
    refine run_ok rfl ?_
    unfold c_is_integer
    simp [lLc1_ap, kVar, lBi, oBi, oBi1, anyTy, isTy, isInt1]
/-- one end of a bar -/
def barX (B : List Int) (h : Int × Int → Int) (n H p : Int) : D → Except RV Int
  | .int e => if (e ∈ B ++ [n] ∧ p < e) ∧ H < h (p, e) then .ok (behind B e) else .error (.bl false, .fz)
  | _ => .error (.bl false, .fz)
def barB (B : List Int) (h : Int × Int → Int) (n H : Int) (p : Int) (xs : List D) : Bool :=
  match runS (barX B h n H) xs p with
  | .ok _ => true
  | .error _ => false
theorem barX_err {B : List Int} {h : Int × Int → Int} {n H : Int} : ∀ {xs : List D} {p : Int} {v : RV}, runS (barX B h n H) xs p = .error v → v = (.bl false, .fz)
  | [], p, v, e => by simp [runS] at e
  | x :: xs, p, v, e => by
    unfold runS at e
    cases q : barX B h n H p x with
    | ok b => rw [q] at e; exact barX_err e
    | error w =>
      rw [q] at e
      injection e with e
      subst e
      unfold barX at q
      split at q
      · split at q
        · simp at q
        · injection q with q; exact q.symm
      · injection q with q; exact q.symm
theorem t_is_bar {c : Co} {cols H sz : Int} {xs : List D} (h : CoOk 1000 1 16 c) (hx : ∀ d ∈ xs, (isTy d .int).isSome) (hc0 : 1 ≤ cols) (hc1 : cols ≤ 6) (hH0 : 0 ≤ H) (hH1 : H ≤ 10000000) (h0 : 0 ≤ sz) (h1 : sz ≤ 1000000) :
    f_is_bar [c.d, .int cols, .int H, TL id xs, .int sz] M = .ok (.bl (decide ((xs.length : Int) = cols) && barB (brk c.ls) (colH c sz) c.ls.length H 0 xs), .fz) M := by
  have hla := h.la
  have hlb := h.lb
  have hbl := brk_len c.ls
  have hlim : LIM = 1000000 := rfl
  have z := for_ret (M := M) (f := (id : D → D)) (tg := .nm 7) (kl := [7]) (body := exec g_is_bar b_is_bar_0)
    (fun p : Int => [.fz c.d, .fz (.int cols), .fz (.int H), .fz (TL id xs), .fz (.int sz), .fz (LL D.int (brk c.ls ++ [(c.ls.length : Int)])), .fz (.int p), .no]) (barX (brk c.ls) (colH c sz) c.ls.length H) (fun p => 0 ≤ p) xs 0 (by decide) fun p d hd hp => by
      refine ⟨_, rfl, ?_⟩
      have hb : ∀ e M, f_begin_behind [c.d, .int e] M = .ok (.int (behind (brk c.ls) e), .fz) M := fun e M => t_begin_behind hla (by omega)
      have hh : ∀ a b M, f_height_of [c.d, .int a, .int b, .int sz] M = .ok (.int (colH c sz (a, b)), .fz) M := fun a b M => t_height_of (by omega)
      have hi : ∀ M, f_is_integer [d, .int 1, .non] M = .ok (.bl (isInt1 d), .fz) M := fun M => t_is_integer1 d (hx d hd)
      cases d with
      | int e =>
        have e1 : barX (brk c.ls) (colH c sz) c.ls.length H p (.int e) = if (e ∈ brk c.ls ++ [(c.ls.length : Int)] ∧ p < e) ∧ H < colH c sz (p, e) then .ok (behind (brk c.ls) e) else .error (.bl false, .fz) := rfl
        rw [e1]
        unfold b_is_bar_0
        by_cases q2 : p < e
        · have q0 : 1 ≤ e := by omega
          have q2' : ¬ e ≤ p := by omega
          by_cases q1 : e ∈ brk c.ls ++ [(c.ls.length : Int)]
          · by_cases q3 : H < colH c sz (p, e)
            · rw [if_pos ⟨⟨q1, q2⟩, q3⟩]
              have b0 : 0 ≤ behind (brk c.ls) e := (behind_is (B := brk c.ls) (e := e)).elim (fun q => by omega) fun q => by have := (brk_mem q.1).1; omega
              have q3' : ¬ colH c sz (p, e) ≤ H := by omega
              refine ⟨b0, [.fz c.d, .fz (.int cols), .fz (.int H), .fz (TL id xs), .fz (.int sz), .fz (LL D.int (brk c.ls ++ [(c.ls.length : Int)])), .fz (.int (behind (brk c.ls) e)), .fz (.int e)], ?_, by simp⟩
              simp [-List.mem_append, hi, isInt1, q0, nmem_intsL, q1, q2, q2', hh, q3, q3', hb]
            · rw [if_neg fun q => q3 q.2]
              have q3' : colH c sz (p, e) ≤ H := by omega
              simp [-List.mem_append, hi, isInt1, q0, nmem_intsL, q1, q2, q2', hh, q3']
          · rw [if_neg fun q => q1 q.1.1]
            simp [-List.mem_append, hi, isInt1, q0, nmem_intsL, q1]
        · rw [if_neg fun q => q2 q.1.2]
          have q2' : e ≤ p := by omega
          by_cases q0 : 1 ≤ e
          · by_cases q1 : e ∈ brk c.ls ++ [(c.ls.length : Int)]
            · simp [-List.mem_append, hi, isInt1, q0, nmem_intsL, q1, q2']
            · simp [-List.mem_append, hi, isInt1, q0, nmem_intsL, q1]
          · simp [hi, isInt1, q0]
      | _ =>
        show exec g_is_bar b_is_bar_0 _ M = _
        unfold b_is_bar_0
        simp [hi, isInt1]
  refine run_ok rfl ?_
  unfold c_is_bar
  by_cases hn : (xs.length : Int) = cols
  · simp [t_need_content h, t_need_columns hc0 hc1, t_need_size h0 h1, t_need_height hH0 hH1, hn, anyTy, isTy, t_breaks_of hla (show c.ls.length ≤ 1000 by omega)]
    rw [w_addL1 (by omega)]
    simp
    unfold barB
    cases q : runS (barX (brk c.ls) (colH c sz) c.ls.length H) xs 0 with
    | ok p =>
      rw [q] at z
      have z := z.1
      have z : forL (bindT (.nm 7)) (exec g_is_bar b_is_bar_0) [7] (mp id xs) [.fz c.d, .fz (.int cols), .fz (.int H), .fz (TL id xs), .fz (.int sz), .fz (LL D.int (brk c.ls ++ [(c.ls.length : Int)])), .fz (.int 0), .no] M = _ := z
      rw [z]
      simp
    | error v =>
      rw [q] at z
      have z : forL (bindT (.nm 7)) (exec g_is_bar b_is_bar_0) [7] (mp id xs) [.fz c.d, .fz (.int cols), .fz (.int H), .fz (TL id xs), .fz (.int sz), .fz (LL D.int (brk c.ls ++ [(c.ls.length : Int)])), .fz (.int 0), .no] M = _ := z
      rw [z, barX_err q]
      simp
  · simp [t_need_content h, t_need_columns hc0 hc1, t_need_size h0 h1, t_need_height hH0 hH1, hn, anyTy, isTy]
theorem behind_last {B : List Int} {e : Int} : (0 :: B.filter fun z => decide (z < e))[(0 :: B.filter fun z => decide (z < e)).length - 1]? = some (behind B e) := by
  unfold behind
  rw [← List.getLast?_eq_getElem?, List.getLast?_cons]
theorem t_law_is_bar {c : Co} {cols H sz : Int} {xs : List D} (h : CoOk 1000 1 16 c) (hx : ∀ d ∈ xs, (isTy d .int).isSome) :
    f__law_is_bar [c.d, .int cols, .int H, TL id xs, .int sz] M = .ok (.bl (decide ((xs.length : Int) = cols) && barB (brk c.ls) (colH c sz) c.ls.length H 0 xs), .fz) M := by
  have hla := h.la
  have hlb := h.lb
  have hbl := brk_len c.ls
  have hlim : LIM = 1000000 := rfl
  have hn : ∀ l ∈ c.ls, 0 ≤ l.n := fun l hl => (h.ls l hl).n0
  have hlaw : ∀ M, f__law_breaks [c.d] M = .ok (LL D.int (brk c.ls), .fr) M := fun M => t_law_breaks h
  have z := for_ret (M := M) (f := (id : D → D)) (tg := .nm 7) (kl := [7]) (body := exec g__law_is_bar b__law_is_bar_0)
    (fun p : Int => [.fz c.d, .fz (.int cols), .fz (.int H), .fz (TL id xs), .fz (.int sz), .fz (LL D.int (brk c.ls ++ [(c.ls.length : Int)])), .fz (.int p), .no, .no]) (barX (brk c.ls) (colH c sz) c.ls.length H) (fun p => 0 ≤ p) xs 0 (by decide) fun p d hd hp => by
      refine ⟨_, rfl, ?_⟩
      have hh : ∀ a b M, f__law_high [c.d, .int a, .int b, .int sz] M = .ok (.int (colH c sz (a, b)), .fz) M := fun a b M => by
        rw [law_high_ok (by omega) hn, hiL_eq]; rfl
      have hi := hx d hd
      cases d with
      | int e =>
        have ty1 : ∀ k M, lBi (.isi [.int]) [(.int e, k)] M = .ok (.bl true, .fz) M := fun k M => by simp [lBi, oBi, oBi1, anyTy, isTy]
        have ty2 : ∀ k M, lBi (.isi [.bool]) [(.int e, k)] M = .ok (.bl false, .fz) M := fun k M => by simp [lBi, oBi, oBi1, anyTy, isTy]
        have e1 : barX (brk c.ls) (colH c sz) c.ls.length H p (.int e) = if (e ∈ brk c.ls ++ [(c.ls.length : Int)] ∧ p < e) ∧ H < colH c sz (p, e) then .ok (behind (brk c.ls) e) else .error (.bl false, .fz) := rfl
        rw [e1]
        unfold b__law_is_bar_0
        by_cases q2 : p < e
        · have q2' : ¬ e ≤ p := by omega
          by_cases q1 : e ∈ brk c.ls ++ [(c.ls.length : Int)]
          · by_cases q3 : H < colH c sz (p, e)
            · rw [if_pos ⟨⟨q1, q2⟩, q3⟩]
              have b0 : 0 ≤ behind (brk c.ls) e := (behind_is (B := brk c.ls) (e := e)).elim (fun q => by omega) fun q => by have := (brk_mem q.1).1; omega
              have q3' : ¬ colH c sz (p, e) ≤ H := by omega
              refine ⟨b0, [.fz c.d, .fz (.int cols), .fz (.int H), .fz (TL id xs), .fz (.int sz), .fz (LL D.int (brk c.ls ++ [(c.ls.length : Int)])), .fz (.int (behind (brk c.ls) e)), .fz (.int e), .no], ?_, by simp⟩
              simp [-List.mem_append, ty1, ty2, nmem_intsL, q1, q2, q2', hh, q3, q3', hlaw]
              rw [lcF (fun _ => rfl) (fun z => decide (z < e)) D.int (by omega) fun z _ => ⟨by simp, fun _ => ⟨.fz, by simp, by simp⟩⟩]
              have hfl := List.length_filter_le (fun z => decide (z < e)) (brk c.ls)
              simp
              rw [w_add1L (by omega)]
              simp
              rw [w_lastL (a := behind (brk c.ls) e) behind_last]
              simp
            · rw [if_neg fun q => q3 q.2]
              have q3' : colH c sz (p, e) ≤ H := by omega
              simp [-List.mem_append, ty1, ty2, nmem_intsL, q1, q2, q2', hh, q3']
          · rw [if_neg fun q => q1 q.1.1]
            simp [-List.mem_append, ty1, ty2, nmem_intsL, q1]
        · rw [if_neg fun q => q2 q.1.2]
          have q2' : e ≤ p := by omega
          by_cases q1 : e ∈ brk c.ls ++ [(c.ls.length : Int)]
          · simp [-List.mem_append, ty1, ty2, nmem_intsL, q1, q2']
          · simp [-List.mem_append, ty1, ty2, nmem_intsL, q1]
      | dI => simp [isTy] at hi
      | dT => simp [isTy] at hi
      | scr => simp [isTy] at hi
      | _ =>
        show exec g__law_is_bar b__law_is_bar_0 _ M = _
        unfold b__law_is_bar_0
        simp [lBi, oBi, oBi1, anyTy, isTy]
  refine run_ok rfl ?_
  unfold c__law_is_bar
  by_cases hn : (xs.length : Int) = cols
  · simp [hlaw, hn, anyTy, isTy]
    rw [w_addL1 (by omega)]
    simp
    unfold barB
    cases q : runS (barX (brk c.ls) (colH c sz) c.ls.length H) xs 0 with
    | ok p =>
      rw [q] at z
      have z := z.1
      have z : forL (bindT (.nm 7)) (exec g__law_is_bar b__law_is_bar_0) [7] (mp id xs) [.fz c.d, .fz (.int cols), .fz (.int H), .fz (TL id xs), .fz (.int sz), .fz (LL D.int (brk c.ls ++ [(c.ls.length : Int)])), .fz (.int 0), .no, .no] M = _ := z
      rw [z]
      simp
    | error v =>
      rw [q] at z
      have z : forL (bindT (.nm 7)) (exec g__law_is_bar b__law_is_bar_0) [7] (mp id xs) [.fz c.d, .fz (.int cols), .fz (.int H), .fz (TL id xs), .fz (.int sz), .fz (LL D.int (brk c.ls ++ [(c.ls.length : Int)])), .fz (.int 0), .no, .no] M = _ := z
      rw [z, barX_err q]
      simp
  · simp [hn, anyTy, isTy]
end
end LW
end
section
set_option linter.all false
set_option maxRecDepth 100000
set_option maxHeartbeats 2000000
set_option autoImplicit false
namespace LW
open PL
section
variable {M : MS} {k k' : Kd}
theorem barB_ok {B : List Int} {h : Int × Int → Int} {n H : Int} : ∀ {es : List Int} {p : Int}, barB B h n H p (es.map D.int) = true ↔ barOk B h n H p es
  | [], p => by simp [barB, runS, barOk]
  | e :: es, p => by
    have ih := barB_ok (B := B) (h := h) (n := n) (H := H) (es := es) (p := behind B e)
    have e1 : barX B h n H p (.int e) = if (e ∈ B ++ [n] ∧ p < e) ∧ H < h (p, e) then .ok (behind B e) else .error (.bl false, .fz) := rfl
    by_cases q : (e ∈ B ++ [n] ∧ p < e) ∧ H < h (p, e)
    · rw [if_pos q] at e1
      have e2 : barB B h n H p ((e :: es).map D.int) = barB B h n H (behind B e) (es.map D.int) := by
        unfold barB
        rw [List.map_cons]
        conv => lhs; unfold runS
        rw [e1]
      rw [e2, ih]
      have q1 : e ∈ B ∨ e = n := by simpa using q.1.1
      exact ⟨fun z => ⟨q1, q.1.2, q.2, z⟩, fun z => z.2.2.2⟩
    · rw [if_neg q] at e1
      have e2 : barB B h n H p ((e :: es).map D.int) = false := by
        unfold barB
        rw [List.map_cons]
        conv => lhs; unfold runS
        rw [e1]
      rw [e2]
      refine ⟨fun z => by simp at z, fun z => absurd ⟨⟨?_, z.2.1⟩, z.2.2.1⟩ q⟩
      simpa using z.1
theorem sum_le {α : Type} {f : α → Int} {b : Int} {L : List α} (h : ∀ l ∈ L, f l ≤ b) : (L.map f).sum ≤ b * L.length := by
  induction L with
  | nil => simp
  | cons a L ih =>
    rw [List.map_cons, List.sum_cons, List.length_cons]
    have h1 := h a List.mem_cons_self
    have h2 := ih fun l hl => h l (List.mem_cons_of_mem _ hl)
    have h3 : b * ((L.length + 1 : Nat) : Int) = b * L.length + b := by rw [Int.natCast_add, Int.mul_add]; simp
    omega
/-- a column's height is no greater than this -/
theorem colH_le {w : Int} {x y : Nat} {c : Co} (h : CoOk w (x + 1) y c) (hw : w ≤ 1000) (hy : y ≤ 16) {sz : Int} (hz : 0 ≤ sz) (hz1 : sz ≤ 1000000) (p : Int × Int) : 0 ≤ colH c sz p ∧ colH c sz p ≤ 4100000 := by
  have hle := cut_le c.ls (some p.1) (some p.2)
  have hlb := h.lb
  have hls : ∀ l ∈ cutL c.ls (some p.1) (some p.2), LnOk w l := fun l hl => h.ls l (cut_sub hl)
  have hpc : (pc (cutL c.ls (some p.1) (some p.2)) : Int) ≤ 4 := by
    have h1 : ((cutL c.ls (some p.1) (some p.2)).map Ln.h).filter Option.isNone |>.Sublist ((c.ls.map Ln.h).filter Option.isNone) := by
      refine List.Sublist.filter _ (List.Sublist.map _ ?_)
      unfold cutL
      exact (List.take_sublist _ _).trans (List.drop_sublist _ _)
    have h2 := h1.length_le
    have h3 := h.pl
    unfold pc at h3 ⊢
    omega
  have hr0 := h.r0
  have hr1 := h.r1
  show 0 ≤ baseS c.r (cutL c.ls (some p.1) (some p.2)) + (pc (cutL c.ls (some p.1) (some p.2)) : Int) * sz ∧ baseS c.r (cutL c.ls (some p.1) (some p.2)) + (pc (cutL c.ls (some p.1) (some p.2)) : Int) * sz ≤ 4100000
  generalize cutL c.ls (some p.1) (some p.2) = s at *
  have hb : 0 ≤ baseS c.r s ∧ baseS c.r s ≤ 100000 := by
    have e := hiL_eq c.r 0 s
    rw [Int.mul_zero, Int.add_zero] at e
    rw [← e]
    have l1 : (s.map (lh 0)).sum ≤ 1000 * s.length := sum_le fun l hl => by
      unfold lh
      cases q : l.h with
      | none => simp
      | some v => have := (hls l hl).h v q; simp; omega
    have l0 : 0 ≤ (s.map (lh 0)).sum := sum_nonneg fun l hl => by
      unfold lh
      cases q : l.h with
      | none => simp
      | some v => have := (hls l hl).h v q; simp; omega
    have n1 : nS s ≤ 500 * s.length := sum_le fun l hl => (hls l hl).n1
    have n0 : 0 ≤ nS s := sum_nonneg fun l hl => (hls l hl).n0
    have d1 : ∀ l ∈ cutL s none (some (-1)), LnOk w l := fun l hl => hls l (cut_sub hl)
    have s1 : sS s ≤ 200 * s.length := by
      have a1 : sS s ≤ 200 * (cutL s none (some (-1))).length := sum_le fun l hl => (d1 l hl).s1
      have a2 := cut_le s none (some (-1))
      omega
    have s0 : 0 ≤ sS s := sum_nonneg fun l hl => (d1 l hl).s0
    unfold hiL
    split <;> omega
  have h1 : (pc s : Int) * sz ≤ 4 * 1000000 := Int.mul_le_mul hpc hz1 hz (by decide)
  have h2 : 0 ≤ (pc s : Int) * sz := Int.mul_nonneg (by omega) hz
  omega
theorem feas_neg {B : List Int} {h : Int × Int → Int} {n H : Int} (h0 : ∀ p, 0 ≤ h p) (hH : H < 0) : ∀ {k : Nat} {p : Int}, ¬ Feas B h n H k p
  | 0, p, f => by have := feas0.mp f; have := h0 (p, n); omega
  | k + 1, p, f => by
    rcases feasS.mp f with q | ⟨e, _, q, _⟩
    · have := h0 (p, n); omega
    · have := h0 (p, e); omega
theorem needV_bd {c : Co} {cols sz : Int} (h : CoOk 1000 1 16 c) (h0 : 0 ≤ sz) (h1 : sz ≤ 1000000) : 0 ≤ needV c cols sz ∧ needV c cols sz ≤ 4100000 := by
  constructor
  · by_cases q : needV c cols sz < 0
    · exact absurd (show Feas (brk c.ls) (colH c sz) c.ls.length (needV c cols sz) (cols - 1).toNat 0 from Int.le_refl _) (feas_neg (fun p => (colH_le (x := 0) h (by omega) (by omega) h0 h1 p).1) q)
    · omega
  · have : Feas (brk c.ls) (colH c sz) c.ls.length 4100000 (cols - 1).toNat 0 := feas_le (Nat.zero_le _) (feas0.mpr (colH_le (x := 0) h (by omega) (by omega) h0 h1 _).2)
    exact this
/-- a bar is told just where nothing fits -/
theorem bar_need {c : Co} {cols sz H : Int} (h : CoOk 1000 1 16 c) (hc0 : 1 ≤ cols) (h0 : 0 ≤ sz) : match barV (brk c.ls) (colH c sz) c.ls.length H cols.toNat 0 with
    | none => needV c cols sz ≤ H
    | some es => H < needV c cols sz ∧ (es.length : Int) = cols ∧ barB (brk c.ls) (colH c sz) c.ls.length H 0 (es.map D.int) = true ∧ barB (brk c.ls) (colH c sz) c.ls.length (needV c cols sz) 0 (es.map D.int) = false := by
  have g := grow_co (x := 0) h h0
  have q := barV_ok g (H := H) (k := cols.toNat) (p := 0) (Int.le_refl _) g.n0
  cases e : barV (brk c.ls) (colH c sz) c.ls.length H cols.toNat 0 with
  | none =>
    rw [e] at q
    obtain ⟨j, hj, f⟩ := q
    have : (cols - 1).toNat = j := by omega
    show Feas (brk c.ls) (colH c sz) c.ls.length H (cols - 1).toNat 0
    rw [this]; exact f
  | some es =>
    rw [e] at q
    have hl : es.length = (cols - 1).toNat + 1 := by omega
    refine ⟨?_, by omega, barB_ok.mpr q.2, ?_⟩
    · have n := bar_no g (Int.le_refl _) hl q.2
      have n : ¬ needV c cols sz ≤ H := n
      omega
    · cases b : barB (brk c.ls) (colH c sz) c.ls.length (needV c cols sz) 0 (es.map D.int) with
      | false => rfl
      | true =>
        have n := bar_no g (Int.le_refl _) hl (barB_ok.mp b)
        exact absurd (show Feas (brk c.ls) (colH c sz) c.ls.length (needV c cols sz) (cols - 1).toNat 0 from Int.le_refl _) n
end
end LW
end
section
set_option linter.all false
set_option maxRecDepth 100000
set_option maxHeartbeats 1000000
set_option autoImplicit false
namespace LW
open PL
section
variable {B : List Int} {h : Int × Int → Int} {n : Int}
/-- the ends that are not too high -/
def goods (B : List Int) (h : Int × Int → Int) (n H p : Int) : List Int := (Bp B p ++ [n]).filter fun e => decide (h (p, e) ≤ H)
/-- where filling goes -/
def nxtV (B : List Int) (h : Int × Int → Int) (n H p : Int) : Int := match (goods B h n H p).getLast? with
  | some e => e
  | none => (Bp B p ++ [n]).headD n
def fillV (B : List Int) (h : Int × Int → Int) (n H : Int) : Nat → Int → List Int
  | 0, _ => []
  | j + 1, p => if nxtV B h n H p < n then nxtV B h n H p :: fillV B h n H j (nxtV B h n H p) else []
theorem nxt_mem (g : Grow B h n) {H p : Int} : nxtV B h n H p ∈ Bp B p ++ [n] := by
  unfold nxtV
  cases e : (goods B h n H p).getLast? with
  | some z =>
    have := List.mem_of_getLast? e
    unfold goods at this
    exact (List.mem_filter.mp this).1
  | none =>
    cases Bp B p with
    | nil => simp
    | cons a L => simp
theorem nxt_bd (g : Grow B h n) {H p : Int} (hp : p < n) : p < nxtV B h n H p ∧ (nxtV B h n H p ∈ Bp B p ∨ nxtV B h n H p = n) ∧ nxtV B h n H p ≤ n := by
  rcases List.mem_append.mp (nxt_mem g (H := H) (p := p)) with q | q
  · have := Bp_mem.mp q
    exact ⟨this.2, .inl q, Int.le_of_lt (g.pos _ this.1).2⟩
  · have : nxtV B h n H p = n := by simpa using q
    exact ⟨by omega, .inr this, by omega⟩
/-- what fits from p on does not reach beyond filling -/
theorem nxt_ge (g : Grow B h n) {H p e : Int} (he : e ∈ Bp B p ++ [n]) (hh : h (p, e) ≤ H) : e ≤ nxtV B h n H p ∧ h (p, nxtV B h n H p) ≤ H := by
  have hm : e ∈ goods B h n H p := by unfold goods; rw [List.mem_filter]; exact ⟨he, by simpa using hh⟩
  have hs : (Bp B p ++ [n]).Pairwise (· < ·) := by
    rw [List.pairwise_append]
    exact ⟨g.inc.filter _, by simp, fun a ha b hb => by
      have := (g.pos a (Bp_mem.mp ha).1).2
      have : b = n := by simpa using hb
      omega⟩
  have hp : (goods B h n H p).Pairwise (· < ·) := hs.filter _
  have hall : ∀ z ∈ goods B h n H p, h (p, z) ≤ H := fun z hz => by
    unfold goods at hz
    have := (List.mem_filter.mp hz).2
    simpa using this
  unfold nxtV
  generalize goods B h n H p = L at *
  have hne : L ≠ [] := fun q => by rw [q] at hm; simp at hm
  rw [List.getLast?_eq_some_getLast hne]
  refine ⟨?_, hall _ (List.getLast_mem hne)⟩
  show e ≤ L.getLast hne
  have e2 : L = L.dropLast ++ [L.getLast hne] := (List.dropLast_concat_getLast hne).symm
  rw [e2] at hm hp
  rcases List.mem_append.mp hm with q | q
  · have := (List.pairwise_append.mp hp).2.2 e q _ (List.mem_singleton.mpr rfl); omega
  · have : e = L.getLast hne := by simpa using q
    omega
/-- filling takes no more columns than any layout, and each of its columns fits -/
theorem fill_best (g : Grow B h n) {H : Int} : ∀ {j k : Nat} {p : Int}, 0 ≤ p → p < n → n - p ≤ (j : Int) → Feas B h n H k p → (fillV B h n H j p).length ≤ k ∧ hT h n p (fillV B h n H j p) ≤ H
  | 0, k, p, h0, hp, hj, _ => by omega
  | j + 1, k, p, h0, hp, hj, f => by
    have bd := nxt_bd g (H := H) hp
    have step : ∀ e, e ∈ Bp B p ++ [n] → h (p, e) ≤ H → (e = n ∨ ∃ k', k = k' + 1 ∧ Feas B h n H k' e) → (fillV B h n H (j + 1) p).length ≤ k ∧ hT h n p (fillV B h n H (j + 1) p) ≤ H := by
      intro e he hh hk
      obtain ⟨q1, q2⟩ := nxt_ge g he hh
      unfold fillV
      by_cases hn : nxtV B h n H p < n
      · rw [if_pos hn]
        rcases hk with rfl | ⟨k', rfl, f'⟩
        · omega
        · have he0 : 0 ≤ e := by
            rcases List.mem_append.mp he with q | q
            · have := (g.pos e (Bp_mem.mp q).1).1; omega
            · have : e = n := by simpa using q
              omega
          have ih := fill_best g (H := H) (j := j) (k := k') (p := nxtV B h n H p) (by omega) hn (by omega) (feas_later g he0 q1 hn f')
          refine ⟨by simp; exact ih.1, ?_⟩
          show max (h (p, nxtV B h n H p)) (hT h n (nxtV B h n H p) _) ≤ H
          have := ih.2
          omega
      · rw [if_neg hn]
        have : nxtV B h n H p = n := by omega
        rw [this] at q2
        exact ⟨Nat.zero_le _, q2⟩
    cases k with
    | zero => exact step n (by simp) (feas0.mp f) (.inl rfl)
    | succ k =>
      rcases feasS.mp f with q | ⟨e, he, q1, q2⟩
      · exact step n (by simp) q (.inl rfl)
      · exact step e (List.mem_append_left _ he) q1 (.inr ⟨k, rfl, q2⟩)
theorem fill_tails (g : Grow B h n) {H : Int} : ∀ {j k : Nat} {p : Int}, p < n → (fillV B h n H j p).length ≤ k → fillV B h n H j p ∈ tails B k p
  | 0, 0, p, _, _ => by simp [fillV, tails]
  | 0, k + 1, p, _, _ => by simp [fillV, tails]
  | j + 1, k, p, hp, hl => by
    have bd := nxt_bd g (H := H) hp
    unfold fillV at hl ⊢
    by_cases hn : nxtV B h n H p < n
    · rw [if_pos hn] at hl ⊢
      cases k with
      | zero => simp at hl
      | succ k =>
        have ih := fill_tails g (H := H) (j := j) (k := k) hn (by simpa using hl)
        have hb : nxtV B h n H p ∈ Bp B p := bd.2.1.elim id fun q => by omega
        unfold tails
        refine List.mem_cons_of_mem _ (List.mem_flatMap.mpr ⟨_, hb, List.mem_map.mpr ⟨_, ih, rfl⟩⟩)
    · rw [if_neg hn]
      cases k <;> simp [tails]
theorem fill_len (g : Grow B h n) {H : Int} : ∀ {j : Nat} {p : Int}, p < n → ((fillV B h n H j p).length : Int) < n - p
  | 0, p, hp => by simp [fillV]; omega
  | j + 1, p, hp => by
    have bd := nxt_bd g (H := H) hp
    unfold fillV
    by_cases hn : nxtV B h n H p < n
    · rw [if_pos hn]
      have ih := fill_len g (H := H) (j := j) hn
      simp; omega
    · rw [if_neg hn]; simp; omega
/-- a fitting filling shows that so many columns are enough -/
theorem fill_feas (g : Grow B h n) {H : Int} {j k : Nat} {p : Int} (hp : p < n) (hk : (fillV B h n H j p).length ≤ k) (hh : hT h n p (fillV B h n H j p) ≤ H) : Feas B h n H k p :=
  Fv_le.mpr ⟨_, fill_tails g hp hk, hh⟩
/-- layouts with fewer columns -/
theorem tails_up {τ : List Int} : ∀ {k : Nat} {p : Int}, τ ∈ tails B k p → τ ∈ tails B (k + 1) p := by
  induction τ with
  | nil => intro k p _; simp [tails]
  | cons e τ ih =>
    intro k p hm
    cases k with
    | zero => simp [tails] at hm
    | succ k =>
      unfold tails at hm
      rcases List.mem_cons.mp hm with q | q
      · simp at q
      · obtain ⟨z, hz, q⟩ := List.mem_flatMap.mp q
        obtain ⟨σ, hs, q⟩ := List.mem_map.mp q
        injection q with q1 q2
        subst q1 q2
        unfold tails
        exact List.mem_cons_of_mem _ (List.mem_flatMap.mpr ⟨_, hz, List.mem_map.mpr ⟨_, ih hs, rfl⟩⟩)
theorem tails_le {τ : List Int} {k K : Nat} {p : Int} (hk : k ≤ K) (hm : τ ∈ tails B k p) : τ ∈ tails B K p := by
  induction K with
  | zero => have : k = 0 := by omega
            subst this; exact hm
  | succ K ih =>
    by_cases q : k = K + 1
    · subst q; exact hm
    · exact tails_up (ih (by omega))
theorem tails_cut {τ : List Int} : ∀ {K k : Nat} {p : Int}, τ ∈ tails B K p → τ.length ≤ k → τ ∈ tails B k p := by
  induction τ with
  | nil => intro K k p _ _; cases k <;> simp [tails]
  | cons e τ ih =>
    intro K k p hm hl
    cases k with
    | zero => simp at hl
    | succ k =>
      cases K with
      | zero => simp [tails] at hm
      | succ K =>
        unfold tails at hm
        rcases List.mem_cons.mp hm with q | q
        · simp at q
        · obtain ⟨z, hz, q⟩ := List.mem_flatMap.mp q
          obtain ⟨σ, hs, q⟩ := List.mem_map.mp q
          injection q with q1 q2
          subst q1 q2
          unfold tails
          exact List.mem_cons_of_mem _ (List.mem_flatMap.mpr ⟨_, hz, List.mem_map.mpr ⟨_, ih hs (by simpa using hl), rfl⟩⟩)
end
end LW
end
section
set_option linter.all false
set_option maxRecDepth 100000
set_option maxHeartbeats 1000000
set_option autoImplicit false
namespace LW
open PL
section
variable {M : MS} {k k' : Kd}
/-- a loop that makes a list longer -/
theorem for_cat {α β : Type} {f : α → D} {h : β → D} {tg : TGt} {body : List Sl → MS → Out} {kl : List Nat} {σ : Type} (st : D → σ → List Sl) (q : α → List β) : ∀ (L : List α) (acc : List β) (x : σ), acc.length + (L.flatMap q).length < LIM →
    (∀ (acc' : List β) (x' : σ) (a : α), a ∈ L → acc'.length + (q a).length < LIM → ∃ ds1 ds2 x'', bindT tg (f a) (st (LL h acc') x') = some ds1 ∧ body ds1 M = .next ds2 M ∧ killD kl ds2 = st (LL h (acc' ++ q a)) x'') →
    ∃ x', forL (bindT tg) body kl (mp f L) (st (LL h acc) x) M = .next (st (LL h (acc ++ L.flatMap q)) x') M
  | [], acc, x, _, _ => ⟨x, by rw [List.flatMap_nil, List.append_nil]; rfl⟩
  | a :: L, acc, x, hl, hs => by
    rw [List.flatMap_cons, List.length_append] at hl
    obtain ⟨ds1, ds2, x2, h1, h2, h3⟩ := hs acc x a List.mem_cons_self (by omega)
    obtain ⟨x', ih⟩ := for_cat st q L (acc ++ q a) x2 (by rw [List.length_append]; omega) fun acc' x' b hb => hs acc' x' b (List.mem_cons_of_mem _ hb)
    refine ⟨x', ?_⟩
    have e0 : mp f (a :: L) = f a :: mp f L := rfl
    rw [e0, List.flatMap_cons, ← List.append_assoc]
    simp only [forL, h1, h2, h3]
    exact ih
theorem drop_Bp : ∀ {P : List Int} {i : Nat} {e : Int}, P.Pairwise (· < ·) → P[i]? = some e → P.drop (i + 1) = P.filter fun z => decide (e < z)
  | [], i, e, _, h => by simp at h
  | a :: P, 0, e, hp, h => by
    cases h
    rw [List.filter_cons, if_neg (by simp)]
    rw [List.drop_succ_cons, List.drop_zero]
    exact (List.filter_eq_self.mpr fun z hz => by simpa using (List.pairwise_cons.mp hp).1 z hz).symm
  | a :: P, i + 1, e, hp, h => by
    have h' : P[i]? = some e := h
    have := drop_Bp (List.pairwise_cons.mp hp).2 h'
    have ha := (List.pairwise_cons.mp hp).1 e (List.mem_of_getElem? h')
    rw [List.drop_succ_cons, this, List.filter_cons, if_neg (by simp; omega)]
theorem Bp_Bp {B : List Int} {p e : Int} (h : p < e) : (Bp B p).filter (fun z => decide (e < z)) = Bp B e := by
  unfold Bp
  rw [List.filter_filter]
  refine List.filter_congr fun z _ => ?_
  by_cases q : e < z
  · have : p < z := by omega
    simp [q, this]
  · simp [q]
theorem layouts_from_ok {B : List Int} (hB : B.Pairwise (· < ·)) (hBl : B.length ≤ 1000) : ∀ (k n : Nat) (p : Int) (begun : List Int), k < n → begun.length + k ≤ 1000 → (tails B k p).length < LIM →
    f_layouts_from n [LL D.int (Bp B p), TL D.int begun, .int k] M = .ok (LL layD ((tails B k p).map (begun ++ ·)), .fr) M
  | k, 0, p, begun, h, _, _ => by omega
  | 0, n + 1, p, begun, _, hb, _ => by
    refine run_ok rfl ?_
    unfold c_layouts_from
    simp
    unfold tails LL layD
    simp
  | k + 1, n + 1, p, begun, hn, hb, hl => by
    have hlim : LIM = 1000000 := rfl
    have et : tails B (k + 1) p = [] :: (Bp B p).flatMap fun e => (tails B k e).map (e :: ·) := rfl
    rw [et, List.length_cons] at hl
    have hPl : (Bp B p).length ≤ 1000 := Nat.le_trans (List.length_filter_le _ _) hBl
    have hP : (Bp B p).Pairwise (· < ·) := hB.filter _
    have sub : ∀ e ∈ Bp B p, (tails B k e).length < LIM := fun e he => by
      have : ∀ (L : List Int), e ∈ L → (tails B k e).length ≤ (L.flatMap fun e => (tails B k e).map (e :: ·)).length := by
        intro L
        induction L with
        | nil => intro h; simp at h
        | cons a L ih =>
          intro h
          rw [List.flatMap_cons, List.length_append, List.length_map]
          rcases List.mem_cons.mp h with rfl | h
          · omega
          · have := ih h; omega
      have := this _ he; omega
    -- the loop over the places
    obtain ⟨x', z⟩ := for_cat (M := M) (f := fun p : Int × Int => .tup [.int p.1, .int p.2]) (h := layD) (tg := .tp (.cons (.nm 4) (.cons (.nm 5) .nil))) (kl := [4, 5, 6]) (body := exec (g_layouts_from (f_layouts_from n)) b_layouts_from_1) (σ := Unit)
      (fun d _ => [.fz (LL D.int (Bp B p)), .fz (TL D.int begun), .fz (.int ((k : Int) + 1)), .ow d, .no, .no, .no]) (fun q : Int × Int => (tails B k q.2).map (fun τ => (begun ++ [q.2]) ++ τ)) (enumI 0 (Bp B p)) [begun] () (by
        have : ((enumI 0 (Bp B p)).flatMap fun q : Int × Int => (tails B k q.2).map (fun τ => (begun ++ [q.2]) ++ τ)).length = ((Bp B p).flatMap fun e => (tails B k e).map (e :: ·)).length := by
          have : ∀ (L : List Int) (m : Int), ((enumI m L).flatMap fun q : Int × Int => (tails B k q.2).map (fun τ => (begun ++ [q.2]) ++ τ)).length = (L.flatMap fun e => (tails B k e).map (e :: ·)).length := by
            intro L
            induction L with
            | nil => intro m; rfl
            | cons a L ih => intro m; rw [enumI, List.flatMap_cons, List.flatMap_cons, List.length_append, List.length_append, ih]; simp
          exact this _ _
        rw [this, List.length_singleton]; omega)
      fun acc' _ a ha hacc => by
        obtain ⟨i, e⟩ := a
        obtain ⟨hi0, hie⟩ := enumI_mem ha
        simp only at hacc
        rw [Int.sub_zero] at hie
        have hem := List.mem_of_getElem? hie
        have hpe : p < e := by
          unfold Bp at hem
          simpa using (List.mem_filter.mp hem).2
        have hi1 := (List.getElem?_eq_some_iff.mp hie).1
        have hcut : cutL (Bp B p) (some (i + 1)) none = Bp B e := by
          rw [← Bp_Bp hpe, ← drop_Bp hP hie]
          unfold cutL HT.sIx
          simp only
          rw [if_neg (by omega), show min (i + 1).toNat (Bp B p).length = i.toNat + 1 by omega]
          rw [List.take_of_length_le (by rw [List.length_drop]; omega)]
        have ih := layouts_from_ok hB hBl k n e (begun ++ [e]) (by omega) (by simp; omega) (sub e hem)
        obtain ⟨y', z⟩ := for_cat (M := M) (f := layD) (h := layD) (tg := .nm 6) (kl := []) (body := exec (g_layouts_from (f_layouts_from n)) b_layouts_from_0) (σ := Sl)
          (fun d x => [.fz (LL D.int (Bp B p)), .fz (TL D.int begun), .fz (.int ((k : Int) + 1)), .ow d, .fz (.int i), .fz (.int e), x]) (fun lay => [lay]) ((tails B k e).map (fun τ => (begun ++ [e]) ++ τ)) acc' .no (by
            rw [show ∀ L : List (List Int), L.flatMap (fun lay => [lay]) = L from fun L => by induction L with | nil => rfl | cons a L ih => rw [List.flatMap_cons, ih]; rfl]; exact hacc)
          fun acc2 x2 lay _ hacc2 => ⟨_, [.fz (LL D.int (Bp B p)), .fz (TL D.int begun), .fz (.int ((k : Int) + 1)), .ow (LL layD (acc2 ++ [lay])), .fz (.int i), .fz (.int e), .fz (layD lay)], .fz (layD lay), rfl, by
            unfold b_layouts_from_0
            have fl : (acc2.map layD).length < LIM := by rw [List.length_map]; simp at hacc2; omega
            simp [sApp_LL]
            rw [sAppO_fz 3 _ _ _ fl, LL_app]
            simp, by simp⟩
        rw [show ∀ L : List (List Int), L.flatMap (fun lay => [lay]) = L from fun L => by induction L with | nil => rfl | cons a L ih => rw [List.flatMap_cons, ih]; rfl] at z
        refine ⟨_, [.fz (LL D.int (Bp B p)), .fz (TL D.int begun), .fz (.int ((k : Int) + 1)), .ow (LL layD (acc' ++ (tails B k e).map (fun τ => (begun ++ [e]) ++ τ))), .fz (.int i), .fz (.int e), y'], (), rfl, ?_, by simp⟩
        unfold b_layouts_from_1
        simp [hcut]
        rw [w_addT1 (by omega)]
        have ih' : f_layouts_from n [LL D.int (Bp B e), TL D.int (begun ++ [e]), .int k] M = _ := ih
        simp [ih']
        simp only [List.append_assoc, List.singleton_append] at z
        rw [z]
        simp
    refine run_ok rfl ?_
    have e1 : D.lst [TL D.int begun] = LL layD [begun] := rfl
    unfold c_layouts_from
    have hk : (0 : Int) < (k : Int) + 1 := by omega
    simp [hk]
    rw [e1, z]
    simp
    rw [et, List.map_cons, List.append_nil, List.map_flatMap]
    have fin : ∀ (L : List Int) (m : Int), ((enumI m L).flatMap fun q : Int × Int => (tails B k q.2).map (fun τ => (begun ++ [q.2]) ++ τ)) = L.flatMap fun e => ((tails B k e).map (e :: ·)).map (begun ++ ·) := by
      intro L
      induction L with
      | nil => intro m; rfl
      | cons a L ih =>
        intro m
        rw [enumI, List.flatMap_cons, List.flatMap_cons, ih, List.map_map]
        congr 2
        funext τ
        simp
    have f1 := fin (Bp B p) 0
    simp only [List.append_assoc, List.singleton_append] at f1
    rw [f1]
end
end LW
end
section
set_option linter.all false
set_option maxRecDepth 100000
set_option maxHeartbeats 1000000
set_option autoImplicit false
namespace LW
open PL
section
variable {M : MS} {k k' : Kd}
theorem Bp_all {c : Co} : Bp (brk c.ls) 0 = brk c.ls := by
  unfold Bp
  exact List.filter_eq_self.mpr fun z hz => by have := (brk_mem hz).1; simp; omega
theorem t_layouts_of {c : Co} {cols : Int} (h1 : 1 ≤ c.ls.length) (h2 : c.ls.length ≤ 900) (hc0 : 1 ≤ cols) (hc1 : cols ≤ 6) (hl : (lysV c cols).length < 1000000) : f_layouts_of [c.d, .int (cols - 1)] M = .ok (LL layD (lysV c cols), .fr) M := by
  have hbl := brk_len c.ls
  have q := layouts_from_ok (M := M) (B := brk c.ls) (brk_inc c.ls) (by omega) (cols - 1).toNat 40 0 [] (by omega) (by simp; omega) hl
  rw [Bp_all, show ((cols - 1).toNat : Int) = cols - 1 by omega, show TL D.int [] = .tup [] from rfl, show (tails (brk c.ls) (cols - 1).toNat 0).map (fun x => [] ++ x) = lysV c cols by unfold lysV; simp] at q
  refine run_ok rfl ?_
  unfold c_layouts_of
  simp [t_breaks_of h1 (show c.ls.length ≤ 1000 by omega), q]
def hsV (c : Co) (sz : Int) (lay : List Int) : List Int := (cols c lay).map (colH c sz)
def gapV (c : Co) (sz : Int) (lay : List Int) : Int := maxL (hsV c sz lay) - minL (hsV c sz lay)
def evD : Option (Int × List Int) → D
  | none => .non
  | some (g, l) => .tup [.int g, layD l]
def evS (c : Co) (cols sz : Int) (acc : Option (Int × List Int)) (lay : List Int) : Option (Int × List Int) :=
  if (lay.length : Int) = cols - 1 then match acc with
    | none => some (gapV c sz lay, lay)
    | some (g, l) => if gapV c sz lay < g then some (gapV c sz lay, lay) else some (g, l)
  else acc
def evV (c : Co) (cols sz : Int) : Option (Int × List Int) := (lysV c cols).foldl (evS c cols sz) none
theorem hs_ne (c : Co) (sz : Int) (lay : List Int) : hsV c sz lay ≠ [] := fun e => by
  have := congrArg List.length e
  unfold hsV at this
  rw [List.length_map, cols_len] at this
  simp at this
theorem t_most_even {c : Co} {cols sz : Int} (h : CoOk 1000 1 16 c) (hl : c.ls.length ≤ 8) (hc0 : 1 ≤ cols) (hc1 : cols ≤ 6) (h0 : 0 ≤ sz) (h1 : sz ≤ 1000000) : f_most_even [c.d, .int cols, .int sz] M = .ok (evD (evV c cols sz), .fz) M := by
  have hla := h.la
  have hlim : LIM = 1000000 := rfl
  have hlen := lys_len (c := c) hl hc1
  have z := (for_fold (M := M) (f := layD) (tg := .nm 4) (kl := [4, 5, 6]) (body := exec g_most_even b_most_even_0)
    (fun acc : Option (Int × List Int) => [.fz c.d, .fz (.int cols), .fz (.int sz), .fz (evD acc), .no, .no, .no, .no]) (evS c cols sz) (fun _ => True) (lysV c cols) none trivial fun acc lay hm _ => by
      have hsh := lys_short hc1 hm
      have hcl := cols_len c lay
      have hh : ∀ M, f_heights_in [c.d, layD lay, .int sz] M = .ok (LL D.int (hsV c sz lay), .fr) M := fun M => heights_in_ok (by omega) hsh
      have hhl : (hsV c sz lay).length ≤ LIM := by unfold hsV; rw [List.length_map]; omega
      have hne := hs_ne c sz lay
      have ln : ∀ M, lBi .len [(layD lay, .fz)] M = .ok (.int lay.length, .fz) M := fun M => w_lenT
      refine ⟨trivial, ?_⟩
      by_cases he : (lay.length : Int) = cols - 1
      · have hev : ∀ d2, (evD (evS c cols sz acc lay) = d2) → ∃ ds2, exec g_most_even b_most_even_0 [.fz c.d, .fz (.int cols), .fz (.int sz), .fz (evD acc), .fz (layD lay), .no, .no, .no] M = .next ds2 M ∧ killD [4, 5, 6] ds2 = [.fz c.d, .fz (.int cols), .fz (.int sz), .fz d2, .no, .no, .no, .no] := by
          rintro d2 rfl
          refine ⟨[.fz c.d, .fz (.int cols), .fz (.int sz), .fz (evD (evS c cols sz acc lay)), .fz (layD lay), .fz (LL D.int (hsV c sz lay)), .fz (.int (gapV c sz lay)), .no], ?_, by simp⟩
          unfold b_most_even_0
          simp [ln, he, hh]
          rw [lcA (fun _ => rfl) (fun z => .int z) hhl fun z _ => ⟨.fz, by simp, by simp⟩]
          simp [w_max _ hne]
          rw [lcA (fun _ => rfl) (fun z => .int z) hhl fun z _ => ⟨.fz, by simp, by simp⟩]
          simp [w_min _ hne]
          have eg : maxL (hsV c sz lay) - minL (hsV c sz lay) = gapV c sz lay := rfl
          rw [eg]
          unfold evS
          rw [if_pos he]
          cases acc with
          | none => simp [evD]
          | some p =>
            obtain ⟨g, l⟩ := p
            by_cases hg : gapV c sz lay < g
            · simp [evD, hg]
            · simp [evD, hg]
        obtain ⟨ds2, e1, e2⟩ := hev _ rfl
        exact ⟨_, ds2, rfl, e1, e2⟩
      · refine ⟨_, [.fz c.d, .fz (.int cols), .fz (.int sz), .fz (evD acc), .fz (layD lay), .no, .no, .no], rfl, ?_, ?_⟩
        · unfold b_most_even_0
          simp [ln, he]
        · unfold evS
          rw [if_neg he]; simp).1
  refine run_ok rfl ?_
  unfold c_most_even
  simp [t_need_content h, t_need_columns hc0 hc1, t_need_size h0 h1, t_layouts_of (c := c) (cols := cols) hla (by omega) hc0 hc1 hlen]
  have z : forL (bindT (.nm 4)) (exec g_most_even b_most_even_0) [4, 5, 6] (mp layD (lysV c cols)) [.fz c.d, .fz (.int cols), .fz (.int sz), .fz .non, .no, .no, .no, .no] M = _ := z
  rw [z]
  simp [evV]
theorem dep_ev (o : Option (Int × List Int)) : D.dep 12 (evD o) = true := by
  cases o with
  | none => rfl
  | some p =>
    obtain ⟨g, l⟩ := p
    show ([D.int g, layD l].all (D.dep 11)) = true
    simp [dep_int, dep_lay]
theorem k13_inner {n : Nat} {c : Co} {cols sz : Int} (ns : List Int) (kk : D) (x8 x9 x10 x7 : Sl) (h : CoOk 1000 1 16 c) (hc1 : cols ≤ 6) :
    ∃ d7 d8 d9 d10, forL (bindT (.nm 7)) (exec g_law_k13 b_law_k13_0) [] (mp layD (lysV c cols)) [.fz (.scr ns), .fz kk, .fz (.ref n), .fz c.d, .fz (.int cols), .fz (.int sz), .fz .non, x7, x8, x9, x10, .no, .no] M =
      .next [.fz (.scr ns), .fz kk, .fz (.ref n), .fz c.d, .fz (.int cols), .fz (.int sz), .fz (evD (evV c cols sz)), d7, d8, d9, d10, .no, .no] M := by
  have hlb := h.lb
  have hlim : LIM = 1000000 := rfl
  have hn : ∀ l ∈ c.ls, 0 ≤ l.n := fun l hl => (h.ls l hl).n0
  have z := for_fold (M := M) (f := layD) (tg := .nm 7) (kl := []) (body := exec g_law_k13 b_law_k13_0)
    (fun s : Option (Int × List Int) × Sl × Sl × Sl × Sl => [.fz (.scr ns), .fz kk, .fz (.ref n), .fz c.d, .fz (.int cols), .fz (.int sz), .fz (evD s.1), s.2.1, s.2.2.1, s.2.2.2.1, s.2.2.2.2, .no, .no])
    (fun s lay => (evS c cols sz s.1 lay, .fz (layD lay), .fz (LL prD (LW.cols c lay)), .fz (LL (fun p => .int (colH c sz p)) (LW.cols c lay)), .fz (.int (gapV c sz lay)))) (fun _ => True) (lysV c cols) (none, x7, x8, x9, x10) trivial fun s lay hm _ => by
      obtain ⟨acc, y7, y8, y9, y10⟩ := s
      have hsh := lys_short hc1 hm
      have hcl := cols_len c lay
      have tc : ∀ M, f__law_columns [c.d, layD lay] M = .ok (LL prD (LW.cols c lay), .fr) M := fun M => t_law_columns (by omega) hsh
      have hne : LW.cols c lay ≠ [] := fun e => by rw [e] at hcl; simp at hcl
      have i0 : ∀ (p : Int × Int) (k k' : Kd) (M : MS), lIdx2 (prD p, k) (.int 0, k') M = .ok (.int p.1, .fz) M := fun p k k' M => rfl
      have i1 : ∀ (p : Int × Int) (k k' : Kd) (M : MS), lIdx2 (prD p, k) (.int 1, k') M = .ok (.int p.2, .fz) M := fun p k k' M => rfl
      have kv : ∀ (p : Int × Int) (M : MS), f__law_high [c.d, .int p.1, .int p.2, .int sz] M = .ok (.int (colH c sz p), .fz) M := fun p M => by
        rw [law_high_ok (by omega) hn, hiL_eq]; rfl
      refine ⟨trivial, _, [.fz (.scr ns), .fz kk, .fz (.ref n), .fz c.d, .fz (.int cols), .fz (.int sz), .fz (evD (evS c cols sz acc lay)), .fz (layD lay), .fz (LL prD (LW.cols c lay)), .fz (LL (fun p => .int (colH c sz p)) (LW.cols c lay)), .fz (.int (gapV c sz lay)), .no, .no], rfl, ?_, by simp⟩
      unfold b_law_k13_0
      simp [tc]
      rw [lcA (fun _ => rfl) (fun p => .int (colH c sz p)) (by omega) fun p _ => ⟨.fz, by simp, by simp [i0, i1, kv]⟩]
      simp
      rw [lcA (fun _ => rfl) (fun p => .int (colH c sz p)) (by omega) fun p _ => ⟨.fz, by simp, by simp⟩]
      simp [w_max _ hne]
      rw [lcA (fun _ => rfl) (fun p => .int (colH c sz p)) (by omega) fun p _ => ⟨.fz, by simp, by simp⟩]
      have eg : maxL ((LW.cols c lay).map (colH c sz)) - minL ((LW.cols c lay).map (colH c sz)) = gapV c sz lay := rfl
      simp [w_min _ hne, eg, hcl]
      have hiff : ((lay.length : Int) + 1 = cols) ↔ (lay.length : Int) = cols - 1 := by omega
      unfold evS
      by_cases he : (lay.length : Int) = cols - 1
      · have he' : (lay.length : Int) + 1 = cols := hiff.mpr he
        rw [if_pos he]
        cases acc with
        | none => simp [evD, he']
        | some p =>
          obtain ⟨g, l⟩ := p
          by_cases hg : gapV c sz lay < g
          · simp [evD, hg, he']
          · simp [evD, hg, he']
      · have he' : ¬ (lay.length : Int) + 1 = cols := fun q => he (hiff.mp q)
        rw [if_neg he]
        simp [he']
  have proj : ∀ (L : List (List Int)) (a : Option (Int × List Int)) (y : Sl × Sl × Sl × Sl), (L.foldl (fun (s : Option (Int × List Int) × Sl × Sl × Sl × Sl) lay => (evS c cols sz s.1 lay, .fz (layD lay), .fz (LL prD (LW.cols c lay)), .fz (LL (fun p => .int (colH c sz p)) (LW.cols c lay)), .fz (.int (gapV c sz lay)))) (a, y)).1 = L.foldl (evS c cols sz) a := by
    intro L
    induction L with
    | nil => intro a y; rfl
    | cons lay L ih => intro a y; rw [List.foldl_cons, List.foldl_cons, ih]
  have z1 := z.1
  rw [proj] at z1
  exact ⟨_, _, _, _, z1⟩
end
end LW
end
section
set_option linter.all false
set_option maxRecDepth 100000
set_option maxHeartbeats 1000000
set_option autoImplicit false
namespace LW
open PL
section
variable {M : MS} {k k' : Kd}
theorem ne_nilI {L : List Int} : lCmp2 .ne (LL D.int L, k) (.lst [], k') M = .ok (.bl (!L.isEmpty), .fz) M := eq_nilL (n := 0) (dep_int 11)
/-- a filling's states -/
structure FlI (B : List Int) (h : Int × Int → Int) (n H : Int) (V : List Int) (s : List Int × Int) : Prop where
  p0 : 0 ≤ s.2
  pB : s.2 ∈ 0 :: B ∨ s.2 = n
  pn : s.2 ≤ n
  ln : (s.1.length : Int) ≤ s.2
  fl : ∃ j : Nat, n - s.2 ≤ (j : Int) ∧ s.1 ++ (if s.2 < n then fillV B h n H j s.2 else []) = V
def flS (B : List Int) (h : Int × Int → Int) (n H : Int) (s : List Int × Int) : List Int × Int :=
  (if nxtV B h n H s.2 < n then s.1 ++ [nxtV B h n H s.2] else s.1, nxtV B h n H s.2)
theorem FlI.step {B : List Int} {h : Int × Int → Int} {n H : Int} {V : List Int} {s : List Int × Int} (g : Grow B h n) (i : FlI B h n H V s) (hp : s.2 < n) : FlI B h n H V (flS B h n H s) := by
  obtain ⟨f, p⟩ := s
  obtain ⟨p0, pB, pn, ln, j, hj, hv⟩ := i
  simp only at p0 pB pn ln hj hv hp
  have bd := nxt_bd g (H := H) hp
  rw [if_pos hp] at hv
  obtain ⟨j, rfl⟩ : ∃ j', j = j' + 1 := ⟨j - 1, by omega⟩
  unfold fillV at hv
  refine ⟨?_, ?_, ?_, ?_, j, ?_, ?_⟩
  · show 0 ≤ nxtV B h n H p; omega
  · exact bd.2.1.imp (fun q => List.mem_cons_of_mem _ (Bp_mem.mp q).1) id
  · exact bd.2.2
  · unfold flS; simp only; split <;> (try simp) <;> omega
  · show n - nxtV B h n H p ≤ (j : Int); omega
  · unfold flS
    simp only
    by_cases q : nxtV B h n H p < n
    · rw [if_pos q] at hv ⊢
      rw [if_pos q, ← hv]
      simp
    · rw [if_neg q] at hv ⊢
      rw [if_neg q, ← hv]
theorem FlI.zero {B : List Int} {h : Int × Int → Int} {n H : Int} (g : Grow B h n) : FlI B h n H (fillV B h n H n.toNat 0) ([], 0) :=
  ⟨Int.le_refl _, .inl List.mem_cons_self, Int.le_of_lt g.n0, by simp, n.toNat, by simp; omega, by have := g.n0; simp [this]⟩
theorem FlI.done {B : List Int} {h : Int × Int → Int} {n H : Int} {V : List Int} {s : List Int × Int} (i : FlI B h n H V s) (hp : ¬ s.2 < n) : s.1 = V := by
  obtain ⟨_, _, _, _, j, _, hv⟩ := i
  rw [if_neg hp] at hv
  simpa using hv
/-- the layout that filling leads to -/
def flV (c : Co) (H sz : Int) : List Int := fillV (brk c.ls) (colH c sz) c.ls.length H c.ls.length 0
theorem flV_eq {c : Co} {H sz : Int} : fillV (brk c.ls) (colH c sz) c.ls.length H (c.ls.length : Int).toNat 0 = flV c H sz := by rw [show (c.ls.length : Int).toNat = c.ls.length by omega]; rfl
theorem Bp_len {B : List Int} {p : Int} : (Bp B p).length ≤ B.length := List.length_filter_le _ _
theorem t_filled_so {c : Co} {H sz : Int} (h : CoOk 1000 1 16 c) (hz : 0 ≤ sz) :
    f_filled_so [c.d, .int H, .int sz] M = .ok (TL D.int (flV c H sz), .fz) M := by
  have h1 := h.la
  have h2 := h.lb
  have g := grow_co (x := 0) h hz
  have hlim : LIM = 1000000 := rfl
  have hs := stp_len c.ls
  have hbl := brk_len c.ls
  rw [← flV_eq]
  generalize hB : brk c.ls = B at *
  generalize hn : (c.ls.length : Int) = n at *
  generalize hP : prsOf (stp c.ls) = P at *
  have hS : stp c.ls = 0 :: (B ++ [n]) := by rw [stp_eq, hB, hn]
  have inP : ∀ p, 0 ≤ p → (p ∈ 0 :: B ∨ p = n) → ∀ e ∈ Bp B p ++ [n], p < n → (p, e) ∈ P := fun p p0 hp e he hlt => by
    rw [← hP]
    refine prs_mem.mpr ⟨?_, ?_, ?_⟩
    · rw [hS]
      rcases hp with hp | hp
      · rcases List.mem_cons.mp hp with rfl | hp
        · exact List.mem_cons_self
        · exact List.mem_cons_of_mem _ (List.mem_append_left _ hp)
      · omega
    · rw [hS]
      rcases List.mem_append.mp he with q | q
      · exact List.mem_cons_of_mem _ (List.mem_append_left _ (Bp_mem.mp q).1)
      · exact List.mem_cons_of_mem _ (List.mem_append_right _ q)
    · rcases List.mem_append.mp he with q | q
      · exact (Bp_mem.mp q).2
      · have : e = n := by simpa using q
        show p < e
        omega
  let S : D := LL D.int (0 :: (B ++ [n]))
  have hSd : LL D.int (stp c.ls) = S := by rw [hS]
  have last : ∀ (M : MS) (k' : Kd), lIdx2 (S, .fz) (.int (-1), k') M = .ok (.int n, .fz) M := fun M k' => w_lastL (by simp)
  have seqS : ∀ (M : MS), lIt .seq [(S, .fz)] M = .ok (mp D.int (0 :: (B ++ [n]))) M := fun M => by
    show lIt .seq [(LL D.int (0 :: (B ++ [n])), .fz)] M = _
    rw [w_seqL]
  let hh := colH c sz
  let st : List Int × Int → List Sl := fun s => [.fz c.d, .fz (.int H), .fz (.int sz), .fz S, .fz (dT2 P (sumD c sz)), .no, .no, .no, .fz (TL D.int s.1), .fz (.int s.2), .no, .no, .no, .no]
  obtain ⟨b', z, q1, q2⟩ := wh_run (M := M) (c := (den g_filled_so (.cmp .lt (.var 9) (.idx (.var 3) (.neg (.lit (.int 1)))))).t) (body := exec g_filled_so b_filled_so_0) (kl := [10, 11]) st
    (fun s => decide (s.2 < n)) (flS B hh n H) (FlI B hh n H (fillV B hh n H n.toNat 0)) (fun s => (n - s.2).toNat)
    (fun s hI => by simp [st, last])
    (fun s hI ht' => by
      have hp : s.2 < n := by simpa using ht'
      have bd := nxt_bd g (H := H) hp
      refine ⟨hI.step g hp, ?_, ?_⟩
      · show (n - nxtV B hh n H s.2).toNat < (n - s.2).toNat
        have := bd.1
        show (n - nxtV B (colH c sz) n H s.2).toNat < (n - s.2).toNat
        omega
      · obtain ⟨f, p⟩ := s
        have p0 : 0 ≤ p := hI.p0
        have pB : p ∈ 0 :: B ∨ p = n := hI.pB
        have ln : (f.length : Int) ≤ p := hI.ln
        simp only at hp bd
        have eE : (0 :: (B ++ [n])).filter (fun e => decide (p < e)) = Bp B p ++ [n] := by
          rw [List.filter_cons, if_neg (by simpa using p0), List.filter_append]
          unfold Bp
          rw [List.filter_cons, if_pos (by simpa using hp)]
          rfl
        have eG : (Bp B p ++ [n]).filter (fun e => decide (colH c sz (p, e) ≤ H)) = goods B (colH c sz) n H p := rfl
        have hbl2 := Bp_len (B := B) (p := p)
        refine ⟨[.fz c.d, .fz (.int H), .fz (.int sz), .fz S, .fz (dT2 P (sumD c sz)), .no, .no, .no, .fz (TL D.int (flS B hh n H (f, p)).1), .fz (.int (nxtV B hh n H p)), .fz (LL D.int (Bp B p ++ [n])), .fz (LL D.int (goods B hh n H p)), .no, .no], ?_, by simp [st, flS]⟩
        simp only [st]
        unfold b_filled_so_0
        simp [seqS]
        rw [lcF (fun _ => rfl) (fun e => decide (p < e)) D.int (by simp; omega) fun e _ => ⟨by simp, fun _ => ⟨.fz, by simp, by simp⟩⟩]
        rw [eE]
        simp
        rw [lcF (fun _ => rfl) (fun e => decide (colH c sz (p, e) ≤ H)) D.int (by simp; omega) fun e he => ⟨by
          simp [w_getT2 (inP p p0 pB e he hp), sumD], fun _ => ⟨.fz, by simp, by simp⟩⟩]
        rw [eG]
        have ad : ∀ e k k', lBin2 .add (TL D.int f, k) (.tup [.int e], k') M = .ok (TL D.int (f ++ [e]), .fz) M := fun e k k' => w_addT1 (by omega)
        have hnx : nxtV B hh n H p = match (goods B hh n H p).getLast? with | some e => e | none => (Bp B p ++ [n]).headD n := rfl
        have i0 : ∀ k k', lIdx2 (LL D.int (Bp B p ++ [n]), k) (.int 0, k') M = .ok (.int ((Bp B p ++ [n]).headD n), .fz) M := fun k k' => w_idxL (by decide) (by cases Bp B p <;> simp)
        generalize hx : nxtV B (colH c sz) n H p = x at *
        have hx2 : nxtV B hh n H p = x := hx
        have hnx : nxtV B (colH c sz) n H p = match (goods B (colH c sz) n H p).getLast? with | some e => e | none => (Bp B p ++ [n]).headD n := rfl
        rw [hx] at hnx
        have eF : (flS B hh n H (f, p)).1 = if x < n then f ++ [x] else f := by unfold flS; simp only [hx2]
        rw [eF]
        show _ = Out.next [_, _, _, _, _, _, _, _, _, _, _, .fz (LL D.int (goods B (colH c sz) n H p)), _, _] M
        cases eg : goods B (colH c sz) n H p with
        | nil =>
          rw [eg] at hnx
          have hnx : x = (Bp B p ++ [n]).headD n := hnx
          rw [← hnx] at i0
          by_cases q : x < n
          · simp [ne_nilI, i0, last, q, ad]
          · simp [ne_nilI, i0, last, q]
        | cons a L =>
          rw [eg] at hnx
          have hL : (a :: L)[(a :: L).length - 1]? = some x := by
            rw [← List.getLast?_eq_getElem?]
            cases e : (a :: L).getLast? with
            | none => simp at e
            | some z => rw [e] at hnx; rw [hnx]
          have il : ∀ k k', lIdx2 (LL D.int (a :: L), k) (.int (-1), k') M = .ok (.int x, .fz) M := fun k k' => w_lastL hL
          by_cases q : x < n
          · simp [ne_nilI, il, last, q, ad]
          · simp [ne_nilI, il, last, q]) 1000000 ([], 0) (FlI.zero g) (by simp; omega)
  have hv := q1.done (by simpa using q2)
  have z : whL (den g_filled_so (.cmp .lt (.var 9) (.idx (.var 3) (.neg (.lit (.int 1)))))).t (exec g_filled_so b_filled_so_0) [10, 11] 1000000 [.fz c.d, .fz (.int H), .fz (.int sz), .fz S, .fz (dT2 P (sumD c sz)), .no, .no, .no, .fz (.tup []), .fz (.int 0), .no, .no, .no, .no] M = _ := z
  refine run_ok rfl ?_
  unfold c_filled_so
  simp [t_stops_of h1 (show c.ls.length ≤ 1000 by omega), t_all_stretches h1 (show c.ls.length ≤ 800 by omega)]
  rw [hP, lDcI_ok (w := sumD c sz) (fun _ => rfl) (by rw [← hP]; exact prs_len (by omega)) (by rw [← hP]; exact prs_nodup (stp_inc h1)) (fun p _ => ⟨.fz, by simp, by
    have e := pc_le (cutL c.ls (some p.1) (some p.2))
    have e2 := cut_le c.ls (some p.1) (some p.2)
    simp [mul_small (i := (pc (cutL c.ls (some p.1) (some p.2)) : Int)) (j := sz) (by omega) (by omega), sumD, colH]⟩)]
  rw [hSd]
  simp
  rw [z]
  simp [st]
  rw [hv]
end
end LW
end
section
set_option linter.all false
set_option maxRecDepth 100000
set_option maxHeartbeats 1000000
set_option autoImplicit false
namespace LW
open PL
section
variable {M : MS} {k k' : Kd}
theorem flV_len {c : Co} {H sz : Int} (h : CoOk 1000 1 16 c) (hz : 0 ≤ sz) : (flV c H sz).length < c.ls.length := by
  have g := grow_co (x := 0) h hz
  have := fill_len g (H := H) (j := c.ls.length) (p := 0) g.n0
  unfold flV
  omega
def onD : Option Int → D
  | none => .non
  | some z => .int z
/-- the number of columns that filling needs -/
def numV (c : Co) (H sz : Int) : Option Int := if topV c sz (flV c H sz) ≤ H then some ((flV c H sz).length + 1) else none
theorem top_cols {c : Co} {sz : Int} {lay : List Int} : maxL ((cols c lay).map (colH c sz)) = topV c sz lay := by
  unfold topV
  rw [← hT_cols lay 0]
  rfl
theorem top_le {c : Co} {sz H : Int} {lay : List Int} : topV c sz lay ≤ H ↔ ∀ p ∈ cols c lay, colH c sz p ≤ H := by
  have hcl := cols_len c lay
  rw [← top_cols, maxL_le (by intro e; have := congrArg List.length e; simp at this; rw [this] at hcl; simp at hcl)]
  exact List.forall_mem_map
theorem t_number_so {c : Co} {H sz : Int} (h : CoOk 1000 1 16 c) (hz : 0 ≤ sz) : f_number_so [c.d, .int H, .int sz] M = .ok (onD (numV c H sz), .fz) M := by
  have hlim : LIM = 1000000 := rfl
  have hlb := h.lb
  have hfl := flV_len (H := H) h hz
  have hcl := cols_len c (flV c H sz)
  have tci : ∀ M, f_columns_in [c.d, TL D.int (flV c H sz)] M = .ok (LL prD (cols c (flV c H sz)), .fr) M := fun M => t_columns_in (by omega)
  refine run_ok rfl ?_
  unfold c_number_so
  simp [t_filled_so h hz, heights_in_ok (c := c) (lay := flV c H sz) (sz := sz) (M := M) (by omega) (by omega)]
  rw [lcA (fun _ => rfl) (fun a => .bl (decide (H < a))) (by simp; omega) fun a _ => ⟨.fz, by simp, by simp⟩]
  simp [w_any]
  unfold numV
  by_cases q : topV c sz (flV c H sz) ≤ H
  · rw [if_pos q]
    have q2 := top_le.mp q
    have e : ((cols c (flV c H sz)).any ((fun a => decide (H < a)) ∘ colH c sz)) = false := by
      rw [List.any_eq_false]
      intro p hp
      have := q2 p hp
      simp; omega
    rw [e]
    simp [hcl, onD, tci]
  · rw [if_neg q]
    have e : ((cols c (flV c H sz)).any ((fun a => decide (H < a)) ∘ colH c sz)) = true := by
      by_cases z : ∀ p ∈ cols c (flV c H sz), colH c sz p ≤ H
      · exact absurd (top_le.mpr z) q
      · rw [List.any_eq_true]
        simp only [Classical.not_forall] at z
        obtain ⟨p, hp, z⟩ := z
        exact ⟨p, hp, by simp; omega⟩
    rw [e]
    simp [onD]
theorem t_filled {c : Co} {H sz : Int} (h : CoOk 1000 1 16 c) (hH0 : 0 ≤ H) (hH1 : H ≤ 10000000) (h0 : 0 ≤ sz) (h1 : sz ≤ 1000000) : f_filled [c.d, .int H, .int sz] M = .ok (TL D.int (flV c H sz), .fz) M := by
  refine run_ok rfl ?_
  unfold c_filled
  simp [t_need_content h, t_need_size h0 h1, t_need_height hH0 hH1, t_filled_so h h0]
theorem t_columns_needed {c : Co} {H sz : Int} (h : CoOk 1000 1 16 c) (hH0 : 0 ≤ H) (hH1 : H ≤ 10000000) (h0 : 0 ≤ sz) (h1 : sz ≤ 1000000) : f_columns_needed [c.d, .int H, .int sz] M = .ok (onD (numV c H sz), .fz) M := by
  refine run_ok rfl ?_
  unfold c_columns_needed
  simp [t_need_content h, t_need_size h0 h1, t_need_height hH0 hH1, t_number_so h h0]
theorem cut_first {α : Type} (a : α) (L : List α) : cutL (a :: L) none (some 1) = [a] := by
  unfold cutL HT.sIx
  simp
theorem t_law_fill {c : Co} {H sz : Int} (h : CoOk 1000 1 16 c) (hz : 0 ≤ sz) :
    f__law_fill [c.d, .int H, .int sz] M = .ok (TL D.int (flV c H sz), .fz) M := by
  have h1 := h.la
  have h2 := h.lb
  have g := grow_co (x := 0) h hz
  have hlim : LIM = 1000000 := rfl
  have hbl := brk_len c.ls
  have hn0 : ∀ l ∈ c.ls, 0 ≤ l.n := fun l hl => (h.ls l hl).n0
  have hlb : f__law_breaks [c.d] M = .ok (LL D.int (brk c.ls), .fr) M := t_law_breaks h
  have hhi : ∀ a b M, f__law_high [c.d, .int a, .int b, .int sz] M = .ok (.int (colH c sz (a, b)), .fz) M := fun a b M => by
    rw [law_high_ok (by omega) hn0, hiL_eq]; rfl
  rw [← flV_eq]
  generalize hB : brk c.ls = B at *
  have hlen : ∀ M : MS, lBi .len [(TL Ln.d c.ls, .fz)] M = .ok (.int c.ls.length, .fz) M := fun M => w_lenT
  generalize hn : (c.ls.length : Int) = n at *
  let hh := colH c sz
  let st : List Int × Int → List Sl := fun s => [.fz c.d, .fz (.int H), .fz (.int sz), .fz (LL D.int (B ++ [n])), .fz (TL D.int s.1), .fz (.int s.2), .no, .no, .no]
  obtain ⟨b', z, q1, q2⟩ := wh_run (M := M) (c := (den g__law_fill (.cmp .lt (.var 5) (.bi .len (.acons (.idx (.var 0) (.lit (.int 1))) .anil)))).t) (body := exec g__law_fill b__law_fill_0) (kl := [6, 7]) st
    (fun s => decide (s.2 < n)) (flS B hh n H) (FlI B hh n H (fillV B hh n H n.toNat 0)) (fun s => (n - s.2).toNat)
    (fun s hI => by simp [st, hn])
    (fun s hI ht' => by
      have hp : s.2 < n := by simpa using ht'
      have bd := nxt_bd g (H := H) hp
      refine ⟨hI.step g hp, ?_, ?_⟩
      · show (n - nxtV B hh n H s.2).toNat < (n - s.2).toNat
        have := bd.1
        show (n - nxtV B (colH c sz) n H s.2).toNat < (n - s.2).toNat
        omega
      · obtain ⟨f, p⟩ := s
        have p0 : 0 ≤ p := hI.p0
        have ln : (f.length : Int) ≤ p := hI.ln
        simp only at hp bd
        have eE : (B ++ [n]).filter (fun e => decide (p < e)) = Bp B p ++ [n] := by
          rw [List.filter_append]
          unfold Bp
          rw [List.filter_cons, if_pos (by simpa using hp)]
          rfl
        have eG : (Bp B p ++ [n]).filter (fun e => decide (colH c sz (p, e) ≤ H)) = goods B (colH c sz) n H p := rfl
        have hbl2 := Bp_len (B := B) (p := p)
        refine ⟨[.fz c.d, .fz (.int H), .fz (.int sz), .fz (LL D.int (B ++ [n])), .fz (TL D.int (flS B hh n H (f, p)).1), .fz (.int (nxtV B hh n H p)), .fz (LL D.int (Bp B p ++ [n])), .fz (LL D.int (goods B hh n H p)), .no], ?_, by simp [st, flS]⟩
        simp only [st]
        unfold b__law_fill_0
        simp
        rw [lcF (fun _ => rfl) (fun e => decide (p < e)) D.int (by simp; omega) fun e _ => ⟨by simp, fun _ => ⟨.fz, by simp, by simp⟩⟩]
        rw [eE]
        simp
        rw [lcF (fun _ => rfl) (fun e => decide (colH c sz (p, e) ≤ H)) D.int (by simp; omega) fun e he => ⟨by
          simp [hhi], fun _ => ⟨.fz, by simp, by simp⟩⟩]
        rw [eG]
        have ad : ∀ e k k', lBin2 .add (TL D.int f, k) (.tup [.int e], k') M = .ok (TL D.int (f ++ [e]), .fz) M := fun e k k' => w_addT1 (by omega)
        generalize hx : nxtV B (colH c sz) n H p = x at *
        have hx2 : nxtV B hh n H p = x := hx
        have hnx : nxtV B (colH c sz) n H p = match (goods B (colH c sz) n H p).getLast? with | some e => e | none => (Bp B p ++ [n]).headD n := rfl
        rw [hx] at hnx
        have eF : (flS B hh n H (f, p)).1 = if x < n then f ++ [x] else f := by unfold flS; simp only [hx2]
        rw [eF]
        show _ = Out.next [_, _, _, _, _, _, _, .fz (LL D.int (goods B (colH c sz) n H p)), _] M
        cases eg : goods B (colH c sz) n H p with
        | nil =>
          rw [eg] at hnx
          have hnx : x = (Bp B p ++ [n]).headD n := hnx
          have c1 : cutL (Bp B p ++ [n]) none (some 1) = [x] := by
            rw [hnx]
            cases Bp B p with
            | nil => rfl
            | cons a L => rw [List.cons_append, cut_first]; rfl
          have a1 : ∀ k k', lBin2 .add (LL D.int [], k) (LL D.int [x], k') M = .ok (LL D.int [x], .fr) M := fun k k' => w_addL (by simp; omega)
          have i0 : ∀ k k', lIdx2 (LL D.int [x], k) (.int 0, k') M = .ok (.int x, .fz) M := fun k k' => w_idxL (by decide) rfl
          by_cases q : x < n
          · simp [eq_nilI, c1, a1, i0, hn, q, ad]
          · simp [eq_nilI, c1, a1, i0, hn, q]
        | cons a L =>
          rw [eg] at hnx
          have hL : (a :: L)[(a :: L).length - 1]? = some x := by
            rw [← List.getLast?_eq_getElem?]
            cases e : (a :: L).getLast? with
            | none => simp at e
            | some z => rw [e] at hnx; rw [hnx]
          have il : ∀ k k', lIdx2 (LL D.int (a :: L), k) (.int (-1), k') M = .ok (.int x, .fz) M := fun k k' => w_lastL hL
          by_cases q : x < n
          · simp [eq_nilI, il, hn, q, ad]
          · simp [eq_nilI, il, hn, q]) 1000000 ([], 0) (FlI.zero g) (by simp; omega)
  have hv := q1.done (by simpa using q2)
  have z : whL (den g__law_fill (.cmp .lt (.var 5) (.bi .len (.acons (.idx (.var 0) (.lit (.int 1))) .anil)))).t (exec g__law_fill b__law_fill_0) [6, 7] 1000000 [.fz c.d, .fz (.int H), .fz (.int sz), .fz (LL D.int (B ++ [n])), .fz (.tup []), .fz (.int 0), .no, .no, .no] M = _ := z
  refine run_ok rfl ?_
  unfold c__law_fill
  simp [hlb, hn]
  rw [w_addL1 (by omega)]
  simp
  rw [z]
  simp [st]
  rw [hv]
end
end LW
end
section
set_option linter.all false
set_option maxRecDepth 100000
set_option maxHeartbeats 1000000
set_option autoImplicit false
namespace LW
open PL
section
variable {M : MS} {k k' : Kd}
def rowP (c : Co) (p : Int × Int) : Int × Int := (baseS c.r (cutL c.ls (some p.1) (some p.2)), (pc (cutL c.ls (some p.1) (some p.2)) : Int))
def rowD (c : Co) (lay : List Int) : D := LL prD ((cols c lay).map (rowP c))
theorem cols7_len {c : Co} (hl : c.ls.length ≤ 7) : (lysV c 7).length < 1000000 := by
  have h1 := tails_len (B := brk c.ls) (7 - 1 : Int).toNat 0
  have h2 := brk_len c.ls
  have h3 : ((brk c.ls).length + 1) ^ (7 - 1 : Int).toNat ≤ 8 ^ (7 - 1 : Int).toNat := Nat.pow_le_pow_left (by omega) _
  unfold lysV
  have h5 : (8 : Nat) ^ (7 - 1 : Int).toNat = 262144 := by decide
  omega
theorem ow_prD {L : List (Int × Int)} {a b : Int} : (L.map prD) ++ [.tup [.int a, .int b]] = (L ++ [(a, b)]).map prD := by rw [List.map_append]; rfl
theorem rows_inner {c : Co} {lay : List Int} {dn : D} (h : CoOk 1000 1 16 c) (hl : lay.length ≤ 1000) :
    ∃ s5 s6 s7, forL (bindT (.tp (.cons (.nm 5) (.cons (.nm 6) .nil)))) (exec g__law_rows b__law_rows_0) [] (mp prD (cols c lay)) [.fz c.d, .fz (.int 7), .ow dn, .fz (layD lay), .ow (.lst []), .no, .no, .no] M =
      .next [.fz c.d, .fz (.int 7), .ow dn, .fz (layD lay), .ow (rowD c lay), s5, s6, s7] M := by
  have hlb := h.lb
  have hlim : LIM = 1000000 := rfl
  have hcl := cols_len c lay
  have hn : ∀ l ∈ c.ls, 0 ≤ l.n := fun l hl => (h.ls l hl).n0
  have h0 : ∀ (p : Int × Int) (M : MS), f__law_high [c.d, .int p.1, .int p.2, .int 0] M = .ok (.int (rowP c p).1, .fz) M := fun p M => by
    rw [law_high_ok (by omega) hn, hiL_eq, Int.mul_zero, Int.add_zero]; rfl
  have h1 : ∀ (p : Int × Int) (M : MS), f__law_high [c.d, .int p.1, .int p.2, .int 1] M = .ok (.int ((rowP c p).1 + (rowP c p).2), .fz) M := fun p M => by
    rw [law_high_ok (by omega) hn, hiL_eq, Int.mul_one]; rfl
  let I : Nat → List Sl → MS → Prop := fun i ds M' => (∃ s5 s6 s7, ds = [.fz c.d, .fz (.int 7), .ow dn, .fz (layD lay), .ow (LL prD (((cols c lay).take i).map (rowP c))), s5, s6, s7]) ∧ M' = M
  obtain ⟨ds5, M5, f5, ⟨s5, s6, s7, rfl⟩, rfl⟩ := for_ok (f := exec g__law_rows b__law_rows_0) (tg := .tp (.cons (.nm 5) (.cons (.nm 6) .nil))) (kl := []) I (mp prD (cols c lay)) 0
    [.fz c.d, .fz (.int 7), .ow dn, .fz (layD lay), .ow (.lst []), .no, .no, .no] M ⟨⟨.no, .no, .no, rfl⟩, rfl⟩ fun i x ds M' hx ⟨⟨s5, s6, s7, e⟩, eM⟩ => by
      subst e
      subst eM
      unfold mp at hx
      rw [List.getElem?_map] at hx
      obtain ⟨p, hz, rfl⟩ := Option.map_eq_some_iff.mp hx
      rw [Nat.zero_add]
      have ht : (((cols c lay).take (i + 1)).map (rowP c)) = (((cols c lay).take i).map (rowP c)) ++ [rowP c p] := by
        rw [List.take_succ, hz]; simp
      have hk : ((((cols c lay).take i).map (rowP c)).map prD).length < LIM := by simp; omega
      refine ⟨[.fz c.d, .fz (.int 7), .ow dn, .fz (layD lay), .ow (LL prD (((cols c lay).take i).map (rowP c))), .fz (.int p.1), .fz (.int p.2), s7], [.fz c.d, .fz (.int 7), .ow dn, .fz (layD lay), .ow (LL prD (((cols c lay).take (i + 1)).map (rowP c))), .fz (.int p.1), .fz (.int p.2), .fz (.int (rowP c p).1)], M', rfl, .inl ?_, ⟨_, _, _, rfl⟩, rfl⟩
      unfold b__law_rows_0
      have e3 : (rowP c p).1 + (rowP c p).2 - (rowP c p).1 = (rowP c p).2 := by omega
      rw [ht]
      clear ht
      generalize ((cols c lay).take i).map (rowP c) = A at *
      simp [h0, h1, sApp_LL]
      rw [sAppO_fz 4 _ _ _ hk, e3, ow_prD]
      rfl
  refine ⟨s5, s6, s7, ?_⟩
  have e4 : (cols c lay).take (0 + (mp prD (cols c lay)).length) = cols c lay := by
    rw [mp_len, Nat.zero_add, List.take_length]
  rw [e4] at f5
  exact f5
theorem t_law_rows {c : Co} (h : CoOk 1000 1 16 c) (hl : c.ls.length ≤ 7) : f__law_rows [c.d, .int 7] M = .ok (LL (rowD c) (lysV c 7), .fr) M := by
  have hlim : LIM = 1000000 := rfl
  have hlen := cols7_len hl
  have tl := t_law_layoutsW (M := M) h (cols := 7) (by decide) (by decide) hlen
  have hsh : ∀ lay ∈ lysV c 7, lay.length ≤ 1000 := fun lay hm => by
    have := tails_short hm
    have e : (7 - 1 : Int).toNat = 6 := rfl
    omega
  have q := for_app (M := M) (f := layD) (h := rowD c) (tg := .nm 3) (body := exec g__law_rows b__law_rows_1) (kl := [3, 4, 5, 6, 7])
    (fun d => [.fz c.d, .fz (.int 7), .ow d, .no, .no, .no, .no, .no]) (fun lay => lay) (lysV c 7) hlen fun acc lay hm ha => by
      obtain ⟨s5, s6, s7, z⟩ := rows_inner (M := M) (dn := LL (rowD c) acc) h (hsh lay hm)
      have tc : ∀ M, f__law_columns [c.d, layD lay] M = .ok (LL prD (cols c lay), .fr) M := fun M => t_law_columns (by omega) (hsh lay hm)
      have hk : (acc.map (rowD c)).length < LIM := by simpa using ha
      refine ⟨_, [.fz c.d, .fz (.int 7), .ow (.lst (acc.map (rowD c) ++ [rowD c lay])), .fz (layD lay), .fz (rowD c lay), s5, s6, s7], rfl, ?_, by simp⟩
      unfold b__law_rows_1
      simp [tc]
      rw [z]
      simp [sApp_LL]
      rw [sAppO_fz 2 _ _ _ hk]
      rfl
  have q : forL (bindT (.nm 3)) (exec g__law_rows b__law_rows_1) [3, 4, 5, 6, 7] (mp layD (lysV c 7)) [.fz c.d, .fz (.int 7), .ow (.lst []), .no, .no, .no, .no, .no] M = _ := q
  refine run_ok rfl ?_
  unfold c__law_rows
  simp [tl]
  rw [q]
  simp
theorem t_law_least {c : Co} {L : List (List Int)} {sz : Int} (hl : c.ls.length ≤ 1000) (hne : L ≠ []) (hL : L.length ≤ LIM) (hs : ∀ lay ∈ L, lay.length ≤ 1000) :
    f__law_least [LL (rowD c) L, .int sz] M = .ok (.int (minL (L.map (topV c sz))), .fz) M := by
  have hlim : LIM = 1000000 := rfl
  refine run_ok rfl ?_
  unfold c__law_least
  simp
  rw [lcA (fun _ => rfl) (fun lay => .int (topV c sz lay)) hL fun lay hm => ⟨.fz, by simp, by
    have hcl := cols_len c lay
    have hsl := hs lay hm
    have hne2 : (cols c lay).map (rowP c) ≠ [] := fun e => by have := congrArg List.length e; rw [List.length_map, hcl] at this; simp at this
    have e1 : rowD c lay = LL prD ((cols c lay).map (rowP c)) := rfl
    simp [e1]
    rw [lcA (fun _ => rfl) (fun q : Int × Int => .int (q.1 + q.2 * sz)) (by simp; omega) fun q hq => ⟨.fz, by simp, by
      obtain ⟨p, hp, rfl⟩ := List.mem_map.mp hq
      have e := pc_le (cutL c.ls (some p.1) (some p.2))
      have e2 := cut_le c.ls (some p.1) (some p.2)
      have e3 : (rowP c p).2 = (pc (cutL c.ls (some p.1) (some p.2)) : Int) := rfl
      simp [mul_small (i := (rowP c p).2) (j := sz) (by omega) (by omega)]⟩]
    simp [w_max _ hne2]
    rw [← top_cols]
    rfl⟩]
  simp [w_min _ hne]
end
end LW
end
section
set_option linter.all false
set_option maxRecDepth 100000
set_option maxHeartbeats 2000000
set_option autoImplicit false
namespace LW
open PL
section
variable {M : MS} {k k' : Kd}
/-- the layouts with so many columns -/
def lysC (c : Co) (many : Int) : List (List Int) := (lysV c 7).filter fun lay => decide ((lay.length : Int) + 1 ≤ many)
theorem lysC_min {c : Co} {many sz : Int} (h0 : 1 ≤ many) (h1 : many ≤ 7) : IsMin (needV c many sz) ((lysC c many).map (topV c sz)) := by
  have q := needV_min c many sz
  have hmem : ∀ lay, lay ∈ lysC c many ↔ lay ∈ lysV c many := fun lay => by
    unfold lysC
    rw [List.mem_filter]
    unfold lysV
    constructor
    · intro ⟨a, b⟩
      have b : (lay.length : Int) + 1 ≤ many := by simpa using b
      exact tails_cut a (by omega)
    · intro a
      have := tails_short a
      exact ⟨tails_le (by omega) a, by simp; omega⟩
  refine ⟨?_, fun x hx => ?_⟩
  · obtain ⟨lay, hl, e⟩ := List.mem_map.mp q.1
    exact List.mem_map.mpr ⟨lay, (hmem lay).mpr hl, e⟩
  · obtain ⟨lay, hl, e⟩ := List.mem_map.mp hx
    exact q.2 x (List.mem_map.mpr ⟨lay, (hmem lay).mp hl, e⟩)
theorem lysC_ne {c : Co} {many : Int} (h0 : 1 ≤ many) (h1 : many ≤ 7) : lysC c many ≠ [] := fun e => by
  have := (lysC_min (c := c) (sz := 0) h0 h1).1
  rw [e] at this
  simp at this
theorem lysC_sub {c : Co} {many : Int} {lay : List Int} (h : lay ∈ lysC c many) : lay.length ≤ 1000 := by
  unfold lysC at h
  have := tails_short (List.mem_filter.mp h).1
  have e : (7 - 1 : Int).toNat = 6 := rfl
  omega
/-- so many columns are enough just if filling needs no more -/
theorem few_num {c : Co} {H sz one : Int} (h : CoOk 1000 1 16 c) (hz : 0 ≤ sz) (h0 : 1 ≤ one) : needV c one sz ≤ H ↔ ∃ m, numV c H sz = some m ∧ m ≤ one := by
  have g := grow_co (x := 0) h hz
  have hla := h.la
  unfold numV
  constructor
  · intro f
    have f : Feas (brk c.ls) (colH c sz) c.ls.length H (one - 1).toNat 0 := f
    obtain ⟨q1, q2⟩ := fill_best g (j := c.ls.length) (Int.le_refl _) g.n0 (by omega) f
    have q3 : topV c sz (flV c H sz) ≤ H := q2
    have q1 : (flV c H sz).length ≤ (one - 1).toNat := q1
    rw [if_pos q3]
    exact ⟨_, rfl, by omega⟩
  · intro ⟨m, e, hm⟩
    by_cases q3 : topV c sz (flV c H sz) ≤ H
    · rw [if_pos q3] at e
      injection e with e
      exact fill_feas g (j := c.ls.length) g.n0 (show (flV c H sz).length ≤ _ by omega) q3
    · rw [if_neg q3] at e
      simp at e
def fewV (c : Co) (H sz : Int) : List Int := (irange 1 8).filter fun one => decide (needV c one sz ≤ H)
theorem few_none {c : Co} {H sz : Int} (h : CoOk 1000 1 16 c) (hz : 0 ≤ sz) (e : numV c H sz = none) : fewV c H sz = [] := by
  unfold fewV
  rw [List.filter_eq_nil_iff]
  intro one ho q
  have q : needV c one sz ≤ H := by simpa using q
  obtain ⟨m, e2, _⟩ := (few_num h hz (irange_mem.mp ho).1).mp q
  rw [e] at e2
  simp at e2
theorem few_some {c : Co} {H sz m : Int} (h : CoOk 1000 1 16 c) (hl : c.ls.length ≤ 7) (hz : 0 ≤ sz) (e : numV c H sz = some m) : ∃ L, fewV c H sz = m :: L := by
  have hm : 1 ≤ m ∧ m ≤ 7 := by
    have hf := flV_len (H := H) h hz
    unfold numV at e
    split at e
    · injection e with e
      omega
    · simp at e
  have e2 : fewV c H sz = (irange 1 8).filter fun one => decide (m ≤ one) := by
    unfold fewV
    refine List.filter_congr fun one ho => ?_
    have := few_num (H := H) h hz (irange_mem.mp ho).1
    rw [e] at this
    have this : needV c one sz ≤ H ↔ m ≤ one := by rw [this]; exact ⟨fun ⟨m', a, b⟩ => by injection a with a; omega, fun a => ⟨m, rfl, a⟩⟩
    simp [this]
  rw [e2]
  have : m = 1 ∨ m = 2 ∨ m = 3 ∨ m = 4 ∨ m = 5 ∨ m = 6 ∨ m = 7 := by omega
  rcases this with rfl | rfl | rfl | rfl | rfl | rfl | rfl <;> exact ⟨_, rfl⟩
theorem dep_on (o : Option Int) : D.dep 12 (onD o) = true := by cases o <;> rfl
theorem k09_least {c : Co} {sz many : Int} {P : List Int → Bool} (h : CoOk 1000 1 16 c) (hl : c.ls.length ≤ 7) (h0 : 1 ≤ many) (h1 : many ≤ 7) (hP : P = fun lay => decide ((lay.length : Int) + 1 ≤ many)) :
    f__law_least [LL (rowD c) ((lysV c 7).filter P), .int sz] M = .ok (.int (needV c many sz), .fz) M := by
  subst hP
  have hlb := h.lb
  have h7 := cols7_len hl
  have hlim : LIM = 1000000 := rfl
  have e := t_law_least (M := M) (c := c) (L := lysC c many) (sz := sz) (by omega) (lysC_ne h0 h1) (by unfold lysC; have := List.length_filter_le (fun lay : List Int => decide ((lay.length : Int) + 1 ≤ many)) (lysV c 7); omega) (fun lay hm => lysC_sub hm)
  have e2 : minL ((lysC c many).map (topV c sz)) = needV c many sz := (minL_is (by simpa using lysC_ne h0 h1)).uniq (lysC_min h0 h1)
  rw [e2] at e
  exact e
theorem k09_few {n : Nat} {c : Co} {sz H : Int} (ns : List Int) (kk x5 x7 x9 x10 : D) (x12 : Sl) (h : CoOk 1000 1 16 c) (hl : c.ls.length ≤ 7) :
    ∃ d12, forL (bindT (.nm 12)) (exec g_law_k09 b_law_k09_0) [] (mp D.int (irange 1 8)) [.fz (.scr ns), .fz kk, .fz (.ref n), .fz c.d, .fz (LL (rowD c) (lysV c 7)), .fz x5, .fz (.int sz), .fz x7, .fz (.int H), .fz x9, .fz x10, .ow (.lst []), x12, .no] M =
      .next [.fz (.scr ns), .fz kk, .fz (.ref n), .fz c.d, .fz (LL (rowD c) (lysV c 7)), .fz x5, .fz (.int sz), .fz x7, .fz (.int H), .fz x9, .fz x10, .ow (LL D.int (fewV c H sz)), d12, .no] M := by
  have hlim : LIM = 1000000 := rfl
  have h7 := cols7_len hl
  let I : Nat → List Sl → MS → Prop := fun i ds M' => (∃ d12, ds = [.fz (.scr ns), .fz kk, .fz (.ref n), .fz c.d, .fz (LL (rowD c) (lysV c 7)), .fz x5, .fz (.int sz), .fz x7, .fz (.int H), .fz x9, .fz x10, .ow (LL D.int (((irange 1 8).take i).filter fun one => decide (needV c one sz ≤ H))), d12, .no]) ∧ M' = M
  obtain ⟨ds5, M5, f5, ⟨d12, rfl⟩, rfl⟩ := for_ok (f := exec g_law_k09 b_law_k09_0) (tg := .nm 12) (kl := []) I (mp D.int (irange 1 8)) 0
    [.fz (.scr ns), .fz kk, .fz (.ref n), .fz c.d, .fz (LL (rowD c) (lysV c 7)), .fz x5, .fz (.int sz), .fz x7, .fz (.int H), .fz x9, .fz x10, .ow (.lst []), x12, .no] M ⟨⟨x12, rfl⟩, rfl⟩ fun i x ds M' hx ⟨⟨d12, e⟩, eM⟩ => by
      subst e
      subst eM
      unfold mp at hx
      rw [List.getElem?_map] at hx
      obtain ⟨one, hz, rfl⟩ := Option.map_eq_some_iff.mp hx
      have hm := irange_mem.mp (List.mem_of_getElem? hz)
      rw [Nat.zero_add]
      have ht : (((irange 1 8).take (i + 1)).filter fun one => decide (needV c one sz ≤ H)) = (((irange 1 8).take i).filter fun one => decide (needV c one sz ≤ H)) ++ (if needV c one sz ≤ H then [one] else []) := by
        rw [List.take_succ, hz, List.filter_append]
        by_cases q : needV c one sz ≤ H <;> simp [q]
      have hk : ((((irange 1 8).take i).filter fun one => decide (needV c one sz ≤ H)).map D.int).length < LIM := by
        have h1 := List.length_filter_le (fun one => decide (needV c one sz ≤ H)) ((irange 1 8).take i)
        have h2 := List.length_take_le' i (irange 1 8)
        have h3 : (irange 1 8).length = 7 := rfl
        rw [List.length_map]; omega
      have hk9 : ∀ M : MS, f__law_least [LL (rowD c) ((lysV c 7).filter fun lay => decide ((lay.length : Int) + 1 ≤ one)), .int sz] M = .ok (.int (needV c one sz), .fz) M := fun M => k09_least h hl hm.1 (by omega) rfl
      refine ⟨_, [.fz (.scr ns), .fz kk, .fz (.ref n), .fz c.d, .fz (LL (rowD c) (lysV c 7)), .fz x5, .fz (.int sz), .fz x7, .fz (.int H), .fz x9, .fz x10, .ow (LL D.int (((irange 1 8).take (i + 1)).filter fun one => decide (needV c one sz ≤ H))), .fz (.int one), .no], M', rfl, .inl ?_, ⟨_, rfl⟩, rfl⟩
      rw [ht]
      clear ht
      generalize ((irange 1 8).take i).filter (fun one => decide (needV c one sz ≤ H)) = A at *
      unfold b_law_k09_0
      simp
      rw [lcF (fun _ => rfl) (fun lay => decide ((lay.length : Int) + 1 ≤ one)) (rowD c) (by omega) fun lay _ => ⟨by
        have e1 : rowD c lay = LL prD ((cols c lay).map (rowP c)) := rfl
        simp [e1, cols_len], fun _ => ⟨.fz, by simp, by simp⟩⟩]
      by_cases q : needV c one sz ≤ H
      · simp [hk9, q, sApp_LL]
        rw [sAppO_fz 11 _ _ _ hk]
        simp [LL]
      · simp [hk9, q]
  refine ⟨d12, ?_⟩
  have e4 : (irange 1 8).take (0 + (mp D.int (irange 1 8)).length) = irange 1 8 := by
    rw [mp_len, Nat.zero_add, List.take_length]
  rw [e4] at f5
  exact f5
end
end LW
end
section
set_option linter.all false
set_option maxRecDepth 100000
set_option maxHeartbeats 2000000
set_option autoImplicit false
namespace LW
open PL
section
variable {M : MS} {k k' : Kd}
theorem k09_turn {n : Nat} {c : Co} (ns : List Int) (kk x5 : D) (x6 x7 x8 x9 x10 x11 x12 : Sl) (h : CoOk 1000 1 16 c) (hl : c.ls.length ≤ 7) (hB : Bag M n) :
    ∃ (d6 d7 d8 d9 d10 d11 d12 : Sl) (M' : MS), exec g_law_k09 b_law_k09_1 [.fz (.scr ns), .fz kk, .fz (.ref n), .fz c.d, .fz (LL (rowD c) (lysV c 7)), .fz x5, x6, x7, x8, x9, x10, x11, x12, .no] M = .next [.fz (.scr ns), .fz kk, .fz (.ref n), .fz c.d, .fz (LL (rowD c) (lysV c 7)), .fz x5, d6, d7, d8, d9, d10, d11, d12, .no] M' ∧ Bag M' n := by
  have hlim : LIM = 1000000 := rfl
  have h7 := cols7_len hl
  have hla := h.la
  have hlb := h.lb
  obtain ⟨r3, M3, e3, a3, b3, k3, _⟩ := take_ok (c := 30) hB (by decide) (by decide)
  obtain ⟨r4, M4, e4, a4, b4, k4, _⟩ := take_ok (c := 1000000) k3 (by decide) (by decide)
  obtain ⟨sz, M5, e5, m5, k5, _⟩ := of_ints (l := [0, r3, r4]) k4 (by simp) (by simp)
  simp only [List.map_cons, List.map_nil] at e5
  have s0 : 0 ≤ sz ∧ sz ≤ 1000000 := by simp at m5; omega
  obtain ⟨r0, M6, e6, a1, b1, k6, _⟩ := take_ok (c := 5) k5 (by decide) (by decide)
  have hc0 : 1 ≤ 1 + r0 := by omega
  have hc1 : 1 + r0 ≤ 7 := by omega
  generalize hcc : 1 + r0 = many at *
  have hle := k09_least (M := M6) (sz := sz) h hl hc0 hc1 rfl
  have bd := needV_bd (cols := many) h s0.1 s0.2
  obtain ⟨dv, M7, e7, m7, k7, _⟩ := of_ints (l := [0, 0, -1, 1, 7]) k6 (by simp) (by simp)
  simp only [List.map_cons, List.map_nil] at e7
  have hdv : -1 ≤ dv ∧ dv ≤ 7 := by simp at m7; omega
  obtain ⟨H, hH, hH0, hH1⟩ : ∃ H : Int, (if 0 < needV c many sz + dv then needV c many sz + dv else 0) = H ∧ 0 ≤ H ∧ H ≤ 10000000 := ⟨_, rfl, by split <;> omega, by split <;> omega⟩
  have hfl := flV_len (H := H) h s0.1
  have tf : ∀ M : MS, f__law_fill [c.d, .int H, .int sz] M = .ok (TL D.int (flV c H sz), .fz) M := fun M => t_law_fill h s0.1
  have tc : ∀ M : MS, f__law_columns [c.d, TL D.int (flV c H sz)] M = .ok (LL prD (cols c (flV c H sz)), .fr) M := fun M => t_law_columns (by omega) (by omega)
  have tg : ∀ M : MS, f_filled [c.d, .int H, .int sz] M = .ok (TL D.int (flV c H sz), .fz) M := fun M => t_filled h hH0 hH1 s0.1 s0.2
  have tn : ∀ M : MS, f_columns_needed [c.d, .int H, .int sz] M = .ok (onD (numV c H sz), .fz) M := fun M => t_columns_needed h hH0 hH1 s0.1 s0.2
  have hcl := cols_len c (flV c H sz)
  have hn0 : ∀ l ∈ c.ls, 0 ≤ l.n := fun l hl => (h.ls l hl).n0
  have i0 : ∀ (p : Int × Int) (k k' : Kd) (M : MS), lIdx2 (prD p, k) (.int 0, k') M = .ok (.int p.1, .fz) M := fun p k k' M => rfl
  have i1 : ∀ (p : Int × Int) (k k' : Kd) (M : MS), lIdx2 (prD p, k) (.int 1, k') M = .ok (.int p.2, .fz) M := fun p k k' M => rfl
  have kv : ∀ (p : Int × Int) (M : MS), f__law_high [c.d, .int p.1, .int p.2, .int sz] M = .ok (.int (colH c sz p), .fz) M := fun p M => by
    rw [law_high_ok (by omega) hn0, hiL_eq]; rfl
  have n1 : ∀ (k k' : Kd) (M : MS), lCmp2 .ne (TL D.int (flV c H sz), k) (TL D.int (flV c H sz), k') M = .ok (.bl false, .fz) M := fun k k' M => neT (dep_int 11)
  have n2 : ∀ (k k' : Kd) (M : MS), lCmp2 .ne (onD (numV c H sz), k) (onD (numV c H sz), k') M = .ok (.bl false, .fz) M := fun k k' M => ne_same (dep_on _)
  have neb : ∀ (a b : Bool) (k k' : Kd) (M : MS), lCmp2 .ne (.bl a, k) (.bl b, k') M = .ok (.bl (a != b), .fz) M := fun a b k k' M => by cases a <;> cases b <;> rfl
  have np : ∀ (L : List (Int × Int)) (k k' : Kd) (M : MS), lCmp2 .ne (LL prD L, k) (.lst [], k') M = .ok (.bl (!L.isEmpty), .fz) M := fun L k k' M => eq_nilL (n := 0) (dep_pr 10)
  have lrow : ∀ (lay : List Int) (k : Kd) (M : MS), lBi .len [(rowD c lay, k)] M = .ok (.int ((lay.length : Int) + 1), .fz) M := fun lay k M => by
    have e1 : rowD c lay = LL prD ((cols c lay).map (rowP c)) := rfl
    rw [e1]; simp [cols_len]
  obtain ⟨d12, z⟩ := k09_few (M := M7) (n := n) (c := c) (sz := sz) (H := H) ns kk x5 (.int many) (TL D.int (flV c H sz)) (onD (numV c H sz)) x12 h hl
  refine ⟨.fz (.int sz), .fz (.int many), .fz (.int H), .fz (TL D.int (flV c H sz)), .fz (onD (numV c H sz)), .ow (LL D.int (fewV c H sz)), d12, M7, ?_, k7⟩
  unfold b_law_k09_1
  simp [e3, pow6, e4, lLst, anyBo, LIM, e5, e6, hcc]
  rw [lcF (fun _ => rfl) (fun lay => decide ((lay.length : Int) + 1 ≤ many)) (rowD c) (by omega) fun lay _ => ⟨by simp [lrow], fun _ => ⟨.fz, by simp, by simp⟩⟩]
  simp [hle, e7, lLst, anyBo, LIM, hH, tf, tc]
  rw [lcF (fun _ => rfl) (fun p => decide (H < colH c sz p)) prD (by omega) fun p _ => ⟨by simp [i0, i1, kv], fun _ => ⟨.fz, by simp, by simp⟩⟩]
  simp [np]
  have hnum : (if (!((cols c (flV c H sz)).filter fun p => decide (H < colH c sz p)).isEmpty) = true then D.non else D.int (((flV c H sz).length : Int) + 1)) = onD (numV c H sz) := by
    unfold numV
    by_cases q : topV c sz (flV c H sz) ≤ H
    · have q2 := top_le.mp q
      have e : (cols c (flV c H sz)).filter (fun p => decide (H < colH c sz p)) = [] := by
        rw [List.filter_eq_nil_iff]
        intro p hp
        have := q2 p hp
        simp; omega
      rw [if_pos q, e]
      rfl
    · rw [if_neg q]
      have e : ¬ (cols c (flV c H sz)).filter (fun p => decide (H < colH c sz p)) = [] := fun e => q (top_le.mpr fun p hp => by
        rw [List.filter_eq_nil_iff] at e
        have := e p hp
        simp at this
        omega)
      cases e2 : (cols c (flV c H sz)).filter (fun p => decide (H < colH c sz p)) with
      | nil => exact absurd e2 e
      | cons a L => rfl
  rw [hnum]
  have j1 : inB 1 = true := inB_of (by decide) (by decide)
  have j8 : inB 8 = true := inB_of (by decide) (by decide)
  simp [tg, n1, tn, n2, w_rF2 j1 j8]
  rw [z]
  cases hq : numV c H sz with
  | none =>
    have o1 : ∀ (k k' : Kd) (M : MS), lCmp2 .is (onD none, k) (.non, k') M = .ok (.bl true, .fz) M := fun k k' M => rfl
    rw [few_none h s0.1 hq]
    simp [eq_nilI, ne_nilI, o1, neb]
  | some m =>
    obtain ⟨L, eL⟩ := few_some h hl s0.1 hq
    have o1 : ∀ (k k' : Kd) (M : MS), lCmp2 .is (onD (some m), k) (.non, k') M = .ok (.bl false, .fz) M := fun k k' M => rfl
    have o2 : ∀ (k k' : Kd) (M : MS), lCmp2 .ne (.int m, k) (onD (some m), k') M = .ok (.bl false, .fz) M := fun k k' M => ne_same (d := .int m) rfl
    have o3 : ∀ (k k' : Kd) (M : MS), lIdx2 (LL D.int (m :: L), k) (.int 0, k') M = .ok (.int m, .fz) M := fun k k' M => w_idxL (by decide) rfl
    rw [eL]
    simp [eq_nilI, ne_nilI, o1, o2, o3, neb]
theorem k09_outer (ns : List Int) (kk : Int) (k0 : 0 ≤ kk) (k1 : kk < 1000) :
    ∃ (ds2 : List Sl) (M' : MS), exec g_law_k09 b_law_k09_2 (.fz (.scr ns) :: .fz (.int kk) :: List.replicate 12 .no) M = .next ds2 M' ∧ killD [1, 2, 3, 4, 5, 6, 7, 8, 9, 10, 11, 12] ds2 = .fz (.scr ns) :: .no :: List.replicate 12 .no := by
  have hlim : LIM = 1000000 := rfl
  obtain ⟨M1, e1, b1, _⟩ := bag_ok (ns := ns) (M := M) k0 k1
  generalize M.length = n at *
  obtain ⟨W, M2, e2, m2, b2, _⟩ := of_ints (l := [4, 12, 60]) b1 (by simp) (by simp)
  simp only [List.map_cons, List.map_nil] at e2
  simp at m2
  obtain ⟨c, M3, e3, hc, b3, _⟩ := t_content (a := 1) (B := 7) (W := W) b2 (by decide) (by omega) (by omega) (by omega) (by omega)
  have e3 : f__law_content [.ref n, .int 1, .int 7, .int W] M2 = .ok (c.d, .fz) M3 := e3
  have hl : c.ls.length ≤ 7 := hc.lb
  have hC : CoOk 1000 1 16 c := hc.up (by omega) (by omega)
  let I : Nat → List Sl → MS → Prop := fun i ds M' => (∃ x5 x6 x7 x8 x9 x10 x11 x12, ds = [.fz (.scr ns), .fz (.int kk), .fz (.ref n), .fz c.d, .fz (LL (rowD c) (lysV c 7)), x5, x6, x7, x8, x9, x10, x11, x12, .no]) ∧ Bag M' n
  obtain ⟨ds5, M5, f5, ⟨x5, x6, x7, x8, x9, x10, x11, x12, rfl⟩, b5⟩ := for_ok (f := exec g_law_k09 b_law_k09_1) (tg := .nm 5) (kl := [5]) I (mp D.int (irange 0 4)) 0
    [.fz (.scr ns), .fz (.int kk), .fz (.ref n), .fz c.d, .fz (LL (rowD c) (lysV c 7)), .no, .no, .no, .no, .no, .no, .no, .no, .no] M3 ⟨⟨_, _, _, _, _, _, _, _, rfl⟩, b3⟩ fun i x ds M' hx ⟨⟨x5, x6, x7, x8, x9, x10, x11, x12, e⟩, hB⟩ => by
      subst e
      obtain ⟨d6, d7, d8, d9, d10, d11, d12, M6, q1, q2⟩ := k09_turn ns (.int kk) x x6 x7 x8 x9 x10 x11 x12 hC hl hB
      exact ⟨_, _, M6, rfl, .inl q1, ⟨_, _, _, _, _, _, _, _, rfl⟩, q2⟩
  have f5 : forL (bindT (.nm 5)) (exec g_law_k09 b_law_k09_1) [5] (mp D.int (irange 0 4)) [.fz (.scr ns), .fz (.int kk), .fz (.ref n), .fz c.d, .fz (LL (rowD c) (lysV c 7)), .no, .no, .no, .no, .no, .no, .no, .no, .no] M3 = _ := f5
  refine ⟨[.fz (.scr ns), .fz (.int kk), .fz (.ref n), .fz c.d, .fz (LL (rowD c) (lysV c 7)), x5, x6, x7, x8, x9, x10, x11, x12, .no], M5, ?_, rfl⟩
  have i4 : inB 4 = true := inB_of (by decide) (by decide)
  have tr : ∀ M : MS, f__law_rows [c.d, .int 7] M = .ok (LL (rowD c) (lysV c 7), .fr) M := fun M => t_law_rows hC hl
  have tf : ∀ M : MS, f__law_fill [c.d, .int 0, .int 0] M = .ok (TL D.int (flV c 0 0), .fz) M := fun M => t_law_fill hC (by decide)
  have tg : ∀ M : MS, f_filled [c.d, .int 0, .int 0] M = .ok (TL D.int (flV c 0 0), .fz) M := fun M => t_filled hC (by decide) (by decide) (by decide) (by decide)
  have n1 : ∀ (k k' : Kd) (M : MS), lCmp2 .ne (TL D.int (flV c 0 0), k) (TL D.int (flV c 0 0), k') M = .ok (.bl false, .fz) M := fun k k' M => neT (dep_int 11)
  unfold b_law_k09_2
  simp [e1, lLst, anyBo, LIM, e2, e3, tr, w_rF1 i4]
  rw [f5]
  simp [tf, tg, n1]
theorem math_law_k09 : ∀ ns : List Int, ns.length ≤ 63 → ∃ (k : Kd) (M : MS), f_law_k09 [.scr ns] [] = .ok (.bl true, k) M := fun ns _ =>
  main_ok (G := g_law_k09) (N := 12) (a := 5) (b := 14) (kl := [1, 2, 3, 4, 5, 6, 7, 8, 9, 10, 11, 12]) (body := b_law_k09_2) (by decide) (by decide) (by decide) (by decide) ns fun z M h0 h1 => k09_outer ns z h0 h1
end
end LW
end
section
set_option linter.all false
set_option maxRecDepth 100000
set_option maxHeartbeats 0
set_option autoImplicit false
namespace LW
open PySem PySem.Spec PyProof.Rows L2 PL
/-- the row's program -/
def top (i : Nat) : Stmt := PySem.Challenge.pw_platecolumns_k09_whole_filling_uses_fewe.main.body.getD i (.Pass ⟨0, 0, 0, 0⟩)
def gcs : List (Str × D) := [(("MOST_HEIGHT" : Str), (.int 10000000)), (("MOST_LINES" : Str), (.int 16)), (("MOST_PLATES" : Str), (.int 4)), (("MOST_SIZE" : Str), (.int 1000000)), (("PLATE" : Str), (.str (PySem.Str.ofString "x")))]
def gxs : List (Nat × Str) := [(1, ("InvalidContent" : Str)), (5, ("InvalidHeight" : Str)), (3, ("InvalidSize" : Str))]
/-! is_integer -/
def m_is_integer : MC := ⟨["value", "low", "high"], defScope (top 11), fnName, bkOf, [], gcs, gxs⟩
theorem k_is_integer : mSs m_is_integer c_is_integer (defBody (top 11)) = true := by decide +kernel
theorem s_is_integer : FnScope ["value", "low", "high"] ["value", "low", "high"] (defScope (top 11)) := ⟨rfl, rfl, rfl, by decide +kernel, rfl, by decide +kernel, by decide +kernel⟩
/-! is_plate -/
def m_is_plate : MC := ⟨["line"], defScope (top 12), fnName, bkOf, [], gcs, gxs⟩
theorem k_is_plate : mSs m_is_plate c_is_plate (defBody (top 12)) = true := by decide +kernel
theorem s_is_plate : FnScope ["line"] ["line"] (defScope (top 12)) := ⟨rfl, rfl, rfl, by decide +kernel, rfl, by decide +kernel, by decide +kernel⟩
/-! is_line -/
def m_is_line : MC := ⟨["value", "high", "space", "note", "tied"], defScope (top 13), fnName, bkOf, [0], gcs, gxs⟩
theorem k_is_line : mSs m_is_line c_is_line (defBody (top 13)) = true := by decide +kernel
theorem s_is_line : FnScope ["value", "high", "space", "note", "tied"] ["value"] (defScope (top 13)) := ⟨rfl, rfl, rfl, by decide +kernel, rfl, by decide +kernel, by decide +kernel⟩
/-! are_lines -/
def m_are_lines : MC := ⟨["value", "line"], defScope (top 14), fnName, bkOf, [2], gcs, gxs⟩
theorem k_are_lines : mSs m_are_lines c_are_lines (defBody (top 14)) = true := by decide +kernel
theorem s_are_lines : FnScope ["value", "line"] ["value"] (defScope (top 14)) := ⟨rfl, rfl, rfl, by decide +kernel, rfl, by decide +kernel, by decide +kernel⟩
/-! is_content -/
def m_is_content : MC := ⟨["value", "line"], defScope (top 15), fnName, bkOf, [0, 1, 3], gcs, gxs⟩
theorem k_is_content : mSs m_is_content c_is_content (defBody (top 15)) = true := by decide +kernel
theorem s_is_content : FnScope ["value", "line"] ["value"] (defScope (top 15)) := ⟨rfl, rfl, rfl, by decide +kernel, rfl, by decide +kernel, by decide +kernel⟩
/-! breaks_of -/
def m_breaks_of : MC := ⟨["lines", "index"], defScope (top 16), fnName, bkOf, [], gcs, gxs⟩
theorem k_breaks_of : mSs m_breaks_of c_breaks_of (defBody (top 16)) = true := by decide +kernel
theorem s_breaks_of : FnScope ["lines", "index"] ["lines"] (defScope (top 16)) := ⟨rfl, rfl, rfl, by decide +kernel, rfl, by decide +kernel, by decide +kernel⟩
/-! stops_of -/
def m_stops_of : MC := ⟨["lines"], defScope (top 17), fnName, bkOf, [5], gcs, gxs⟩
theorem k_stops_of : mSs m_stops_of c_stops_of (defBody (top 17)) = true := by decide +kernel
theorem s_stops_of : FnScope ["lines"] ["lines"] (defScope (top 17)) := ⟨rfl, rfl, rfl, by decide +kernel, rfl, by decide +kernel, by decide +kernel⟩
/-! need_content -/
def m_need_content : MC := ⟨["value"], defScope (top 18), fnName, bkOf, [4], gcs, gxs⟩
theorem k_need_content : mSs m_need_content c_need_content (defBody (top 18)) = true := by decide +kernel
theorem s_need_content : FnScope ["value"] ["value"] (defScope (top 18)) := ⟨rfl, rfl, rfl, by decide +kernel, rfl, by decide +kernel, by decide +kernel⟩
/-! need_height -/
def m_need_height : MC := ⟨["value"], defScope (top 19), fnName, bkOf, [0], gcs, gxs⟩
theorem k_need_height : mSs m_need_height c_need_height (defBody (top 19)) = true := by decide +kernel
theorem s_need_height : FnScope ["value"] ["value"] (defScope (top 19)) := ⟨rfl, rfl, rfl, by decide +kernel, rfl, by decide +kernel, by decide +kernel⟩
/-! need_size -/
def m_need_size : MC := ⟨["value"], defScope (top 20), fnName, bkOf, [0], gcs, gxs⟩
theorem k_need_size : mSs m_need_size c_need_size (defBody (top 20)) = true := by decide +kernel
theorem s_need_size : FnScope ["value"] ["value"] (defScope (top 20)) := ⟨rfl, rfl, rfl, by decide +kernel, rfl, by decide +kernel, by decide +kernel⟩
/-! stretch -/
def m_stretch : MC := ⟨["content", "first", "end", "rule", "lines", "some", "notes", "line", "base"], defScope (top 21), fnName, bkOf, [1], gcs, gxs⟩
theorem k_stretch : mSs m_stretch c_stretch (defBody (top 21)) = true := by decide +kernel
theorem s_stretch : FnScope ["content", "first", "end", "rule", "lines", "some", "notes", "line", "base"] ["content", "first", "end"] (defScope (top 21)) := ⟨rfl, rfl, rfl, by decide +kernel, rfl, by decide +kernel, by decide +kernel⟩
/-! all_stretches -/
def m_all_stretches : MC := ⟨["content", "stops", "first", "end"], defScope (top 22), fnName, bkOf, [25, 35], gcs, gxs⟩
theorem k_all_stretches : mSs m_all_stretches c_all_stretches (defBody (top 22)) = true := by decide +kernel
theorem s_all_stretches : FnScope ["content", "stops", "first", "end"] ["content"] (defScope (top 22)) := ⟨rfl, rfl, rfl, by decide +kernel, rfl, by decide +kernel, by decide +kernel⟩
/-! columns_in -/
def m_columns_in : MC := ⟨["content", "layout", "places"], defScope (top 23), fnName, bkOf, [], gcs, gxs⟩
theorem k_columns_in : mSs m_columns_in c_columns_in (defBody (top 23)) = true := by decide +kernel
theorem s_columns_in : FnScope ["content", "layout", "places"] ["content", "layout"] (defScope (top 23)) := ⟨rfl, rfl, rfl, by decide +kernel, rfl, by decide +kernel, by decide +kernel⟩
/-! heights_in -/
def m_heights_in : MC := ⟨["content", "layout", "size", "found", "first", "end", "base", "many"], defScope (top 24), fnName, bkOf, [25, 26], gcs, gxs⟩
theorem k_heights_in : mSs m_heights_in c_heights_in (defBody (top 24)) = true := by decide +kernel
theorem s_heights_in : FnScope ["content", "layout", "size", "found", "first", "end", "base", "many"] ["content", "layout", "size"] (defScope (top 24)) := ⟨rfl, rfl, rfl, by decide +kernel, rfl, by decide +kernel, by decide +kernel⟩
/-! filled_so -/
def m_filled_so : MC := ⟨["content", "height", "size", "stops", "sums", "pair", "base", "many", "found", "place", "ends", "good", "stop", "end"], defScope (top 26), fnName, bkOf, [35, 37], gcs, gxs⟩
theorem k_filled_so : mSs m_filled_so c_filled_so (defBody (top 26)) = true := by decide +kernel
theorem s_filled_so : FnScope ["content", "height", "size", "stops", "sums", "pair", "base", "many", "found", "place", "ends", "good", "stop", "end"] ["content", "height", "size"] (defScope (top 26)) := ⟨rfl, rfl, rfl, by decide +kernel, rfl, by decide +kernel, by decide +kernel⟩
/-! number_so -/
def m_number_so : MC := ⟨["content", "height", "size", "layout", "high"], defScope (top 27), fnName, bkOf, [26, 27, 82], gcs, gxs⟩
theorem k_number_so : mSs m_number_so c_number_so (defBody (top 27)) = true := by decide +kernel
theorem s_number_so : FnScope ["content", "height", "size", "layout", "high"] ["content", "height", "size"] (defScope (top 27)) := ⟨rfl, rfl, rfl, by decide +kernel, rfl, by decide +kernel, by decide +kernel⟩
/-! filled -/
def m_filled : MC := ⟨["content", "height", "size"], defScope (top 28), fnName, bkOf, [7, 24, 64, 82], gcs, gxs⟩
theorem k_filled : mSs m_filled c_filled (defBody (top 28)) = true := by decide +kernel
theorem s_filled : FnScope ["content", "height", "size"] ["content", "height", "size"] (defScope (top 28)) := ⟨rfl, rfl, rfl, by decide +kernel, rfl, by decide +kernel, by decide +kernel⟩
/-! columns_needed -/
def m_columns_needed : MC := ⟨["content", "height", "size"], defScope (top 29), fnName, bkOf, [7, 24, 64, 83], gcs, gxs⟩
theorem k_columns_needed : mSs m_columns_needed c_columns_needed (defBody (top 29)) = true := by decide +kernel
theorem s_columns_needed : FnScope ["content", "height", "size"] ["content", "height", "size"] (defScope (top 29)) := ⟨rfl, rfl, rfl, by decide +kernel, rfl, by decide +kernel, by decide +kernel⟩
/-! _law_bag -/
def m__law_bag : MC := ⟨["script", "k", "cell", "first", "seed"], defScope (top 31), fnName, bkOf, [], gcs, gxs⟩
theorem k__law_bag : mSs m__law_bag c__law_bag (defBody (top 31)) = true := by decide +kernel
theorem s__law_bag : FnScope ["script", "k", "cell", "first", "seed"] ["script", "k"] (defScope (top 31)) := ⟨rfl, rfl, rfl, by decide +kernel, rfl, by decide +kernel, by decide +kernel⟩
/-! _law_take -/
def m__law_take : MC := ⟨["bag", "count", "found", "mixed"], defScope (top 32), fnName, bkOf, [], gcs, gxs⟩
theorem k__law_take : mSs m__law_take c__law_take (defBody (top 32)) = true := by decide +kernel
theorem s__law_take : FnScope ["bag", "count", "found", "mixed"] ["bag", "count"] (defScope (top 32)) := ⟨rfl, rfl, rfl, by decide +kernel, rfl, by decide +kernel, by decide +kernel⟩
/-! _law_of -/
def m__law_of : MC := ⟨["bag", "some"], defScope (top 33), fnName, bkOf, [10], gcs, gxs⟩
theorem k__law_of : mSs m__law_of c__law_of (defBody (top 33)) = true := by decide +kernel
theorem s__law_of : FnScope ["bag", "some"] ["bag", "some"] (defScope (top 33)) := ⟨rfl, rfl, rfl, by decide +kernel, rfl, by decide +kernel, by decide +kernel⟩
/-! _law_line -/
def m__law_line : MC := ⟨["bag", "wide", "plate", "high", "space", "note"], defScope (top 34), fnName, bkOf, [10, 11], gcs, gxs⟩
theorem k__law_line : mSs m__law_line c__law_line (defBody (top 34)) = true := by decide +kernel
theorem s__law_line : FnScope ["bag", "wide", "plate", "high", "space", "note"] ["bag", "wide", "plate"] (defScope (top 34)) := ⟨rfl, rfl, rfl, by decide +kernel, rfl, by decide +kernel, by decide +kernel⟩
/-! _law_content -/
def m__law_content : MC := ⟨["bag", "least", "most", "wide", "lines", "many", "turn", "plate", "line", "last"], defScope (top 35), fnName, bkOf, [10, 11, 12], gcs, gxs⟩
theorem k__law_content : mSs m__law_content c__law_content (defBody (top 35)) = true := by decide +kernel
theorem s__law_content : FnScope ["bag", "least", "most", "wide", "lines", "many", "turn", "plate", "line", "last"] ["bag", "least", "most", "wide"] (defScope (top 35)) := ⟨rfl, rfl, rfl, by decide +kernel, rfl, by decide +kernel, by decide +kernel⟩
/-! _law_breaks -/
def m__law_breaks : MC := ⟨["content", "lines", "at"], defScope (top 36), fnName, bkOf, [], gcs, gxs⟩
theorem k__law_breaks : mSs m__law_breaks c__law_breaks (defBody (top 36)) = true := by decide +kernel
theorem s__law_breaks : FnScope ["content", "lines", "at"] ["content"] (defScope (top 36)) := ⟨rfl, rfl, rfl, by decide +kernel, rfl, by decide +kernel, by decide +kernel⟩
/-! _law_high -/
def m__law_high : MC := ⟨["content", "first", "end", "x_so", "some", "high", "line"], defScope (top 37), fnName, bkOf, [], gcs, gxs⟩
theorem k__law_high : mSs m__law_high c__law_high (defBody (top 37)) = true := by decide +kernel
theorem s__law_high : FnScope ["content", "first", "end", "x_so", "some", "high", "line"] ["content", "first", "end", "x_so"] (defScope (top 37)) := ⟨rfl, rfl, rfl, by decide +kernel, rfl, by decide +kernel, by decide +kernel⟩
/-! _law_columns -/
def m__law_columns : MC := ⟨["content", "layout", "places", "at"], defScope (top 38), fnName, bkOf, [], gcs, gxs⟩
theorem k__law_columns : mSs m__law_columns c__law_columns (defBody (top 38)) = true := by decide +kernel
theorem s__law_columns : FnScope ["content", "layout", "places", "at"] ["content", "layout"] (defScope (top 38)) := ⟨rfl, rfl, rfl, by decide +kernel, rfl, by decide +kernel, by decide +kernel⟩
/-! _law_layouts -/
def m__law_layouts : MC := ⟨["content", "columns", "found", "waiting", "layout", "later", "place"], defScope (top 39), fnName, bkOf, [14], gcs, gxs⟩
theorem k__law_layouts : mSs m__law_layouts c__law_layouts (defBody (top 39)) = true := by decide +kernel
theorem s__law_layouts : FnScope ["content", "columns", "found", "waiting", "layout", "later", "place"] ["content", "columns"] (defScope (top 39)) := ⟨rfl, rfl, rfl, by decide +kernel, rfl, by decide +kernel, by decide +kernel⟩
/-! _law_fill -/
def m__law_fill : MC := ⟨["content", "high", "x_so", "stops", "found", "place", "later", "good", "stop"], defScope (top 40), fnName, bkOf, [14, 32], gcs, gxs⟩
theorem k__law_fill : mSs m__law_fill c__law_fill (defBody (top 40)) = true := by decide +kernel
theorem s__law_fill : FnScope ["content", "high", "x_so", "stops", "found", "place", "later", "good", "stop"] ["content", "high", "x_so"] (defScope (top 40)) := ⟨rfl, rfl, rfl, by decide +kernel, rfl, by decide +kernel, by decide +kernel⟩
/-! _law_rows -/
def m__law_rows : MC := ⟨["content", "columns", "found", "layout", "row", "first", "end", "base"], defScope (top 41), fnName, bkOf, [32, 33, 44], gcs, gxs⟩
theorem k__law_rows : mSs m__law_rows c__law_rows (defBody (top 41)) = true := by decide +kernel
theorem s__law_rows : FnScope ["content", "columns", "found", "layout", "row", "first", "end", "base"] ["content", "columns"] (defScope (top 41)) := ⟨rfl, rfl, rfl, by decide +kernel, rfl, by decide +kernel, by decide +kernel⟩
/-! _law_least -/
def m__law_least : MC := ⟨["rows", "x_so", "row", "base", "many"], defScope (top 42), fnName, bkOf, [], gcs, gxs⟩
theorem k__law_least : mSs m__law_least c__law_least (defBody (top 42)) = true := by decide +kernel
theorem s__law_least : FnScope ["rows", "x_so", "row", "base", "many"] ["rows", "x_so"] (defScope (top 42)) := ⟨rfl, rfl, rfl, by decide +kernel, rfl, by decide +kernel, by decide +kernel⟩
/-! law_k09 -/
def m_law_k09 : MC := ⟨["script", "k", "bag", "content", "rows", "turn", "x_so", "many", "high", "due", "number", "few", "one", "row"], defScope (top 43), fnName, bkOf, [9, 10, 11, 13, 32, 33, 61, 62, 84, 85, 86], gcs, gxs⟩
theorem k_law_k09 : mSs m_law_k09 c_law_k09 (defBody (top 43)) = true := by decide +kernel
theorem s_law_k09 : FnScope ["script", "k", "bag", "content", "rows", "turn", "x_so", "many", "high", "due", "number", "few", "one", "row"] ["script"] (defScope (top 43)) := ⟨rfl, rfl, rfl, by decide +kernel, rfl, by decide +kernel, by decide +kernel⟩
def xaOf (K : PySem.W.Frag) : Nat → Addr
  | 1 => He.ga K "InvalidContent"
  | 5 => He.ga K "InvalidHeight"
  | 3 => He.ga K "InvalidSize"
  | _ => 0
def fa : List He.Fa := [.free "len", .free "int", .free "bool", .free "str", .free "abs", .free "max", .free "min", .free "sum", .free "any", .free "all", .free "list", .free "tuple", .free "isinstance", .free "range", .free "zip", .free "enumerate", .free "sorted", .free "set", .free "dict", .int "MOST_HEIGHT" 10000000, .int "MOST_LINES" 16, .int "MOST_PLATES" 4, .int "MOST_SIZE" 1000000, .str "PLATE" "x", .exc "InvalidContent", .exc "InvalidHeight", .exc "InvalidSize", .glo "InvalidContent", .glo "InvalidHeight", .glo "InvalidSize", .glo "is_integer", .glo "is_plate", .glo "is_line", .glo "are_lines", .glo "is_content", .glo "breaks_of", .glo "stops_of", .glo "need_content", .glo "need_height", .glo "need_size", .glo "stretch", .glo "all_stretches", .glo "columns_in", .glo "heights_in", .glo "filled_so", .glo "number_so", .glo "filled", .glo "columns_needed", .glo "_law_bag", .glo "_law_take", .glo "_law_of", .glo "_law_line", .glo "_law_content", .glo "_law_breaks", .glo "_law_high", .glo "_law_columns", .glo "_law_layouts", .glo "_law_fill", .glo "_law_rows", .glo "_law_least", .glo "law"]
def fn : List He.DefD := [
  ⟨("is_integer", none), "is_integer", "is_integer", defArgs (top 11), defBody (top 11), defScope (top 11), [], []⟩,
  ⟨("is_plate", none), "is_plate", "is_plate", defArgs (top 12), defBody (top 12), defScope (top 12), [], []⟩,
  ⟨("is_line", none), "is_line", "is_line", defArgs (top 13), defBody (top 13), defScope (top 13), [], []⟩,
  ⟨("are_lines", none), "are_lines", "are_lines", defArgs (top 14), defBody (top 14), defScope (top 14), [], []⟩,
  ⟨("is_content", none), "is_content", "is_content", defArgs (top 15), defBody (top 15), defScope (top 15), [], []⟩,
  ⟨("breaks_of", none), "breaks_of", "breaks_of", defArgs (top 16), defBody (top 16), defScope (top 16), [], []⟩,
  ⟨("stops_of", none), "stops_of", "stops_of", defArgs (top 17), defBody (top 17), defScope (top 17), [], []⟩,
  ⟨("need_content", none), "need_content", "need_content", defArgs (top 18), defBody (top 18), defScope (top 18), [], []⟩,
  ⟨("need_height", none), "need_height", "need_height", defArgs (top 19), defBody (top 19), defScope (top 19), [], []⟩,
  ⟨("need_size", none), "need_size", "need_size", defArgs (top 20), defBody (top 20), defScope (top 20), [], []⟩,
  ⟨("stretch", none), "stretch", "stretch", defArgs (top 21), defBody (top 21), defScope (top 21), [], []⟩,
  ⟨("all_stretches", none), "all_stretches", "all_stretches", defArgs (top 22), defBody (top 22), defScope (top 22), [], []⟩,
  ⟨("columns_in", none), "columns_in", "columns_in", defArgs (top 23), defBody (top 23), defScope (top 23), [], []⟩,
  ⟨("heights_in", none), "heights_in", "heights_in", defArgs (top 24), defBody (top 24), defScope (top 24), [], []⟩,
  ⟨("filled_so", none), "filled_so", "filled_so", defArgs (top 26), defBody (top 26), defScope (top 26), [], []⟩,
  ⟨("number_so", none), "number_so", "number_so", defArgs (top 27), defBody (top 27), defScope (top 27), [], []⟩,
  ⟨("filled", none), "filled", "filled", defArgs (top 28), defBody (top 28), defScope (top 28), [], [("size", .int 0)]⟩,
  ⟨("columns_needed", none), "columns_needed", "columns_needed", defArgs (top 29), defBody (top 29), defScope (top 29), [], [("size", .int 0)]⟩,
  ⟨("_law_bag", none), "_law_bag", "_law_bag", defArgs (top 31), defBody (top 31), defScope (top 31), [], []⟩,
  ⟨("_law_take", none), "_law_take", "_law_take", defArgs (top 32), defBody (top 32), defScope (top 32), [], []⟩,
  ⟨("_law_of", none), "_law_of", "_law_of", defArgs (top 33), defBody (top 33), defScope (top 33), [], []⟩,
  ⟨("_law_line", none), "_law_line", "_law_line", defArgs (top 34), defBody (top 34), defScope (top 34), [], []⟩,
  ⟨("_law_content", none), "_law_content", "_law_content", defArgs (top 35), defBody (top 35), defScope (top 35), [], []⟩,
  ⟨("_law_breaks", none), "_law_breaks", "_law_breaks", defArgs (top 36), defBody (top 36), defScope (top 36), [], []⟩,
  ⟨("_law_high", none), "_law_high", "_law_high", defArgs (top 37), defBody (top 37), defScope (top 37), [], []⟩,
  ⟨("_law_columns", none), "_law_columns", "_law_columns", defArgs (top 38), defBody (top 38), defScope (top 38), [], []⟩,
  ⟨("_law_layouts", none), "_law_layouts", "_law_layouts", defArgs (top 39), defBody (top 39), defScope (top 39), [], []⟩,
  ⟨("_law_fill", none), "_law_fill", "_law_fill", defArgs (top 40), defBody (top 40), defScope (top 40), [], []⟩,
  ⟨("_law_rows", none), "_law_rows", "_law_rows", defArgs (top 41), defBody (top 41), defScope (top 41), [], []⟩,
  ⟨("_law_least", none), "_law_least", "_law_least", defArgs (top 42), defBody (top 42), defScope (top 42), [], []⟩,
  ⟨("law", none), "law", "law", defArgs (top 43), defBody (top 43), defScope (top 43), [], []⟩]
section
variable {P : Program} {w : World} {K : PySem.W.Frag} {h : Heap} {mg : Str → Option Value} {base : Heap}
theorem modOk (KX : K.In h) (GN : h.Ns mainGlobals mg) (c : He.SaysD fa fn K) : ModOk P w K mg base (xaOf K) (fun _ => "") gcs gxs where
  blt := fun s hs => by
    simp only [bltNames, List.mem_cons, List.not_mem_nil, or_false] at hs
    rcases hs with rfl | rfl | rfl | rfl | rfl | rfl | rfl | rfl | rfl | rfl | rfl | rfl | rfl | rfl | rfl | rfl | rfl | rfl | rfl
    · exact He.free_ok KX GN (c.fact 0 (f := .free "len") rfl)
    · exact He.free_ok KX GN (c.fact 1 (f := .free "int") rfl)
    · exact He.free_ok KX GN (c.fact 2 (f := .free "bool") rfl)
    · exact He.free_ok KX GN (c.fact 3 (f := .free "str") rfl)
    · exact He.free_ok KX GN (c.fact 4 (f := .free "abs") rfl)
    · exact He.free_ok KX GN (c.fact 5 (f := .free "max") rfl)
    · exact He.free_ok KX GN (c.fact 6 (f := .free "min") rfl)
    · exact He.free_ok KX GN (c.fact 7 (f := .free "sum") rfl)
    · exact He.free_ok KX GN (c.fact 8 (f := .free "any") rfl)
    · exact He.free_ok KX GN (c.fact 9 (f := .free "all") rfl)
    · exact He.free_ok KX GN (c.fact 10 (f := .free "list") rfl)
    · exact He.free_ok KX GN (c.fact 11 (f := .free "tuple") rfl)
    · exact He.free_ok KX GN (c.fact 12 (f := .free "isinstance") rfl)
    · exact He.free_ok KX GN (c.fact 13 (f := .free "range") rfl)
    · exact He.free_ok KX GN (c.fact 14 (f := .free "zip") rfl)
    · exact He.free_ok KX GN (c.fact 15 (f := .free "enumerate") rfl)
    · exact He.free_ok KX GN (c.fact 16 (f := .free "sorted") rfl)
    · exact He.free_ok KX GN (c.fact 17 (f := .free "set") rfl)
    · exact He.free_ok KX GN (c.fact 18 (f := .free "dict") rfl)
  cs := fun q hq => by
    simp only [gcs, List.mem_cons, List.not_mem_nil, or_false] at hq
    rcases hq with rfl | rfl | rfl | rfl | rfl
    · obtain ⟨t, e⟩ := He.int_ok KX GN (c.fact 19 (f := .int "MOST_HEIGHT" 10000000) rfl); exact ⟨_, _, e, rfl, ⟨t, rfl⟩⟩
    · obtain ⟨t, e⟩ := He.int_ok KX GN (c.fact 20 (f := .int "MOST_LINES" 16) rfl); exact ⟨_, _, e, rfl, ⟨t, rfl⟩⟩
    · obtain ⟨t, e⟩ := He.int_ok KX GN (c.fact 21 (f := .int "MOST_PLATES" 4) rfl); exact ⟨_, _, e, rfl, ⟨t, rfl⟩⟩
    · obtain ⟨t, e⟩ := He.int_ok KX GN (c.fact 22 (f := .int "MOST_SIZE" 1000000) rfl); exact ⟨_, _, e, rfl, ⟨t, rfl⟩⟩
    · obtain ⟨t, e⟩ := He.str_ok KX GN (c.fact 23 (f := .str "PLATE" "x") rfl); exact ⟨_, _, e, rfl, ⟨t, rfl⟩⟩
  xs := fun q hq => by
    simp only [gxs, List.mem_cons, List.not_mem_nil, or_false] at hq
    rcases hq with rfl | rfl | rfl
    · obtain ⟨e1, e2, e3, e4⟩ := He.exc_ok (c.fact 24 (f := .exc "InvalidContent") rfl); exact ⟨e1, e2, e3, e4, He.glo_ok KX GN (c.fact 27 (f := .glo "InvalidContent") rfl)⟩
    · obtain ⟨e1, e2, e3, e4⟩ := He.exc_ok (c.fact 25 (f := .exc "InvalidHeight") rfl); exact ⟨e1, e2, e3, e4, He.glo_ok KX GN (c.fact 28 (f := .glo "InvalidHeight") rfl)⟩
    · obtain ⟨e1, e2, e3, e4⟩ := He.exc_ok (c.fact 26 (f := .exc "InvalidSize") rfl); exact ⟨e1, e2, e3, e4, He.glo_ok KX GN (c.fact 29 (f := .glo "InvalidSize") rfl)⟩
theorem d_is_integer (KX : K.In h) (GN : h.Ns mainGlobals mg) (c : He.SaysD fa fn K) : FnD P w K mg base (xaOf K) (fun _ => "") 1 "is_integer" 3 (bkOf 0) f_is_integer := by
  obtain ⟨fd, F⟩ := c.def_ 0 (d := fn[0]) rfl
  refine fnd_of (lv := 0) (m := m_is_integer) (c := c_is_integer) (ps := ["value", "low", "high"]) (bk := bkOf 0) F s_is_integer (modOk KX GN c) (He.glo_ok KX GN (c.fact 30 (f := .glo "is_integer") rfl)) ?_ k_is_integer ?_
  · exact fun s us hl => FunD.bindsA (ps := ["value", "low", "high"]) F (fun _ _ _ _ _ _ us hl => match us, hl with | [_, _, _], _ => rfl) s us hl
  · intro j hj
    exact absurd hj (by simp [m_is_integer])
theorem d_is_plate (KX : K.In h) (GN : h.Ns mainGlobals mg) (c : He.SaysD fa fn K) : FnD P w K mg base (xaOf K) (fun _ => "") 1 "is_plate" 1 (bkOf 1) f_is_plate := by
  obtain ⟨fd, F⟩ := c.def_ 1 (d := fn[1]) rfl
  refine fnd_of (lv := 0) (m := m_is_plate) (c := c_is_plate) (ps := ["line"]) (bk := bkOf 1) F s_is_plate (modOk KX GN c) (He.glo_ok KX GN (c.fact 31 (f := .glo "is_plate") rfl)) ?_ k_is_plate ?_
  · exact fun s us hl => FunD.bindsA (ps := ["line"]) F (fun _ _ _ _ _ _ us hl => match us, hl with | [_], _ => rfl) s us hl
  · intro j hj
    exact absurd hj (by simp [m_is_plate])
theorem d_is_line (KX : K.In h) (GN : h.Ns mainGlobals mg) (c : He.SaysD fa fn K) : FnD P w K mg base (xaOf K) (fun _ => "") 2 "is_line" 1 (bkOf 2) f_is_line := by
  obtain ⟨fd, F⟩ := c.def_ 2 (d := fn[2]) rfl
  refine fnd_of (lv := 1) (m := m_is_line) (c := c_is_line) (ps := ["value"]) (bk := bkOf 2) F s_is_line (modOk KX GN c) (He.glo_ok KX GN (c.fact 32 (f := .glo "is_line") rfl)) ?_ k_is_line ?_
  · exact fun s us hl => FunD.bindsA (ps := ["value"]) F (fun _ _ _ _ _ _ us hl => match us, hl with | [_], _ => rfl) s us hl
  · intro j hj
    simp only [m_is_line, List.mem_cons, List.not_mem_nil, or_false] at hj
    rcases hj with rfl
    · exact ⟨_, runDef_len, (d_is_integer KX GN c).up (by decide)⟩
theorem d_are_lines (KX : K.In h) (GN : h.Ns mainGlobals mg) (c : He.SaysD fa fn K) : FnD P w K mg base (xaOf K) (fun _ => "") 3 "are_lines" 1 (bkOf 3) f_are_lines := by
  obtain ⟨fd, F⟩ := c.def_ 3 (d := fn[3]) rfl
  refine fnd_of (lv := 2) (m := m_are_lines) (c := c_are_lines) (ps := ["value"]) (bk := bkOf 3) F s_are_lines (modOk KX GN c) (He.glo_ok KX GN (c.fact 33 (f := .glo "are_lines") rfl)) ?_ k_are_lines ?_
  · exact fun s us hl => FunD.bindsA (ps := ["value"]) F (fun _ _ _ _ _ _ us hl => match us, hl with | [_], _ => rfl) s us hl
  · intro j hj
    simp only [m_are_lines, List.mem_cons, List.not_mem_nil, or_false] at hj
    rcases hj with rfl
    · exact ⟨_, runDef_len, (d_is_line KX GN c).up (by decide)⟩
theorem d_is_content (KX : K.In h) (GN : h.Ns mainGlobals mg) (c : He.SaysD fa fn K) : FnD P w K mg base (xaOf K) (fun _ => "") 4 "is_content" 1 (bkOf 4) f_is_content := by
  obtain ⟨fd, F⟩ := c.def_ 4 (d := fn[4]) rfl
  refine fnd_of (lv := 3) (m := m_is_content) (c := c_is_content) (ps := ["value"]) (bk := bkOf 4) F s_is_content (modOk KX GN c) (He.glo_ok KX GN (c.fact 34 (f := .glo "is_content") rfl)) ?_ k_is_content ?_
  · exact fun s us hl => FunD.bindsA (ps := ["value"]) F (fun _ _ _ _ _ _ us hl => match us, hl with | [_], _ => rfl) s us hl
  · intro j hj
    simp only [m_is_content, List.mem_cons, List.not_mem_nil, or_false] at hj
    rcases hj with rfl | rfl | rfl
    · exact ⟨_, runDef_len, (d_is_integer KX GN c).up (by decide)⟩
    · exact ⟨_, runDef_len, (d_is_plate KX GN c).up (by decide)⟩
    · exact ⟨_, runDef_len, (d_are_lines KX GN c).up (by decide)⟩
theorem d_breaks_of (KX : K.In h) (GN : h.Ns mainGlobals mg) (c : He.SaysD fa fn K) : FnD P w K mg base (xaOf K) (fun _ => "") 1 "breaks_of" 1 (bkOf 5) f_breaks_of := by
  obtain ⟨fd, F⟩ := c.def_ 5 (d := fn[5]) rfl
  refine fnd_of (lv := 0) (m := m_breaks_of) (c := c_breaks_of) (ps := ["lines"]) (bk := bkOf 5) F s_breaks_of (modOk KX GN c) (He.glo_ok KX GN (c.fact 35 (f := .glo "breaks_of") rfl)) ?_ k_breaks_of ?_
  · exact fun s us hl => FunD.bindsA (ps := ["lines"]) F (fun _ _ _ _ _ _ us hl => match us, hl with | [_], _ => rfl) s us hl
  · intro j hj
    exact absurd hj (by simp [m_breaks_of])
theorem d_stops_of (KX : K.In h) (GN : h.Ns mainGlobals mg) (c : He.SaysD fa fn K) : FnD P w K mg base (xaOf K) (fun _ => "") 2 "stops_of" 1 (bkOf 35) f_stops_of := by
  obtain ⟨fd, F⟩ := c.def_ 6 (d := fn[6]) rfl
  refine fnd_of (lv := 1) (m := m_stops_of) (c := c_stops_of) (ps := ["lines"]) (bk := bkOf 35) F s_stops_of (modOk KX GN c) (He.glo_ok KX GN (c.fact 36 (f := .glo "stops_of") rfl)) ?_ k_stops_of ?_
  · exact fun s us hl => FunD.bindsA (ps := ["lines"]) F (fun _ _ _ _ _ _ us hl => match us, hl with | [_], _ => rfl) s us hl
  · intro j hj
    simp only [m_stops_of, List.mem_cons, List.not_mem_nil, or_false] at hj
    rcases hj with rfl
    · exact ⟨_, runDef_len, (d_breaks_of KX GN c).up (by decide)⟩
theorem d_need_content (KX : K.In h) (GN : h.Ns mainGlobals mg) (c : He.SaysD fa fn K) : FnD P w K mg base (xaOf K) (fun _ => "") 5 "need_content" 1 (bkOf 7) f_need_content := by
  obtain ⟨fd, F⟩ := c.def_ 7 (d := fn[7]) rfl
  refine fnd_of (lv := 4) (m := m_need_content) (c := c_need_content) (ps := ["value"]) (bk := bkOf 7) F s_need_content (modOk KX GN c) (He.glo_ok KX GN (c.fact 37 (f := .glo "need_content") rfl)) ?_ k_need_content ?_
  · exact fun s us hl => FunD.bindsA (ps := ["value"]) F (fun _ _ _ _ _ _ us hl => match us, hl with | [_], _ => rfl) s us hl
  · intro j hj
    simp only [m_need_content, List.mem_cons, List.not_mem_nil, or_false] at hj
    rcases hj with rfl
    · exact ⟨_, runDef_len, (d_is_content KX GN c).up (by decide)⟩
theorem d_need_height (KX : K.In h) (GN : h.Ns mainGlobals mg) (c : He.SaysD fa fn K) : FnD P w K mg base (xaOf K) (fun _ => "") 2 "need_height" 1 (bkOf 64) f_need_height := by
  obtain ⟨fd, F⟩ := c.def_ 8 (d := fn[8]) rfl
  refine fnd_of (lv := 1) (m := m_need_height) (c := c_need_height) (ps := ["value"]) (bk := bkOf 64) F s_need_height (modOk KX GN c) (He.glo_ok KX GN (c.fact 38 (f := .glo "need_height") rfl)) ?_ k_need_height ?_
  · exact fun s us hl => FunD.bindsA (ps := ["value"]) F (fun _ _ _ _ _ _ us hl => match us, hl with | [_], _ => rfl) s us hl
  · intro j hj
    simp only [m_need_height, List.mem_cons, List.not_mem_nil, or_false] at hj
    rcases hj with rfl
    · exact ⟨_, runDef_len, (d_is_integer KX GN c).up (by decide)⟩
theorem d_need_size (KX : K.In h) (GN : h.Ns mainGlobals mg) (c : He.SaysD fa fn K) : FnD P w K mg base (xaOf K) (fun _ => "") 2 "need_size" 1 (bkOf 24) f_need_size := by
  obtain ⟨fd, F⟩ := c.def_ 9 (d := fn[9]) rfl
  refine fnd_of (lv := 1) (m := m_need_size) (c := c_need_size) (ps := ["value"]) (bk := bkOf 24) F s_need_size (modOk KX GN c) (He.glo_ok KX GN (c.fact 39 (f := .glo "need_size") rfl)) ?_ k_need_size ?_
  · exact fun s us hl => FunD.bindsA (ps := ["value"]) F (fun _ _ _ _ _ _ us hl => match us, hl with | [_], _ => rfl) s us hl
  · intro j hj
    simp only [m_need_size, List.mem_cons, List.not_mem_nil, or_false] at hj
    rcases hj with rfl
    · exact ⟨_, runDef_len, (d_is_integer KX GN c).up (by decide)⟩
theorem d_stretch (KX : K.In h) (GN : h.Ns mainGlobals mg) (c : He.SaysD fa fn K) : FnD P w K mg base (xaOf K) (fun _ => "") 2 "stretch" 3 (bkOf 25) f_stretch := by
  obtain ⟨fd, F⟩ := c.def_ 10 (d := fn[10]) rfl
  refine fnd_of (lv := 1) (m := m_stretch) (c := c_stretch) (ps := ["content", "first", "end"]) (bk := bkOf 25) F s_stretch (modOk KX GN c) (He.glo_ok KX GN (c.fact 40 (f := .glo "stretch") rfl)) ?_ k_stretch ?_
  · exact fun s us hl => FunD.bindsA (ps := ["content", "first", "end"]) F (fun _ _ _ _ _ _ us hl => match us, hl with | [_, _, _], _ => rfl) s us hl
  · intro j hj
    simp only [m_stretch, List.mem_cons, List.not_mem_nil, or_false] at hj
    rcases hj with rfl
    · exact ⟨_, runDef_len, (d_is_plate KX GN c).up (by decide)⟩
theorem d_all_stretches (KX : K.In h) (GN : h.Ns mainGlobals mg) (c : He.SaysD fa fn K) : FnD P w K mg base (xaOf K) (fun _ => "") 3 "all_stretches" 1 (bkOf 37) f_all_stretches := by
  obtain ⟨fd, F⟩ := c.def_ 11 (d := fn[11]) rfl
  refine fnd_of (lv := 2) (m := m_all_stretches) (c := c_all_stretches) (ps := ["content"]) (bk := bkOf 37) F s_all_stretches (modOk KX GN c) (He.glo_ok KX GN (c.fact 41 (f := .glo "all_stretches") rfl)) ?_ k_all_stretches ?_
  · exact fun s us hl => FunD.bindsA (ps := ["content"]) F (fun _ _ _ _ _ _ us hl => match us, hl with | [_], _ => rfl) s us hl
  · intro j hj
    simp only [m_all_stretches, List.mem_cons, List.not_mem_nil, or_false] at hj
    rcases hj with rfl | rfl
    · exact ⟨_, runDef_len, (d_stretch KX GN c).up (by decide)⟩
    · exact ⟨_, runDef_len, (d_stops_of KX GN c).up (by decide)⟩
theorem d_columns_in (KX : K.In h) (GN : h.Ns mainGlobals mg) (c : He.SaysD fa fn K) : FnD P w K mg base (xaOf K) (fun _ => "") 1 "columns_in" 2 (bkOf 26) f_columns_in := by
  obtain ⟨fd, F⟩ := c.def_ 12 (d := fn[12]) rfl
  refine fnd_of (lv := 0) (m := m_columns_in) (c := c_columns_in) (ps := ["content", "layout"]) (bk := bkOf 26) F s_columns_in (modOk KX GN c) (He.glo_ok KX GN (c.fact 42 (f := .glo "columns_in") rfl)) ?_ k_columns_in ?_
  · exact fun s us hl => FunD.bindsA (ps := ["content", "layout"]) F (fun _ _ _ _ _ _ us hl => match us, hl with | [_, _], _ => rfl) s us hl
  · intro j hj
    exact absurd hj (by simp [m_columns_in])
theorem d_heights_in (KX : K.In h) (GN : h.Ns mainGlobals mg) (c : He.SaysD fa fn K) : FnD P w K mg base (xaOf K) (fun _ => "") 3 "heights_in" 3 (bkOf 27) f_heights_in := by
  obtain ⟨fd, F⟩ := c.def_ 13 (d := fn[13]) rfl
  refine fnd_of (lv := 2) (m := m_heights_in) (c := c_heights_in) (ps := ["content", "layout", "size"]) (bk := bkOf 27) F s_heights_in (modOk KX GN c) (He.glo_ok KX GN (c.fact 43 (f := .glo "heights_in") rfl)) ?_ k_heights_in ?_
  · exact fun s us hl => FunD.bindsA (ps := ["content", "layout", "size"]) F (fun _ _ _ _ _ _ us hl => match us, hl with | [_, _, _], _ => rfl) s us hl
  · intro j hj
    simp only [m_heights_in, List.mem_cons, List.not_mem_nil, or_false] at hj
    rcases hj with rfl | rfl
    · exact ⟨_, runDef_len, (d_stretch KX GN c).up (by decide)⟩
    · exact ⟨_, runDef_len, (d_columns_in KX GN c).up (by decide)⟩
theorem d_filled_so (KX : K.In h) (GN : h.Ns mainGlobals mg) (c : He.SaysD fa fn K) : FnD P w K mg base (xaOf K) (fun _ => "") 4 "filled_so" 3 (bkOf 82) f_filled_so := by
  obtain ⟨fd, F⟩ := c.def_ 14 (d := fn[14]) rfl
  refine fnd_of (lv := 3) (m := m_filled_so) (c := c_filled_so) (ps := ["content", "height", "size"]) (bk := bkOf 82) F s_filled_so (modOk KX GN c) (He.glo_ok KX GN (c.fact 44 (f := .glo "filled_so") rfl)) ?_ k_filled_so ?_
  · exact fun s us hl => FunD.bindsA (ps := ["content", "height", "size"]) F (fun _ _ _ _ _ _ us hl => match us, hl with | [_, _, _], _ => rfl) s us hl
  · intro j hj
    simp only [m_filled_so, List.mem_cons, List.not_mem_nil, or_false] at hj
    rcases hj with rfl | rfl
    · exact ⟨_, runDef_len, (d_stops_of KX GN c).up (by decide)⟩
    · exact ⟨_, runDef_len, (d_all_stretches KX GN c).up (by decide)⟩
theorem d_number_so (KX : K.In h) (GN : h.Ns mainGlobals mg) (c : He.SaysD fa fn K) : FnD P w K mg base (xaOf K) (fun _ => "") 5 "number_so" 3 (bkOf 83) f_number_so := by
  obtain ⟨fd, F⟩ := c.def_ 15 (d := fn[15]) rfl
  refine fnd_of (lv := 4) (m := m_number_so) (c := c_number_so) (ps := ["content", "height", "size"]) (bk := bkOf 83) F s_number_so (modOk KX GN c) (He.glo_ok KX GN (c.fact 45 (f := .glo "number_so") rfl)) ?_ k_number_so ?_
  · exact fun s us hl => FunD.bindsA (ps := ["content", "height", "size"]) F (fun _ _ _ _ _ _ us hl => match us, hl with | [_, _, _], _ => rfl) s us hl
  · intro j hj
    simp only [m_number_so, List.mem_cons, List.not_mem_nil, or_false] at hj
    rcases hj with rfl | rfl | rfl
    · exact ⟨_, runDef_len, (d_columns_in KX GN c).up (by decide)⟩
    · exact ⟨_, runDef_len, (d_heights_in KX GN c).up (by decide)⟩
    · exact ⟨_, runDef_len, (d_filled_so KX GN c).up (by decide)⟩
theorem d_filled (KX : K.In h) (GN : h.Ns mainGlobals mg) (c : He.SaysD fa fn K) : FnD P w K mg base (xaOf K) (fun _ => "") 6 "filled" 3 (bkOf 84) f_filled := by
  obtain ⟨fd, F⟩ := c.def_ 16 (d := fn[16]) rfl
  refine fnd_of (lv := 5) (m := m_filled) (c := c_filled) (ps := ["content", "height", "size"]) (bk := bkOf 84) F s_filled (modOk KX GN c) (He.glo_ok KX GN (c.fact 46 (f := .glo "filled") rfl)) ?_ k_filled ?_
  · refine ⟨?_, ?_⟩
    · obtain ⟨ds, r, hb⟩ := FunD.binds0 (ps := ["content", "height", "size"]) F 2 (List.cons_ne_nil _ _) rfl (fun D doc pm an cdv ct us ks h1 h2 => match us, ks, h1, h2 with | [_, _], [_], _, _ => ⟨_, _, _, _, _, _, rfl, rfl, rfl⟩)
      obtain ⟨u, rfl, ru⟩ := vals1 r
      exact ⟨_, u, rfl, ru, fun s us hk hl => hb s us hk (by rw [List.length_append]; exact hl)⟩
    · obtain ⟨mv, hb⟩ := FunD.kbinds0 (ps := ["content", "height", "size"]) F 2 ["size"] [] (fun vs mz zs => vs ++ zs) (List.cons_ne_nil _ _) (by intro q hq; cases hq) (fun r1 _ r3 => r1.append r3) (fun D doc pm an cdv ct us mv ws h1 h2 h3 => match us, mv, ws, h1, h2, h3 with | [_, _], [], [_], _, _, _ => rfl)
      exact fun s us w hk hl => hb.to s us [w] hk (by simpa using hl) rfl
  · intro j hj
    simp only [m_filled, List.mem_cons, List.not_mem_nil, or_false] at hj
    rcases hj with rfl | rfl | rfl | rfl
    · exact ⟨_, runDef_len, (d_need_content KX GN c).up (by decide)⟩
    · exact ⟨_, runDef_len, (d_need_size KX GN c).up (by decide)⟩
    · exact ⟨_, runDef_len, (d_need_height KX GN c).up (by decide)⟩
    · exact ⟨_, runDef_len, (d_filled_so KX GN c).up (by decide)⟩
theorem d_columns_needed (KX : K.In h) (GN : h.Ns mainGlobals mg) (c : He.SaysD fa fn K) : FnD P w K mg base (xaOf K) (fun _ => "") 6 "columns_needed" 3 (bkOf 85) f_columns_needed := by
  obtain ⟨fd, F⟩ := c.def_ 17 (d := fn[17]) rfl
  refine fnd_of (lv := 5) (m := m_columns_needed) (c := c_columns_needed) (ps := ["content", "height", "size"]) (bk := bkOf 85) F s_columns_needed (modOk KX GN c) (He.glo_ok KX GN (c.fact 47 (f := .glo "columns_needed") rfl)) ?_ k_columns_needed ?_
  · refine ⟨?_, ?_⟩
    · obtain ⟨ds, r, hb⟩ := FunD.binds0 (ps := ["content", "height", "size"]) F 2 (List.cons_ne_nil _ _) rfl (fun D doc pm an cdv ct us ks h1 h2 => match us, ks, h1, h2 with | [_, _], [_], _, _ => ⟨_, _, _, _, _, _, rfl, rfl, rfl⟩)
      obtain ⟨u, rfl, ru⟩ := vals1 r
      exact ⟨_, u, rfl, ru, fun s us hk hl => hb s us hk (by rw [List.length_append]; exact hl)⟩
    · obtain ⟨mv, hb⟩ := FunD.kbinds0 (ps := ["content", "height", "size"]) F 2 ["size"] [] (fun vs mz zs => vs ++ zs) (List.cons_ne_nil _ _) (by intro q hq; cases hq) (fun r1 _ r3 => r1.append r3) (fun D doc pm an cdv ct us mv ws h1 h2 h3 => match us, mv, ws, h1, h2, h3 with | [_, _], [], [_], _, _, _ => rfl)
      exact fun s us w hk hl => hb.to s us [w] hk (by simpa using hl) rfl
  · intro j hj
    simp only [m_columns_needed, List.mem_cons, List.not_mem_nil, or_false] at hj
    rcases hj with rfl | rfl | rfl | rfl
    · exact ⟨_, runDef_len, (d_need_content KX GN c).up (by decide)⟩
    · exact ⟨_, runDef_len, (d_need_size KX GN c).up (by decide)⟩
    · exact ⟨_, runDef_len, (d_need_height KX GN c).up (by decide)⟩
    · exact ⟨_, runDef_len, (d_number_so KX GN c).up (by decide)⟩
theorem d__law_bag (KX : K.In h) (GN : h.Ns mainGlobals mg) (c : He.SaysD fa fn K) : FnD P w K mg base (xaOf K) (fun _ => "") 1 "_law_bag" 2 (bkOf 9) f__law_bag := by
  obtain ⟨fd, F⟩ := c.def_ 18 (d := fn[18]) rfl
  refine fnd_of (lv := 0) (m := m__law_bag) (c := c__law_bag) (ps := ["script", "k"]) (bk := bkOf 9) F s__law_bag (modOk KX GN c) (He.glo_ok KX GN (c.fact 48 (f := .glo "_law_bag") rfl)) ?_ k__law_bag ?_
  · exact fun s us hl => FunD.bindsA (ps := ["script", "k"]) F (fun _ _ _ _ _ _ us hl => match us, hl with | [_, _], _ => rfl) s us hl
  · intro j hj
    exact absurd hj (by simp [m__law_bag])
theorem d__law_take (KX : K.In h) (GN : h.Ns mainGlobals mg) (c : He.SaysD fa fn K) : FnD P w K mg base (xaOf K) (fun _ => "") 1 "_law_take" 2 (bkOf 10) f__law_take := by
  obtain ⟨fd, F⟩ := c.def_ 19 (d := fn[19]) rfl
  refine fnd_of (lv := 0) (m := m__law_take) (c := c__law_take) (ps := ["bag", "count"]) (bk := bkOf 10) F s__law_take (modOk KX GN c) (He.glo_ok KX GN (c.fact 49 (f := .glo "_law_take") rfl)) ?_ k__law_take ?_
  · exact fun s us hl => FunD.bindsA (ps := ["bag", "count"]) F (fun _ _ _ _ _ _ us hl => match us, hl with | [_, _], _ => rfl) s us hl
  · intro j hj
    exact absurd hj (by simp [m__law_take])
theorem d__law_of (KX : K.In h) (GN : h.Ns mainGlobals mg) (c : He.SaysD fa fn K) : FnD P w K mg base (xaOf K) (fun _ => "") 2 "_law_of" 2 (bkOf 11) f__law_of := by
  obtain ⟨fd, F⟩ := c.def_ 20 (d := fn[20]) rfl
  refine fnd_of (lv := 1) (m := m__law_of) (c := c__law_of) (ps := ["bag", "some"]) (bk := bkOf 11) F s__law_of (modOk KX GN c) (He.glo_ok KX GN (c.fact 50 (f := .glo "_law_of") rfl)) ?_ k__law_of ?_
  · exact fun s us hl => FunD.bindsA (ps := ["bag", "some"]) F (fun _ _ _ _ _ _ us hl => match us, hl with | [_, _], _ => rfl) s us hl
  · intro j hj
    simp only [m__law_of, List.mem_cons, List.not_mem_nil, or_false] at hj
    rcases hj with rfl
    · exact ⟨_, runDef_len, (d__law_take KX GN c).up (by decide)⟩
theorem d__law_line (KX : K.In h) (GN : h.Ns mainGlobals mg) (c : He.SaysD fa fn K) : FnD P w K mg base (xaOf K) (fun _ => "") 3 "_law_line" 3 (bkOf 12) f__law_line := by
  obtain ⟨fd, F⟩ := c.def_ 21 (d := fn[21]) rfl
  refine fnd_of (lv := 2) (m := m__law_line) (c := c__law_line) (ps := ["bag", "wide", "plate"]) (bk := bkOf 12) F s__law_line (modOk KX GN c) (He.glo_ok KX GN (c.fact 51 (f := .glo "_law_line") rfl)) ?_ k__law_line ?_
  · exact fun s us hl => FunD.bindsA (ps := ["bag", "wide", "plate"]) F (fun _ _ _ _ _ _ us hl => match us, hl with | [_, _, _], _ => rfl) s us hl
  · intro j hj
    simp only [m__law_line, List.mem_cons, List.not_mem_nil, or_false] at hj
    rcases hj with rfl | rfl
    · exact ⟨_, runDef_len, (d__law_take KX GN c).up (by decide)⟩
    · exact ⟨_, runDef_len, (d__law_of KX GN c).up (by decide)⟩
theorem d__law_content (KX : K.In h) (GN : h.Ns mainGlobals mg) (c : He.SaysD fa fn K) : FnD P w K mg base (xaOf K) (fun _ => "") 4 "_law_content" 4 (bkOf 13) f__law_content := by
  obtain ⟨fd, F⟩ := c.def_ 22 (d := fn[22]) rfl
  refine fnd_of (lv := 3) (m := m__law_content) (c := c__law_content) (ps := ["bag", "least", "most", "wide"]) (bk := bkOf 13) F s__law_content (modOk KX GN c) (He.glo_ok KX GN (c.fact 52 (f := .glo "_law_content") rfl)) ?_ k__law_content ?_
  · exact fun s us hl => FunD.bindsA (ps := ["bag", "least", "most", "wide"]) F (fun _ _ _ _ _ _ us hl => match us, hl with | [_, _, _, _], _ => rfl) s us hl
  · intro j hj
    simp only [m__law_content, List.mem_cons, List.not_mem_nil, or_false] at hj
    rcases hj with rfl | rfl | rfl
    · exact ⟨_, runDef_len, (d__law_take KX GN c).up (by decide)⟩
    · exact ⟨_, runDef_len, (d__law_of KX GN c).up (by decide)⟩
    · exact ⟨_, runDef_len, (d__law_line KX GN c).up (by decide)⟩
theorem d__law_breaks (KX : K.In h) (GN : h.Ns mainGlobals mg) (c : He.SaysD fa fn K) : FnD P w K mg base (xaOf K) (fun _ => "") 1 "_law_breaks" 1 (bkOf 14) f__law_breaks := by
  obtain ⟨fd, F⟩ := c.def_ 23 (d := fn[23]) rfl
  refine fnd_of (lv := 0) (m := m__law_breaks) (c := c__law_breaks) (ps := ["content"]) (bk := bkOf 14) F s__law_breaks (modOk KX GN c) (He.glo_ok KX GN (c.fact 53 (f := .glo "_law_breaks") rfl)) ?_ k__law_breaks ?_
  · exact fun s us hl => FunD.bindsA (ps := ["content"]) F (fun _ _ _ _ _ _ us hl => match us, hl with | [_], _ => rfl) s us hl
  · intro j hj
    exact absurd hj (by simp [m__law_breaks])
theorem d__law_high (KX : K.In h) (GN : h.Ns mainGlobals mg) (c : He.SaysD fa fn K) : FnD P w K mg base (xaOf K) (fun _ => "") 1 "_law_high" 4 (bkOf 32) f__law_high := by
  obtain ⟨fd, F⟩ := c.def_ 24 (d := fn[24]) rfl
  refine fnd_of (lv := 0) (m := m__law_high) (c := c__law_high) (ps := ["content", "first", "end", "x_so"]) (bk := bkOf 32) F s__law_high (modOk KX GN c) (He.glo_ok KX GN (c.fact 54 (f := .glo "_law_high") rfl)) ?_ k__law_high ?_
  · exact fun s us hl => FunD.bindsA (ps := ["content", "first", "end", "x_so"]) F (fun _ _ _ _ _ _ us hl => match us, hl with | [_, _, _, _], _ => rfl) s us hl
  · intro j hj
    exact absurd hj (by simp [m__law_high])
theorem d__law_columns (KX : K.In h) (GN : h.Ns mainGlobals mg) (c : He.SaysD fa fn K) : FnD P w K mg base (xaOf K) (fun _ => "") 1 "_law_columns" 2 (bkOf 33) f__law_columns := by
  obtain ⟨fd, F⟩ := c.def_ 25 (d := fn[25]) rfl
  refine fnd_of (lv := 0) (m := m__law_columns) (c := c__law_columns) (ps := ["content", "layout"]) (bk := bkOf 33) F s__law_columns (modOk KX GN c) (He.glo_ok KX GN (c.fact 55 (f := .glo "_law_columns") rfl)) ?_ k__law_columns ?_
  · exact fun s us hl => FunD.bindsA (ps := ["content", "layout"]) F (fun _ _ _ _ _ _ us hl => match us, hl with | [_, _], _ => rfl) s us hl
  · intro j hj
    exact absurd hj (by simp [m__law_columns])
theorem d__law_layouts (KX : K.In h) (GN : h.Ns mainGlobals mg) (c : He.SaysD fa fn K) : FnD P w K mg base (xaOf K) (fun _ => "") 2 "_law_layouts" 2 (bkOf 44) f__law_layouts := by
  obtain ⟨fd, F⟩ := c.def_ 26 (d := fn[26]) rfl
  refine fnd_of (lv := 1) (m := m__law_layouts) (c := c__law_layouts) (ps := ["content", "columns"]) (bk := bkOf 44) F s__law_layouts (modOk KX GN c) (He.glo_ok KX GN (c.fact 56 (f := .glo "_law_layouts") rfl)) ?_ k__law_layouts ?_
  · exact fun s us hl => FunD.bindsA (ps := ["content", "columns"]) F (fun _ _ _ _ _ _ us hl => match us, hl with | [_, _], _ => rfl) s us hl
  · intro j hj
    simp only [m__law_layouts, List.mem_cons, List.not_mem_nil, or_false] at hj
    rcases hj with rfl
    · exact ⟨_, runDef_len, (d__law_breaks KX GN c).up (by decide)⟩
theorem d__law_fill (KX : K.In h) (GN : h.Ns mainGlobals mg) (c : He.SaysD fa fn K) : FnD P w K mg base (xaOf K) (fun _ => "") 2 "_law_fill" 3 (bkOf 86) f__law_fill := by
  obtain ⟨fd, F⟩ := c.def_ 27 (d := fn[27]) rfl
  refine fnd_of (lv := 1) (m := m__law_fill) (c := c__law_fill) (ps := ["content", "high", "x_so"]) (bk := bkOf 86) F s__law_fill (modOk KX GN c) (He.glo_ok KX GN (c.fact 57 (f := .glo "_law_fill") rfl)) ?_ k__law_fill ?_
  · exact fun s us hl => FunD.bindsA (ps := ["content", "high", "x_so"]) F (fun _ _ _ _ _ _ us hl => match us, hl with | [_, _, _], _ => rfl) s us hl
  · intro j hj
    simp only [m__law_fill, List.mem_cons, List.not_mem_nil, or_false] at hj
    rcases hj with rfl | rfl
    · exact ⟨_, runDef_len, (d__law_breaks KX GN c).up (by decide)⟩
    · exact ⟨_, runDef_len, (d__law_high KX GN c).up (by decide)⟩
theorem d__law_rows (KX : K.In h) (GN : h.Ns mainGlobals mg) (c : He.SaysD fa fn K) : FnD P w K mg base (xaOf K) (fun _ => "") 3 "_law_rows" 2 (bkOf 61) f__law_rows := by
  obtain ⟨fd, F⟩ := c.def_ 28 (d := fn[28]) rfl
  refine fnd_of (lv := 2) (m := m__law_rows) (c := c__law_rows) (ps := ["content", "columns"]) (bk := bkOf 61) F s__law_rows (modOk KX GN c) (He.glo_ok KX GN (c.fact 58 (f := .glo "_law_rows") rfl)) ?_ k__law_rows ?_
  · exact fun s us hl => FunD.bindsA (ps := ["content", "columns"]) F (fun _ _ _ _ _ _ us hl => match us, hl with | [_, _], _ => rfl) s us hl
  · intro j hj
    simp only [m__law_rows, List.mem_cons, List.not_mem_nil, or_false] at hj
    rcases hj with rfl | rfl | rfl
    · exact ⟨_, runDef_len, (d__law_high KX GN c).up (by decide)⟩
    · exact ⟨_, runDef_len, (d__law_columns KX GN c).up (by decide)⟩
    · exact ⟨_, runDef_len, (d__law_layouts KX GN c).up (by decide)⟩
theorem d__law_least (KX : K.In h) (GN : h.Ns mainGlobals mg) (c : He.SaysD fa fn K) : FnD P w K mg base (xaOf K) (fun _ => "") 1 "_law_least" 2 (bkOf 62) f__law_least := by
  obtain ⟨fd, F⟩ := c.def_ 29 (d := fn[29]) rfl
  refine fnd_of (lv := 0) (m := m__law_least) (c := c__law_least) (ps := ["rows", "x_so"]) (bk := bkOf 62) F s__law_least (modOk KX GN c) (He.glo_ok KX GN (c.fact 59 (f := .glo "_law_least") rfl)) ?_ k__law_least ?_
  · exact fun s us hl => FunD.bindsA (ps := ["rows", "x_so"]) F (fun _ _ _ _ _ _ us hl => match us, hl with | [_, _], _ => rfl) s us hl
  · intro j hj
    exact absurd hj (by simp [m__law_least])
theorem d_law_k09 (KX : K.In h) (GN : h.Ns mainGlobals mg) (c : He.SaysD fa fn K) : FnD P w K mg base (xaOf K) (fun _ => "") 7 "law" 1 (bkOf 87) f_law_k09 := by
  obtain ⟨fd, F⟩ := c.def_ 30 (d := fn[30]) rfl
  refine fnd_of (lv := 6) (m := m_law_k09) (c := c_law_k09) (ps := ["script"]) (bk := bkOf 87) F s_law_k09 (modOk KX GN c) (He.glo_ok KX GN (c.fact 60 (f := .glo "law") rfl)) ?_ k_law_k09 ?_
  · exact fun s us hl => FunD.bindsA (ps := ["script"]) F (fun _ _ _ _ _ _ us hl => match us, hl with | [_], _ => rfl) s us hl
  · intro j hj
    simp only [m_law_k09, List.mem_cons, List.not_mem_nil, or_false] at hj
    rcases hj with rfl | rfl | rfl | rfl | rfl | rfl | rfl | rfl | rfl | rfl | rfl
    · exact ⟨_, runDef_len, (d__law_bag KX GN c).up (by decide)⟩
    · exact ⟨_, runDef_len, (d__law_take KX GN c).up (by decide)⟩
    · exact ⟨_, runDef_len, (d__law_of KX GN c).up (by decide)⟩
    · exact ⟨_, runDef_len, (d__law_content KX GN c).up (by decide)⟩
    · exact ⟨_, runDef_len, (d__law_high KX GN c).up (by decide)⟩
    · exact ⟨_, runDef_len, (d__law_columns KX GN c).up (by decide)⟩
    · exact ⟨_, runDef_len, (d__law_rows KX GN c).up (by decide)⟩
    · exact ⟨_, runDef_len, (d__law_least KX GN c).up (by decide)⟩
    · exact ⟨_, runDef_len, (d_filled KX GN c).up (by decide)⟩
    · exact ⟨_, runDef_len, (d_columns_needed KX GN c).up (by decide)⟩
    · exact ⟨_, runDef_len, (d__law_fill KX GN c).up (by decide)⟩
theorem e_law (KX : K.In h) (GN : h.Ns mainGlobals mg) (c : He.SaysD fa fn K) : ∃ fd, BindOk K fd ["script"] .pos ∧ ∀ P w base, FnOk P w K mg base (L2.CX P w) 7 (He.ga K "law") fd ["script"] (SpD K (xaOf K) (fun _ => "") 1 f_law_k09) := by
  obtain ⟨fd, F⟩ := c.def_ 30 (d := fn[30]) rfl
  refine ⟨fd, fun s us hl => FunD.bindsA (ps := ["script"]) F (fun _ _ _ _ _ _ us hl => match us, hl with | [_], _ => rfl) s us hl, fun P w base => fnok_of (lv := 6) (m := m_law_k09) (c := c_law_k09) (ps := ["script"]) F s_law_k09 (modOk KX GN c) k_law_k09 ?_⟩
  intro j hj
  simp only [m_law_k09, List.mem_cons, List.not_mem_nil, or_false] at hj
  rcases hj with rfl | rfl | rfl | rfl | rfl | rfl | rfl | rfl | rfl | rfl | rfl
  · exact ⟨_, runDef_len, (d__law_bag KX GN c).up (by decide)⟩
  · exact ⟨_, runDef_len, (d__law_take KX GN c).up (by decide)⟩
  · exact ⟨_, runDef_len, (d__law_of KX GN c).up (by decide)⟩
  · exact ⟨_, runDef_len, (d__law_content KX GN c).up (by decide)⟩
  · exact ⟨_, runDef_len, (d__law_high KX GN c).up (by decide)⟩
  · exact ⟨_, runDef_len, (d__law_columns KX GN c).up (by decide)⟩
  · exact ⟨_, runDef_len, (d__law_rows KX GN c).up (by decide)⟩
  · exact ⟨_, runDef_len, (d__law_least KX GN c).up (by decide)⟩
  · exact ⟨_, runDef_len, (d_filled KX GN c).up (by decide)⟩
  · exact ⟨_, runDef_len, (d_columns_needed KX GN c).up (by decide)⟩
  · exact ⟨_, runDef_len, (d__law_fill KX GN c).up (by decide)⟩
end
-- level of the law: 7; top statements: 44; defs 11:is_integer 12:is_plate 13:is_line 14:are_lines 15:is_content 16:breaks_of 17:stops_of 18:need_content 19:need_height 20:need_size 21:stretch 22:all_stretches 23:columns_in 24:heights_in 26:filled_so 27:number_so 28:filled 29:columns_needed 31:_law_bag 32:_law_take 33:_law_of 34:_law_line 35:_law_content 36:_law_breaks 37:_law_high 38:_law_columns 39:_law_layouts 40:_law_fill 41:_law_rows 42:_law_least 43:law
def loose0 : List PySem.Str := ["ColumnError", "InvalidContent", "InvalidHeight", "InvalidSize", "PLATE", "MOST_LINES", "MOST_PLATES", "MOST_HEIGHT", "MOST_SIZE", "is_integer", "is_plate", "is_line", "are_lines", "is_content", "breaks_of", "stops_of", "need_content", "need_height", "need_size", "stretch", "all_stretches", "columns_in", "heights_in", "filled_so", "number_so", "filled", "columns_needed", "_law_bag", "_law_take", "_law_of"]
def loose1 : List PySem.Str := ["_law_line", "_law_content", "_law_breaks", "_law_high", "_law_columns", "_law_layouts", "_law_fill", "_law_rows", "_law_least"]
def loose : List PySem.Str := loose0 ++ loose1
abbrev R : PySem.W.OpenRow := PySem.W.OpenLaw.row PySem.Challenge.rw_platecolumns_k09_whole_filling_uses_fewe
abbrev hk : PySem.W.Hook := He.hookD 5 fa fn
def ob (s : PySem.W.SharedT) : He.AlD := He.obsDG 5 fa fn (HandSHeadRun.getT s)
theorem ob_eq (s : PySem.W.SharedT) : ob s = hk.obs s.abs := He.obsDG_eq (HandSHeadRun.getT_eq s)
theorem run (w : World) : HandSHeadRun.RunEq R (PySem.W.view R.prog [43]) hk ob 9000 loose w := by
  intro os
  kernel_rfl
end LW
end
set_option maxRecDepth 100000
set_option maxHeartbeats 0
open PySem PySem.W PySem.Calls PyProof.Rows
theorem PySem.Challenge.cw_platecolumns_k09_whole_filling_uses_fewe_holds : PySem.Challenge.rw_platecolumns_k09_whole_filling_uses_fewe.Holds := by
  w_on; o_law
  refine HandSHeadRun.head_any (r := OpenLaw.row PySem.Challenge.rw_platecolumns_k09_whole_filling_uses_fewe) (q := view (OpenLaw.row PySem.Challenge.rw_platecolumns_k09_whole_filling_uses_fewe).prog [43]) (H := LW.hk) (ob := LW.ob) (M := 9000) (loose := LW.loose) (d := HandSHeadRun.topDef (OpenLaw.row PySem.Challenge.rw_platecolumns_k09_whole_filling_uses_fewe).prog 43) (kwd := []) LW.ob_eq
    (by kernel_rfl) (fun s => by kernel_rfl) LW.run (by kernel_rfl) (by kernel_rfl) (by kernel_rfl) (by rfl) (by first | assumption | decide +kernel) (by decide +kernel) ⟨rfl, rfl, rfl, rfl, rfl, by decide +kernel⟩ ?hw ?hc
  case hw => w_witness2
  case hc =>
    refine L2.walk_ofE (l := PySem.Challenge.rw_platecolumns_k09_whole_filling_uses_fewe) (n := 63) (k := 7) (x := "script") (CX := L2.CX0) rfl (by decide) (by kernel_rfl) ⟨rfl, by decide, by decide⟩ ?F (fun _ _ _ _ z => z)
    intro w mg fa h Y GN hmg0
    obtain ⟨K, KX, c⟩ := Y
    have hmg : mg ("law" : PySem.Str) = some (.ref fa) := by
      have e : (HandSHeadRun.topDef (OpenLaw.row PySem.Challenge.rw_platecolumns_k09_whole_filling_uses_fewe).prog 43).name = ("law" : PySem.Str) := by kernel_rfl
      rw [← e]
      exact hmg0
    obtain ⟨fd, hb, hF⟩ := LW.e_law KX GN c
    have ef := hmg.symm.trans (He.glo_ok KX GN (c.fact 60 (f := .glo "law") rfl))
    cases ef
    exact PL.law_end KX hb (fun base _ _ => hF _ _ base) LW.math_law_k09
