import PyProof.Rows.All
import Wide.All
import OpenK.AllK
import Wide.FinOn
import HandS.Lambda
import HandS.Base
import HandS.ForMost
import HandS.ForExc
import HandS.ExcInit
import HandS.TupAny
import HandS.TupLe
import HandS.SortInts
import HandS.IsInst
import HandS.Flow
import HandS.TupMul
import HandS.Star
import KE.DataMinMax
import KE.SortData
import HandS.Small
import HandS.CallSlots
import HandS.Zip
import HandS.Style
import HandS.Zip0
import PyProof.ListNew
import HandS.SetFor
import HandS.Strs
import KE.GoesMore
import HandS.ExcField
import HandS.ExcIs
import HandS.ExcSuper
import KE.KExcSuper
import KE.KExcIs
import HandS.ExcValue
import HandS.TryMany
import HandS.EndOwn
import PySem.Challenge.RW_greenrounds_k10_whole_islands_of_roads
set_option Elab.async false
set_option linter.all false
set_option maxRecDepth 100000
/-! Tb: the tables of code objects that the law's text fills (each law has its own). -/
namespace Gx
open PySem
/-- law's code object, and its table -/
def lamC : Nat := 305
def lamP : Nat := 303
def tabsL : List (Addr × Str) := [(lamP, (("law" : Str) ++ ".<locals>.") ++ "<lambda>")]
end Gx
set_option Elab.async false
set_option linter.all false
set_option maxRecDepth 100000
/-! Gy0: what a def tells that calls what it got: data. -/
namespace Gy
open PySem PySem.Spec PyProof.Rows
open L2
/-- what a suite tells of its error -/
inductive Su where
  | ret (tag : Str) (fs : List Str)
  | tst (T : Str) (tag : Str) (fs : List Str) (r : Su)
  | ife (T : Str) (tag : Str) (fs : List Str) (tag2 : Str) (fs2 : List Str)
  deriving DecidableEq
/-- a clause: its class, its name's slot, what its suite tells -/
structure Hc where
  x : Str
  i : Option Nat
  su : Su
  deriving DecidableEq
structure Hd where
  told : Str
  cl : List Hc
  deriving DecidableEq
end Gy
set_option Elab.async false
set_option linter.all false
set_option maxRecDepth 100000
/-! Gx1: values, a small language, its evaluator. -/
namespace Gx
open PySem L2

/-- plain values; box: a shared mutable object by its number; oref: the mutable object that slot i alone holds -/
inductive D where
  | non | bl (b : Bool) | int (i : Int) | str (s : Str)
  | tup (l : List D) | lst (l : List D)
  | dik (l : List (Key × D)) | dit (l : List (List Key × D))
  | set (l : List Int)
  | scr (l : List Int)
  | box (n : Nat) | oref (i : Nat)
  | fn (x : Str) | ty (n : String)
  | err (c : Str) (fs : List (Str × D))
  deriving Inhabited

inductive Sl where
  | em | v (d : D) | own (w : Bool) (d : D)
  deriving Inhabited
abbrev Fr := List Sl
abbrev Sto := List D
structure Ex where
  cls : Str
  fs : List (Str × D)

inductive R (α : Type) where
  | ok (a : α) (φ : Fr) (S : Sto)
  | exc (x : Ex) (φ : Fr) (S : Sto)
  | no
def R.bind {α β : Type} (r : R α) (k : α → Fr → Sto → R β) : R β :=
  match r with
  | .ok a φ S => k a φ S
  | .exc x φ S => .exc x φ S
  | .no => .no
@[simp] theorem R.bind_ok {α β : Type} (a : α) (φ : Fr) (S : Sto) (k : α → Fr → Sto → R β) : (R.ok a φ S).bind k = k a φ S := rfl
@[simp] theorem R.bind_exc {α β : Type} (x : Ex) (φ : Fr) (S : Sto) (k : α → Fr → Sto → R β) : (R.exc x φ S : R α).bind k = .exc x φ S := rfl
@[simp] theorem R.bind_no {α β : Type} (k : α → Fr → Sto → R β) : (R.no : R α).bind k = .no := rfl
/-- what a module's name holds: a number, a string, a def -/
inductive Gv where
  | int (i : Int) | str (s : Str) | fn
  deriving DecidableEq
def Gv.d (x : Str) : Gv → D
  | .int i => .int i
  | .str s => .str s
  | .fn => .fn x
@[simp] def Gv.at (_ : Option D) (d : D) : D := d
/-- a call's end -/
inductive RC where
  | ok (d : D) (S : Sto)
  | exc (x : Ex) (S : Sto)
  | no
def ofO {α : Type} (o : Option α) (φ : Fr) (S : Sto) : R α := match o with
  | some a => .ok a φ S
  | none => .no
@[simp] theorem ofO_some {α : Type} (a : α) (φ : Fr) (S : Sto) : ofO (some a) φ S = .ok a φ S := rfl
@[simp] theorem ofO_none {α : Type} (φ : Fr) (S : Sto) : (ofO none φ S : R α) = .no := rfl

inductive BOp | add | sub | mul | fdiv | mod | pow deriving DecidableEq
inductive COp | eq | ne | lt | le | gt | ge | isin | notin | is_ | isnt deriving DecidableEq
/-- built-in functions -/
inductive Bi | len | abs | max | min | sum | sorted | int | bool | str | tuple | list | all | any | set deriving DecidableEq
/-- methods that change a list or a dict -/
inductive Mu | append | extend | pop deriving DecidableEq

inductive Tg where
  | nm (i : Nat)
  | tp (l : List Tg)
mutual
inductive E where
  | var (i : Nat)
  | glo (x : Str) (g : Gv)
  | con (c : D)
  | bin (o : BOp) (a b : E)
  | neg (a : E)
  | not_ (a : E) | and_ (a b : E) | or_ (a b : E)
  | cmp (o : COp) (a b : E)
  | chain (o p : COp) (a b c : E)
  | ite (c a b : E)
  | app (f : Str) (as : Es)
  | appl (i : Nat) (fs : List Str) (as : Es)
  | bi (p : Bi) (as : Es)
  | isi (a : E) (ts : List String)
  | mu (m : Mu) (o : E) (as : Es)
  | ix (a b : E)
  | sl (a : E) (lo hi : Es)
  | rev (a : E)
  | tup (as : Es) | lst (as : Es)
  | dct (ps : Es)
  | li (it : It)
  | bxl (as : Es)
  | lc (t : Tg) (it : It) (c : E) (e : E) (own : List Nat)
  | mke (x : Str) (fl : List Str) (as : Es)
  | fld (a : E) (f : Str) (cs : List Str)
  | isx (a : E) (us ns : List Str)
  | lz (a b : E)
  | srs (e : E)
  | idx (a : E) (as : Es)
  | hrd (f : Str) (hd : Gy.Hd) (cl : List (Str × List Str)) (sb : List (Str × List Str × List Str)) (e : E)
inductive Es where
  | nil
  | cons (e : E) (r : Es)
  | star (e : E) (r : Es)
inductive It where
  | seq (e : E)
  | rng (as : Es)
  | zip (a b : E)
  | enum (a : E)
end
def Es.len : Es → Nat
  | .nil => 0
  | .cons _ r => r.len + 1
  | .star _ r => r.len + 1
inductive S where
  | asg (i : Nat) (e : E)
  | own (i : Nat) (e : E)
  | par (is : List (Nat × Bool)) (es : Es)
  | unp (t : Tg) (e : E)
  | aug (i : Nat) (o : BOp) (e : E)
  | six (o k e : E)
  | aix (p : BOp) (o k e : E)
  | ex (e : E)
  | ifs (c : E) (a b : List S)
  | for_ (t : Tg) (it : It) (body : List S)
  | wh (c : E) (body : List S)
  | ret (e : E)
  | brk | cont | pas
  | frz (is : List Nat)
  | never
  | rse (x : Str) (fl : List Str) (as : Es)

/-! ### operations on values -/
mutual
def toPy : D → Option PyData
  | .non => some .none
  | .bl b => some (.bool b)
  | .int i => some (.int i)
  | .str s => some (.str s)
  | .tup l => (toPys l).map .tuple
  | .lst l => (toPys l).map .list
  | _ => none
def toPys : List D → Option (List PyData)
  | [] => some []
  | d :: r => match toPy d, toPys r with
    | some x, some xs => some (x :: xs)
    | _, _ => none
end
def flatD : D → Bool
  | .non => true | .bl _ => true | .int _ => true | .str _ => true | _ => false
/-- == -/
def eqD (a b : D) : Option Bool := match a, b with
  | .int i, .int j => some (decide (i = j))
  | .str i, .str j => some (decide (i = j))
  | .bl i, .bl j => some (decide (i = j))
  | a, b => match toPy a, toPy b with
    | some x, some y => if SeqAt.shaped x = true ∧ SeqAt.shaped y = true then some (PyData.eqv x y) else none
    | _, _ => none
def bigOk (i j : Int) : Bool := decide ((-(2 ^ 64) < i ∧ i < 2 ^ 64) ∨ (-(2 ^ 64) < j ∧ j < 2 ^ 64))
def binD (o : BOp) (a b : D) : Option D := match o, a, b with
  | .add, .int i, .int j => some (.int (i + j))
  | .add, .str i, .str j => if i.length + j.length ≤ sizeLine then some (.str (i ++ j)) else none
  | .add, .lst i, .lst j => if i.length + j.length ≤ sizeLine then some (.lst (i ++ j)) else none
  | .add, .tup i, .tup j => if i.length + j.length ≤ sizeLine then some (.tup (i ++ j)) else none
  | .sub, .int i, .int j => some (.int (i - j))
  | .mul, .int i, .int j => if bigOk i j then some (.int (i * j)) else none
  | .mul, .tup l, .int k => if l.isEmpty = false ∧ 2 ≤ k ∧ k ≤ 1000 ∧ l.length ≤ 1000 then some (.tup (List.replicate k.toNat l).flatten) else none
  | .mul, .lst l, .int k => if -(2 ^ 63) ≤ k ∧ k < 2 ^ 63 ∧ l.length * k.toNat ≤ sizeLine then some (.lst (List.replicate k.toNat l).flatten) else none
  | .fdiv, .int i, .int j => if 0 < j ∧ j < 1073741824 then some (.int (i / j)) else none
  | .mod, .int i, .int j => if 0 < j then some (.int (i % j)) else none
  | .pow, .int i, .int j => if 0 ≤ j ∧ j ≤ 1000000 ∧ i.natAbs < 2 ^ 64 then some (.int (i ^ j.toNat)) else none
  | _, _, _ => none
def augD (o : BOp) (a b : D) : Option D := match o, a, b with
  | .add, .int i, .int j => some (.int (i + j))
  | .sub, .int i, .int j => some (.int (i - j))
  | _, _, _ => none
/-- + and * that make a new list -/
def newD (o : BOp) (a b : D) : Option D := match o, a, b with
  | .add, .lst i, .lst j => if i.length + j.length ≤ sizeLine then some (.lst (i ++ j)) else none
  | .mul, .lst l, .int k => if -(2 ^ 63) ≤ k ∧ k < 2 ^ 63 ∧ l.length * k.toNat ≤ sizeLine then some (.lst (List.replicate k.toNat l).flatten) else none
  | _, _, _ => none
def isNon : D → Bool | .non => true | _ => false
/-- < of lists of ints, as of tuples -/
def gtI : List Int → List Int → Bool
  | [], _ => false
  | _ :: _, [] => true
  | x :: xs, y :: ys => if x = y then gtI xs ys else decide (y < x)
def ltI : List Int → List Int → Bool := HT.lexLt
def intOf : D → Option Int | .int i => some i | _ => none
def intsOf (l : List D) : Option (List Int) := l.mapM intOf
def strOf : D → Option Str | .str i => some i | _ => none
def blOf : D → Option Bool | .bl i => some i | _ => none
def kOf : D → Option Key | .int i => some (.inl i) | .str s => some (.inr s) | _ => none
def ksOf : D → Option (List Key) | .tup l => l.mapM kOf | _ => none
def hasK (k : Key) (l : List (Key × D)) : Bool := l.any fun p => decide (p.1 = k)
def getK (l : List (Key × D)) (k : Key) : Option D := (l.find? fun p => decide (p.1 = k)).map (·.2)
/-- == of flat values -/
def eqF : D → D → Bool
  | .non, .non => true
  | .bl a, .bl b => a == b
  | .bl a, .int b => (if a then 1 else 0) == b
  | .int a, .bl b => a == (if b then 1 else 0)
  | .int a, .int b => a == b
  | .str a, .str b => a == b
  | _, _ => false
def inD (x c : D) : Option Bool := match c with
  | .lst l => if flatD x && l.all flatD then some (l.any fun y => eqF y x) else none
  | .tup l => if flatD x && l.all flatD then some (l.any fun y => eqF y x) else none
  | .dik l => (kOf x).map fun k => hasK k l
  | _ => none
def cmpD (o : COp) (a b : D) : Option Bool := match o with
  | .eq => eqD a b
  | .ne => (eqD a b).map (!·)
  | .is_ => if isNon b then some (isNon a) else none
  | .isnt => if isNon b then some (!isNon a) else none
  | .isin => inD a b
  | .notin => (inD a b).map (!·)
  | .lt => match a, b with
    | .int i, .int j => some (decide (i < j))
    | .tup x, .tup y => match intsOf x, intsOf y with
      | some xs, some ys => some (ltI xs ys)
      | _, _ => none
    | _, _ => none
  | .le => match a, b with
    | .int i, .int j => some (decide (i ≤ j))
    | _, _ => none
  | .gt => match a, b with
    | .int i, .int j => some (decide (j < i))
    | .tup x, .tup y => match intsOf x, intsOf y with
      | some xs, some ys => some (gtI xs ys)
      | _, _ => none
    | _, _ => none
  | .ge => match a, b with
    | .int i, .int j => some (decide (j ≤ i))
    | _, _ => none
def truD : D → Option Bool
  | .non => some false
  | .bl b => some b
  | .int i => some (decide (i ≠ 0))
  | .str s => if s.length ≤ sizeLine then some (decide (s.length ≠ 0)) else none
  | .tup l => some (!l.isEmpty)
  | .lst l => some (!l.isEmpty)
  | .dik l => some (!l.isEmpty)
  | _ => none
def ixD (o k : D) : Option D := match o, k with
  | .lst l, .int i => atI l i
  | .tup l, .int i => atI l i
  | .str s, .int i => if s.length ≤ sizeLine then (atI s.cps.toList i).map fun c => .str ⟨#[c]⟩ else none
  | .dik l, k => (kOf k).bind fun k => getK l k
  | _, _ => none
def cut {α : Type} (xs : List α) (lo hi : Option Int) : List α := (xs.drop (HT.sIx xs.length 0 lo)).take (HT.sIx xs.length xs.length hi - HT.sIx xs.length 0 lo)
def ixL (o k : D) : Option D := match o, k with
  | .lst l, .int i => atI l i
  | .dik l, k => (kOf k).bind fun k => getK l k
  | _, _ => none
def partD : List D → Option (Option Int)
  | [] => some none
  | [.int i] => some (some i)
  | _ => none
def slD (o : D) (l h : Option Int) : Option D := match o with
  | .lst xs => some (.lst (cut xs l h))
  | .tup xs => some (.tup (cut xs l h))
  | .scr xs => some (.lst (cut (xs.map .int) l h))
  | _ => none
/-- in its place, or at the end -/
def putK' (l : List (Key × D)) (k : Key) (d : D) : List (Key × D) := if (l.any fun p => decide (p.1 = k)) = true then l.map (fun p => if p.1 = k then (p.1, d) else p) else l ++ [(k, d)]
def setIxD (o k x : D) : Option D := match o, k with
  | .lst l, .int i => (ixN l.length i).map fun j => .lst (l.set j x)
  | .dik l, k => (kOf k).bind fun k => if l.length < sizeLine then some (.dik (putK' l k x)) else none
  | _, _ => none
/-- insertion into a rising list; the sorted list -/
def insI (x : Int) : List Int → List Int
  | [] => [x]
  | y :: r => if x ≤ y then x :: y :: r else y :: insI x r
def sortI (l : List Int) : List Int := l.foldr insI []
/-- each member once, rising -/
def insU (x : Int) : List Int → List Int
  | [] => [x]
  | y :: r => if x < y then x :: y :: r else if x = y then y :: r else y :: insU x r
def uniqI (l : List Int) : List Int := l.foldr insU []
def maxI : Int → List Int → Int := List.foldl (fun m x => if x > m then x else m)
def minI : Int → List Int → Int := List.foldl (fun m x => if x < m then x else m)
def tysOf : D → List String
  | .non => ["NoneType"]
  | .bl _ => ["bool", "int"]
  | .int _ => ["int"]
  | .str _ => ["str"]
  | .tup _ => ["tuple"]
  | .lst _ => ["list"]
  | .dik _ => ["dict"]
  | .dit _ => ["dict"]
  | _ => []
/-- the first place of a number -/
def placeI : List Int → Int → Option Nat
  | [], _ => none
  | x :: r, k => if x = k then some 0 else (placeI r k).map (· + 1)
def indexD (l : D) (ks : List D) : Option D := match l, ks with
  | .lst l, [.int k] => match intsOf l with
    | some ns => (placeI ns k).map fun (j : Nat) => D.int j
    | none => none
  | _, _ => none
/-- couples of numbers -/
def pairOf : D → Option (Int × Int)
  | .tup [.int a, .int b] => some (a, b)
  | _ => none
def pairsOf : List D → Option (List (Int × Int))
  | [] => some []
  | d :: r => match pairOf d, pairsOf r with
    | some x, some xs => some (x :: xs)
    | _, _ => none
def ltP (x y : Int × Int) : Bool := decide (x.1 < y.1 ∨ (x.1 = y.1 ∧ x.2 < y.2))
def minP (x : Int × Int) (l : List (Int × Int)) : Int × Int := l.foldl (fun a y => if ltP y a then y else a) x
def prP (p : Int × Int) : PyData := .tuple [.int p.1, .int p.2]
def prDD (p : Int × Int) : D := .tup [.int p.1, .int p.2]
/-- sorted(set(..)) -/
def srsD : D → Option D
  | .lst l => match intsOf l with
    | some ns => if ns.length < 64 then some (.lst ((uniqI ns).map .int)) else none
    | none => none
  | _ => none
/-- built-in functions on looked-up values -/
def biD (p : Bi) (as : List D) : Option D := match p with
  | .len => match as with
    | [.lst l] => some (.int l.length)
    | [.tup l] => some (.int l.length)
    | [.str s] => if s.length ≤ sizeLine then some (.int s.length) else none
    | [.dik l] => some (.int l.length)
    | [.set l] => some (.int l.length)
    | _ => none
  | .abs => match as with
    | [.int i] => some (.int (if i < 0 then -i else i))
    | _ => none
  | .max => match as with
    | [.int i, .int j] => some (.int (if j > i then j else i))
    | [.lst (.int i :: l)] => (intsOf l).map fun l => .int (maxI i l)
    | [.tup (.int i :: l)] => (intsOf l).map fun l => .int (maxI i l)
    | _ => none
  | .min => match as with
    | [.int i, .int j] => some (.int (if j < i then j else i))
    | [.lst (.int i :: l)] => (intsOf l).map fun l => .int (minI i l)
    | [.lst (.tup t :: l)] => match pairsOf (.tup t :: l) with
      | some (p :: ps) => some (prDD (minP p ps))
      | _ => none
    | [.tup (.int i :: l)] => (intsOf l).map fun l => .int (minI i l)
    | _ => none
  | .sum => match as with
    | [.lst l] => (intsOf l).map fun l => .int l.sum
    | [.tup l] => (intsOf l).map fun l => .int l.sum
    | _ => none
  | .sorted => match as with
    | [.lst l] => (intsOf l).map fun l => .lst ((sortI l).map .int)
    | [.set l] => some (.lst (l.map .int))
    | _ => none
  | .int => match as with
    | [.int i] => some (.int i)
    | [.bl b] => some (.int (if b then 1 else 0))
    | _ => none
  | .bool => match as with
    | [.int i] => some (.bl (i != 0))
    | [.bl b] => some (.bl b)
    | _ => none
  | .tuple => match as with
    | [.lst l] => some (.tup l)
    | [.tup l] => some (.tup l)
    | _ => none
  | .list => match as with
    | [.lst l] => some (.lst l)
    | [.tup l] => some (.lst l)
    | _ => none
  | .all => match as with
    | [.lst l] => (l.mapM blOf).map fun l => .bl (l.all id)
    | _ => none
  | .any => match as with
    | [.lst l] => (l.mapM blOf).map fun l => .bl (l.any id)
    | _ => none
  | .set => none
  | .str => none

/-! ### frames -/
def Fr.get (φ : Fr) (i : Nat) : Option D := match φ[i]? with
  | some (.v d) => some d
  | some (.own _ _) => some (.oref i)
  | _ => none
/-- what a reference leads to -/
def look (φ : Fr) (S : Sto) : D → D
  | .oref i => match φ[i]? with
    | some (.own _ d) => d
    | _ => .oref i
  | .box n => match S[n]? with
    | some d => d
    | none => .box n
  | d => d
/-- a value that may be kept: no reference to a slot's own object -/
def keepD : D → Bool
  | .oref _ => false
  | _ => true
mutual
def asgT : Tg → D → Fr → Option Fr
  | .nm i, d, φ => if keepD d && decide (i < φ.length) then some (φ.set i (.v d)) else none
  | .tp ts, .tup ds, φ => asgTs ts ds φ
  | .tp _, _, _ => none
def asgTs : List Tg → List D → Fr → Option Fr
  | [], [], φ => some φ
  | t :: ts, d :: ds, φ => (asgT t d φ).bind fun φ => asgTs ts ds φ
  | _, _, _ => none
end
mutual
/-- the slots of a target -/
def tgS : Tg → List Nat
  | .nm i => [i]
  | .tp ts => tgsS ts
def tgsS : List Tg → List Nat
  | [] => []
  | t :: ts => tgS t ++ tgsS ts
end
/-- an exception that nobody may see -/
def R.nox {α : Type} : R α → R α
  | .ok a φ S => .ok a φ S
  | _ => .no
def wipeF (φ : Fr) : List Nat → Fr
  | [] => φ
  | v :: vs => (wipeF φ vs).set v .em
def plainS (φ : Fr) (i : Nat) : Bool := match φ[i]? with
  | some (.own _ _) => false
  | _ => true
/-- within a comprehension: what slots own is read only -/
def roS : Sl → Sl
  | .own _ d => .own false d
  | s => s
/-- write back what a reference leads to -/
def putRef (r d : D) (φ : Fr) (S : Sto) : Option (Fr × Sto) := match r with
  | .oref i => match φ[i]? with
    | some (.own true _) => some (φ.set i (.own true d), S)
    | _ => none
  | .box n => if n < S.length then some (φ, S.set n d) else none
  | _ => none
def muD (m : Mu) (o : D) (as : List D) : Option (D × D) := match m with
  | .append => match o, as with
    | .lst l, [x] => if l.length < sizeLine ∧ keepD x = true then some (.lst (l ++ [x]), .non) else none
    | _, _ => none
  | .extend => match o, as with
    | .lst l, [.lst r] => if l.length + r.length ≤ sizeLine then some (.lst (l ++ r), .non) else none
    | _, _ => none
  | .pop => match o, as with
    | .lst l, [] => (l[l.length - 1]?).map fun x => (.lst l.dropLast, x)
    | .lst l, [.int i] => if -(2 ^ 63) ≤ i ∧ i < 2 ^ 63 then (seqIndex? i l.length).bind fun k => (l[k]?).map fun x => (.lst (l.eraseIdx k), x) else none
    | _, _ => none
def frzF (φ : Fr) : List Nat → Fr
  | [] => φ
  | i :: is => match φ[i]? with
    | some (.own true d) => frzF (φ.set i (.v d)) is
    | _ => frzF φ is
def isLst : D → Bool | .lst _ => true | _ => false
/-- what a slot may own -/
def ownD : D → Bool
  | .lst _ => true
  | .dik _ => true
  | .dit _ => true
  | .set _ => true
  | _ => false
inductive Flow' where
  | nx | brk | cont | ret (d : D)

/-! ### walks -/
/-- over the items, from the left -/
def each (body : D → Fr → Sto → R Flow') : List D → Fr → Sto → R Flow'
  | [], φ, S => .ok .nx φ S
  | x :: r, φ, S => (body x φ S).bind fun f φ S => match f with
    | .nx => each body r φ S
    | .cont => each body r φ S
    | .brk => .ok .nx φ S
    | .ret d => .ok (.ret d) φ S
/-- while: at most n turns -/
def loop (c : Fr → Sto → R Bool) (body : Fr → Sto → R Flow') : Nat → Fr → Sto → R Flow'
  | 0, _, _ => .no
  | n + 1, φ, S => (c φ S).bind fun b φ S => if b then (body φ S).bind fun f φ S => match f with
      | .nx => loop c body n φ S
      | .cont => loop c body n φ S
      | .brk => .ok .nx φ S
      | .ret d => .ok (.ret d) φ S
    else .ok .nx φ S
/-- the list that a comprehension makes: the frame is laid anew in each turn -/
def comp (φ0 : Fr) (f : D → Fr → Sto → R (Option D)) : List D → Sto → List D → R (List D)
  | [], S, acc => .ok acc.reverse φ0 S
  | x :: r, S, acc => (f x φ0 S).bind fun o _ S => match o with
    | some d => comp φ0 f r S (d :: acc)
    | none => comp φ0 f r S acc
def rngD (lo : Int) (n : Nat) (st : Int) : List D := (List.range n).map fun (k : Nat) => .int (lo + (k : Int) * st)
def rngOk (i : Int) : Bool := decide (-(2 ^ 62) ≤ i ∧ i < 2 ^ 62)
def rngN (i j k : Int) : Nat := if 0 < k then ((j - i + k - 1) / k).toNat else (i - j).toNat
def rngOf : List D → Option (List D)
  | [.int n] => if rngOk n then some (rngD 0 n.toNat 1) else none
  | [.int i, .int j] => if rngOk i && rngOk j then some (rngD i (j - i).toNat 1) else none
  | [.int i, .int j, .int k] => if rngOk i && rngOk j && decide (k = -1 ∨ (0 < k ∧ k < 1073741824)) then some (rngD i (rngN i j k) k) else none
  | _ => none
def itemsD : D → Option (List D)
  | .lst l => some l
  | .tup l => some l
  | _ => none
def zipL (x y : List D) : List D := List.zipWith (fun a b => .tup [a, b]) x y
def zipD (x y : D) : Option (List D) := (itemsD x).bind fun l => (itemsD y).map fun m => zipL l m
def enumD (l : List D) : List D := (List.range l.length).zipWith (fun (i : Nat) d => .tup [.int i, d]) l
/-- the frame of a call: the arguments, then nothing -/
def startF (n : Nat) (as : List D) : Fr := as.map .v ++ List.replicate (n - as.length) .em

/-- a def: how many parameters, how many names, its body -/
structure Def where
  ps : Nat
  ns : Nat
  body : List S
abbrev Call := Str → List D → Sto → RC
def ofRC (r : RC) (φ : Fr) : R D := match r with
  | .ok d S => .ok d φ S
  | .exc x S => .exc x φ S
  | .no => .no
@[simp] theorem ofRC_ok (d : D) (S : Sto) (φ : Fr) : ofRC (.ok d S) φ = .ok d φ S := rfl
@[simp] theorem ofRC_exc (x : Ex) (S : Sto) (φ : Fr) : ofRC (.exc x S) φ = .exc x φ S := rfl
@[simp] theorem ofRC_no (φ : Fr) : ofRC .no φ = .no := rfl

def pairUp : List D → Option (List (Key × D))
  | [] => some []
  | k :: d :: r => match kOf k, pairUp r with
    | some k, some r => if keepD d then some ((k, d) :: r) else none
    | _, _ => none
  | _ => none
/-- the fields of an error as they are stored, the last one first -/
def errF : List (Str × D) → List Str → List D → List (Str × D)
  | acc, f :: fl, d :: ds => errF ((f, d) :: acc) fl ds
  | acc, _, _ => acc
def fldD (x : D) (f : Str) (cs : List Str) : Option D := match x with
  | .err c fs => if c ∈ cs then fs.lookup f else none
  | _ => none
def isxD (us ns : List Str) (x : D) : Option Bool := match x with
  | .err c _ => if c ∈ us then some true else if c ∈ ns then some false else none
  | _ => none
/-- is the class c one of those that T names -/
def subD (sb : List (Str × List Str × List Str)) (T c : Str) : Option Bool := match sb.lookup T with
  | some (us, ns) => if c ∈ us then some true else if c ∈ ns then some false else none
  | none => none
def tgD (cl : List (Str × List Str)) (tag : Str) (fs : List Str) (x : Ex) : Option D := match cl.lookup x.cls with
  | some fl => if (fs.all fun f => decide (f ∈ fl)) && decide (fs.length ≤ 1000) then (fs.mapM fun f => x.fs.lookup f).map fun ds => .tup (.str tag :: ds) else none
  | none => none
def suD (cl : List (Str × List Str)) (sb : List (Str × List Str × List Str)) : Gy.Su → Ex → Option D
  | .ret tag fs, x => tgD cl tag fs x
  | .tst T tag fs r, x => (subD sb T x.cls).bind fun b => if b then tgD cl tag fs x else suD cl sb r x
  | .ife T tag fs tag2 fs2, x => (subD sb T x.cls).bind fun b => if b then tgD cl tag fs x else tgD cl tag2 fs2 x
/-- what is told of an error -/
def hcD (cl : List (Str × List Str)) (sb : List (Str × List Str × List Str)) : List Gy.Hc → Ex → Option D
  | [], _ => none
  | k :: r, x => (subD sb k.x x.cls).bind fun b => if b then suD cl sb k.su x else hcD cl sb r x
/-- told, or what was raised -/
def hrdR (hd : Gy.Hd) (cl : List (Str × List Str)) (sb : List (Str × List Str × List Str)) : R D → R D
  | .ok d φ S => if keepD d then .ok (.tup [.str hd.told, d]) φ S else .no
  | .exc x φ S => ofO (hcD cl sb hd.cl x) φ S
  | .no => .no
def mergeD (l : List (Key × D)) : List (Key × D) := l.foldl (fun acc p => putK' acc p.1 p.2) []

section
variable (c : Call) (glob : Str → Option D)
mutual
def evE : E → Fr → Sto → R D
  | .var i, φ, S => ofO (φ.get i) φ S
  | .glo x g, φ, S => .ok (Gv.at (glob x) (g.d x)) φ S
  | .con d, φ, S => .ok d φ S
  | .bin o a b, φ, S => (evE a φ S).bind fun x φ S => (evE b φ S).bind fun y φ S => ofO (binD o (look φ S x) (look φ S y)) φ S
  | .neg a, φ, S => (evE a φ S).bind fun x φ S => match x with
    | .int i => .ok (.int (-i)) φ S
    | _ => .no
  | .not_ a, φ, S => (evE a φ S).bind fun x φ S => (ofO (truD (look φ S x)) φ S).bind fun b φ S => .ok (.bl (!b)) φ S
  | .and_ a b, φ, S => (evE a φ S).bind fun x φ S => (ofO (truD (look φ S x)) φ S).bind fun t φ S => if t then evE b φ S else .ok x φ S
  | .or_ a b, φ, S => (evE a φ S).bind fun x φ S => (ofO (truD (look φ S x)) φ S).bind fun t φ S => if t then .ok x φ S else evE b φ S
  | .cmp o a b, φ, S => (evE a φ S).bind fun x φ S => (evE b φ S).bind fun y φ S => (ofO (cmpD o (look φ S x) (look φ S y)) φ S).bind fun t φ S => .ok (.bl t) φ S
  | .chain o p a b e, φ, S => (evE a φ S).bind fun x φ S => (evE b φ S).bind fun y φ S => (ofO (cmpD o (look φ S x) (look φ S y)) φ S).bind fun t φ S =>
      if t then (evE e φ S).bind fun z φ S => (ofO (cmpD p (look φ S y) (look φ S z)) φ S).bind fun t φ S => .ok (.bl t) φ S else .ok (.bl false) φ S
  | .ite t a b, φ, S => (evE t φ S).bind fun x φ S => (ofO (truD (look φ S x)) φ S).bind fun t φ S => if t then evE a φ S else evE b φ S
  | .app f as, φ, S => (evEs as φ S).bind fun ds φ S => if ds.all keepD then ofRC (c f ds S) φ else .no
  | .appl i fs as, φ, S => (ofO (φ.get i) φ S).bind fun g φ S => match g with
    | .fn f => if f ∈ fs then (evEs as φ S).bind fun ds φ S => if ds.all keepD then ofRC (c f ds S) φ else .no else .no
    | _ => .no
  | .bi p as, φ, S => (evEs as φ S).bind fun ds φ S => ofO (biD p (ds.map (look φ S))) φ S
  | .isi a ts, φ, S => (evE a φ S).bind fun x φ S => match tysOf (look φ S x) with
    | [] => .no
    | us => .ok (.bl (ts.any fun t => us.contains t)) φ S
  | .mu m o as, φ, S => (evE o φ S).bind fun r φ S => if !isLst (look φ S r) then .no else (evEs as φ S).bind fun ds φ S =>
      (ofO (muD m (look φ S r) (ds.map fun d => if m = .extend then look φ S d else d)) φ S).bind fun p φ S => (ofO (putRef r p.1 φ S) φ S).bind fun q _ _ => .ok p.2 q.1 q.2
  | .ix a b, φ, S => (evE a φ S).bind fun x φ S => (evE b φ S).bind fun y φ S => ofO (ixD (look φ S x) (look φ S y)) φ S
  | .sl a l h, φ, S => (evE a φ S).bind fun x φ S => (evEs l φ S).bind fun y φ S => (ofO (partD y) φ S).bind fun y φ S => (evEs h φ S).bind fun z φ S => (ofO (partD z) φ S).bind fun z φ S => ofO (slD (look φ S x) y z) φ S
  | .rev a, φ, S => (evE a φ S).bind fun x φ S => match look φ S x with
    | .lst l => .ok (.lst l.reverse) φ S
    | .tup l => .ok (.tup l.reverse) φ S
    | _ => .no
  | .tup as, φ, S => (evEs as φ S).bind fun ds φ S => if ds.all keepD && decide (ds.length ≤ sizeLine) then .ok (.tup ds) φ S else .no
  | .lst as, φ, S => (evEs as φ S).bind fun ds φ S => if ds.all keepD && decide (ds.length ≤ sizeLine) then .ok (.lst ds) φ S else .no
  | .dct ps, φ, S => (evEs ps φ S).bind fun ds φ S => (ofO (pairUp ds) φ S).bind fun kvs φ S => if kvs.length ≤ 15 then .ok (.dik (mergeD kvs)) φ S else .no
  | .bxl as, φ, S => (evEs as φ S).bind fun ds φ S => if ds.all keepD && decide (ds.length ≤ sizeLine) then .ok (.box S.length) φ (S ++ [.lst ds]) else .no
  | .li it, φ, S => (evI it φ S).bind fun l φ S => if l.length ≤ sizeLine then .ok (.lst l) φ S else .no
  | .lc t it cnd e own, φ, S => (evI it φ S).bind fun l φ S => if !(own.all fun i => plainS φ i) then .no else if !((tgS t).all fun i => own.contains i) then .no else
      (comp ((wipeF φ own).map roS) (fun x φ S => (ofO (asgT t x φ) φ S).bind fun φ _ S =>
        (evE cnd φ S).bind fun b φ S => (ofO (truD (look φ S b)) φ S).bind fun b φ S =>
          if b then (evE e φ S).bind fun d φ S => if keepD d then .ok (some d) φ S else .no else .ok none φ S) l S []).nox.bind fun l _ S =>
        if l.length ≤ sizeLine then .ok (.lst l) φ S else .no
  | .mke x fl as, φ, S => (evEs as φ S).bind fun ds φ S => if ds.all keepD && decide (ds.length = fl.length) then .ok (.err x (errF [] fl ds)) φ S else .no
  | .fld a f cs, φ, S => (evE a φ S).bind fun x φ S => ofO (fldD x f cs) φ S
  | .isx a us ns, φ, S => (evE a φ S).bind fun x φ S => (ofO (isxD us ns x) φ S).bind fun t φ S => .ok (.bl t) φ S
  | .lz a b, φ, S => (evE a φ S).bind fun x φ S => (evE b φ S).bind fun y φ S => (ofO (zipD (look φ S x) (look φ S y)) φ S).bind fun l φ S => if l.length ≤ sizeLine then .ok (.lst l) φ S else .no
  | .srs e, φ, S => (evE e φ S).bind fun x φ S => (ofO (srsD (look φ S x)) φ S).bind fun l φ S => .ok l φ S
  | .idx a as, φ, S => (evE a φ S).bind fun r φ S => if !isLst (look φ S r) then .no else (evEs as φ S).bind fun ds φ S => ofO (indexD (look φ S r) ds) φ S
  | .hrd _ hd cl sb e, φ, S => hrdR hd cl sb (evE e φ S)
def evEs : Es → Fr → Sto → R (List D)
  | .nil, φ, S => .ok [] φ S
  | .cons e r, φ, S => (evE e φ S).bind fun d φ S => (evEs r φ S).bind fun ds φ S => .ok (d :: ds) φ S
  | .star e r, φ, S => (evE e φ S).bind fun d φ S => (ofO (itemsD (look φ S d)) φ S).bind fun l φ S => (evEs r φ S).bind fun ds φ S => .ok (l ++ ds) φ S
def evI : It → Fr → Sto → R (List D)
  | .seq e, φ, S => (evE e φ S).bind fun d φ S => ofO (itemsD d) φ S
  | .rng as, φ, S => (evEs as φ S).bind fun ds φ S => if ds.length = as.len then ofO (rngOf ds) φ S else .no
  | .zip a b, φ, S => (evE a φ S).bind fun x φ S => (evE b φ S).bind fun y φ S => ofO (zipD x y) φ S
  | .enum a, φ, S => (evE a φ S).bind fun x φ S => (ofO (itemsD x) φ S).bind fun l φ S => .ok (enumD l) φ S
end
/-- a new object that nobody else holds -/
def evF : E → Fr → Sto → R D
  | .lst as, φ, S => evE c glob (.lst as) φ S
  | .bin o a b, φ, S => (evE c glob a φ S).bind fun x φ S => (evE c glob b φ S).bind fun y φ S => ofO (newD o (look φ S x) (look φ S y)) φ S
  | .bi p as, φ, S => (evEs c glob as φ S).bind fun ds φ S => ofO (if p = .list ∨ p = .sorted then biD p (ds.map (look φ S)) else none) φ S
  | .lc t it cnd e own, φ, S => evE c glob (.lc t it cnd e own) φ S
  | .dct ps, φ, S => evE c glob (.dct ps) φ S
  | .srs e, φ, S => evE c glob (.srs e) φ S
  | _, _, _ => .no
def evM : List (Nat × Bool) → Es → Fr → Sto → R (List D)
  | [], .nil, φ, S => .ok [] φ S
  | (_, b) :: is, .cons e r, φ, S => (if b then evF c glob e φ S else evE c glob e φ S).bind fun d φ S => (evM is r φ S).bind fun ds φ S => .ok (d :: ds) φ S
  | _, _, _, _ => .no
def setAll : List (Nat × Bool) → List D → Fr → Option Fr
  | [], [], φ => some φ
  | (i, b) :: is, d :: ds, φ => if keepD d && decide (i < φ.length) then setAll is ds (φ.set i (if b then .own true d else .v d)) else none
  | _, _, _ => none
mutual
def evS (n : Nat) : S → Fr → Sto → R Flow'
  | .asg i e, φ, S => (evE c glob e φ S).bind fun d φ S => if keepD d && decide (i < φ.length) then .ok .nx (φ.set i (.v d)) S else .no
  | .own i e, φ, S => (evF c glob e φ S).bind fun d φ S => if ownD d && decide (i < φ.length) then .ok .nx (φ.set i (.own true d)) S else .no
  | .par is es, φ, S => (evM c glob is es φ S).bind fun ds φ S => (ofO (setAll is ds φ) φ S).bind fun φ _ S => .ok .nx φ S
  | .unp t e, φ, S => (evE c glob e φ S).bind fun d φ S => (ofO (asgT t d φ) φ S).bind fun φ _ S => .ok .nx φ S
  | .aug i o e, φ, S => (ofO (φ.get i) φ S).bind fun x φ S => (evE c glob e φ S).bind fun y φ S => (ofO (augD o x y) φ S).bind fun z φ S => if i < φ.length then .ok .nx (φ.set i (.v z)) S else .no
  | .six o k e, φ, S => (evE c glob e φ S).bind fun x φ S => (evE c glob o φ S).bind fun r φ S => (evE c glob k φ S).bind fun k φ S => if keepD x then
      (ofO (setIxD (look φ S r) (look φ S k) x) φ S).bind fun d φ S => (ofO (putRef r d φ S) φ S).bind fun q _ _ => .ok .nx q.1 q.2 else .no
  | .aix p o k e, φ, S => (evE c glob o φ S).bind fun r φ S => (evE c glob k φ S).bind fun k φ S => (ofO (ixL (look φ S r) (look φ S k)) φ S).bind fun x φ S => (evE c glob e φ S).bind fun y φ S =>
      (ofO (augD p x y) φ S).bind fun z φ S => (ofO (setIxD (look φ S r) (look φ S k) z) φ S).bind fun d φ S => (ofO (putRef r d φ S) φ S).bind fun q _ _ => .ok .nx q.1 q.2
  | .ex e, φ, S => (evE c glob e φ S).bind fun _ φ S => .ok .nx φ S
  | .ifs t a b, φ, S => (evE c glob t φ S).bind fun x φ S => (ofO (truD (look φ S x)) φ S).bind fun t φ S => if t then evSs n a φ S else evSs n b φ S
  | .for_ t it body, φ, S => (evI c glob it φ S).bind fun l φ S => each (fun x φ S => (ofO (asgT t x φ) φ S).bind fun φ _ S => evSs n body φ S) l φ S
  | .wh t body, φ, S => loop (fun φ S => (evE c glob t φ S).bind fun x φ S => ofO (truD (look φ S x)) φ S) (fun φ S => evSs n body φ S) n φ S
  | .ret e, φ, S => (evE c glob e φ S).bind fun d φ S => if keepD d then .ok (.ret d) φ S else .no
  | .brk, φ, S => .ok .brk φ S
  | .cont, φ, S => .ok .cont φ S
  | .pas, φ, S => .ok .nx φ S
  | .frz is, φ, S => .ok .nx (frzF φ is) S
  | .never, _, _ => .no
  | .rse x fl as, φ, S => (evEs c glob as φ S).bind fun ds φ S => if ds.all keepD && decide (ds.length = fl.length) then .exc ⟨x, errF [] fl ds⟩ φ S else .no
def evSs (n : Nat) : List S → Fr → Sto → R Flow'
  | [], φ, S => .ok .nx φ S
  | s :: r, φ, S => (evS n s φ S).bind fun f φ S => match f with
    | .nx => evSs n r φ S
    | f => .ok f φ S
end
end
def endR : R Flow' → RC
  | .ok .nx _ S => .ok .non S
  | .ok (.ret d) _ S => .ok d S
  | .exc x _ S => .exc x S
  | _ => .no
/-- a def is run: T the text's defs; w: how many turns a while may take; the first number: how many calls, one in another -/
def run (T : Str → Option Def) (glob : Str → Option D) (w : Nat) : Nat → Call
  | 0, _, _, _ => .no
  | n + 1, f, as, S => match T f with
    | none => .no
    | some d => if as.length = d.ps then endR (evSs (run T glob w n) glob w d.body (startF d.ns as) S) else .no
theorem run_at {T : Str → Option Def} {glob : Str → Option D} {w n : Nat} {f : Str} {d : Def} (h : T f = some d) {as : List D} (hl : as.length = d.ps) (S : Sto) : run T glob w (n + 1) f as S = endR (evSs (run T glob w n) glob w d.body (startF d.ns as) S) := by
  rw [run, h]
  exact if_pos hl
theorem run_if {T : Str → Option Def} {glob : Str → Option D} {w n : Nat} {f : Str} {d : Def} (h : T f = some d) {as : List D} (S : Sto) : run T glob w (n + 1) f as S = if as.length = d.ps then endR (evSs (run T glob w n) glob w d.body (startF d.ns as) S) else .no := by
  rw [run, h]
end Gx
set_option Elab.async false
set_option linter.all false
set_option maxRecDepth 100000
/-! Gx2: how plain values stand in the heap; the relation between frames; what an expression's reading says. -/
namespace Gx
open PySem PySem.Spec PyProof.Rows L2

structure Pm where
  K : PySem.W.Frag
  mg : Str → Option Value
  mu : Addr → Prop
  av : Addr → Prop
  bx : Nat → Addr → Prop

mutual
def RD (P : Pm) (H : Hp) : D → V → Prop
  | .non, v => v = .non
  | .bl b, v => v = .bl b
  | .int i, v => v = .int i
  | .str s, v => v = .str s
  | .tup l, v => ∃ a vs, v = .ref a ∧ SqT P.K H a vs ∧ RDs P H l vs
  | .lst l, v => ∃ a vs, v = .ref a ∧ ¬ P.av a ∧ Rd H a (.lst vs) ∧ RDs P H l vs
  | .dik l, v => ∃ a kvs, v = .ref a ∧ ¬ P.av a ∧ Rd H a (.dK kvs) ∧ RDk P H l kvs
  | .dit _, _ => False
  | .set _, _ => False
  | .scr l, v => ∃ a, v = .ref a ∧ ((¬ P.av a ∧ Rd H a (.lst (l.map .int))) ∨ SqL P.K (fun _ => none) a (l.map .int))
  | .box n, v => ∃ a, v = .ref a ∧ P.bx n a
  | .oref _, _ => False
  | .fn x, v => ∃ a, v = .ref a ∧ P.mg x = some (.ref a)
  | .ty n, v => v = .ty n
  | .err c fs, v => ∃ a C o, v = .ref a ∧ P.mg c = some (.ref C) ∧ ¬ P.av a ∧ Rd H a (exo a C o) ∧ ((o = none ∧ fs = []) ∨ ∃ dx kvs, o = some dx ∧ ¬ P.av dx ∧ Rd H dx (exd dx kvs) ∧ RDf P H fs kvs)
def RDs (P : Pm) (H : Hp) : List D → List V → Prop
  | [], vs => vs = []
  | d :: r, vs => ∃ v vr, vs = v :: vr ∧ RD P H d v ∧ RDs P H r vr
def RDk (P : Pm) (H : Hp) : List (Key × D) → List (Key × V) → Prop
  | [], kvs => kvs = []
  | (k, d) :: r, kvs => ∃ v vr, kvs = (k, v) :: vr ∧ RD P H d v ∧ RDk P H r vr
def RDf (P : Pm) (H : Hp) : List (Str × D) → List (Str × V) → Prop
  | [], kvs => kvs = []
  | (k, d) :: r, kvs => ∃ v vr, kvs = (k, v) :: vr ∧ RD P H d v ∧ RDf P H r vr
end
/-- what stands at the address of a mutable object -/
def RH (P : Pm) (H : Hp) : D → Addr → Prop
  | .lst l, a => ∃ vs, H a = some (.lst vs) ∧ RDs P H l vs
  | .dik l, a => ∃ kvs, H a = some (.dK kvs) ∧ RDk P H l kvs
  | _, _ => False
/-- a looked-up value -/
def RT (P : Pm) (H : Hp) : D → V → Prop
  | .lst l, v => ∃ a vs, v = .ref a ∧ Rd H a (.lst vs) ∧ RDs P H l vs
  | .dik l, v => ∃ a kvs, v = .ref a ∧ Rd H a (.dK kvs) ∧ RDk P H l kvs
  | d, v => RD P H d v

section
variable {P P' P'' : Pm} {H H' H'' : Hp}
theorem RDs.nil {vs : List V} (h : RDs P H [] vs) : vs = [] := h
theorem RDs.cons {d : D} {r : List D} {v : V} {vr : List V} (h : RD P H d v) (t : RDs P H r vr) : RDs P H (d :: r) (v :: vr) := ⟨v, vr, rfl, h, t⟩
theorem RDs.length : ∀ {l : List D} {vs : List V}, RDs P H l vs → l.length = vs.length
  | [], _, h => by rw [RDs.nil h]; rfl
  | d :: r, _, ⟨v, vr, e, _, t⟩ => by rw [e, List.length_cons, List.length_cons, RDs.length t]
theorem RDs.get : ∀ {l : List D} {vs : List V} {i : Nat} {d : D}, RDs P H l vs → l[i]? = some d → ∃ v, vs[i]? = some v ∧ RD P H d v
  | d :: r, _, 0, x, ⟨v, vr, e, h, _⟩, hi => by
    simp at hi; subst hi; subst e; exact ⟨v, rfl, h⟩
  | d :: r, _, i + 1, x, ⟨v, vr, e, _, t⟩, hi => by
    subst e
    obtain ⟨w, h1, h2⟩ := RDs.get (i := i) t (by simpa using hi)
    exact ⟨w, by simpa using h1, h2⟩
theorem RDs.append : ∀ {l r : List D} {vs ws : List V}, RDs P H l vs → RDs P H r ws → RDs P H (l ++ r) (vs ++ ws)
  | [], _, _, _, h, k => by rw [RDs.nil h]; exact k
  | d :: l, _, _, _, ⟨v, vr, e, h, t⟩, k => by subst e; exact ⟨v, vr ++ _, rfl, h, RDs.append t k⟩
theorem RDs.take : ∀ {l : List D} {vs : List V} (n : Nat), RDs P H l vs → RDs P H (l.take n) (vs.take n)
  | _, _, 0, _ => by simp [RDs]
  | [], _, n + 1, h => by rw [RDs.nil h]; simp [RDs]
  | d :: l, _, n + 1, ⟨v, vr, e, h, t⟩ => by subst e; exact ⟨v, _, rfl, h, RDs.take n t⟩
theorem RDs.drop : ∀ {l : List D} {vs : List V} (n : Nat), RDs P H l vs → RDs P H (l.drop n) (vs.drop n)
  | _, _, 0, h => h
  | [], _, n + 1, h => by rw [RDs.nil h]; simp [RDs]
  | d :: l, _, n + 1, ⟨v, vr, e, h, t⟩ => by subst e; exact RDs.drop n t
theorem RDs.set {d : D} {v : V} (h : RD P H d v) : ∀ {l : List D} {vs : List V} (i : Nat), RDs P H l vs → RDs P H (l.set i d) (vs.set i v)
  | [], _, _, k => by rw [RDs.nil k]; simp [RDs]
  | _ :: _, _, 0, ⟨w, vr, e, _, t⟩ => by subst e; exact ⟨v, vr, rfl, h, t⟩
  | _ :: _, _, i + 1, ⟨w, vr, e, k, t⟩ => by subst e; exact ⟨w, _, rfl, k, RDs.set h i t⟩
theorem RDs.reverse : ∀ {l : List D} {vs : List V}, RDs P H l vs → RDs P H l.reverse vs.reverse
  | [], _, h => by rw [RDs.nil h]; simp [RDs]
  | d :: l, _, ⟨v, vr, e, h, t⟩ => by
    subst e
    rw [List.reverse_cons, List.reverse_cons]
    exact RDs.append (RDs.reverse t) ⟨v, [], rfl, h, rfl⟩
theorem RDs.dropLast {l : List D} {vs : List V} (h : RDs P H l vs) : RDs P H l.dropLast vs.dropLast := by
  rw [List.dropLast_eq_take, List.dropLast_eq_take, h.length]
  exact h.take _
theorem RDs.eraseIdx : ∀ {l : List D} {vs : List V} (i : Nat), RDs P H l vs → RDs P H (l.eraseIdx i) (vs.eraseIdx i)
  | [], _, _, k => by rw [RDs.nil k]; simp [RDs]
  | _ :: _, _, 0, ⟨w, vr, e, _, t⟩ => by subst e; exact t
  | _ :: _, _, i + 1, ⟨w, vr, e, k, t⟩ => by subst e; exact ⟨w, _, rfl, k, RDs.eraseIdx i t⟩
theorem RDk.length : ∀ {l : List (Key × D)} {vs : List (Key × V)}, RDk P H l vs → l.length = vs.length
  | [], _, h => by rw [show _ = [] from h]; rfl
  | (k, d) :: r, _, ⟨v, vr, e, _, t⟩ => by rw [e, List.length_cons, List.length_cons, RDk.length t]

/-- no lock, no table -/
def nf : HO → Bool
  | .frz _ _ => false
  | .tbl _ => false
  | _ => true
/-- something stands there, and it is no table -/
structure nt (H : Hp) (a : Addr) : Prop where
  ex : ∃ o, H a = some o ∧ ∀ ps, o ≠ .tbl ps
theorem nt.ne {H : Hp} {a : Addr} (h : nt H a) : H a ≠ none := by
  obtain ⟨o, e, _⟩ := h.ex; rw [e]; simp
instance {H : Hp} {a : Addr} : CoeFun (nt H a) (fun _ => H a = none → False) := ⟨fun h => h.ne⟩
theorem nt.of {H : Hp} {a : Addr} {o : HO} (f : nf o = true) (h : H a = some o) : nt H a := ⟨o, h, fun ps z => by subst z; cases f⟩
theorem nt.upd {H : Hp} {p : Addr} {o : HO} (f : nf o = true) : nt (upd H p o) p := .of f upd_same
theorem nt.eq {H H' : Hp} {a : Addr} (h : nt H a) (e : H' a = H a) : nt H' a := by
  obtain ⟨o, h1, h2⟩ := h.ex; exact ⟨o, e.trans h1, h2⟩
theorem Rd.nt {H : Hp} {a : Addr} {o : HO} (f : nf o = true) (h : Rd H a o) : nt H a := by
  rcases h with h | ⟨ob, h⟩
  · exact .of f h
  · exact ⟨_, h, fun ps z => by cases z⟩
theorem nt.put {H : Hp} {a b : Addr} {o : HO} (f : nf o = true) (h : Gx.nt H a) : Gx.nt (L2.upd H b o) a := by
  by_cases z : a = b
  · rw [z]; exact nt.upd f
  · exact h.eq (upd_ne z)
/-- the tables of code objects -/
abbrev TabOk (H : Hp) : Prop := LamX.Tabs tabsL H
structure Ext (P : Pm) (H : Hp) (P' : Pm) (H' : Hp) : Prop where
  K : P'.K = P.K
  mg : P'.mg = P.mg
  keep : ∀ a o, nf o = true → Rd H a o → ¬ P.mu a → Rd H' a o
  tup : ∀ a xs, Rd H a (.tup xs) → Rd H' a (.tup xs)
  mu : ∀ a, nt H a → P'.mu a → P.mu a
  av : ∀ a, nt H a → P'.av a → P.av a
  bx : ∀ n a, P.bx n a → P'.bx n a
  ma : ∀ a, P.mu a → P.av a
  there : ∀ a, nt H a → nt H' a
  tb : TabOk H → TabOk H'
theorem Ext.rd (e : Ext P H P' H') {a : Addr} {o : HO} (f : nf o = true) (h : Rd H a o) (n : ¬ P.av a) : Rd H' a o := e.keep a o f h fun z => n (e.ma a z)
theorem Rd.there {H : Hp} {a : Addr} {o : HO} (h : Rd H a o) : H a ≠ none := by
  rcases h with h | ⟨ob, h⟩ <;> rw [h] <;> simp
theorem Ext.nav (e : Ext P H P' H') {a : Addr} {o : HO} (h : Rd H a o) (n : ¬ P.av a) (f : nf o = true := by rfl) : ¬ P'.av a := fun z => n (e.av a (Rd.nt f h) z)
mutual
theorem RD.mono (e : Ext P H P' H') : ∀ {d : D} {v : V}, RD P H d v → RD P' H' d v
  | .non, _, h => h
  | .bl _, _, h => h
  | .int _, _, h => h
  | .str _, _, h => h
  | .tup l, _, ⟨a, vs, e1, h, t⟩ => ⟨a, vs, e1, by
      rcases h with h | ⟨o, its, n, z⟩
      · exact .inl (e.tup _ _ h)
      · rw [← e.K] at z; exact .inr ⟨o, its, n, z⟩, RDs.mono e t⟩
  | .lst l, _, ⟨a, vs, e1, n, h, t⟩ => ⟨a, vs, e1, e.nav h n, e.rd rfl h n, RDs.mono e t⟩
  | .dik l, _, ⟨a, vs, e1, n, h, t⟩ => ⟨a, vs, e1, e.nav h n, e.rd rfl h n, RDk.mono e t⟩
  | .dit _, _, h => h.elim
  | .set _, _, h => h.elim
  | .scr l, _, ⟨a, e1, h⟩ => ⟨a, e1, h.elim (fun ⟨n, h⟩ => .inl ⟨e.nav h n, e.rd rfl h n⟩) fun h => .inr (by rw [e.K]; exact h)⟩
  | .box n, _, ⟨a, e1, h⟩ => ⟨a, e1, e.bx _ _ h⟩
  | .oref _, _, h => h.elim
  | .fn x, _, ⟨a, e1, h⟩ => ⟨a, e1, by rw [e.mg]; exact h⟩
  | .ty _, _, h => h
  | .err c fs, _, ⟨a, C, o, e1, g, n, h, q⟩ => ⟨a, C, o, e1, by rw [e.mg]; exact g, e.nav h n, e.rd rfl h n, q.elim .inl fun ⟨dx, kvs, e2, n2, h2, t⟩ => .inr ⟨dx, kvs, e2, e.nav h2 n2, e.rd rfl h2 n2, RDf.mono e t⟩⟩
theorem RDs.mono (e : Ext P H P' H') : ∀ {l : List D} {vs : List V}, RDs P H l vs → RDs P' H' l vs
  | [], _, h => h
  | _ :: _, _, ⟨v, vr, e1, h, t⟩ => ⟨v, vr, e1, RD.mono e h, RDs.mono e t⟩
theorem RDk.mono (e : Ext P H P' H') : ∀ {l : List (Key × D)} {vs : List (Key × V)}, RDk P H l vs → RDk P' H' l vs
  | [], _, h => h
  | (_, _) :: _, _, ⟨v, vr, e1, h, t⟩ => ⟨v, vr, e1, RD.mono e h, RDk.mono e t⟩
theorem RDf.mono (e : Ext P H P' H') : ∀ {l : List (Str × D)} {vs : List (Str × V)}, RDf P H l vs → RDf P' H' l vs
  | [], _, h => h
  | (_, _) :: _, _, ⟨v, vr, e1, h, t⟩ => ⟨v, vr, e1, RD.mono e h, RDf.mono e t⟩
end
theorem Ext.trans (e : Ext P H P' H') (f : Ext P' H' P'' H'') : Ext P H P'' H'' where
  K := f.K.trans e.K
  mg := f.mg.trans e.mg
  keep := fun a o x h n => f.keep a o x (e.keep a o x h n) fun z => n (e.mu a (Rd.nt x h) z)
  mu := fun a h z => e.mu a h (f.mu a (e.there a h) z)
  tup := fun a xs h => f.tup a xs (e.tup a xs h)
  av := fun a h z => e.av a h (f.av a (e.there a h) z)
  bx := fun n a h => f.bx n a (e.bx n a h)
  ma := e.ma
  there := fun a h => f.there a (e.there a h)
  tb := fun h => f.tb (e.tb h)
end

def Own (φ : Fr) (σ : L2.St) (i : Nat) (a : Addr) : Prop := ∃ w d, φ[i]? = some (.own w d) ∧ σ[i]? = some (some (.ref a))
def muOf (μ : List Addr) (φ : Fr) (σ : L2.St) (a : Addr) : Prop := (∃ n : Nat, μ[n]? = some a) ∨ ∃ i, Own φ σ i a
abbrev pm (X : Cx) (F : Addr → Prop) (μ : List Addr) (φ : Fr) (σ : L2.St) : Pm :=
  { K := X.K, mg := X.mg, mu := muOf μ φ σ, av := fun a => muOf μ φ σ a ∨ F a, bx := fun n a => μ[n]? = some a }
def slOk (P : Pm) (H : Hp) : Sl → Option V → Prop
  | .em, _ => True
  | .v d, w => ∃ v, w = some v ∧ RD P H d v
  | .own _ d, w => ∃ a, w = some (.ref a) ∧ RH P H d a
structure Rl (X : Cx) (F : Addr → Prop) (μ : List Addr) (φ : Fr) (S : Sto) (σ : L2.St) (H : Hp) : Prop where
  lenS : μ.length = S.length
  lenF : φ.length = σ.length
  bx : ∀ (n : Nat) d a, S[n]? = some d → μ[n]? = some a → RH (pm X F μ φ σ) H d a
  sl : ∀ (i : Nat) s w, φ[i]? = some s → σ[i]? = some w → slOk (pm X F μ φ σ) H s w
  n1 : ∀ (n m : Nat) a, μ[n]? = some a → μ[m]? = some a → n = m
  n2 : ∀ (n : Nat) i a, μ[n]? = some a → Own φ σ i a → False
  n3 : ∀ i j a, Own φ σ i a → Own φ σ j a → i = j
  f1 : ∀ a, F a → nt H a
  f2 : ∀ a, F a → ¬ muOf μ φ σ a
  tab : TabOk H
/-- an expression's value: kept, or a slot's own object -/
def RX (X : Cx) (F : Addr → Prop) (μ : List Addr) (φ : Fr) (σ : L2.St) (H : Hp) (d : D) (v : V) : Prop := match d with
  | .oref i => ∃ a, v = .ref a ∧ Own φ σ i a
  | d => RD (pm X F μ φ σ) H d v
def RXs (X : Cx) (F : Addr → Prop) (μ : List Addr) (φ : Fr) (σ : L2.St) (H : Hp) : List D → List V → Prop
  | [], vs => vs = []
  | d :: r, vs => ∃ v vr, vs = v :: vr ∧ RX X F μ φ σ H d v ∧ RXs X F μ φ σ H r vr

section
variable {X : Cx} {F : Addr → Prop} {μ μ' μ'' : List Addr} {φ φ' φ'' : Fr} {S S' S'' : Sto} {σ σ' σ'' : L2.St} {H H' H'' : Hp} {P : Pm}
theorem RX.keep {d : D} {v : V} (h : RX X F μ φ σ H d v) (k : keepD d = true) : RD (pm X F μ φ σ) H d v := by
  cases d <;> first | exact h | exact absurd k (by simp [keepD])
theorem RD.keepD {d : D} {v : V} (h : RD P H d v) : keepD d = true := by
  cases d <;> first | rfl | exact absurd h (by simp [RD])
theorem RD.rx {d : D} {v : V} (h : RD (pm X F μ φ σ) H d v) : RX X F μ φ σ H d v := by
  cases d <;> first | exact h | exact absurd h (by simp [RD])
theorem RXs.keep : ∀ {l : List D} {vs : List V}, RXs X F μ φ σ H l vs → l.all Gx.keepD = true → RDs (pm X F μ φ σ) H l vs
  | [], _, h, _ => h
  | d :: r, _, ⟨v, vr, e, h, t⟩, k => by
    rw [List.all_cons, Bool.and_eq_true] at k
    exact ⟨v, vr, e, h.keep k.1, RXs.keep t k.2⟩
theorem RDs.rxs : ∀ {l : List D} {vs : List V}, RDs (pm X F μ φ σ) H l vs → RXs X F μ φ σ H l vs
  | [], _, h => h
  | d :: r, _, ⟨v, vr, e, h, t⟩ => ⟨v, vr, e, h.rx, RDs.rxs t⟩
theorem RDs.allKeep : ∀ {l : List D} {vs : List V}, RDs P H l vs → l.all Gx.keepD = true
  | [], _, _ => rfl
  | d :: r, _, ⟨v, vr, e, h, t⟩ => by rw [List.all_cons, h.keepD, RDs.allKeep t]; rfl
theorem RH.muTy {d : D} {a : Addr} (h : RH P H d a) : (∃ vs, H a = some (.lst vs)) ∨ ∃ kvs, H a = some (.dK kvs) := by
  cases d <;> first | exact False.elim h | skip
  · obtain ⟨vs, h, _⟩ := h; exact .inl ⟨vs, h⟩
  · obtain ⟨vs, h, _⟩ := h; exact .inr ⟨vs, h⟩
theorem RH.there {d : D} {a : Addr} (h : RH P H d a) : H a ≠ none := by
  rcases h.muTy with ⟨_, h⟩ | ⟨_, h⟩ <;> rw [h] <;> simp
theorem RH.nt {d : D} {a : Addr} (h : RH P H d a) : nt H a := by
  rcases h.muTy with ⟨_, h⟩ | ⟨_, h⟩ <;> exact .of rfl h
theorem RH.rt {d : D} {a : Addr} (h : RH P H d a) : RT P H d (.ref a) := by
  cases d <;> first | exact False.elim h | skip
  · obtain ⟨vs, h, t⟩ := h; exact ⟨a, vs, rfl, .inl h, t⟩
  · obtain ⟨vs, h, t⟩ := h; exact ⟨a, vs, rfl, .inl h, t⟩
theorem RD.rt {d : D} {v : V} (h : RD P H d v) : RT P H d v := by
  cases d <;> first | exact h | skip
  · obtain ⟨a, vs, e, _, h, t⟩ := h; exact ⟨a, vs, e, h, t⟩
  · obtain ⟨a, vs, e, _, h, t⟩ := h; exact ⟨a, vs, e, h, t⟩
theorem getσ (rl : Rl X F μ φ S σ H) {i : Nat} {s : Sl} (h : φ[i]? = some s) : ∃ w, σ[i]? = some w := by
  have hi : i < σ.length := by rw [← rl.lenF]; exact (List.getElem?_eq_some_iff.mp h).1
  exact ⟨σ[i], List.getElem?_eq_getElem hi⟩
/-- the object that a slot owns -/
theorem Rl.own (rl : Rl X F μ φ S σ H) {i : Nat} {w : Bool} {d : D} (h : φ[i]? = some (.own w d)) : ∃ a, σ[i]? = some (some (.ref a)) ∧ RH (pm X F μ φ σ) H d a := by
  obtain ⟨o, ho⟩ := getσ rl h
  obtain ⟨a, e, r⟩ := rl.sl i _ _ h ho
  rw [e] at ho
  exact ⟨a, ho, r⟩
theorem Rl.look (rl : Rl X F μ φ S σ H) {d : D} {v : V} (h : RX X F μ φ σ H d v) : RT (pm X F μ φ σ) H (look φ S d) v := by
  cases d with
  | oref i =>
    obtain ⟨a, e, w, c, h1, h2⟩ := h
    obtain ⟨a', h3, r⟩ := rl.own h1
    rw [h2] at h3
    cases h3
    have : Gx.look φ S (.oref i) = c := by simp [Gx.look, h1]
    rw [this, e]
    exact r.rt
  | box n =>
    obtain ⟨a, e, hb⟩ := h
    have hn : n < S.length := by rw [← rl.lenS]; exact (List.getElem?_eq_some_iff.mp hb).1
    have e2 : S[n]? = some S[n] := List.getElem?_eq_getElem hn
    have : Gx.look φ S (.box n) = S[n] := by simp [Gx.look, e2]
    rw [this, e]
    exact (rl.bx n _ a e2 hb).rt
  | _ => exact RD.rt h
theorem Rl.looks (rl : Rl X F μ φ S σ H) : ∀ {ds : List D} {vs : List V}, RXs X F μ φ σ H ds vs → ∃ _ : ds.length = vs.length, ∀ (i : Nat) d, ds[i]? = some d → ∃ v, vs[i]? = some v ∧ RT (pm X F μ φ σ) H (Gx.look φ S d) v
  | [], _, h => ⟨by rw [show _ = [] from h]; rfl, fun i d hd => by simp at hd⟩
  | d :: r, _, ⟨v, vr, e, h, t⟩ => by
    subst e
    obtain ⟨l, k⟩ := rl.looks t
    refine ⟨by simp [l], fun i x hx => ?_⟩
    cases i with
    | zero => simp at hx; subst hx; exact ⟨v, rfl, rl.look h⟩
    | succ i =>
      obtain ⟨w, h1, h2⟩ := k i x (by simpa using hx)
      exact ⟨w, by simpa using h1, h2⟩
end

/-! ### steps of the state -/
/-- what stays: the addresses kept apart, what is read only -/
structure Fix (F : Addr → Prop) (φ : Fr) (σ : L2.St) (H : Hp) (φ' : Fr) (H' : Hp) : Prop where
  f : ∀ a, F a → H' a = H a
  ro : ∀ (i : Nat) d, φ[i]? = some (.own false d) → φ'[i]? = some (.own false d) ∧ ∀ a, σ[i]? = some (some (.ref a)) → H' a = H a
theorem Fix.refl {F : Addr → Prop} {φ : Fr} {σ : L2.St} {H : Hp} : Fix F φ σ H φ H := ⟨fun _ _ => rfl, fun _ _ h => ⟨h, fun _ _ => rfl⟩⟩
theorem Fix.trans {F : Addr → Prop} {φ φ' φ'' : Fr} {σ : L2.St} {H H' H'' : Hp} (a : Fix F φ σ H φ' H') (b : Fix F φ' σ H' φ'' H'') : Fix F φ σ H φ'' H'' :=
  ⟨fun x h => (b.f x h).trans (a.f x h), fun i d h => by
    obtain ⟨h1, h2⟩ := a.ro i d h
    obtain ⟨h3, h4⟩ := b.ro i d h1
    exact ⟨h3, fun x e => (h4 x e).trans (h2 x e)⟩⟩
structure Nx (X : Cx) (F : Addr → Prop) (μ : List Addr) (φ : Fr) (σ : L2.St) (H : Hp) (μ' : List Addr) (φ' : Fr) (S' : Sto) (H' : Hp) : Prop where
  rl : Rl X F μ' φ' S' σ H'
  ext : Ext (pm X F μ φ σ) H (pm X F μ' φ' σ) H'
  shape : ∀ (i : Nat) w d, φ[i]? = some (.own w d) → ∃ d', φ'[i]? = some (.own w d')
  fx : Fix F φ σ H φ' H'
section
variable {X : Cx} {F : Addr → Prop} {μ μ' μ'' : List Addr} {φ φ' φ'' : Fr} {S S' S'' : Sto} {σ σ' σ'' : L2.St} {H H' H'' : Hp} {P : Pm}
theorem Ext.refl (ma : ∀ a, P.mu a → P.av a) : Ext P H P H := ⟨rfl, rfl, fun _ _ _ h _ => h, fun _ _ h => h, fun _ _ h => h, fun _ _ h => h, fun _ _ h => h, ma, fun _ h => h, id⟩
theorem Nx.refl (rl : Rl X F μ φ S σ H) : Nx X F μ φ σ H μ φ S H := ⟨rl, Ext.refl fun _ h => .inl h, fun i w d h => ⟨d, h⟩, Fix.refl⟩
theorem Nx.trans (a : Nx X F μ φ σ H μ' φ' S' H') (b : Nx X F μ' φ' σ H' μ'' φ'' S'' H'') : Nx X F μ φ σ H μ'' φ'' S'' H'' :=
  ⟨b.rl, a.ext.trans b.ext, fun i w d h => by
    obtain ⟨d1, h1⟩ := a.shape i w d h
    exact b.shape i w d1 h1, a.fx.trans b.fx⟩
theorem Nx.rx (a : Nx X F μ φ σ H μ' φ' S' H') {d : D} {v : V} (h : RX X F μ φ σ H d v) : RX X F μ' φ' σ H' d v := by
  cases d with
  | oref i =>
    obtain ⟨x, e, w, c, h1, h2⟩ := h
    obtain ⟨c', h3⟩ := a.shape i w c h1
    exact ⟨x, e, w, c', h3, h2⟩
  | _ => exact RD.mono a.ext h
theorem Nx.rxs (a : Nx X F μ φ σ H μ' φ' S' H') : ∀ {l : List D} {vs : List V}, RXs X F μ φ σ H l vs → RXs X F μ' φ' σ H' l vs
  | [], _, h => h
  | _ :: _, _, ⟨v, vr, e, h, t⟩ => ⟨v, vr, e, a.rx h, a.rxs t⟩
/-- all that is told of the state at one heap is told at another -/
theorem Rl.carry (rl : Rl X F μ φ S σ H) (e : Ext (pm X F μ φ σ) H (pm X F μ φ σ) H') (k : ∀ a, muOf μ φ σ a → H' a = H a) : Rl X F μ φ S σ H' := by
  have rh : ∀ {d : D} {a : Addr}, muOf μ φ σ a → RH (pm X F μ φ σ) H d a → RH (pm X F μ φ σ) H' d a := fun {d a} m h => by
    cases d <;> first | exact False.elim h | skip
    · obtain ⟨vs, h, t⟩ := h; exact ⟨vs, (k a m).trans h, t.mono e⟩
    · obtain ⟨vs, h, t⟩ := h; exact ⟨vs, (k a m).trans h, RDk.mono e t⟩
  refine ⟨rl.lenS, rl.lenF, fun n d a h1 h2 => rh (.inl ⟨n, h2⟩) (rl.bx n d a h1 h2), fun i s w h1 h2 => ?_, rl.n1, rl.n2, rl.n3, fun a h => e.there a (rl.f1 a h), rl.f2, e.tb rl.tab⟩
  have q := rl.sl i s w h1 h2
  cases s with
  | em => trivial
  | v d => obtain ⟨v, e1, r⟩ := q; exact ⟨v, e1, RD.mono e r⟩
  | own b d =>
    obtain ⟨a, e1, r⟩ := q
    exact ⟨a, e1, rh (.inr ⟨i, b, d, h1, by rw [h2, e1]⟩) r⟩
theorem Rl.muThere (rl : Rl X F μ φ S σ H) {a : Addr} (h : muOf μ φ σ a) : (∃ vs, H a = some (.lst vs)) ∨ ∃ kvs, H a = some (.dK kvs) := by
  rcases h with ⟨n, h⟩ | ⟨i, w, d, h1, h2⟩
  · have hn : n < S.length := by rw [← rl.lenS]; exact (List.getElem?_eq_some_iff.mp h).1
    exact (rl.bx n _ a (List.getElem?_eq_getElem hn) h).muTy
  · obtain ⟨a', h3, r⟩ := rl.own h1
    rw [h2] at h3
    cases h3
    exact r.muTy
theorem Rl.muSome (rl : Rl X F μ φ S σ H) {a : Addr} (h : muOf μ φ σ a) : H a ≠ none := by
  rcases rl.muThere h with ⟨_, h⟩ | ⟨_, h⟩ <;> rw [h] <;> simp
theorem Rl.muNt (rl : Rl X F μ φ S σ H) {a : Addr} (h : muOf μ φ σ a) : nt H a := by
  rcases rl.muThere h with ⟨_, h⟩ | ⟨_, h⟩ <;> exact .of rfl h
theorem Rd.new {H : Hp} {a p : Addr} {o u : HO} (h : H p = none) (r : Rd H a u) : Rd (upd H p o) a u := by
  rcases r with r | ⟨ob, r⟩
  · exact .inl (by rw [upd_ne (ne_of_none r h)]; exact r)
  · exact .inr ⟨ob, by rw [upd_ne (ne_of_none r h)]; exact r⟩
/-- a new object -/
theorem Ext.new {p : Addr} {o : HO} (ma : ∀ a, P.mu a → P.av a) (h : H p = none) : Ext P H P (upd H p o) :=
  ⟨rfl, rfl, fun a u _ e _ => Rd.new h e, fun a xs r => Rd.new h r, fun _ _ h => h, fun _ _ h => h, fun _ _ h => h, ma, fun a e => e.eq (upd_ne fun z => e.ne (by rw [z]; exact h)), fun t => t.ext fun b u e => by rw [upd_ne (ne_of_none e h)]; exact e⟩
theorem Rl.fixNew (rl : Rl X F μ φ S σ H) {p : Addr} {o : HO} (h : H p = none) : Fix F φ σ H φ (upd H p o) :=
  ⟨fun a q => upd_ne fun z => rl.f1 a q (by rw [z]; exact h), fun i d e => ⟨e, fun a q => upd_ne fun z => rl.muSome (.inr ⟨i, false, d, e, q⟩) (by rw [z]; exact h)⟩⟩
theorem Nx.new (rl : Rl X F μ φ S σ H) {p : Addr} {o : HO} (h : H p = none) : Nx X F μ φ σ H μ φ S (upd H p o) := by
  have e : Ext (pm X F μ φ σ) H (pm X F μ φ σ) (upd H p o) := Ext.new (fun _ z => .inl z) h
  exact ⟨rl.carry e fun a m => upd_ne fun z => rl.muSome m (by rw [z]; exact h), e, fun i w d h => ⟨d, h⟩, Rl.fixNew rl h⟩
end
end Gx
set_option Elab.async false
set_option linter.all false
set_option maxRecDepth 100000
/-! Gx3: readings of expressions by the evaluator; operators. -/
namespace Gx
open PySem PySem.Spec PyProof.Rows L2

def ExOk (P : Pm) (H : Hp) (x : Ex) (cls : Value) (dx : Option Addr) : Prop :=
  ∃ C, cls = .ref C ∧ P.mg x.cls = some (.ref C) ∧ match dx with
    | none => x.fs = []
    | some d => ∃ kvs, H d = some (.xd kvs) ∧ RDf P H x.fs kvs
/-- what is wanted of an exception; none: there is none -/
def Wi : Option WX → WX
  | none => fun _ _ _ _ => False
  | some W => W
def PoE (X : Cx) (W : Option WX) (F : Addr → Prop) (μ : List Addr) (φ : Fr) (σ : L2.St) (H : Hp) (r : R D) (Q : VK) : Prop := match r with
  | .ok d φ' S' => ∀ μ' H' v, Nx X F μ φ σ H μ' φ' S' H' → RX X F μ' φ' σ H' d v → Q v H'
  | .exc x φ' S' => W ≠ none ∧ ∀ μ' H' cls dx, Nx X F μ φ σ H μ' φ' S' H' → ExOk (pm X F μ' φ' σ) H' x cls dx → Wi W cls dx σ H'
  | .no => False
def tE (X : Cx) (W : Option WX) (f : Fr → Sto → R D) : TE := fun σ H Q => ∃ F μ φ S, Rl X F μ φ S σ H ∧ PoE X W F μ φ σ H (f φ S) Q
abbrev GE (X : Cx) (W : Option WX) (e : Expr) (f : Fr → Sto → R D) : Prop := PE X e (tE X W f)
/-- argument lists -/
def PoA (X : Cx) (W : Option WX) (F : Addr → Prop) (μ : List Addr) (φ : Fr) (σ : L2.St) (H : Hp) (r : R (List D)) (Q : List V → Hp → Prop) : Prop := match r with
  | .ok d φ' S' => ∀ μ' H' v, Nx X F μ φ σ H μ' φ' S' H' → RXs X F μ' φ' σ H' d v → Q v H'
  | .exc x φ' S' => W ≠ none ∧ ∀ μ' H' cls dx, Nx X F μ φ σ H μ' φ' S' H' → ExOk (pm X F μ' φ' σ) H' x cls dx → Wi W cls dx σ H'
  | .no => False
def tA (X : Cx) (W : Option WX) (f : Fr → Sto → R (List D)) : TA := fun σ H Q => ∃ F μ φ S, Rl X F μ φ S σ H ∧ PoA X W F μ φ σ H (f φ S) Q
abbrev GA (X : Cx) (W : Option WX) (es : List Expr) (f : Fr → Sto → R (List D)) : Prop := PA X es (tA X W f)
/-- tests -/
def PoT (X : Cx) (W : Option WX) (F : Addr → Prop) (μ : List Addr) (φ : Fr) (σ : L2.St) (H : Hp) (r : R Bool) (Q : Bool → Hp → Prop) : Prop := match r with
  | .ok b φ' S' => ∀ μ' H', Nx X F μ φ σ H μ' φ' S' H' → Q b H'
  | .exc x φ' S' => W ≠ none ∧ ∀ μ' H' cls dx, Nx X F μ φ σ H μ' φ' S' H' → ExOk (pm X F μ' φ' σ) H' x cls dx → Wi W cls dx σ H'
  | .no => False
def tT (X : Cx) (W : Option WX) (f : Fr → Sto → R Bool) : TT := fun σ H Q => ∃ F μ φ S, Rl X F μ φ S σ H ∧ PoT X W F μ φ σ H (f φ S) Q
abbrev GT (X : Cx) (W : Option WX) (e : Expr) (f : Fr → Sto → R Bool) : Prop := PT X e (tT X W f)

section
variable {X : Cx} {W : Option WX} {F : Addr → Prop} {μ μ' : List Addr} {φ φ' : Fr} {S S' : Sto} {σ : L2.St} {H H' : Hp} {Q : VK}
theorem _root_.L2.PE.imp {e : Expr} {t t' : TE} (h : PE X e t) (k : ∀ σ H Q, t' σ H Q → t σ H Q) : PE X e t' := ⟨fun pins s σ H Q I q => h.run pins s σ H Q I (k σ H Q q)⟩
theorem _root_.L2.PA.imp {e : List Expr} {t t' : TA} (h : PA X e t) (k : ∀ σ H Q, t' σ H Q → t σ H Q) : PA X e t' := ⟨fun pos pins s σ H Q I q => h.run pos pins s σ H Q I (k σ H Q q)⟩
theorem _root_.L2.PT.imp {e : Expr} {t t' : TT} (h : PT X e t) (k : ∀ σ H Q, t' σ H Q → t σ H Q) : PT X e t' := ⟨fun pins s σ H Q I q => h.run pins s σ H Q I (k σ H Q q)⟩
theorem _root_.L2.PW.imp {e : Expr} {t t' : TT} (h : PW X e t) (k : ∀ σ H Q, t' σ H Q → t σ H Q) : PW X e t' := ⟨fun wh pins s σ H Q I q => h.run wh pins s σ H Q I (k σ H Q q)⟩

/-- another base -/
theorem PoE.re {r : R D} (po : PoE X W F μ φ σ H r Q) (nx : Nx X F μ φ σ H μ' φ' S' H') : PoE X W F μ' φ' σ H' r Q := by
  cases r with
  | ok d φ'' S'' => exact fun μ'' H'' v n rx => po μ'' H'' v (nx.trans n) rx
  | exc x φ'' S'' => exact ⟨po.1, fun μ'' H'' c d n e => po.2 μ'' H'' c d (nx.trans n) e⟩
  | no => exact po
theorem PoA.re {r : R (List D)} {Q : List V → Hp → Prop} (po : PoA X W F μ φ σ H r Q) (nx : Nx X F μ φ σ H μ' φ' S' H') : PoA X W F μ' φ' σ H' r Q := by
  cases r with
  | ok d φ'' S'' => exact fun μ'' H'' v n rx => po μ'' H'' v (nx.trans n) rx
  | exc x φ'' S'' => exact ⟨po.1, fun μ'' H'' c d n e => po.2 μ'' H'' c d (nx.trans n) e⟩
  | no => exact po
theorem PoT.re {r : R Bool} {Q : Bool → Hp → Prop} (po : PoT X W F μ φ σ H r Q) (nx : Nx X F μ φ σ H μ' φ' S' H') : PoT X W F μ' φ' σ H' r Q := by
  cases r with
  | ok d φ'' S'' => exact fun μ'' H'' n => po μ'' H'' (nx.trans n)
  | exc x φ'' S'' => exact ⟨po.1, fun μ'' H'' c d n e => po.2 μ'' H'' c d (nx.trans n) e⟩
  | no => exact po

/-- the first of two: a value -/
theorem PoE.fst {r : R D} {k : D → Fr → Sto → R D} {Q1 : VK} (po : PoE X W F μ φ σ H (r.bind k) Q)
    (g : ∀ d φ1 S1 μ1 H1 v, Nx X F μ φ σ H μ1 φ1 S1 H1 → RX X F μ1 φ1 σ H1 d v → PoE X W F μ1 φ1 σ H1 (k d φ1 S1) Q → Q1 v H1) : PoE X W F μ φ σ H r Q1 := by
  cases r with
  | ok d φ1 S1 => exact fun μ1 H1 v nx rx => g d φ1 S1 μ1 H1 v nx rx (PoE.re po nx)
  | exc x φ1 S1 => exact po
  | no => exact po
theorem PoE.fstA {r : R (List D)} {k : List D → Fr → Sto → R D} {Q1 : List V → Hp → Prop} (po : PoE X W F μ φ σ H (r.bind k) Q)
    (g : ∀ d φ1 S1 μ1 H1 v, Nx X F μ φ σ H μ1 φ1 S1 H1 → RXs X F μ1 φ1 σ H1 d v → PoE X W F μ1 φ1 σ H1 (k d φ1 S1) Q → Q1 v H1) : PoA X W F μ φ σ H r Q1 := by
  cases r with
  | ok d φ1 S1 => exact fun μ1 H1 v nx rx => g d φ1 S1 μ1 H1 v nx rx (PoE.re po nx)
  | exc x φ1 S1 => exact po
  | no => exact po
theorem PoE.fstT {r : R Bool} {k : Bool → Fr → Sto → R D} {Q1 : Bool → Hp → Prop} (po : PoE X W F μ φ σ H (r.bind k) Q)
    (g : ∀ d φ1 S1 μ1 H1, Nx X F μ φ σ H μ1 φ1 S1 H1 → PoE X W F μ1 φ1 σ H1 (k d φ1 S1) Q → Q1 d H1) : PoT X W F μ φ σ H r Q1 := by
  cases r with
  | ok d φ1 S1 => exact fun μ1 H1 nx => g d φ1 S1 μ1 H1 nx (PoE.re po nx)
  | exc x φ1 S1 => exact po
  | no => exact po
theorem PoA.fst {r : R D} {k : D → Fr → Sto → R (List D)} {Q : List V → Hp → Prop} {Q1 : VK} (po : PoA X W F μ φ σ H (r.bind k) Q)
    (g : ∀ d φ1 S1 μ1 H1 v, Nx X F μ φ σ H μ1 φ1 S1 H1 → RX X F μ1 φ1 σ H1 d v → PoA X W F μ1 φ1 σ H1 (k d φ1 S1) Q → Q1 v H1) : PoE X W F μ φ σ H r Q1 := by
  cases r with
  | ok d φ1 S1 => exact fun μ1 H1 v nx rx => g d φ1 S1 μ1 H1 v nx rx (PoA.re po nx)
  | exc x φ1 S1 => exact po
  | no => exact po
theorem PoA.fstA {r : R (List D)} {k : List D → Fr → Sto → R (List D)} {Q : List V → Hp → Prop} {Q1 : List V → Hp → Prop} (po : PoA X W F μ φ σ H (r.bind k) Q)
    (g : ∀ d φ1 S1 μ1 H1 v, Nx X F μ φ σ H μ1 φ1 S1 H1 → RXs X F μ1 φ1 σ H1 d v → PoA X W F μ1 φ1 σ H1 (k d φ1 S1) Q → Q1 v H1) : PoA X W F μ φ σ H r Q1 := by
  cases r with
  | ok d φ1 S1 => exact fun μ1 H1 v nx rx => g d φ1 S1 μ1 H1 v nx rx (PoA.re po nx)
  | exc x φ1 S1 => exact po
  | no => exact po
theorem PoT.fst {r : R D} {k : D → Fr → Sto → R Bool} {Q : Bool → Hp → Prop} {Q1 : VK} (po : PoT X W F μ φ σ H (r.bind k) Q)
    (g : ∀ d φ1 S1 μ1 H1 v, Nx X F μ φ σ H μ1 φ1 S1 H1 → RX X F μ1 φ1 σ H1 d v → PoT X W F μ1 φ1 σ H1 (k d φ1 S1) Q → Q1 v H1) : PoE X W F μ φ σ H r Q1 := by
  cases r with
  | ok d φ1 S1 => exact fun μ1 H1 v nx rx => g d φ1 S1 μ1 H1 v nx rx (PoT.re po nx)
  | exc x φ1 S1 => exact po
  | no => exact po
theorem PoT.fstT {r : R Bool} {k : Bool → Fr → Sto → R Bool} {Q : Bool → Hp → Prop} {Q1 : Bool → Hp → Prop} (po : PoT X W F μ φ σ H (r.bind k) Q)
    (g : ∀ d φ1 S1 μ1 H1, Nx X F μ φ σ H μ1 φ1 S1 H1 → PoT X W F μ1 φ1 σ H1 (k d φ1 S1) Q → Q1 d H1) : PoT X W F μ φ σ H r Q1 := by
  cases r with
  | ok d φ1 S1 => exact fun μ1 H1 nx => g d φ1 S1 μ1 H1 nx (PoT.re po nx)
  | exc x φ1 S1 => exact po
  | no => exact po
/-- a step that may not be defined -/
theorem PoE.opt {α : Type} {o : Option α} {k : α → Fr → Sto → R D} (po : PoE X W F μ φ σ H ((ofO o φ S).bind k) Q) : ∃ a, o = some a ∧ PoE X W F μ φ σ H (k a φ S) Q := by
  cases o with
  | some a => exact ⟨a, rfl, po⟩
  | none => exact po.elim
theorem PoT.opt {α : Type} {o : Option α} {k : α → Fr → Sto → R Bool} {Q : Bool → Hp → Prop} (po : PoT X W F μ φ σ H ((ofO o φ S).bind k) Q) : ∃ a, o = some a ∧ PoT X W F μ φ σ H (k a φ S) Q := by
  cases o with
  | some a => exact ⟨a, rfl, po⟩
  | none => exact po.elim
theorem PoA.opt {α : Type} {o : Option α} {k : α → Fr → Sto → R (List D)} {Q : List V → Hp → Prop} (po : PoA X W F μ φ σ H ((ofO o φ S).bind k) Q) : ∃ a, o = some a ∧ PoA X W F μ φ σ H (k a φ S) Q := by
  cases o with
  | some a => exact ⟨a, rfl, po⟩
  | none => exact po.elim
theorem PoE.opt1 {o : Option D} (po : PoE X W F μ φ σ H (ofO o φ S) Q) : ∃ a, o = some a ∧ PoE X W F μ φ σ H (.ok a φ S) Q := by
  cases o with
  | some a => exact ⟨a, rfl, po⟩
  | none => exact po.elim
theorem PoT.opt1 {o : Option Bool} {Q : Bool → Hp → Prop} (po : PoT X W F μ φ σ H (ofO o φ S) Q) : ∃ a, o = some a ∧ PoT X W F μ φ σ H (.ok a φ S) Q := by
  cases o with
  | some a => exact ⟨a, rfl, po⟩
  | none => exact po.elim

/-! ### names and constants -/
theorem Rl.get (rl : Rl X F μ φ S σ H) {i : Nat} {d : D} (h : φ.get i = some d) : ∃ v, σ[i]? = some (some v) ∧ RX X F μ φ σ H d v := by
  unfold Fr.get at h
  split at h
  · rename_i d' e
    cases h
    obtain ⟨w, hw⟩ := getσ rl e
    obtain ⟨v, e1, r⟩ := rl.sl i _ _ e hw
    exact ⟨v, by rw [hw, e1], r.rx⟩
  · rename_i w d' e
    cases h
    obtain ⟨a, e1, r⟩ := rl.own e
    exact ⟨.ref a, e1, a, rfl, w, d', e, e1⟩
  · cases h
theorem ge_var {i : Nat} {x : Str} {pos : Pos} (hN : X.N[i]? = some x) (hv : Vis X.env.scope x) (hd : (x == ("__debug__" : Str)) = false) (hcd : (x == ("__classdict__" : Str)) = false) :
    GE X W (.Name x pos) (fun φ S => ofO (φ.get i) φ S) := (pe_var hN hv hd hcd).imp fun σ H Q ⟨F, μ, φ, S, rl, po⟩ => by
  obtain ⟨d, e, po⟩ := PoE.opt1 po
  obtain ⟨v, h1, h2⟩ := rl.get e
  exact ⟨v, h1, po μ H v (Nx.refl rl) h2⟩
theorem ge_con {e : Expr} {d : D} {v : V} (h : PE X e (tC v)) (hd : ∀ P H, RD P H d v) : GE X W e (fun φ S => .ok d φ S) := h.imp fun σ H Q ⟨F, μ, φ, S, rl, po⟩ => po μ H v (Nx.refl rl) (hd _ _).rx
theorem ge_glob {x : Str} {a : Addr} {pos : Pos} (hg : Gl X x) (hm : X.mg x = some (.ref a)) (hd : (x == ("__debug__" : Str)) = false) : GE X W (.Name x pos) (fun φ S => .ok (.fn x) φ S) :=
  (pe_glob (v := .ref a) hg hm rfl hd).imp fun σ H Q ⟨F, μ, φ, S, rl, po⟩ => po μ H (.ref a) (Nx.refl rl) (RD.rx (d := .fn x) ⟨a, rfl, hm⟩)

/-! ### two-place operations -/
def r2 (X : Cx) (f : D → D → Option D) : R2 := fun x y H Q => ∃ F μ φ S σ a b d, Rl X F μ φ S σ H ∧ RT (pm X F μ φ σ) H a x ∧ RT (pm X F μ φ σ) H b y ∧ f a b = some d ∧
  ∀ H' v, Nx X F μ φ σ H μ φ S H' → RD (pm X F μ φ σ) H' d v → Q v H'
theorem fin2 {d : D} (po : PoE X W F μ φ σ H (.ok d φ S) Q) : ∀ H' v, Nx X F μ φ σ H μ φ S H' → RD (pm X F μ φ σ) H' d v → Q v H' := fun H' v nx r => po μ H' v nx r.rx
theorem two_tE {fa fb : Fr → Sto → R D} {f : D → D → Option D} {σ : L2.St} {H : Hp} {Q : VK}
    (h : tE X W (fun φ S => (fa φ S).bind fun x φ S => (fb φ S).bind fun y φ S => ofO (f (look φ S x) (look φ S y)) φ S) σ H Q) : tOp (r2 X f) (tE X W fa) (tE X W fb) σ H Q := by
  obtain ⟨F, μ, φ, S, rl, po⟩ := h
  refine ⟨F, μ, φ, S, rl, po.fst fun x φ1 S1 μ1 H1 v n1 r1 po1 => ?_⟩
  refine ⟨F, μ1, φ1, S1, n1.rl, po1.fst fun y φ2 S2 μ2 H2 u n2 r2 po2 => ?_⟩
  obtain ⟨d, e, po2⟩ := PoE.opt1 po2
  exact ⟨F, μ2, φ2, S2, σ, _, _, d, n2.rl, n2.rl.look (n2.rx r1), n2.rl.look r2, e, fin2 po2⟩
theorem ge_two {e : Expr} {fa fb : Fr → Sto → R D} {f : D → D → Option D} (h : PE X e (tOp (r2 X f) (tE X W fa) (tE X W fb))) :
    GE X W e (fun φ S => (fa φ S).bind fun x φ S => (fb φ S).bind fun y φ S => ofO (f (look φ S x) (look φ S y)) φ S) := h.imp fun σ H Q q => two_tE q
end

section
variable {X : Cx} {pins : List (Addr × Obj)} {σ : L2.St} {H : Hp} {s : Shared} {l b : Addr} {xs ys zs : List V}
theorem lstR (I : Inv X pins σ H s) (hH : Rd H l (.lst xs)) : xs.length ≤ sizeLine ∧ ∃ (its : List Value) (n : Nat), Vals xs its ∧ xs.length = its.length ∧ s.heap.get? l = some { cls := .type "list", data := .seq its.toArray n } := by
  obtain ⟨z, its, n, r, e⟩ := hH.ok I.hok
  exact ⟨z, its, n, r, r.length, e⟩
end
section
variable {X : Cx} {W : Option WX}
/-- list + list, for reading -/
theorem op_catR : OpR X (binaryOp .Add) (fun x y H Q => ∃ l b xs zs, x = .ref l ∧ y = .ref b ∧ Rd H l (.lst xs) ∧ Rd H b (.lst zs) ∧ xs.length + zs.length ≤ sizeLine ∧ ∀ p, H p = none → Q (.ref p) (upd H p (.lst (xs ++ zs)))) := by
  intro pins s σ H x y v u Q I rx ry h
  obtain ⟨l, b, xs, zs, rfl, rfl, hH, hB, hz, q⟩ := h
  cases rx
  cases ry
  obtain ⟨z, its, n, r, hl, e⟩ := lstR I hH
  obtain ⟨z2, its2, n2, r2, hl2, e2⟩ := lstR I hB
  refine PySem.P.add_list e e2 ?_ (by rw [List.size_toArray, List.size_toArray]; omega)
  have ea : its.toArray ++ its2.toArray = (its ++ its2).toArray := by simp
  rw [ea]
  exact ⟨.ref _, _, I.lnew (t' := s.toks) (r.append r2) (by rw [List.length_append]; omega), rfl, q _ I.fresh⟩
theorem op_repR : OpR X (binaryOp .Mult) (fun x y H Q => ∃ l k xs, x = .ref l ∧ y = .int k ∧ Rd H l (.lst xs) ∧ -(2 ^ 63) ≤ k ∧ k < 2 ^ 63 ∧ xs.length * k.toNat ≤ sizeLine ∧
  ∀ p, H p = none → Q (.ref p) (upd H p (.lst (List.replicate k.toNat xs).flatten))) := by
  intro pins s σ H x y v u Q I rx ry h
  obtain ⟨l, k, xs, rfl, rfl, hH, h1, h2, hz, q⟩ := h
  cases rx
  obtain ⟨t, rfl⟩ := ry
  obtain ⟨z, its, n, r, hl, e⟩ := lstR I hH
  have hlen : its.toArray.size * k.toNat ≤ sizeLine := by rw [List.size_toArray, ← hl]; exact hz
  have hcap : ¬ its.toArray.size * k.toNat > (2 ^ 63 - 1) / 8 := by
    have : (sizeLine : Nat) ≤ (2 ^ 63 - 1) / 8 := by decide
    omega
  have hfit : ¬ (!Builtin.List.listFitsIndex k) = true := by
    rw [fitsIndex_both h1 h2]
    exact Bool.false_ne_true
  have hlong : ¬ Builtin.List.listTooLong (its.toArray.size * k.toNat) = true := by
    rw [notLongL hlen]
    exact Bool.false_ne_true
  have hnew : List.foldl (fun x1 x2 => x1 ++ x2) #[] (List.replicate (if its.toArray.isEmpty = true then 0 else k.toNat) its.toArray) = (List.replicate k.toNat its).flatten.toArray := by
    have f0 : ∀ m : Nat, List.foldl (fun x1 x2 => x1 ++ x2) #[] (List.replicate m its.toArray) = (List.replicate m its).flatten.toArray := fun m => by
      have := foldl_rep its m []
      rw [List.nil_append] at this
      exact this
    rw [f0]
    cases its with
    | nil => simp
    | cons a r' => rw [if_neg (by simp)]
  refine wpAny_binaryOp_repeat_ref (T := "list") (U := "int") (by decide) ⟨_, e, rfl⟩ (fun s' => typeIs_int s' k t) noFill_list_mul F.fills_int_mul F.slot_int_rmul repeat_list F.slot_int_index.lookup
    (call_meets F.slot_int_rmul (typeIs_int s k t) F.entry_int_rmul (F.args_int_rmul_2 _ _) (int___rmul___int_list k t l its.toArray n)
      ⟨e, rfl, ⟨_, e, rfl⟩, call_meets F.slot_list_mul ⟨_, e, rfl⟩ F.entry_list_mul (F.args_list_mul_2 _ _) (AutoListH.list___mul___list_int_3 l its.toArray n k t hfit hcap hlong) ⟨e, ?_⟩⟩)
  rw [hnew]
  exact ⟨.ref _, _, I.lnew (t' := s.toks) (r.rep k.toNat) (by rw [PyProof.Rows.lm_len_rep_flat, Nat.mul_comm]; exact hz), rfl, q _ I.fresh⟩
theorem _root_.L2.OpR.imp {f : Value → Value → Sem Value} {r r' : R2} (h : OpR X f r) (k : ∀ x y H Q, r' x y H Q → r x y H Q) : OpR X f r' := fun pins s σ H x y v u Q I rx ry q => h pins s σ H x y v u Q I rx ry (k x y H Q q)

def pyOp : BOp → Operator
  | .add => .Add | .sub => .Sub | .mul => .Mult | .fdiv => .FloorDiv | .mod => .Mod | .pow => .Pow
theorem RDs.rep {P : Pm} {H : Hp} {l : List D} {vs : List V} (h : RDs P H l vs) : ∀ k : Nat, RDs P H (List.replicate k l).flatten (List.replicate k vs).flatten
  | 0 => by simp [RDs]
  | k + 1 => by rw [List.replicate_succ, List.replicate_succ, List.flatten_cons, List.flatten_cons]; exact RDs.append h (h.rep k)
theorem rd_tup {P : Pm} {H : Hp} {p : Addr} {l : List D} {vs : List V} (hp : H p = some (.tup vs)) (h : RDs P H l vs) : RD P H (.tup l) (.ref p) := ⟨p, vs, rfl, .inl (.inl hp), h⟩
theorem rd_lst {X : Cx} {F : Addr → Prop} {μ : List Addr} {φ : Fr} {S : Sto} {σ : L2.St} {H H0 : Hp} {p : Addr} {l : List D} {vs : List V} (rl : Rl X F μ φ S σ H0) (n : H0 p = none) (hp : H p = some (.lst vs)) (h : RDs (pm X F μ φ σ) H l vs) : RD (pm X F μ φ σ) H (.lst l) (.ref p) :=
  ⟨p, vs, rfl, fun z => by
    rcases z with z | z
    · exact rl.muSome z n
    · exact rl.f1 p z n, .inl hp, h⟩
theorem op_bin (o : BOp) : OpR X (binaryOp (pyOp o)) (r2 X (binD o)) := by
  intro pins s σ H x y v u Q I rx ry h
  obtain ⟨F, μ, φ, S, σ', a, b, d, rl, ra, rb, e, k⟩ := h
  have same : ∀ {w : V}, RD (pm X F μ φ σ') H d w → Q w H := fun {w} r => k H w (Nx.refl rl) r
  cases o
  case add =>
    cases a <;> cases b <;> simp only [binD, Option.some.injEq, reduceCtorEq] at e
    · subst e; cases ra; cases rb
      exact op_add pins s σ H _ _ v u Q I rx ry ⟨_, _, rfl, rfl, same rfl⟩
    · split at e
      · cases e; cases ra; cases rb
        exact op_add_str pins s σ H _ _ v u Q I rx ry ⟨_, _, rfl, rfl, by assumption, same rfl⟩
      · cases e
    · split at e
      · cases e
        rename_i l r hz
        obtain ⟨p, vs, rfl, h1, t1⟩ := ra
        obtain ⟨q, ws, rfl, h2, t2⟩ := rb
        have z1 := t1.length
        have z2 := t2.length
        refine op_catA pins s σ H _ _ v u Q I rx ry ⟨p, q, vs, ws, rfl, rfl, h1, h2, by omega, fun e => ?_, fun _ e => ?_, fun _ _ m hm => ?_⟩
        · subst e
          have : l = [] := by cases l; rfl; simp at z1
          subst this
          exact same ⟨q, ws, rfl, h2, t2⟩
        · subst e
          have : r = [] := by cases r; rfl; simp at z2
          subst this
          rw [List.append_nil] at same
          exact same ⟨p, vs, rfl, h1, t1⟩
        · have nx := Nx.new (o := .tup (vs ++ ws)) rl hm
          exact k _ _ nx (rd_tup upd_same ((t1.append t2).mono nx.ext))
      · cases e
    · split at e
      · cases e
        rename_i l r hz
        obtain ⟨p, vs, rfl, h1, t1⟩ := ra
        obtain ⟨q, ws, rfl, h2, t2⟩ := rb
        have z1 := t1.length
        have z2 := t2.length
        refine op_catR pins s σ H _ _ v u Q I rx ry ⟨p, q, vs, ws, rfl, rfl, h1, h2, by omega, fun m hm => ?_⟩
        have nx := Nx.new (o := .lst (vs ++ ws)) rl hm
        exact k _ _ nx (rd_lst rl hm upd_same ((t1.append t2).mono nx.ext))
      · cases e
  case sub =>
    cases a <;> cases b <;> simp only [binD, Option.some.injEq, reduceCtorEq] at e
    subst e; cases ra; cases rb
    exact op_sub pins s σ H _ _ v u Q I rx ry ⟨_, _, rfl, rfl, same rfl⟩
  case mul =>
    cases a <;> cases b <;> simp only [binD, Option.some.injEq, reduceCtorEq] at e
    · split at e
      · cases e; cases ra; cases rb
        rename_i h
        exact op_mul pins s σ H _ _ v u Q I rx ry ⟨_, _, rfl, rfl, by simpa [bigOk, CMul] using h, same rfl⟩
      · cases e
    · split at e
      · cases e
        rename_i l r hz
        obtain ⟨p, vs, rfl, h1, t1⟩ := ra
        cases rb
        have z1 := t1.length
        refine op_repT pins s σ H _ _ v u Q I rx ry ⟨p, _, vs, rfl, rfl, h1, fun z => ?_, hz.2.1, hz.2.2.1, by rw [← z1]; exact hz.2.2.2, fun m hm => ?_⟩
        · subst z
          have := List.eq_nil_of_length_eq_zero z1
          rw [this] at hz
          cases hz.1
        · have nx := Nx.new (o := .tup (List.replicate r.toNat vs).flatten) rl hm
          exact k _ _ nx (rd_tup upd_same ((t1.rep _).mono nx.ext))
      · cases e
    · split at e
      · cases e
        rename_i l r hz
        obtain ⟨p, vs, rfl, h1, t1⟩ := ra
        cases rb
        have z1 := t1.length
        refine op_repR pins s σ H _ _ v u Q I rx ry ⟨p, _, vs, rfl, rfl, h1, hz.1, hz.2.1, by rw [← z1]; exact hz.2.2, fun m hm => ?_⟩
        have nx := Nx.new (o := .lst (List.replicate r.toNat vs).flatten) rl hm
        exact k _ _ nx (rd_lst rl hm upd_same ((t1.rep _).mono nx.ext))
      · cases e
  case fdiv =>
    cases a <;> cases b <;> simp only [binD, Option.some.injEq, reduceCtorEq] at e
    split at e
    · cases e; cases ra; cases rb
      exact op_fdiv pins s σ H _ _ v u Q I rx ry ⟨_, _, rfl, rfl, by assumption, same rfl⟩
    · cases e
  case mod =>
    cases a <;> cases b <;> simp only [binD, Option.some.injEq, reduceCtorEq] at e
    split at e
    · cases e; cases ra; cases rb
      exact op_mod pins s σ H _ _ v u Q I rx ry ⟨_, _, rfl, rfl, by assumption, same rfl⟩
    · cases e
  case pow =>
    cases a <;> cases b <;> simp only [binD, Option.some.injEq, reduceCtorEq] at e
    split at e
    · cases e; cases ra; cases rb
      exact op_pow pins s σ H _ _ v u Q I rx ry ⟨_, _, rfl, rfl, by assumption, same rfl⟩
    · cases e
theorem ge_bin {o : BOp} {a b : Expr} {pos : Pos} {fa fb : Fr → Sto → R D} (ha : GE X W a fa) (hb : GE X W b fb) :
    GE X W (.BinOp a (pyOp o) b pos) (fun φ S => (fa φ S).bind fun x φ S => (fb φ S).bind fun y φ S => ofO (binD o (look φ S x) (look φ S y)) φ S) := ge_two (pe_op (op_bin o) ha hb)
end
end Gx
set_option Elab.async false
set_option linter.all false
set_option maxRecDepth 100000
/-! Gx4: comparisons, truth, places, slices. -/
namespace Gx
open PySem PySem.Spec PyProof.Rows L2

/-- enough room, nothing handled -/
structure Okx (X : Cx) : Prop where
  calm : X.calm = true
  hu : X.A.units + 66 < cLine

section
variable {X : Cx} {W : Option WX} {P : Pm} {H : Hp}
theorem RDs.dpAll (h : ∀ d v x, RD P H d v → toPy d = some x → Dp P.K H v x) : ∀ {l : List D} {vs : List V} {xs : List PyData}, RDs P H l vs → toPys l = some xs → DpAll P.K H vs xs
  | [], vs, xs, t, e => by
    rw [RDs.nil t]
    simp [toPys] at e
    subst e
    exact .nil
  | d :: r, _, xs, ⟨v, vr, e1, hd, t⟩, e => by
    subst e1
    rw [toPys] at e
    split at e
    · rename_i x xr ex exr
      cases e
      exact .cons (h d v x hd ex) (RDs.dpAll h t exr)
    · cases e
end
mutual
theorem dp_of {P : Pm} {H : Hp} : ∀ {d : D} {v : V} {x : PyData}, RT P H d v → toPy d = some x → Dp P.K H v x
  | .non, v, x, h, e => by cases h; cases e; exact .non
  | .bl b, v, x, h, e => by cases h; cases e; exact .bl b
  | .int i, v, x, h, e => by cases h; cases e; exact .int i
  | .str i, v, x, h, e => by cases h; cases e; exact .str i
  | .tup l, v, x, h, e => by
    obtain ⟨a, vs, rfl, h1, t⟩ := h
    obtain ⟨xs, e1, rfl⟩ := Option.map_eq_some_iff.mp (show (toPys l).map PyData.tuple = some x from e)
    exact .tup h1 (dps_of t e1)
  | .lst l, v, x, h, e => by
    obtain ⟨a, vs, rfl, h1, t⟩ := h
    obtain ⟨xs, e1, rfl⟩ := Option.map_eq_some_iff.mp (show (toPys l).map PyData.list = some x from e)
    exact .lst (.inl h1) (dps_of t e1)
  | .dik _, _, _, _, e => by cases e
  | .dit _, _, _, _, e => by cases e
  | .set _, _, _, _, e => by cases e
  | .scr _, _, _, _, e => by cases e
  | .box _, _, _, _, e => by cases e
  | .oref _, _, _, _, e => by cases e
  | .fn _, _, _, _, e => by cases e
  | .ty _, _, _, _, e => by cases e
  | .err _ _, _, _, _, e => by cases e
theorem dps_of {P : Pm} {H : Hp} : ∀ {l : List D} {vs : List V} {xs : List PyData}, RDs P H l vs → toPys l = some xs → DpAll P.K H vs xs
  | [], vs, xs, t, e => by
    rw [RDs.nil t]
    simp [toPys] at e
    subst e
    exact .nil
  | d :: r, _, xs, ⟨v, vr, e1, hd, t⟩, e => by
    subst e1
    rw [toPys] at e
    split at e
    · rename_i x xr ex exr
      cases e
      exact .cons (dp_of hd.rt ex) (dps_of t exr)
    · cases e
end

def pyCmp : COp → CmpOp
  | .eq => .Eq | .ne => .NotEq | .lt => .Lt | .le => .LtE | .gt => .Gt | .ge => .GtE | .isin => .In | .notin => .NotIn | .is_ => .Is | .isnt => .IsNot
theorem rt_int {P : Pm} {H : Hp} {i : Int} {v : V} (h : RT P H (.int i) v) : v = .int i := h
theorem rt_str {P : Pm} {H : Hp} {i : Str} {v : V} (h : RT P H (.str i) v) : v = .str i := h
theorem rt_bl {P : Pm} {H : Hp} {i : Bool} {v : V} (h : RT P H (.bl i) v) : v = .bl i := h
theorem eqD_py {a b : D} {t : Bool} (h : eqD a b = some t) : (∃ i j, a = .int i ∧ b = .int j ∧ t = decide (i = j)) ∨ (∃ i j, a = .str i ∧ b = .str j ∧ t = decide (i = j)) ∨ (∃ i j, a = .bl i ∧ b = .bl j ∧ t = decide (i = j)) ∨
    ∃ x y, toPy a = some x ∧ toPy b = some y ∧ SeqAt.shaped x = true ∧ SeqAt.shaped y = true ∧ t = PyData.eqv x y := by
  unfold eqD at h
  split at h
  · cases h; exact .inl ⟨_, _, rfl, rfl, rfl⟩
  · cases h; exact .inr (.inl ⟨_, _, rfl, rfl, rfl⟩)
  · cases h; exact .inr (.inr (.inl ⟨_, _, rfl, rfl, rfl⟩))
  · split at h
    · rename_i x y ex ey
      split at h
      · rename_i hs
        cases h
        exact .inr (.inr (.inr ⟨x, y, ex, ey, hs.1, hs.2, rfl⟩))
      · cases h
    · cases h
section
variable {X : Cx} {W : Option WX} {P : Pm} {H : Hp}
theorem op_eqX (ok : Okx X) {neg : Bool} : OpR X (compareOp (if neg then .NotEq else .Eq)) (r2 X fun a b => (eqD a b).map fun t => .bl (if neg then !t else t)) := by
  intro pins s σ H x y v u Q I rx ry h
  obtain ⟨F, μ, φ, S, σ', a, b, d, rl, ra, rb, e, k⟩ := h
  obtain ⟨t, e1, e2⟩ := Option.map_eq_some_iff.mp e
  subst e2
  have fin : Q (.bl (if neg then !t else t)) H := k H _ (Nx.refl rl) rfl
  have hu : X.A.units + 64 < cLine := by have := ok.hu; omega
  rcases eqD_py e1 with ⟨i, j, rfl, rfl, rfl⟩ | ⟨i, j, rfl, rfl, rfl⟩ | ⟨i, j, rfl, rfl, rfl⟩ | ⟨i, j, ei, ej, s1, s2, rfl⟩
  · cases ra; cases rb
    have q : decide (V.int i = V.int j) = decide (i = j) := by simp
    cases neg
    · exact op_eq pins s σ H _ _ v u Q I rx ry ⟨rfl, by rw [q]; exact fin⟩
    · exact op_ne pins s σ H _ _ v u Q I rx ry ⟨rfl, by rw [q]; exact fin⟩
  · cases ra; cases rb
    have q : decide (V.str i = V.str j) = decide (i = j) := by simp
    cases neg
    · exact op_eq pins s σ H _ _ v u Q I rx ry ⟨rfl, by rw [q]; exact fin⟩
    · exact op_ne pins s σ H _ _ v u Q I rx ry ⟨rfl, by rw [q]; exact fin⟩
  · cases ra; cases rb
    have q : decide (V.bl i = V.bl j) = decide (i = j) := by simp
    cases neg
    · exact op_eq pins s σ H _ _ v u Q I rx ry ⟨rfl, by rw [q]; exact fin⟩
    · exact op_ne pins s σ H _ _ v u Q I rx ry ⟨rfl, by rw [q]; exact fin⟩
  · have d1 := dp_of ra ei
    have d2 := dp_of rb ej
    cases neg
    · exact op_eqD hu pins s σ H x y v u Q I rx ry ⟨i, j, d1, d2, s1, s2, fin⟩
    · exact op_neD hu pins s σ H x y v u Q I rx ry ⟨i, j, d1, d2, s1, s2, fin⟩
theorem rt_non {d : D} {v : V} (h : RT P H d v) : decide (v = .non) = isNon d := by
  cases d with
  | non => cases h; rfl
  | bl _ => cases h; rfl
  | int _ => cases h; rfl
  | str _ => cases h; rfl
  | tup _ => obtain ⟨a, vs, rfl, _⟩ := h; rfl
  | lst _ => obtain ⟨a, vs, rfl, _⟩ := h; rfl
  | dik _ => obtain ⟨a, vs, rfl, _⟩ := h; rfl
  | dit _ => exact h.elim
  | set _ => exact h.elim
  | scr _ => obtain ⟨a, rfl, _⟩ := h; rfl
  | box _ => obtain ⟨a, rfl, _⟩ := h; rfl
  | oref _ => exact h.elim
  | fn _ => obtain ⟨a, rfl, _⟩ := h; rfl
  | ty _ => cases h; rfl
  | err _ _ => obtain ⟨a, C, o, rfl, _⟩ := h; rfl
theorem intsOf_vals : ∀ {l : List D} {vs : List V} {ns : List Int}, RDs P H l vs → intsOf l = some ns → vs = ns.map V.int
  | [], vs, ns, t, e => by
    rw [RDs.nil t]
    simp [intsOf] at e
    subst e
    rfl
  | d :: r, _, ns, ⟨v, vr, e1, hd, t⟩, e => by
    subst e1
    simp only [intsOf, List.mapM_cons, Option.bind_eq_bind, Option.bind_eq_some_iff, Option.pure_def, Option.some.injEq] at e
    obtain ⟨i, hi, ms, hm, rfl⟩ := e
    cases d <;> simp only [intOf, Option.some.injEq, reduceCtorEq] at hi
    subst hi
    have q := intsOf_vals (ns := ms) t hm
    rw [q, show v = V.int _ from hd]
    rfl
theorem blsOf_vals : ∀ {l : List D} {vs : List V} {ns : List Bool}, RDs P H l vs → l.mapM blOf = some ns → vs = ns.map V.bl
  | [], vs, ns, t, e => by
    rw [RDs.nil t]
    simp at e
    subst e
    rfl
  | d :: r, _, ns, ⟨v, vr, e1, hd, t⟩, e => by
    subst e1
    simp only [List.mapM_cons, Option.bind_eq_bind, Option.bind_eq_some_iff, Option.pure_def, Option.some.injEq] at e
    obtain ⟨i, hi, ms, hm, rfl⟩ := e
    cases d <;> simp only [blOf, Option.some.injEq, reduceCtorEq] at hi
    subst hi
    have q := blsOf_vals (ns := ms) t hm
    rw [q, show v = V.bl _ from hd]
    rfl
theorem kOf_v {d : D} {v : V} {k : Key} (h : RT P H d v) (e : kOf d = some k) : v = kV k := by
  cases d <;> simp only [kOf, Option.some.injEq, reduceCtorEq] at e
  · subst e; exact h
  · subst e; exact h
theorem RDk.val : ∀ {l : List (Key × D)} {kvs : List (Key × V)} (k : Key), RDk P H l kvs → (getK l k = none ∧ valV kvs k = none) ∨ ∃ d v, getK l k = some d ∧ valV kvs k = some v ∧ RD P H d v
  | [], kvs, k, h => by rw [show kvs = [] from h]; exact .inl ⟨rfl, rfl⟩
  | (k', d) :: r, _, k, ⟨v, vr, e, hd, t⟩ => by
    subst e
    by_cases q : k' = k
    · right
      refine ⟨d, v, by simp [getK, q], valV_pos q, hd⟩
    · rcases RDk.val k t with ⟨h1, h2⟩ | ⟨d', v', h1, h2, h3⟩
      · refine .inl ⟨?_, by rw [valV_neg q]; exact h2⟩
        unfold getK at h1 ⊢
        rw [List.find?_cons_of_neg (by simp [q])]
        exact h1
      · refine .inr ⟨d', v', ?_, by rw [valV_neg q]; exact h2, h3⟩
        unfold getK at h1 ⊢
        rw [List.find?_cons_of_neg (by simp [q])]
        exact h1
theorem hasK_get (l : List (Key × D)) (k : Key) : hasK k l = (getK l k).isSome := by
  induction l with
  | nil => rfl
  | cons p r ih =>
    unfold hasK getK at ih ⊢
    by_cases q : p.1 = k
    · simp [q]
    · rw [List.any_cons, List.find?_cons_of_neg (by simp [q]), ← ih]
      simp [q]
/-- flat values -/
theorem rd_flat {d : D} {v : V} (h : RD P H d v) (f : flatD d = true) : flatV v = true := by
  cases d <;> simp only [flatD, reduceCtorEq] at f <;> cases h <;> rfl
theorem rt_flat {d : D} {v : V} (h : RT P H d v) (f : flatD d = true) : RD P H d v := by
  cases d <;> simp only [flatD, reduceCtorEq] at f <;> exact h
theorem eqF_V {a b : D} {v w : V} (ha : RD P H a v) (hb : RD P H b w) (fa : flatD a = true) (fb : flatD b = true) : eqF a b = eqV v w := by
  cases a <;> simp only [flatD, reduceCtorEq] at fa <;> cases ha <;> cases b <;> simp only [flatD, reduceCtorEq] at fb <;> cases hb <;> rfl
theorem any_flat {x : D} {w : V} (hx : RD P H x w) (fx : flatD x = true) : ∀ {l : List D} {vs : List V}, RDs P H l vs → l.all flatD = true → (l.any fun y => eqF y x) = inV w vs ∧ vs.all flatV = true
  | [], _, t, _ => by rw [RDs.nil t]; exact ⟨rfl, rfl⟩
  | d :: r, _, ⟨v, vr, e, hd, t⟩, f => by
    subst e
    rw [List.all_cons, Bool.and_eq_true] at f
    obtain ⟨h1, h2⟩ := any_flat hx fx t f.2
    refine ⟨?_, by rw [List.all_cons, rd_flat hd f.1, h2]; rfl⟩
    rw [List.any_cons, h1, eqF_V hd hx f.1 fx]
    rfl
theorem op_inX (ok : Okx X) {neg : Bool} : OpR X (compareOp (if neg then .NotIn else .In)) (r2 X fun a b => (inD a b).map fun t => .bl (if neg then !t else t)) := by
  intro pins s σ H x y v u Q I rx ry h
  obtain ⟨F, μ, φ, S, σ', a, b, d, rl, ra, rb, e, k⟩ := h
  obtain ⟨t, e1, e2⟩ := Option.map_eq_some_iff.mp e
  subst e2
  have fin : ∀ {s'}, Inv X pins σ H s' → EP X pins σ Q (.bool (if neg then !t else t)) s' := fun I => ⟨.bl (if neg then !t else t), H, I, rfl, k H _ (Nx.refl rl) rfl⟩
  have hu : X.A.units + 1 < cLine := by have := ok.hu; omega
  have seq : ∀ {l : List D} {vs : List V} {p : Addr}, y = .ref p → (SqL X.K H p vs ∨ SqT X.K H p vs) → RDs (pm X F μ φ σ') H l vs → flatD a = true → l.all flatD = true → t = (l.any fun y => eqF y a) →
      wpAny (model X.prog X.w) X.A (compareOp (if neg then .NotIn else .In) v u) (EP X pins σ Q) X.xe s := fun {l vs p} ey hq tt fa fl et => by
    obtain ⟨h1, h2⟩ := any_flat (rt_flat ra fa) fa tt fl
    have q : Q (.bl (if neg then !inV x vs else inV x vs)) H := by
      rw [← h1, ← et]
      exact k H _ (Nx.refl rl) rfl
    cases neg
    · exact op_in_seq pins s σ H x y v u Q I rx ry ⟨p, vs, ey, hq, rd_flat (rt_flat ra fa) fa, h2, q⟩
    · exact op_notIn_seq pins s σ H x y v u Q I rx ry ⟨p, vs, ey, hq, rd_flat (rt_flat ra fa) fa, h2, q⟩
  cases b <;> simp only [inD, reduceCtorEq] at e1
  · split at e1
    · rename_i l f
      obtain ⟨p, vs, ey, h1, tt⟩ := rb
      rw [Bool.and_eq_true] at f
      exact seq ey (.inr h1) tt f.1 f.2 (Option.some.inj e1).symm
    · cases e1
  · split at e1
    · rename_i l f
      obtain ⟨p, vs, ey, h1, tt⟩ := rb
      rw [Bool.and_eq_true] at f
      exact seq ey (.inl (.inl h1)) tt f.1 f.2 (Option.some.inj e1).symm
    · cases e1
  · rename_i l
    obtain ⟨p, kvs, ey, h1, tt⟩ := rb
    obtain ⟨kk, ek, et⟩ := Option.map_eq_some_iff.mp e1
    have ex := kOf_v ra ek
    subst ey
    obtain rfl : u = Value.ref p := ry
    have g : DGet H p x (valV kvs kk) := .inl ⟨kvs, kk, h1, ex, rfl⟩
    have eb : (valV kvs kk).isSome = t := by
      rw [← et, hasK_get]
      rcases RDk.val kk tt with ⟨h1, h2⟩ | ⟨d, v, h1, h2, _⟩ <;> rw [h1, h2] <;> rfl
    cases neg
    · exact d_in hu I g rx fun s' I' => by rw [eb]; exact fin I'
    · exact d_notIn hu I g rx fun s' I' => by rw [eb]; exact fin I'
theorem ltT_ints {l r : List D} {ns ms : List Int} {p q : Addr} {vs ws : List V} (hp : SqT P.K H p vs) (hq : SqT P.K H q ws) (t1 : RDs P H l vs) (t2 : RDs P H r ws) (e1 : intsOf l = some ns) (e2 : intsOf r = some ms) :
    SqT P.K H p (ns.map V.int) ∧ SqT P.K H q (ms.map V.int) := by
  rw [intsOf_vals t1 e1] at hp
  rw [intsOf_vals t2 e2] at hq
  exact ⟨hp, hq⟩
theorem lexAt_gt (ns ms : List Int) : ∀ (k i : Nat), i + k = min ns.length ms.length → Ob.lexAt (fun j => decide (ns.getD j 0 = ms.getD j 0)) (fun j => decide (ms.getD j 0 < ns.getD j 0)) (decide (ns.length > ms.length)) i k = gtI (ns.drop i) (ms.drop i)
  | 0, i, h => by
    rw [Ob.lexAt_zero]
    by_cases q : ns.length ≤ ms.length
    · rw [List.drop_eq_nil_of_le (as := ns) (by omega), decide_eq_false (by omega)]
      cases ms.drop i <;> rfl
    · rw [List.drop_eq_nil_of_le (as := ms) (by omega), decide_eq_true (by omega), List.drop_eq_getElem_cons (show i < ns.length by omega)]
      rfl
  | k + 1, i, h => by
    have h1 : i < ns.length := by omega
    have h2 : i < ms.length := by omega
    rw [Ob.lexAt_succ, lexAt_gt ns ms k (i + 1) (by omega), List.drop_eq_getElem_cons h1, List.drop_eq_getElem_cons h2, gtI]
    simp only [List.getD_eq_getElem?_getD, List.getElem?_eq_getElem h1, List.getElem?_eq_getElem h2, Option.getD_some, decide_eq_true_eq]
def rGtT (K : PySem.W.Frag) : R2 := fun x y H Q => ∃ (a b : Addr) (ns ms : List Int), x = .ref a ∧ y = .ref b ∧ SqT K H a (ns.map V.int) ∧ SqT K H b (ms.map V.int) ∧ Q (.bl (gtI ns ms)) H
theorem op_gtT {X : Cx} (hu : X.A.units < cLine) : OpR X (compareOp .Gt) (rGtT X.K) := by
  intro pins s σ H x y v u Q I rx ry h
  obtain ⟨a, b, ns, ms, rfl, rfl, ha, hb, q⟩ := h
  cases rx
  cases ry
  obtain ⟨its, r1, p1, _⟩ := I.tuple ha
  obtain ⟨its2, r2, p2, _⟩ := I.tuple hb
  have i1 : IntsAre its ns := Vals.ints r1
  have i2 : IntsAre its2 ms := Vals.ints r2
  have e1 : its.toArray.size = ns.length := by rw [List.size_toArray]; exact i1.length
  have e2 : its2.toArray.size = ms.length := by rw [List.size_toArray]; exact i2.length
  have at1 : ∀ j (h1 : j < its.toArray.size), ∃ t, its.toArray[j] = .int (ns.getD j 0) t := fun j h1 => PyProof.Rows.IntsAre.int_at i1 _ _ (by simp at h1; simp [h1])
  have at2 : ∀ j (h1 : j < its2.toArray.size), ∃ t, its2.toArray[j] = .int (ms.getD j 0) t := fun j h1 => PyProof.Rows.IntsAre.int_at i2 _ _ (by simp at h1; simp [h1])
  have R := Ob.RcOp.tuples_gt (A := X.A) (s := s) (e := fun j => decide (ns.getD j 0 = ms.getD j 0)) (r := fun j => decide (ms.getD j 0 < ns.getD j 0)) p1 p2 hu (fun j h1 h2 => by
    obtain ⟨t, et⟩ := at1 j h1
    obtain ⟨t', et'⟩ := at2 j h2
    rw [et, et']
    have z : (ns.getD j 0 == ms.getD j 0) = decide (ns.getD j 0 = ms.getD j 0) := by
      by_cases q : ns.getD j 0 = ms.getD j 0
      · rw [decide_eq_true q]; exact beq_iff_eq.mpr q
      · rw [decide_eq_false q]; exact beq_eq_false_iff_ne.mpr q
    rw [← z]
    exact SeqAt.EqAt.int_int _ _ _ _) (fun j h1 h2 _ => by
    obtain ⟨t, et⟩ := at1 j h1
    obtain ⟨t', et'⟩ := at2 j h2
    rw [et, et']
    exact Ob.RcOp.gt_int _ _ _ _)
  rw [e1, e2, lexAt_gt ns ms _ 0 (by omega)] at R
  have z : wpAny (model X.prog X.w) X.A (compareOp .Gt (.ref a) (.ref b)) (EP X pins σ Q) X.xe s := R X.prog X.w X.xe (EP X pins σ Q) ⟨.bl _, H, I, rfl, q⟩
  exact z
theorem op_cmp (ok : Okx X) (o : COp) : OpR X (compareOp (pyCmp o)) (r2 X fun a b => (cmpD o a b).map .bl) := by
  cases o
  case eq => exact (op_eqX ok (neg := false)).imp fun x y H Q ⟨F, μ, φ, S, σ', a, b, d, rl, ra, rb, e, k⟩ => ⟨F, μ, φ, S, σ', a, b, d, rl, ra, rb, by rw [← e]; rfl, k⟩
  case ne => exact (op_eqX ok (neg := true)).imp fun x y H Q ⟨F, μ, φ, S, σ', a, b, d, rl, ra, rb, e, k⟩ => ⟨F, μ, φ, S, σ', a, b, d, rl, ra, rb, by
    rw [← e]; show _ = ((eqD a b).map (!·)).map D.bl; rw [Option.map_map]; rfl, k⟩
  case isin => exact (op_inX ok (neg := false)).imp fun x y H Q ⟨F, μ, φ, S, σ', a, b, d, rl, ra, rb, e, k⟩ => ⟨F, μ, φ, S, σ', a, b, d, rl, ra, rb, by rw [← e]; rfl, k⟩
  case notin => exact (op_inX ok (neg := true)).imp fun x y H Q ⟨F, μ, φ, S, σ', a, b, d, rl, ra, rb, e, k⟩ => ⟨F, μ, φ, S, σ', a, b, d, rl, ra, rb, by
    rw [← e]; show _ = ((inD a b).map (!·)).map D.bl; rw [Option.map_map]; rfl, k⟩
  case is_ =>
    refine op_isN.imp fun x y H Q ⟨F, μ, φ, S, σ', a, b, d, rl, ra, rb, e, k⟩ => ?_
    obtain ⟨t, e1, e2⟩ := Option.map_eq_some_iff.mp e
    subst e2
    simp only [cmpD] at e1
    split at e1
    · rename_i hb
      cases e1
      exact ⟨of_decide_eq_true ((rt_non rb).trans hb), by rw [rt_non ra]; exact k H _ (Nx.refl rl) rfl⟩
    · cases e1
  case isnt =>
    refine op_notN.imp fun x y H Q ⟨F, μ, φ, S, σ', a, b, d, rl, ra, rb, e, k⟩ => ?_
    obtain ⟨t, e1, e2⟩ := Option.map_eq_some_iff.mp e
    subst e2
    simp only [cmpD] at e1
    split at e1
    · rename_i hb
      cases e1
      exact ⟨of_decide_eq_true ((rt_non rb).trans hb), by rw [rt_non ra]; exact k H _ (Nx.refl rl) rfl⟩
    · cases e1
  case lt =>
    intro pins s σ H x y v u Q I rx ry ⟨F, μ, φ, S, σ', a, b, d, rl, ra, rb, e, k⟩
    obtain ⟨t, e1, e2⟩ := Option.map_eq_some_iff.mp e
    subst e2
    simp only [cmpD] at e1
    split at e1
    · cases e1; cases ra; cases rb
      exact op_lt pins s σ H _ _ v u Q I rx ry ⟨_, _, rfl, rfl, k H _ (Nx.refl rl) rfl⟩
    · split at e1
      · rename_i xs ys h1 h2
        cases e1
        obtain ⟨p, vs, rfl, hp, t1⟩ := ra
        obtain ⟨q, ws, rfl, hq, t2⟩ := rb
        obtain ⟨z1, z2⟩ := ltT_ints hp hq t1 t2 h1 h2
        exact op_ltT (by have := ok.hu; omega) pins s σ H _ _ v u Q I rx ry ⟨p, q, _, _, rfl, rfl, z1, z2, k H _ (Nx.refl rl) rfl⟩
      · cases e1
    · cases e1
  case le =>
    intro pins s σ H x y v u Q I rx ry ⟨F, μ, φ, S, σ', a, b, d, rl, ra, rb, e, k⟩
    obtain ⟨t, e1, e2⟩ := Option.map_eq_some_iff.mp e
    subst e2
    simp only [cmpD] at e1
    split at e1
    · cases e1; cases ra; cases rb
      exact op_le pins s σ H _ _ v u Q I rx ry ⟨_, _, rfl, rfl, k H _ (Nx.refl rl) rfl⟩
    · cases e1
  case gt =>
    intro pins s σ H x y v u Q I rx ry ⟨F, μ, φ, S, σ', a, b, d, rl, ra, rb, e, k⟩
    obtain ⟨t, e1, e2⟩ := Option.map_eq_some_iff.mp e
    subst e2
    simp only [cmpD] at e1
    split at e1
    · cases e1; cases ra; cases rb
      exact op_gt pins s σ H _ _ v u Q I rx ry ⟨_, _, rfl, rfl, k H _ (Nx.refl rl) rfl⟩
    · split at e1
      · rename_i xs ys h1 h2
        cases e1
        obtain ⟨p, vs, rfl, hp, t1⟩ := ra
        obtain ⟨q, ws, rfl, hq, t2⟩ := rb
        obtain ⟨z1, z2⟩ := ltT_ints hp hq t1 t2 h1 h2
        exact op_gtT (by have := ok.hu; omega) pins s σ H _ _ v u Q I rx ry ⟨p, q, _, _, rfl, rfl, z1, z2, k H _ (Nx.refl rl) rfl⟩
      · cases e1
    · cases e1
  case ge =>
    intro pins s σ H x y v u Q I rx ry ⟨F, μ, φ, S, σ', a, b, d, rl, ra, rb, e, k⟩
    obtain ⟨t, e1, e2⟩ := Option.map_eq_some_iff.mp e
    subst e2
    simp only [cmpD] at e1
    split at e1
    · cases e1; cases ra; cases rb
      exact op_ge pins s σ H _ _ v u Q I rx ry ⟨_, _, rfl, rfl, k H _ (Nx.refl rl) rfl⟩
    · cases e1

/-! ### truth -/
theorem tru_len {n : Nat} : decide ((n : Int) ≠ 0) = ((n : Int) != 0) := by
  by_cases h : (n : Int) = 0
  · rw [h]; rfl
  · rw [decide_eq_true h]; exact (bne_iff_ne.mpr h).symm
theorem truX : TruR X (fun x H Q => ∃ F μ φ S σ a t, Rl X F μ φ S σ H ∧ RT (pm X F μ φ σ) H a x ∧ truD a = some t ∧ Q t H) := by
  intro pins s σ H x v Q I rx ⟨F, μ, φ, S, σ', a, t, rl, ra, e, q⟩
  have go : ∀ k, TruV X.K x H k → k = t → wpAny (model X.prog X.w) X.A (truthy v) (TP X pins σ Q) X.xe s := fun k h1 h2 => tru_ok pins s σ H x v Q I rx ⟨k, h1, by rw [h2]; exact q⟩
  cases a <;> simp only [truD, Option.some.injEq, reduceCtorEq] at e
  · cases ra; exact go _ rfl e
  · cases ra; exact go _ rfl e
  · cases ra
    refine go _ rfl (by
      rw [← e]
      rename_i i
      by_cases h : i = 0
      · subst h; rfl
      · rw [decide_eq_true h]; exact bne_iff_ne.mpr h)
  · split at e
    · cases e; cases ra
      rename_i z hz
      exact go _ ⟨hz, rfl⟩ (by
        rw [← tru_len]
        by_cases h : z.length = 0
        · simp [h]
        · simp [h])
    · cases e
  · obtain ⟨p, vs, rfl, h1, tt⟩ := ra
    exact go _ (.inr (.inl ⟨vs, h1, rfl⟩)) (by
      rw [← e]
      have := tt.length
      rename_i l
      cases l <;> cases vs <;> first | rfl | simp at this)
  · obtain ⟨p, vs, rfl, h1, tt⟩ := ra
    exact go _ (.inl ⟨vs, .inl h1, rfl⟩) (by
      rw [← e]
      have := tt.length
      rename_i l
      cases l <;> cases vs <;> first | rfl | simp at this)
  · obtain ⟨p, kvs, rfl, h1, tt⟩ := ra
    cases rx
    have eq : (!kvs.isEmpty) = t := by
      rw [← e]
      have := tt.length
      rename_i l
      cases l <;> cases kvs <;> first | rfl | simp at this
    obtain ⟨hz, hS, vs, r, m⟩ := dk_rd I.hok h1
    have hlen : kvs.length = vs.length := Paired.length r
    have hl := line63
    exact wpAny_truthy_dict hS m (by omega) ⟨H, I.tok _, by rw [isEmpty_kv r, eq]; exact q⟩

/-! ### places -/
theorem atI_rel {l : List D} {vs : List V} {i : Int} {d : D} (t : RDs P H l vs) (h : atI l i = some d) : ∃ v, atI vs i = some v ∧ RD P H d v := by
  unfold atI at h ⊢
  rw [← t.length]
  obtain ⟨j, h1, h2⟩ := Option.bind_eq_some_iff.mp h
  obtain ⟨v, h3, h4⟩ := t.get h2
  exact ⟨v, by rw [h1]; exact h3, h4⟩
theorem ixX (ok : Okx X) : IxR X (r2 X ixD) := by
  intro value slice pins s σ H x y v u Q I rx ry ⟨F, μ, φ, S, σ', a, b, d, rl, ra, rb, e, k⟩ hs
  unfold ixD at e
  split at e
  · obtain ⟨p, vs, rfl, h1, tt⟩ := ra
    cases rb
    obtain ⟨w, h2, h3⟩ := atI_rel tt e
    exact ix_list value slice pins s σ H _ _ v u Q I rx ry ⟨p, vs, _, w, rfl, rfl, .inl h1, h2, k H _ (Nx.refl rl) h3⟩ hs
  · obtain ⟨p, vs, rfl, h1, tt⟩ := ra
    cases rb
    obtain ⟨w, h2, h3⟩ := atI_rel tt e
    exact ix_tup value slice pins s σ H _ _ v u Q I rx ry ⟨p, vs, _, w, rfl, rfl, h1, h2, k H _ (Nx.refl rl) h3⟩ hs
  · split at e
    · rename_i hz
      cases ra; cases rb
      obtain ⟨c, h1, rfl⟩ := Option.map_eq_some_iff.mp e
      exact ix_str value slice pins s σ H _ _ v u Q I rx ry ⟨_, _, c, rfl, rfl, hz, h1, k H _ (Nx.refl rl) rfl⟩ hs
    · cases e
  · obtain ⟨p, kvs, rfl, h1, tt⟩ := ra
    obtain ⟨kk, ek, e2⟩ := Option.bind_eq_some_iff.mp e
    have ex := kOf_v rb ek
    obtain rfl : v = Value.ref p := rx
    rcases RDk.val kk tt with ⟨h3, _⟩ | ⟨d', w, h3, h4, h5⟩
    · rw [h3] at e2; cases e2
    · rw [h3] at e2
      cases e2
      have g : DGet H p y (some w) := .inl ⟨kvs, kk, h1, ex, h4.symm⟩
      exact tail_any (dict_typeIs I g) PySem.F.slot_dict_getitem.lookup (d_getItem (by have := ok.hu; omega) I g ry fun w' s' I' rw' => ⟨w, H, I', rw', k H _ (Nx.refl rl) h5⟩) hs
  · cases e

/-! ### slices -/
def rSl (X : Cx) : V → Option Int → Option Int → Hp → VK → Prop := fun x lo hi H Q => ∃ F μ φ S σ a d, Rl X F μ φ S σ H ∧ RT (pm X F μ φ σ) H a x ∧ slD a lo hi = some d ∧ ∀ H' v, Nx X F μ φ σ H μ φ S H' → RD (pm X F μ φ σ) H' d v → Q v H'
theorem cut_rel {l : List D} {vs : List V} (t : RDs P H l vs) (lo hi : Option Int) : RDs P H (cut l lo hi) (cutV vs lo hi) := by
  unfold cut cutV
  rw [t.length]
  exact (t.drop _).take _
theorem slX : SlR X (rSl X) := by
  intro pins s σ H x v vl vu lo hi sl Q I rx hs pl pu ⟨F, μ, φ, S, σ', a, d, rl, ra, e, k⟩
  cases a <;> simp only [slD, Option.some.injEq, reduceCtorEq] at e
  · subst e
    obtain ⟨p, vs, rfl, h1, tt⟩ := ra
    refine sl_tupA pins s σ H _ v vl vu lo hi sl Q I rx hs pl pu ⟨p, vs, rfl, h1, fun hw => ?_, fun _ q hq => ?_⟩
    · rename_i l
      have e2 : cut l lo hi = l := by
        unfold cut
        rw [tt.length, hw.1, hw.2, List.drop_zero, Nat.sub_zero, ← tt.length, List.take_length]
      rw [e2] at k
      exact k H _ (Nx.refl rl) ⟨p, vs, rfl, h1, tt⟩
    · have nx := Nx.new (o := .tup (cutV vs lo hi)) rl hq
      exact k _ _ nx (rd_tup upd_same ((cut_rel tt lo hi).mono nx.ext))
  · subst e
    obtain ⟨p, vs, rfl, h1, tt⟩ := ra
    refine sl_list pins s σ H _ v vl vu lo hi sl Q I rx hs pl pu ⟨p, vs, rfl, .inl h1, fun q hq => ?_⟩
    have nx := Nx.new (o := .lst (cutV vs lo hi)) rl hq
    exact k _ _ nx (rd_lst rl hq upd_same ((cut_rel tt lo hi).mono nx.ext))
  · subst e
    obtain ⟨p, rfl, h1⟩ := ra
    rename_i xs
    have tt : RDs (pm X F μ φ σ') H (xs.map .int) (xs.map .int) := by
      clear h1 k
      induction xs with
      | nil => rfl
      | cons x r ih => exact ⟨_, _, rfl, rfl, ih⟩
    have h2 : SqL X.K H p (xs.map .int) := by
      rcases h1 with ⟨_, h1⟩ | (h1 | ⟨ob, h1⟩) | h1
      · exact .inl h1
      · cases h1
      · cases h1
      · exact .inr h1
    refine sl_list pins s σ H _ v vl vu lo hi sl Q I rx hs pl pu ⟨p, _, rfl, h2, fun q hq => ?_⟩
    have nx := Nx.new (o := .lst (cutV (xs.map .int) lo hi)) rl hq
    exact k _ _ nx (rd_lst rl hq upd_same ((cut_rel tt lo hi).mono nx.ext))
end
end Gx
set_option Elab.async false
set_option linter.all false
set_option maxRecDepth 100000
/-! Gx5: expressions. -/
namespace Gx
open PySem PySem.Spec PyProof.Rows L2

section
variable {X : Cx} {W : Option WX} {F : Addr → Prop} {μ μ' : List Addr} {φ φ' : Fr} {S S' : Sto} {σ : L2.St} {H H' : Hp} {Q : VK} {a b c e : Expr} {pos : Pos} {fa fb fc : Fr → Sto → R D}
theorem PE.to {e : Expr} {t : TE} {f : Fr → Sto → R D} (h : PE X e t) (k : ∀ F μ φ S σ H Q, Rl X F μ φ S σ H → PoE X W F μ φ σ H (f φ S) Q → t σ H Q) : GE X W e f := h.imp fun σ H Q ⟨F, μ, φ, S, rl, po⟩ => k F μ φ S σ H Q rl po
theorem PT.to {e : Expr} {t : TT} {f : Fr → Sto → R Bool} (h : PT X e t) (k : ∀ F μ φ S σ H Q, Rl X F μ φ S σ H → PoT X W F μ φ σ H (f φ S) Q → t σ H Q) : GT X W e f := h.imp fun σ H Q ⟨F, μ, φ, S, rl, po⟩ => k F μ φ S σ H Q rl po
theorem PA.to {e : List Expr} {t : TA} {f : Fr → Sto → R (List D)} (h : PA X e t) (k : ∀ F μ φ S σ H Q, Rl X F μ φ S σ H → PoA X W F μ φ σ H (f φ S) Q → t σ H Q) : GA X W e f := h.imp fun σ H Q ⟨F, μ, φ, S, rl, po⟩ => k F μ φ S σ H Q rl po
theorem PoE.val {d : D} (po : PoE X W F μ φ σ H (.ok d φ S) Q) (rl : Rl X F μ φ S σ H) {v : V} (h : RX X F μ φ σ H d v) : Q v H := po μ H v (Nx.refl rl) h

/-! ### comparisons -/
theorem cmp_eq (o : COp) (x y : D) (φ : Fr) (S : Sto) : ((ofO (cmpD o x y) φ S).bind fun t φ S => (R.ok (D.bl t) φ S : R D)) = ofO ((cmpD o x y).map .bl) φ S := by
  cases cmpD o x y <;> rfl
theorem ge_cmp (ok : Okx X) {o : COp} (ha : GE X W a fa) (hb : GE X W b fb) (hm : behindInMarks (pyCmp o) b = false) :
    GE X W (.Compare a [pyCmp o] [b] pos) (fun φ S => (fa φ S).bind fun x φ S => (fb φ S).bind fun y φ S => (ofO (cmpD o (look φ S x) (look φ S y)) φ S).bind fun t φ S => .ok (.bl t) φ S) := by
  simp only [cmp_eq]
  exact ge_two (f := fun x y => (cmpD o x y).map .bl) (pe_cmpR (op_cmp ok o) ha hb hm)
theorem gt_cmp (ok : Okx X) {o : COp} (ha : GE X W a fa) (hb : GE X W b fb) (hm : behindInMarks (pyCmp o) b = false) :
    GT X W (.Compare a [pyCmp o] [b] pos) (fun φ S => (fa φ S).bind fun x φ S => (fb φ S).bind fun y φ S => ofO (cmpD o (look φ S x) (look φ S y)) φ S) := by
  refine PT.to (pt_cmpR (op_cmp ok o) ha hb hm) fun F μ φ S σ H Q rl po => ?_
  refine ⟨F, μ, φ, S, rl, PoT.fst po fun x φ1 S1 μ1 H1 v n1 r1 po1 => ?_⟩
  refine ⟨F, μ1, φ1, S1, n1.rl, PoT.fst po1 fun y φ2 S2 μ2 H2 u n2 r2 po2 => ?_⟩
  obtain ⟨t, e, po2⟩ := PoT.opt1 po2
  exact ⟨F, μ2, φ2, S2, σ, _, _, .bl t, n2.rl, n2.rl.look (n2.rx r1), n2.rl.look r2, by show Option.map D.bl _ = _; rw [e]; rfl, fun H' v nx r => ⟨t, r, po2 μ2 H' nx⟩⟩
/-- a op b op c: the steps -/
def fChain (o p : COp) (fa fb fc : Fr → Sto → R D) : Fr → Sto → R Bool := fun φ S => (fa φ S).bind fun x φ S => (fb φ S).bind fun y φ S => (ofO (cmpD o (look φ S x) (look φ S y)) φ S).bind fun t φ S =>
  if t then (fc φ S).bind fun z φ S => ofO (cmpD p (look φ S y) (look φ S z)) φ S else .ok false φ S
theorem chain_t {o p : COp} {σ : L2.St} {H : Hp} {Q : Bool → Hp → Prop} (h : tT X W (fChain o p fa fb fc) σ H Q) :
    tTest (tChain (r2 X fun a b => (cmpD o a b).map .bl) (r2 X fun a b => (cmpD p a b).map .bl) (tE X W fa) (tE X W fb) (tE X W fc)) σ H Q := by
  obtain ⟨F, μ, φ, S, rl, po⟩ := h
  refine ⟨F, μ, φ, S, rl, PoT.fst po fun x φ1 S1 μ1 H1 v n1 r1 po1 => ?_⟩
  refine ⟨F, μ1, φ1, S1, n1.rl, PoT.fst po1 fun y φ2 S2 μ2 H2 u n2 r2 po2 => ?_⟩
  obtain ⟨t, e, po2⟩ := PoT.opt po2
  refine ⟨F, μ2, φ2, S2, σ, _, _, .bl t, n2.rl, n2.rl.look (n2.rx r1), n2.rl.look r2, by show Option.map D.bl _ = _; rw [e]; rfl, fun H' v nx r => ⟨t, r, ?_⟩⟩
  have po3 := PoT.re po2 nx
  cases t with
  | false => exact ⟨false, rfl, po3 μ2 H' (Nx.refl nx.rl)⟩
  | true =>
    refine ⟨F, μ2, φ2, S2, nx.rl, PoT.fst po3 fun z φ3 S3 μ3 H3 w n3 r3 po4 => ?_⟩
    obtain ⟨t', e', po4⟩ := PoT.opt1 po4
    exact ⟨F, μ3, φ3, S3, σ, _, _, .bl t', n3.rl, n3.rl.look (n3.rx (nx.rx r2)), n3.rl.look r3, by show Option.map D.bl _ = _; rw [e']; rfl, fun H' v nx r => ⟨t', r, po4 μ3 H' nx⟩⟩
theorem gt_chain (ok : Okx X) {o p : COp} (ha : GE X W a fa) (hb : GE X W b fb) (hc : GE X W c fc) (hm : lastMarks [pyCmp o, pyCmp p] [b, c] = false) :
    GT X W (.Compare a [pyCmp o, pyCmp p] [b, c] pos) (fChain o p fa fb fc) := (pt_chain (op_cmp ok o) (op_cmp ok p) ha hb hc hm).imp fun σ H Q h => chain_t h
theorem R.bind_assoc {α β γ : Type} (r : R α) (k : α → Fr → Sto → R β) (l : β → Fr → Sto → R γ) : (r.bind k).bind l = r.bind fun x φ S => (k x φ S).bind l := by cases r <;> rfl
theorem PoE.ofT {r : R Bool} (po : PoE X W F μ φ σ H (r.bind fun t φ S => .ok (.bl t) φ S) Q) : PoT X W F μ φ σ H r (fun t H' => Q (.bl t) H') := by
  cases r with
  | ok d φ1 S1 => exact fun μ1 H1 nx => po μ1 H1 (.bl d) nx (RD.rx (d := .bl d) rfl)
  | exc x φ1 S1 => exact po
  | no => exact po
theorem ge_chain (ok : Okx X) {o p : COp} (ha : GE X W a fa) (hb : GE X W b fb) (hc : GE X W c fc) (hm : lastMarks [pyCmp o, pyCmp p] [b, c] = false) :
    GE X W (.Compare a [pyCmp o, pyCmp p] [b, c] pos) (fun φ S => (fChain o p fa fb fc φ S).bind fun t φ S => .ok (.bl t) φ S) := by
  refine PE.to (pe_chain (op_cmp ok o) (op_cmp ok p) ha hb hc hm) fun F μ φ S σ H Q rl po => ?_
  have q := chain_t (X := X) (W := W) (fa := fa) (fb := fb) (fc := fc) (o := o) (p := p) ⟨F, μ, φ, S, rl, PoE.ofT po⟩
  -- the same reading, the end a value
  obtain ⟨F, μ, φ, S, rl, po⟩ : tT X W (fChain o p fa fb fc) σ H (fun t H' => Q (.bl t) H') := ⟨F, μ, φ, S, rl, PoE.ofT po⟩
  refine ⟨F, μ, φ, S, rl, PoT.fst po fun x φ1 S1 μ1 H1 v n1 r1 po1 => ?_⟩
  refine ⟨F, μ1, φ1, S1, n1.rl, PoT.fst po1 fun y φ2 S2 μ2 H2 u n2 r2 po2 => ?_⟩
  obtain ⟨t, e, po2⟩ := PoT.opt po2
  refine ⟨F, μ2, φ2, S2, σ, _, _, .bl t, n2.rl, n2.rl.look (n2.rx r1), n2.rl.look r2, by show Option.map D.bl _ = _; rw [e]; rfl, fun H' v nx r => ⟨t, r, ?_⟩⟩
  have po3 := PoT.re po2 nx
  cases t with
  | false => exact po3 μ2 H' (Nx.refl nx.rl)
  | true =>
    refine ⟨F, μ2, φ2, S2, nx.rl, PoT.fst po3 fun z φ3 S3 μ3 H3 w n3 r3 po4 => ?_⟩
    obtain ⟨t', e', po4⟩ := PoT.opt1 po4
    exact ⟨F, μ3, φ3, S3, σ, _, _, .bl t', n3.rl, n3.rl.look (n3.rx (nx.rx r2)), n3.rl.look r3, by show Option.map D.bl _ = _; rw [e']; rfl, fun H' v nx r => by
      rw [show v = .bl t' from r]
      exact po4 μ3 H' nx⟩

/-! ### truth -/
/-- the test of an expression -/
abbrev tst (f : Fr → Sto → R D) : Fr → Sto → R Bool := fun φ S => (f φ S).bind fun x φ S => ofO (truD (look φ S x)) φ S
theorem gt_plain (ha : GE X W a fa) (he : ∀ whole, isTrue a X.env whole = (do let v ← whole; standAt a.pos; holding [v] (truthy v))) : GT X W a (tst fa) := by
  have h : PT X a (fun σ H Q => tE X W fa σ H fun x H' => ∃ F μ φ S σ a t, Rl X F μ φ S σ H' ∧ RT (pm X F μ φ σ) H' a x ∧ truD a = some t ∧ Q t H') := by
    refine ⟨fun pins s σ H Q I h => ?_⟩
    exact isTrue_plain (thn (ha.run pins s σ H _ I h) fun v s1 ⟨x, H1, I1, r1, q1⟩ => truX pins s1 σ H1 x v Q I1 r1 q1) (he _)
  refine PT.to h fun F μ φ S σ H Q rl po => ?_
  refine ⟨F, μ, φ, S, rl, PoT.fst po fun x φ1 S1 μ1 H1 v n1 r1 po1 => ?_⟩
  obtain ⟨t, e, po1⟩ := PoT.opt1 po1
  exact ⟨F, μ1, φ1, S1, σ, _, t, n1.rl, n1.rl.look r1, e, po1 μ1 H1 (Nx.refl n1.rl)⟩
theorem gt_not {ta : Fr → Sto → R Bool} (ha : GT X W a ta) : GT X W (.UnaryOp .Not a pos) (fun φ S => (ta φ S).bind fun t φ S => .ok (!t) φ S) := by
  refine PT.to (pt_not ha) fun F μ φ S σ H Q rl po => ?_
  exact ⟨F, μ, φ, S, rl, PoT.fstT po fun t φ1 S1 μ1 H1 n1 po1 => po1 μ1 H1 (Nx.refl n1.rl)⟩
theorem ge_not (ha : GE X W a fa) : GE X W (.UnaryOp .Not a pos) (fun φ S => (fa φ S).bind fun x φ S => (ofO (truD (look φ S x)) φ S).bind fun t φ S => .ok (.bl (!t)) φ S) := by
  have h : PE X (.UnaryOp .Not a pos) (fun σ H Q => tE X W fa σ H fun x H' => ∃ F μ φ S σ a t, Rl X F μ φ S σ H' ∧ RT (pm X F μ φ σ) H' a x ∧ truD a = some t ∧ Q (.bl (!t)) H') := by
    refine ⟨fun pins s σ H Q I h => ?_⟩
    refine UnaryOp_ (thn (ha.run pins s σ H _ I h) fun v s1 ⟨x, H1, I1, r1, q1⟩ => ?_)
    refine not_of (thn (truX pins s1 σ H1 x v (fun t H2 => Q (.bl (!t)) H2) I1 r1 ?_) fun c s2 ⟨H2, I2, q2⟩ => ⟨.bl (!c), H2, I2, rfl, q2⟩)
    exact q1
  refine PE.to h fun F μ φ S σ H Q rl po => ?_
  refine ⟨F, μ, φ, S, rl, PoE.fst po fun x φ1 S1 μ1 H1 v n1 r1 po1 => ?_⟩
  obtain ⟨t, e, po1⟩ := PoE.opt po1
  exact ⟨F, μ1, φ1, S1, σ, _, t, n1.rl, n1.rl.look r1, e, PoE.val po1 n1.rl (RD.rx (d := .bl (!t)) rfl)⟩
theorem gt_ite {ta : Fr → Sto → R Bool} {tb tc : Fr → Sto → R D} (hc : GT X W c ta) (ha : GE X W a tb) (hb : GE X W b tc) :
    GE X W (.IfExp c a b pos) (fun φ S => (ta φ S).bind fun t φ S => if t then tb φ S else tc φ S) := by
  refine PE.to (pe_ifExp hc ha hb) fun F μ φ S σ H Q rl po => ?_
  refine ⟨F, μ, φ, S, rl, PoE.fstT po fun t φ1 S1 μ1 H1 n1 po1 => ?_⟩
  cases t with
  | true => exact ⟨F, μ1, φ1, S1, n1.rl, po1⟩
  | false => exact ⟨F, μ1, φ1, S1, n1.rl, po1⟩

/-! ### and, or -/
section
variable {rest : List Expr}
theorem ge_one {op : BoolOp} (ha : GE X W a fa) : GE X W (.BoolOp op [a] pos) fa := pe_one ha
/-- the truth of a value, handed on -/
theorem ge_boolop {op : BoolOp} {a b : Expr} {rest : List Expr} (ha : GE X W a fa) (hb : GE X W (.BoolOp op (b :: rest) pos) fb) :
    GE X W (.BoolOp op (a :: b :: rest) pos) (fun φ S => (fa φ S).bind fun x φ S => (ofO (truD (look φ S x)) φ S).bind fun t φ S => if t = (op == .And) then fb φ S else .ok x φ S) := by
  have h : PE X (.BoolOp op (a :: b :: rest) pos) (fun σ H Q => tE X W fa σ H fun x H' => ∃ F μ φ S σ' a t, Rl X F μ φ S σ' H' ∧ RT (pm X F μ φ σ') H' a x ∧ truD a = some t ∧ (if t = (op == .And) then tE X W fb σ H' Q else Q x H')) := by
    refine ⟨fun pins s σ H Q I h => ?_⟩
    have k : ∀ (v : Value) (s1 : Shared), EP X pins σ (fun x H' => ∃ F μ φ S σ' a t, Rl X F μ φ S σ' H' ∧ RT (pm X F μ φ σ') H' a x ∧ truD a = some t ∧ (if t = (op == .And) then tE X W fb σ H' Q else Q x H')) v s1 →
        wpAny (model X.prog X.w) X.A (truthy v) (fun t s2 => if t = (op == .And) then wpAny (model X.prog X.w) X.A (eval (.BoolOp op (b :: rest) pos) X.env) (EP X pins σ Q) X.xe s2 else EP X pins σ Q v s2) X.xe s1 := fun v s1 ⟨x, H1, I1, r1, q1⟩ => by
      obtain ⟨F, μ, φ, S, σ', d, t, rl, rt, et, q⟩ := q1
      refine thn (truX pins s1 σ H1 x v (fun t' H2 => t' = t ∧ H2 = H1) I1 r1 ⟨F, μ, φ, S, σ', d, t, rl, rt, et, rfl, rfl⟩) fun c s2 ⟨H2, I2, e1, e2⟩ => ?_
      rw [e1]
      rw [e2] at I2
      split at q
      · rename_i z; rw [if_pos z]; exact hb.run pins s2 σ H1 Q I2 q
      · rename_i z; rw [if_neg z]; exact ⟨x, H1, I2, r1, q⟩
    cases op with
    | And =>
      refine BoolOp_and (thn (ha.run pins s σ H _ I h) fun v s1 h1 => thn (k v s1 h1) fun c s2 hc => ?_)
      cases c with
      | true => exact hc
      | false => exact hc
    | Or =>
      refine BoolOp_or (thn (ha.run pins s σ H _ I h) fun v s1 h1 => thn (k v s1 h1) fun c s2 hc => ?_)
      cases c with
      | true => exact hc
      | false => exact hc
  refine PE.to h fun F μ φ S σ H Q rl po => ?_
  refine ⟨F, μ, φ, S, rl, PoE.fst po fun x φ1 S1 μ1 H1 v n1 r1 po1 => ?_⟩
  obtain ⟨t, e, po1⟩ := PoE.opt po1
  refine ⟨F, μ1, φ1, S1, σ, _, t, n1.rl, n1.rl.look r1, e, ?_⟩
  split at po1
  · rename_i z; rw [if_pos z]; exact ⟨F, μ1, φ1, S1, n1.rl, po1⟩
  · rename_i z; rw [if_neg z]; exact PoE.val po1 n1.rl r1
abbrev GW (X : Cx) (W : Option WX) (e : Expr) (f : Fr → Sto → R Bool) : Prop := PW X e (tT X W f)
theorem gw_and1 {ta : Fr → Sto → R Bool} (ha : GT X W a ta) : GW X W (.BoolOp .And [a] pos) ta := pw_and1 ha
theorem gw_or1 {ta : Fr → Sto → R Bool} (ha : GT X W a ta) : GW X W (.BoolOp .Or [a] pos) ta := pw_or1 ha
theorem gw_and {ta tb : Fr → Sto → R Bool} {b : Expr} (ha : GT X W a ta) (hb : GW X W (.BoolOp .And (b :: rest) pos) tb) : GW X W (.BoolOp .And (a :: b :: rest) pos) (fun φ S => (ta φ S).bind fun t φ S => if t then tb φ S else .ok false φ S) := by
  refine (pw_and ha hb).imp fun σ H Q ⟨F, μ, φ, S, rl, po⟩ => ?_
  refine ⟨F, μ, φ, S, rl, PoT.fstT po fun t φ1 S1 μ1 H1 n1 po1 => ?_⟩
  cases t with
  | true => exact ⟨F, μ1, φ1, S1, n1.rl, po1⟩
  | false => exact po1 μ1 H1 (Nx.refl n1.rl)
theorem gw_or {ta tb : Fr → Sto → R Bool} {b : Expr} (ha : GT X W a ta) (hb : GW X W (.BoolOp .Or (b :: rest) pos) tb) : GW X W (.BoolOp .Or (a :: b :: rest) pos) (fun φ S => (ta φ S).bind fun t φ S => if t then .ok true φ S else tb φ S) := by
  refine (pw_or ha hb).imp fun σ H Q ⟨F, μ, φ, S, rl, po⟩ => ?_
  refine ⟨F, μ, φ, S, rl, PoT.fstT po fun t φ1 S1 μ1 H1 n1 po1 => ?_⟩
  cases t with
  | true => exact po1 μ1 H1 (Nx.refl n1.rl)
  | false => exact ⟨F, μ1, φ1, S1, n1.rl, po1⟩
end

/-! ### negation, places, slices -/
theorem ge_neg (ha : GE X W a fa) : GE X W (.UnaryOp .USub a pos) (fun φ S => (fa φ S).bind fun x φ S => match x with
    | .int i => .ok (.int (-i)) φ S
    | _ => .no) := by
  refine PE.to (pe_un un_neg ha) fun F μ φ S σ H Q rl po => ?_
  refine ⟨F, μ, φ, S, rl, PoE.fst po fun x φ1 S1 μ1 H1 v n1 r1 po1 => ?_⟩
  split at po1
  · exact ⟨_, r1, PoE.val po1 n1.rl (RD.rx (d := .int _) rfl)⟩
  · exact po1.elim
theorem ge_ix (ok : Okx X) (ha : GE X W a fa) (hb : GE X W b fb) (hs : PlainIx b) : GE X W (.Subscript a b pos) (fun φ S => (fa φ S).bind fun x φ S => (fb φ S).bind fun y φ S => ofO (ixD (look φ S x) (look φ S y)) φ S) :=
  ge_two (pe_ix (ixX ok) ha hb hs)
/-- a slice's part -/
def PoP (X : Cx) (W : Option WX) (F : Addr → Prop) (μ : List Addr) (φ : Fr) (σ : L2.St) (H : Hp) (r : R (List D)) (Q : Option Int → Hp → Prop) : Prop := match r with
  | .ok d φ' S' => ∃ o, partD d = some o ∧ ∀ μ' H', Nx X F μ φ σ H μ' φ' S' H' → Q o H'
  | .exc x φ' S' => W ≠ none ∧ ∀ μ' H' cls dx, Nx X F μ φ σ H μ' φ' S' H' → ExOk (pm X F μ' φ' σ) H' x cls dx → Wi W cls dx σ H'
  | .no => False
def tO (X : Cx) (W : Option WX) (f : Fr → Sto → R (List D)) : TO := fun σ H Q => ∃ F μ φ S, Rl X F μ φ S σ H ∧ PoP X W F μ φ σ H (f φ S) Q
theorem _root_.L2.PO.imp {e : Option Expr} {t t' : TO} (h : PO X e t) (k : ∀ σ H Q, t' σ H Q → t σ H Q) : PO X e t' := ⟨fun pins s σ H Q I q => h.run pins s σ H Q I (k σ H Q q)⟩
abbrev GO (X : Cx) (W : Option WX) (e : Option Expr) (f : Fr → Sto → R (List D)) : Prop := PO X e (tO X W f)
theorem go_none : GO X W none (fun φ S => .ok [] φ S) := po_none.imp fun σ H Q ⟨F, μ, φ, S, rl, o, e, k⟩ => by
  cases e
  exact k μ H (Nx.refl rl)
theorem PoP.fst {r : R D} {Q : Option Int → Hp → Prop} (po : PoP X W F μ φ σ H (r.bind fun d φ S => .ok [d] φ S) Q) : PoE X W F μ φ σ H r (fun x H1 => ∃ i, x = .int i ∧ Q (some i) H1) := by
  cases r with
  | ok d φ1 S1 =>
    obtain ⟨o, e, k⟩ := po
    intro μ1 H1 v n1 r1
    cases d <;> simp only [partD, Option.some.injEq, reduceCtorEq] at e
    subst e
    exact ⟨_, r1, k μ1 H1 n1⟩
  | exc x φ1 S1 => exact po
  | no => exact po
theorem go_some (ha : GE X W a fa) : GO X W (some a) (fun φ S => (fa φ S).bind fun d φ S => .ok [d] φ S) := (po_some ha).imp fun σ H Q ⟨F, μ, φ, S, rl, po⟩ => ⟨F, μ, φ, S, rl, PoP.fst po⟩
theorem PoE.part {r : R (List D)} {k : Option Int → Fr → Sto → R D} {Q1 : Option Int → Hp → Prop} (po : PoE X W F μ φ σ H (r.bind fun y φ S => (ofO (partD y) φ S).bind k) Q)
    (g : ∀ d φ1 S1 μ1 H1, Nx X F μ φ σ H μ1 φ1 S1 H1 → PoE X W F μ1 φ1 σ H1 (k d φ1 S1) Q → Q1 d H1) : PoP X W F μ φ σ H r Q1 := by
  cases r with
  | ok d φ1 S1 =>
    have po : PoE X W F μ φ σ H ((ofO (partD d) φ1 S1).bind k) Q := po
    cases e : partD d with
    | none => rw [e] at po; exact po.elim
    | some o =>
      rw [e] at po
      exact ⟨o, e, fun μ1 H1 n1 => g o φ1 S1 μ1 H1 n1 (PoE.re po n1)⟩
  | exc x φ1 S1 => exact po
  | no => exact po
theorem ge_sl {lo hi : Option Expr} {p2 : Pos} {fl fh : Fr → Sto → R (List D)} (ha : GE X W a fa) (hl : GO X W lo fl) (hh : GO X W hi fh) :
    GE X W (.Subscript a (.Slice lo hi none p2) pos) (fun φ S => (fa φ S).bind fun x φ S => (fl φ S).bind fun y φ S => (ofO (partD y) φ S).bind fun y φ S => (fh φ S).bind fun z φ S => (ofO (partD z) φ S).bind fun z φ S => ofO (slD (look φ S x) y z) φ S) := by
  refine PE.to (pe_slice slX ha hl hh) fun F μ φ S σ H Q rl po => ?_
  refine ⟨F, μ, φ, S, rl, PoE.fst po fun x φ1 S1 μ1 H1 v n1 r1 po1 => ?_⟩
  refine ⟨F, μ1, φ1, S1, n1.rl, PoE.part po1 fun l φ2 S2 μ2 H2 n2 po2 => ?_⟩
  refine ⟨F, μ2, φ2, S2, n2.rl, PoE.part po2 fun h φ3 S3 μ3 H3 n3 po3 => ?_⟩
  obtain ⟨d, e, po3⟩ := PoE.opt1 po3
  exact ⟨F, μ3, φ3, S3, σ, _, d, n3.rl, n3.rl.look (n3.rx (n2.rx r1)), e, fin2 po3⟩

/-! ### argument lists, displays -/
theorem ga_nil : GA X W [] (fun φ S => .ok [] φ S) := PA.to pa_nil fun F μ φ S σ H Q rl po => po μ H [] (Nx.refl rl) rfl
theorem ga_cons {es : List Expr} {fr : Fr → Sto → R (List D)} (ha : GE X W a fa) (hr : GA X W es fr) (hs : starEach (a :: es) X.env = (false, eval a X.env) :: starEach es X.env) :
    GA X W (a :: es) (fun φ S => (fa φ S).bind fun d φ S => (fr φ S).bind fun ds φ S => .ok (d :: ds) φ S) := by
  refine PA.to (pa_cons ha hr hs) fun F μ φ S σ H Q rl po => ?_
  refine ⟨F, μ, φ, S, rl, PoA.fst po fun x φ1 S1 μ1 H1 v n1 r1 po1 => ?_⟩
  refine ⟨F, μ1, φ1, S1, n1.rl, PoA.fstA po1 fun xs φ2 S2 μ2 H2 vs n2 r2 po2 => ?_⟩
  exact po2 μ2 H2 _ (Nx.refl n2.rl) ⟨v, vs, rfl, n2.rx r1, r2⟩
theorem RXs.app : ∀ {l r : List D} {vs ws : List V}, RDs (pm X F μ φ σ) H l vs → RXs X F μ φ σ H r ws → RXs X F μ φ σ H (l ++ r) (vs ++ ws)
  | [], _, _, _, h, k => by rw [RDs.nil h]; exact k
  | d :: l, _, _, _, ⟨v, vr, e, h, t⟩, k => by subst e; exact ⟨v, vr ++ _, rfl, h.rx, RXs.app t k⟩
theorem items_rt {P : Pm} {d : D} {v : V} {l : List D} (h : RT P H d v) (e : itemsD d = some l) : ∃ a vs, v = .ref a ∧ (SqT P.K H a vs ∨ SqL P.K H a vs) ∧ RDs P H l vs := by
  cases d <;> simp only [itemsD, Option.some.injEq, reduceCtorEq] at e
  · subst e; obtain ⟨a, vs, rfl, h1, t⟩ := h; exact ⟨a, vs, rfl, .inl h1, t⟩
  · subst e; obtain ⟨a, vs, rfl, h1, t⟩ := h; exact ⟨a, vs, rfl, .inr (.inl h1), t⟩
theorem ga_star {es : List Expr} {p : Pos} {fr : Fr → Sto → R (List D)} (ha : GE X W a fa) (hr : GA X W es fr) (hs : starEach (.Starred a p :: es) X.env = (true, eval a X.env) :: starEach es X.env) :
    GA X W (.Starred a p :: es) (fun φ S => (fa φ S).bind fun d φ S => (ofO (itemsD (look φ S d)) φ S).bind fun l φ S => (fr φ S).bind fun ds φ S => .ok (l ++ ds) φ S) := by
  refine PA.to (StX.pa_star ha hr hs) fun F μ φ S σ H Q rl po => ?_
  refine ⟨F, μ, φ, S, rl, PoA.fst po fun x φ1 S1 μ1 H1 v n1 r1 po1 => ?_⟩
  obtain ⟨l, e, po1⟩ := PoA.opt po1
  obtain ⟨q, vs, rfl, h1, t⟩ := items_rt (n1.rl.look r1) e
  refine ⟨q, vs, rfl, h1, F, μ1, φ1, S1, n1.rl, PoA.fstA po1 fun xs φ2 S2 μ2 H2 ws n2 r2 po2 => ?_⟩
  exact po2 μ2 H2 _ (Nx.refl n2.rl) (RXs.app (t.mono n2.ext) r2)
theorem ge_tup {es : List Expr} {k : Nat} {fr : Fr → Sto → R (List D)} (ha : GA X W es fr) :
    GE X W (.Tuple es k pos) (fun φ S => (fr φ S).bind fun ds φ S => if ds.all keepD && decide (ds.length ≤ sizeLine) then .ok (.tup ds) φ S else .no) := by
  refine PE.to (pe_tup ha) fun F μ φ S σ H Q rl po => ?_
  refine ⟨F, μ, φ, S, rl, PoE.fstA po fun xs φ1 S1 μ1 H1 vs n1 r1 po1 => ?_⟩
  split at po1
  · rename_i h
    simp only [Bool.and_eq_true, decide_eq_true_eq] at h
    have t := r1.keep h.1
    refine ⟨by rw [← t.length]; exact h.2, fun p hp => ?_⟩
    have nx := Nx.new (o := .tup vs) n1.rl hp
    exact po1 μ1 _ _ nx (RD.rx (rd_tup upd_same (t.mono nx.ext)))
  · exact po1.elim

/-! ### new objects that nobody else holds -/
/-- the value is a new object: told of all else with its address kept apart -/
def PoF (X : Cx) (W : Option WX) (F : Addr → Prop) (μ : List Addr) (φ : Fr) (σ : L2.St) (H : Hp) (r : R D) (Q : VK) : Prop := match r with
  | .ok d φ' S' => ∀ μ' H' a, ¬ nt H a → Rl X (fun b => F b ∨ b = a) μ' φ' S' σ H' → RH (pm X (fun b => F b ∨ b = a) μ' φ' σ) H' d a → Ext (pm X F μ φ σ) H (pm X F μ' φ' σ) H' →
      (∀ (i : Nat) w d, φ[i]? = some (.own w d) → ∃ d', φ'[i]? = some (.own w d')) → Fix F φ σ H φ' H' → Q (.ref a) H'
  | .exc x φ' S' => W ≠ none ∧ ∀ μ' H' cls dx, Nx X F μ φ σ H μ' φ' S' H' → ExOk (pm X F μ' φ' σ) H' x cls dx → Wi W cls dx σ H'
  | .no => False
def tF (X : Cx) (W : Option WX) (f : Fr → Sto → R D) : TE := fun σ H Q => ∃ F μ φ S, Rl X F μ φ S σ H ∧ PoF X W F μ φ σ H (f φ S) Q
abbrev GF (X : Cx) (W : Option WX) (e : Expr) (f : Fr → Sto → R D) : Prop := PE X e (tF X W f)
theorem Ext.less {p : Addr} : Ext (pm X (fun b => F b ∨ b = p) μ φ σ) H (pm X F μ φ σ) H :=
  ⟨rfl, rfl, fun _ _ _ h _ => h, fun _ _ h => h, fun _ _ h => h, fun a _ h => h.elim .inl fun z => .inr (.inl z), fun _ _ h => h, fun _ h => .inl h, fun _ h => h, id⟩
/-- the apart address given back -/
theorem Rl.less {p : Addr} (rl : Rl X (fun b => F b ∨ b = p) μ φ S σ H) : Rl X F μ φ S σ H ∧ (∀ {d v}, RD (pm X (fun b => F b ∨ b = p) μ φ σ) H d v → RD (pm X F μ φ σ) H d v) ∧ ∀ {l vs}, RDs (pm X (fun b => F b ∨ b = p) μ φ σ) H l vs → RDs (pm X F μ φ σ) H l vs := by
  have e : Ext (pm X (fun b => F b ∨ b = p) μ φ σ) H (pm X F μ φ σ) H := Ext.less
  have rh : ∀ {d a}, RH (pm X (fun b => F b ∨ b = p) μ φ σ) H d a → RH (pm X F μ φ σ) H d a := fun {d a} h => by
    cases d <;> first | exact False.elim h | skip
    · obtain ⟨vs, h, t⟩ := h; exact ⟨vs, h, t.mono e⟩
    · obtain ⟨vs, h, t⟩ := h; exact ⟨vs, h, RDk.mono e t⟩
  refine ⟨⟨rl.lenS, rl.lenF, fun n d a h1 h2 => rh (rl.bx n d a h1 h2), fun i s w h1 h2 => ?_, rl.n1, rl.n2, rl.n3, fun a h => rl.f1 a (.inl h), fun a h => rl.f2 a (.inl h), rl.tab⟩, fun h => RD.mono e h, fun h => RDs.mono e h⟩
  have q := rl.sl i s w h1 h2
  cases s with
  | em => trivial
  | v d => obtain ⟨v, e1, r⟩ := q; exact ⟨v, e1, RD.mono e r⟩
  | own b d => obtain ⟨a, e1, r⟩ := q; exact ⟨a, e1, rh r⟩
/-- a new address may be kept apart -/
theorem Rl.more {p : Addr} {o : HO} (rl : Rl X F μ φ S σ H) (h : H p = none) (fo : nf o = true := by rfl) : Rl X (fun b => F b ∨ b = p) μ φ S σ (upd H p o) ∧ ∀ {l vs}, RDs (pm X F μ φ σ) H l vs → RDs (pm X (fun b => F b ∨ b = p) μ φ σ) (upd H p o) l vs := by
  have ma : ∀ a, (pm X F μ φ σ).mu a → (pm X F μ φ σ).av a := fun _ z => .inl z
  have n := Ext.new (P := pm X F μ φ σ) (o := o) ma h
  have e : Ext (pm X F μ φ σ) H (pm X (fun b => F b ∨ b = p) μ φ σ) (upd H p o) :=
    ⟨rfl, rfl, n.keep, n.tup, n.mu, fun a hn z => z.elim .inl fun z => z.elim .inr fun z => (hn (z ▸ h)).elim, n.bx, ma, n.there, n.tb⟩
  have rh : ∀ {d a}, RH (pm X F μ φ σ) H d a → RH (pm X (fun b => F b ∨ b = p) μ φ σ) (upd H p o) d a := fun {d a} q => by
    have na : a ≠ p := fun z => q.there (z ▸ h)
    cases d <;> first | exact False.elim q | skip
    · obtain ⟨vs, q, t⟩ := q; exact ⟨vs, by rw [upd_ne na]; exact q, t.mono e⟩
    · obtain ⟨vs, q, t⟩ := q; exact ⟨vs, by rw [upd_ne na]; exact q, RDk.mono e t⟩
  refine ⟨⟨rl.lenS, rl.lenF, fun n d a h1 h2 => rh (rl.bx n d a h1 h2), fun i s w h1 h2 => ?_, rl.n1, rl.n2, rl.n3, fun a q => ?_, fun a q => ?_, n.tb rl.tab⟩, fun h => RDs.mono e h⟩
  · have q := rl.sl i s w h1 h2
    cases s with
    | em => trivial
    | v d => obtain ⟨v, e1, r⟩ := q; exact ⟨v, e1, RD.mono e r⟩
    | own b d => obtain ⟨a, e1, r⟩ := q; exact ⟨a, e1, rh r⟩
  · rcases q with q | q
    · exact n.there a (rl.f1 a q)
    · rw [q]; exact .upd fo
  · rcases q with q | q
    · exact rl.f2 a q
    · intro z
      exact rl.muSome z (q ▸ h)
theorem PoE.fresh {d : D} (po : PoE X W F μ φ σ H (.ok d φ' S') Q) {S : Sto} (rl0 : Rl X F μ φ S σ H) : PoF X W F μ φ σ H (.ok d φ' S') Q := fun μ' H' a hn rl rh ex sh fx => by
  obtain ⟨rl', _, k⟩ := rl.less
  have nv : ¬ (muOf μ' φ' σ a ∨ F a) := fun z => by
    rcases z with z | z
    · exact rl.f2 a (.inr rfl) z
    · exact hn (rl0.f1 a z)
  refine po μ' H' (.ref a) ⟨rl', ex, sh, fx⟩ (RD.rx ?_)
  cases d <;> first | exact False.elim rh | skip
  · obtain ⟨vs, h, t⟩ := rh
    exact ⟨a, vs, rfl, nv, .inl h, k t⟩
  · obtain ⟨kvs, h, t⟩ := rh
    exact ⟨a, kvs, rfl, nv, .inl h, RDk.mono Ext.less t⟩
/-- a new object, kept as a plain value -/
theorem GF.ge (h : GF X W e fa) : GE X W e fa := h.imp fun σ H Q ⟨F, μ, φ, S, rl, po⟩ => ⟨F, μ, φ, S, rl, by
  revert po
  cases fa φ S with
  | ok d φ1 S1 => exact fun po => PoE.fresh po rl
  | exc x φ1 S1 => exact fun po => po
  | no => exact fun po => po⟩
theorem PoF.re {r : R D} (po : PoF X W F μ φ σ H r Q) (nx : Nx X F μ φ σ H μ' φ' S' H') : PoF X W F μ' φ' σ H' r Q := by
  cases r with
  | ok d φ'' S'' => exact fun μ'' H'' a hn rl rh ex sh fx => po μ'' H'' a (fun z => hn (nx.ext.there a z)) rl rh (nx.ext.trans ex) (fun i w d h => (nx.shape i w d h).elim fun d1 h1 => sh i w d1 h1) (nx.fx.trans fx)
  | exc x φ'' S'' => exact ⟨po.1, fun μ'' H'' c d n e => po.2 μ'' H'' c d (nx.trans n) e⟩
  | no => exact po
theorem PoF.fstA {r : R (List D)} {k : List D → Fr → Sto → R D} {Q1 : List V → Hp → Prop} (po : PoF X W F μ φ σ H (r.bind k) Q)
    (g : ∀ d φ1 S1 μ1 H1 v, Nx X F μ φ σ H μ1 φ1 S1 H1 → RXs X F μ1 φ1 σ H1 d v → PoF X W F μ1 φ1 σ H1 (k d φ1 S1) Q → Q1 v H1) : PoA X W F μ φ σ H r Q1 := by
  cases r with
  | ok d φ1 S1 => exact fun μ1 H1 v nx rx => g d φ1 S1 μ1 H1 v nx rx (PoF.re po nx)
  | exc x φ1 S1 => exact po
  | no => exact po
theorem PoF.fst {r : R D} {k : D → Fr → Sto → R D} {Q1 : VK} (po : PoF X W F μ φ σ H (r.bind k) Q)
    (g : ∀ d φ1 S1 μ1 H1 v, Nx X F μ φ σ H μ1 φ1 S1 H1 → RX X F μ1 φ1 σ H1 d v → PoF X W F μ1 φ1 σ H1 (k d φ1 S1) Q → Q1 v H1) : PoE X W F μ φ σ H r Q1 := by
  cases r with
  | ok d φ1 S1 => exact fun μ1 H1 v nx rx => g d φ1 S1 μ1 H1 v nx rx (PoF.re po nx)
  | exc x φ1 S1 => exact po
  | no => exact po
/-- the end: a list just laid -/
theorem PoF.lst {l : List D} {vs : List V} {p : Addr} (po : PoF X W F μ φ σ H (.ok (.lst l) φ S) Q) (rl : Rl X F μ φ S σ H) (hp : H p = none) (t : RDs (pm X F μ φ σ) H l vs) : Q (.ref p) (upd H p (.lst vs)) := by
  obtain ⟨rl', k⟩ := rl.more (o := .lst vs) hp
  have ma : ∀ a, (pm X F μ φ σ).mu a → (pm X F μ φ σ).av a := fun _ z => .inl z
  exact po μ _ p (fun z => z hp) rl' ⟨vs, upd_same, k t⟩ (Ext.new ma hp) (fun i w d h => ⟨d, h⟩) (rl.fixNew hp)
theorem gf_lst {es : List Expr} {fr : Fr → Sto → R (List D)} (ha : GA X W es fr) :
    GF X W (.List es pos) (fun φ S => (fr φ S).bind fun ds φ S => if ds.all keepD && decide (ds.length ≤ sizeLine) then .ok (.lst ds) φ S else .no) := by
  refine (pe_lst ha).imp fun σ H Q ⟨F, μ, φ, S, rl, po⟩ => ?_
  refine ⟨F, μ, φ, S, rl, PoF.fstA po fun xs φ1 S1 μ1 H1 vs n1 r1 po1 => ?_⟩
  split at po1
  · rename_i h
    simp only [Bool.and_eq_true, decide_eq_true_eq] at h
    have t := r1.keep h.1
    exact ⟨by rw [← t.length]; exact h.2, fun p hp => PoF.lst po1 n1.rl hp t⟩
  · exact po1.elim
end
end Gx
set_option Elab.async false
set_option linter.all false
set_option maxRecDepth 100000
/-! Gw1: sum of a tuple of ints. -/
namespace Gx
open PySem L2
section
variable {prog : Program} {w : World} {A : Around} {E : Value → Shared → Prop} {s : Shared} {l : Addr} {xs : Array (Int × Tok)}
theorem sum_intTup {Q : Value → Shared → Prop} (hh : A.handled = none) (hl : s.heap.IsTuple l (intItems xs))
    (h : ∀ h' tk t', (∀ b o, s.heap.get? b = some o → h'.get? b = some o) → Q (.int (preSum (numAt xs) xs.size) t') { s with heap := h', toks := tk }) :
    wpAny (model prog w) A (call (.builtin "sum") [.ref l]) Q E s := by
  have hlt : l < s.heap.objs.size := by obtain ⟨_, e, _⟩ := hl; exact Heap.lt_size e
  refine call_sum_walkG (wpAny_pyIter_tuple hl ?_)
  refine ⟨_, _, _, _, _, _, numAt xs, rfl, Walks.tuple (A := A.in1) hh _ l (Nat.ne_of_lt hlt) (intItems xs), ⟨⟨_, Heap.get?_push_size _ rfl, rfl, rfl⟩, hl.push _⟩, fun b hb => ?_, (fun _ _ => intItems_at), fun h' tk t' hk => ?_⟩
  · show b < (s.heap.push _).objs.size
    rw [Heap.size_push]
    rcases List.mem_cons.mp hb with rfl | hb
    · exact Nat.lt_succ_self _
    · rcases List.mem_cons.mp hb with rfl | hb
      · exact Nat.lt_succ_of_lt hlt
      · cases hb
  · have := h h' tk t' fun b o e => by
      refine hk b o (fun hm => ?_) (Heap.get?_push_of_some _ e)
      rcases List.mem_cons.mp hm with e1 | hm
      · exact absurd (e1 ▸ Heap.lt_size e) (Nat.lt_irrefl _)
      · cases hm
    simpa [intItems] using this
theorem max_intTup {Q : Value → Shared → Prop} (hh : A.handled = none) (hl : s.heap.IsTuple l (intItems xs)) (hne : 0 < xs.size)
    (h : ∀ v h' tk, (intItems xs)[argBest (fun i j => decide (numAt xs i > numAt xs j)) (xs.size - 1)]? = some v → (∀ b o, s.heap.get? b = some o → h'.get? b = some o) → Q v { s with heap := h', toks := tk }) :
    wpAny (model prog w) A (call (.builtin "max") [.ref l]) Q E s := by
  have hlt : l < s.heap.objs.size := by obtain ⟨_, e, _⟩ := hl; exact Heap.lt_size e
  refine call_max_walk (wpAny_pyIter_tuple hl ?_)
  refine ⟨_, _, _, _, _, _, _, rfl, Walks.tuple (A := A.in1) hh _ l (Nat.ne_of_lt hlt) (intItems xs), ⟨⟨_, Heap.get?_push_size _ rfl, rfl, rfl⟩, hl.push _⟩, fun b hb => ?_, by simpa [intItems] using hne, CmpOf.ints_gt (numAt xs) (fun _ _ => intItems_at), fun v h' tk hP hk => ?_⟩
  · show b < (s.heap.push _).objs.size
    rw [Heap.size_push]
    rcases List.mem_cons.mp hb with rfl | hb
    · exact Nat.lt_succ_self _
    · rcases List.mem_cons.mp hb with rfl | hb
      · exact Nat.lt_succ_of_lt hlt
      · cases hb
  · exact h v h' tk (by simpa [intItems] using hP) fun b o e => by
      refine hk b o (fun hm => ?_) (Heap.get?_push_of_some _ e)
      rcases List.mem_cons.mp hm with e1 | hm
      · exact absurd (e1 ▸ Heap.lt_size e) (Nat.lt_irrefl _)
      · cases hm
theorem min_intTup {Q : Value → Shared → Prop} (hh : A.handled = none) (hl : s.heap.IsTuple l (intItems xs)) (hne : 0 < xs.size)
    (h : ∀ v h' tk, (intItems xs)[argBest (fun i j => decide (numAt xs i < numAt xs j)) (xs.size - 1)]? = some v → (∀ b o, s.heap.get? b = some o → h'.get? b = some o) → Q v { s with heap := h', toks := tk }) :
    wpAny (model prog w) A (call (.builtin "min") [.ref l]) Q E s := by
  have hlt : l < s.heap.objs.size := by obtain ⟨_, e, _⟩ := hl; exact Heap.lt_size e
  refine call_min_walk (wpAny_pyIter_tuple hl ?_)
  refine ⟨_, _, _, _, _, _, _, rfl, Walks.tuple (A := A.in1) hh _ l (Nat.ne_of_lt hlt) (intItems xs), ⟨⟨_, Heap.get?_push_size _ rfl, rfl, rfl⟩, hl.push _⟩, fun b hb => ?_, by simpa [intItems] using hne, CmpOf.ints_lt (numAt xs) (fun _ _ => intItems_at), fun v h' tk hP hk => ?_⟩
  · show b < (s.heap.push _).objs.size
    rw [Heap.size_push]
    rcases List.mem_cons.mp hb with rfl | hb
    · exact Nat.lt_succ_self _
    · rcases List.mem_cons.mp hb with rfl | hb
      · exact Nat.lt_succ_of_lt hlt
      · cases hb
  · exact h v h' tk (by simpa [intItems] using hP) fun b o e => by
      refine hk b o (fun hm => ?_) (Heap.get?_push_of_some _ e)
      rcases List.mem_cons.mp hm with e1 | hm
      · exact absurd (e1 ▸ Heap.lt_size e) (Nat.lt_irrefl _)
      · cases hm
end
section
variable {X : Cx}
def rSumT (K : PySem.W.Frag) : List V → Hp → VK → Prop := fun vs H Q => ∃ (a : Addr) (ns : List Int), vs = [V.ref a] ∧ SqT K H a (ns.map V.int) ∧ Q (.int ns.sum) H
theorem cr_sumT (hc : X.calm = true) : CallR X (.builtin "sum") (rSumT X.K) := by
  intro pins s σ H vs us Q I r h
  obtain ⟨a, ns, rfl, hs, q⟩ := h
  obtain ⟨its, rv, hl, _⟩ := I.tuple hs
  rw [Vals.ref1 r]
  have hi := rv.ints
  obtain ⟨xs, e⟩ := hi.allInts.items
  have hn : numsOf (intItems xs).toList = ns := by rw [← e]; exact hi.numsOf
  rw [nums_intItems] at hn
  have hl : s.heap.IsTuple a its.toArray := hl
  rw [e] at hl
  refine sum_intTup (I.ok.hd hc) hl fun h' tk t' hk => ?_
  rw [preSum_eq, List.take_of_length_le (by simp), hn]
  exact ⟨.int _, H, I.kept hk, ⟨_, rfl⟩, q⟩
def rMaxT (K : PySem.W.Frag) : List V → Hp → VK → Prop := fun vs H Q => ∃ (a : Addr) (ns : List Int), vs = [V.ref a] ∧ SqT K H a (ns.map V.int) ∧ 0 < ns.length ∧ ∀ m, m ∈ ns → (∀ y, y ∈ ns → y ≤ m) → Q (.int m) H
def rMinT (K : PySem.W.Frag) : List V → Hp → VK → Prop := fun vs H Q => ∃ (a : Addr) (ns : List Int), vs = [V.ref a] ∧ SqT K H a (ns.map V.int) ∧ 0 < ns.length ∧ ∀ m, m ∈ ns → (∀ y, y ∈ ns → m ≤ y) → Q (.int m) H
theorem cr_maxT (hc : X.calm = true) : CallR X (.builtin "max") (rMaxT X.K) := by
  intro pins s σ H vs us Q I r h
  obtain ⟨a, ns, rfl, hs, hne, q⟩ := h
  obtain ⟨its, rv, hl, _⟩ := I.tuple hs
  rw [Vals.ref1 r]
  have hi := rv.ints
  obtain ⟨xs, e⟩ := hi.allInts.items
  have hn : numsOf (intItems xs).toList = ns := by rw [← e]; exact hi.numsOf
  rw [nums_intItems] at hn
  subst hn
  have hl : s.heap.IsTuple a its.toArray := hl
  rw [e] at hl
  have hsz : 0 < xs.size := by simpa using hne
  refine max_intTup (I.ok.hd hc) hl hsz fun v h' tk hv hk => ?_
  obtain ⟨t, rfl⟩ := intItems_at hv
  obtain ⟨h1, h2⟩ := argBest_gt (numAt xs) (xs.size - 1)
  refine ⟨.int _, H, I.kept hk, ⟨_, rfl⟩, q _ ?_ fun a ha => ?_⟩
  · rw [numAt_eq]; exact PySem.getD_mem (by rw [List.length_map, Array.length_toList]; omega)
  · obtain ⟨j, hj, rfl⟩ := mem_getD ha
    rw [List.length_map, Array.length_toList] at hj
    rw [← numAt_eq]; exact h2 j (by omega)
theorem cr_minT (hc : X.calm = true) : CallR X (.builtin "min") (rMinT X.K) := by
  intro pins s σ H vs us Q I r h
  obtain ⟨a, ns, rfl, hs, hne, q⟩ := h
  obtain ⟨its, rv, hl, _⟩ := I.tuple hs
  rw [Vals.ref1 r]
  have hi := rv.ints
  obtain ⟨xs, e⟩ := hi.allInts.items
  have hn : numsOf (intItems xs).toList = ns := by rw [← e]; exact hi.numsOf
  rw [nums_intItems] at hn
  subst hn
  have hl : s.heap.IsTuple a its.toArray := hl
  rw [e] at hl
  have hsz : 0 < xs.size := by simpa using hne
  refine min_intTup (I.ok.hd hc) hl hsz fun v h' tk hv hk => ?_
  obtain ⟨t, rfl⟩ := intItems_at hv
  obtain ⟨h1, h2⟩ := argBest_lt (numAt xs) (xs.size - 1)
  refine ⟨.int _, H, I.kept hk, ⟨_, rfl⟩, q _ ?_ fun a ha => ?_⟩
  · rw [numAt_eq]; exact PySem.getD_mem (by rw [List.length_map, Array.length_toList]; omega)
  · obtain ⟨j, hj, rfl⟩ := mem_getD ha
    rw [List.length_map, Array.length_toList] at hj
    rw [← numAt_eq]; exact h2 j (by omega)
theorem prP_inj {p q : Int × Int} (h : prP p = prP q) : p = q := by
  obtain ⟨a, b⟩ := p
  obtain ⟨x, y⟩ := q
  simp [prP] at h
  rw [h.1, h.2]
theorem alikeAll_pr (l : List (Int × Int)) : PySem.W.AlikeAll (l.map prP) := by
  refine ⟨fun x hx y hy => ?_, fun x hx => ?_⟩
  · obtain ⟨p, _, rfl⟩ := List.mem_map.mp hx
    obtain ⟨q, _, rfl⟩ := List.mem_map.mp hy
    simp [prP, PySem.W.alike, PySem.W.alikeAll]
  · obtain ⟨p, _, rfl⟩ := List.mem_map.mp hx
    exact fun h => nomatch h
theorem depth_pr : ∀ l : List (Int × Int), PyData.depthAll (l.map prP) ≤ 2
  | [] => by simp [PyData.depthAll]
  | p :: l => by
    have := depth_pr l
    rw [List.map_cons, PyData.depthAll]
    have h1 : (prP p).depth ≤ 2 := by simp [prP, PyData.depth, PyData.depthAll]
    omega
theorem minD_pr : ∀ (ps : List (Int × Int)) (p : Int × Int), PySem.W.minD (prP p) (ps.map prP) = prP (minP p ps)
  | [], _ => rfl
  | q :: ps, p => by
    have h := minD_pr ps (if ltP q p then q else p)
    show PySem.W.minD (if PySem.W.dataLt (prP q) (prP p) then prP q else prP p) (ps.map prP) = prP (minP (if ltP q p then q else p) ps)
    rw [← h]
    have e : PySem.W.dataLt (prP q) (prP p) = ltP q p := PySem.W.dataLt_ii _ _ _ _
    rw [e]
    cases ltP q p <;> rfl
def rMinP (K : PySem.W.Frag) : List V → Hp → VK → Prop := fun vs H Q => ∃ (a : Addr) (ys : List V) (p : Int × Int) (ps : List (Int × Int)), vs = [V.ref a] ∧ SqL K H a ys ∧ DpAll K H ys ((p :: ps).map prP) ∧
  ∀ (j : Nat) y, ys[j]? = some y → (p :: ps)[j]? = some (minP p ps) → Q y H
theorem cr_minP (hc : X.calm = true) (hu : X.A.units + 66 < cLine) : CallR X (.builtin "min") (rMinP X.K) := by
  intro pins s σ H vs us Q I r h
  obtain ⟨a, ys, p, ps, rfl, hs, hd, q⟩ := h
  obtain ⟨its, rv, hl, _⟩ := I.list hs
  rw [Vals.ref1 r]
  obtain ⟨as, hr⟩ := Dp.readsAll I _ _ _ hd rv
  have hr : ReadsAll s.heap its.toArray.toList (prP p :: ps.map prP) as := hr
  have hz := depth_pr (p :: ps)
  refine PySem.W.min_list_data (I.ok.hd hc) hl.isList hr (alikeAll_pr (p :: ps)) (by
    show _ + 1 + PyData.depthAll ((p :: ps).map prP) < _
    omega) fun i v h' tk bs hi r' hk => ?_
  obtain ⟨cs, r2, hil, _, _⟩ := PySem.W.readsAll_atA hr i v hi
  have r2 := PySem.W.reads_keeps hk r2
  have hil : i < (p :: ps).length := by simpa using hil
  have eg : (prP p :: ps.map prP).getD i .none = prP ((p :: ps)[i]) := by
    show ((p :: ps).map prP).getD i .none = _
    rw [List.getD_eq_getElem?_getD, List.getElem?_map, List.getElem?_eq_getElem hil]
    rfl
  rw [eg] at r2
  rw [minD_pr] at r'
  have e := PySem.W.alike_unique _ _ _ _ _ (by simp [prP, PySem.W.alike, PySem.W.alikeAll]) r2 r'
  have e := prP_inj e
  have hlen := rv.length
  have hi' : its[i]? = some v := by rw [← Array.getElem?_toList] at hi; exact hi
  have hiy : i < ys.length := by
    have := (List.getElem?_eq_some_iff.mp hi').1
    omega
  obtain ⟨u, hu1, ru⟩ := rv.get (List.getElem?_eq_getElem hiy)
  rw [hi'] at hu1
  cases hu1
  exact ⟨_, H, I.kept hk, ru, q i _ (List.getElem?_eq_getElem hiy) (by rw [List.getElem?_eq_getElem hil, e])⟩
end
end Gx
set_option Elab.async false
set_option linter.all false
set_option maxRecDepth 100000
/-! Gx6: built-in functions, isinstance, methods that change. -/
namespace Gx
open PySem PySem.Spec PyProof.Rows L2

/-! ### sorting -/
theorem insI_perm (x : Int) : ∀ l : List Int, (insI x l).Perm (x :: l)
  | [] => .refl _
  | y :: r => by
    unfold insI
    split
    · exact .refl _
    · exact ((insI_perm x r).cons y).trans (.swap x y r)
theorem sortI_perm : ∀ l : List Int, (sortI l).Perm l
  | [] => .refl _
  | x :: r => (insI_perm x _).trans ((sortI_perm r).cons x)
theorem insI_sorted (x : Int) : ∀ l : List Int, l.Pairwise (· ≤ ·) → (insI x l).Pairwise (· ≤ ·)
  | [], _ => by simp [insI]
  | y :: r, h => by
    unfold insI
    split
    · rename_i hxy
      refine List.pairwise_cons.mpr ⟨fun z hz => ?_, h⟩
      rcases List.mem_cons.mp hz with rfl | hz
      · exact hxy
      · exact Int.le_trans hxy ((List.pairwise_cons.mp h).1 z hz)
    · rename_i hxy
      obtain ⟨h1, h2⟩ := List.pairwise_cons.mp h
      refine List.pairwise_cons.mpr ⟨fun z hz => ?_, insI_sorted x r h2⟩
      rcases List.mem_cons.mp ((insI_perm x r).mem_iff.mp hz) with rfl | hz
      · omega
      · exact h1 z hz
theorem sortI_sorted : ∀ l : List Int, (sortI l).Pairwise (· ≤ ·)
  | [] => .nil
  | x :: r => insI_sorted x _ (sortI_sorted r)
theorem sortI_eq {l m : List Int} (hp : m.Perm l) (hs : m.Pairwise (· ≤ ·)) : m = sortI l := PySem.W.ksm_same (hp.trans (sortI_perm l).symm) hs (sortI_sorted l)
theorem sortI_len (l : List Int) : (sortI l).length = l.length := (sortI_perm l).length_eq
theorem maxI_mem : ∀ (l : List Int) (i : Int), maxI i l ∈ i :: l
  | [], i => by simp [maxI]
  | x :: r, i => by
    show maxI (if x > i then x else i) r ∈ _
    rcases List.mem_cons.mp (maxI_mem r (if x > i then x else i)) with h | h
    · rw [h]; split <;> simp
    · simp [h]
theorem maxI_ge : ∀ (l : List Int) (i : Int), ∀ y ∈ i :: l, y ≤ maxI i l
  | [], i, y, h => by simp at h; subst h; exact Int.le_refl _
  | x :: r, i, y, h => by
    show y ≤ maxI (if x > i then x else i) r
    have g := maxI_ge r (if x > i then x else i)
    have g0 := g _ List.mem_cons_self
    have g1 : i ≤ (if x > i then x else i) ∧ x ≤ (if x > i then x else i) := by split <;> omega
    rcases List.mem_cons.mp h with rfl | h
    · omega
    · rcases List.mem_cons.mp h with rfl | h
      · omega
      · exact g y (List.mem_cons_of_mem _ h)
theorem minI_mem : ∀ (l : List Int) (i : Int), minI i l ∈ i :: l
  | [], i => by simp [minI]
  | x :: r, i => by
    show minI (if x < i then x else i) r ∈ _
    rcases List.mem_cons.mp (minI_mem r (if x < i then x else i)) with h | h
    · rw [h]; split <;> simp
    · simp [h]
theorem minI_le : ∀ (l : List Int) (i : Int), ∀ y ∈ i :: l, minI i l ≤ y
  | [], i, y, h => by simp at h; subst h; exact Int.le_refl _
  | x :: r, i, y, h => by
    show minI (if x < i then x else i) r ≤ y
    have g := minI_le r (if x < i then x else i)
    have g0 := g _ List.mem_cons_self
    have g1 : (if x < i then x else i) ≤ i ∧ (if x < i then x else i) ≤ x := by split <;> omega
    rcases List.mem_cons.mp h with rfl | h
    · omega
    · rcases List.mem_cons.mp h with rfl | h
      · omega
      · exact g y (List.mem_cons_of_mem _ h)

theorem intsOf_cons (i : Int) (l : List D) : intsOf (.int i :: l) = (intsOf l).map (i :: ·) := by
  simp only [intsOf, List.mapM_cons, intOf, Option.bind_eq_bind, Option.bind_some, Option.pure_def]
  cases l.mapM intOf <;> rfl
theorem intsOf_map (l : List Int) : intsOf (l.map .int) = some l := by
  induction l with
  | nil => rfl
  | cons x r ih => rw [List.map_cons, intsOf_cons, ih]; rfl
def RTs (P : Pm) (H : Hp) : List D → List V → Prop
  | [], vs => vs = []
  | d :: r, vs => ∃ v vr, vs = v :: vr ∧ RT P H d v ∧ RTs P H r vr
def rB (X : Cx) (p : Bi) : List V → Hp → VK → Prop := fun xs H Q => ∃ F μ φ S σ as d, Rl X F μ φ S σ H ∧ RTs (pm X F μ φ σ) H as xs ∧ biD p as = some d ∧ ∀ H' v, Nx X F μ φ σ H μ φ S H' → RD (pm X F μ φ σ) H' d v → Q v H'
def pyBi : Bi → Value
  | .len => .builtin "len" | .abs => .builtin "abs" | .max => .builtin "max" | .min => .builtin "min" | .sum => .builtin "sum" | .sorted => .builtin "sorted"
  | .int => .type "int" | .bool => .type "bool" | .str => .type "str" | .tuple => .type "tuple" | .list => .type "list" | .all => .builtin "all" | .any => .builtin "any" | .set => .type "set"
section
variable {X : Cx} {W : Option WX} {P : Pm} {H : Hp}
theorem rts1 {d : D} {xs : List V} (h : RTs P H [d] xs) : ∃ v, xs = [v] ∧ RT P H d v := by
  obtain ⟨v, vr, e, h, t⟩ := h
  rw [show vr = [] from t] at e
  exact ⟨v, e, h⟩
theorem rts2 {d e : D} {xs : List V} (h : RTs P H [d, e] xs) : ∃ v w, xs = [v, w] ∧ RT P H d v ∧ RT P H e w := by
  obtain ⟨v, vr, e, h, t⟩ := h
  obtain ⟨w, e2, h2⟩ := rts1 t
  rw [e2] at e
  exact ⟨v, w, e, h, h2⟩
theorem ints_rd {l : List Int} : RDs P H (l.map .int) (l.map .int) := by
  induction l with
  | nil => rfl
  | cons x r ih => exact ⟨_, _, rfl, rfl, ih⟩
theorem pairs_py : ∀ {l : List D} {ps : List (Int × Int)}, pairsOf l = some ps → toPys l = some (ps.map prP)
  | [], ps, h => by cases h; rfl
  | d :: r, ps, h => by
    unfold pairsOf at h
    split at h
    · rename_i x xs ex exs
      cases h
      unfold pairOf at ex
      split at ex
      · cases ex
        have := pairs_py exs
        simp only [toPys, toPy, this, List.map_cons, Option.map, prP]
      · cases ex
    · cases h
theorem pairs_get : ∀ {l : List D} {ps : List (Int × Int)} {j : Nat} {q : Int × Int}, pairsOf l = some ps → ps[j]? = some q → l[j]? = some (prDD q)
  | [], ps, j, q, h, e => by cases h; cases e
  | d :: r, ps, j, q, h, e => by
    unfold pairsOf at h
    split at h
    · rename_i x xs ex exs
      cases h
      cases j with
      | zero =>
        cases e
        unfold pairOf at ex
        split at ex
        · cases ex
          rfl
        · cases ex
      | succ j =>
        show r[j]? = _
        exact pairs_get exs (show xs[j]? = some q from e)
    · cases h
theorem bi_ok (ok : Okx X) (p : Bi) : CallR X (pyBi p) (rB X p) := by
  intro pins s σ H xs us Q I rx h
  obtain ⟨F, μ, φ, S, σ', as, d, rl, ra, e, k⟩ := h
  have same : ∀ {w : V}, RD (pm X F μ φ σ') H d w → Q w H := fun {w} r => k H w (Nx.refl rl) r
  have lst : ∀ {l : List D} {vs : List V} {m : Addr}, d = .lst l → H m = none → RDs (pm X F μ φ σ') H l vs → Q (.ref m) (upd H m (.lst vs)) := fun {l vs m} ed hm t => by
    have nx := Nx.new (o := .lst vs) rl hm
    subst ed
    exact k _ _ nx (rd_lst rl hm upd_same (t.mono nx.ext))
  have tup : ∀ {l : List D} {vs : List V} {m : Addr}, d = .tup l → H m = none → RDs (pm X F μ φ σ') H l vs → Q (.ref m) (upd H m (.tup vs)) := fun {l vs m} ed hm t => by
    have nx := Nx.new (o := .tup vs) rl hm
    subst ed
    exact k _ _ nx (rd_tup upd_same (t.mono nx.ext))
  cases p
  case len =>
    simp only [biD] at e
    split at e <;> try simp only [Option.some.injEq, reduceCtorEq] at e
    · subst e
      obtain ⟨v, rfl, a, vs, rfl, h1, t⟩ := rts1 ra
      exact call_len_seq pins s σ H _ us Q I rx ⟨a, vs, rfl, .inl (.inl h1), by rw [← t.length]; exact same rfl⟩
    · subst e
      obtain ⟨v, rfl, a, vs, rfl, h1, t⟩ := rts1 ra
      exact call_len_seq pins s σ H _ us Q I rx ⟨a, vs, rfl, .inr h1, by rw [← t.length]; exact same rfl⟩
    · split at e
      · cases e
        rename_i hz
        obtain ⟨v, rfl, hv⟩ := rts1 ra
        cases hv
        exact call_len_str pins s σ H _ us Q I rx ⟨_, rfl, hz, same rfl⟩
      · cases e
    · subst e
      obtain ⟨v, rfl, a, kvs, rfl, h1, t⟩ := rts1 ra
      obtain ⟨u, rfl, ru⟩ := vals1 rx
      cases ru
      exact d_len I h1 fun t' s' I' => ⟨.int kvs.length, H, I', ⟨t', rfl⟩, by rw [← t.length]; exact same rfl⟩
    · subst e
      obtain ⟨v, rfl, hv⟩ := rts1 ra
      exact hv.elim
  case abs =>
    simp only [biD] at e
    split at e <;> try simp only [Option.some.injEq, reduceCtorEq] at e
    subst e
    obtain ⟨v, rfl, hv⟩ := rts1 ra
    cases hv
    exact call_abs pins s σ H _ us Q I rx ⟨_, rfl, same rfl⟩
  case max =>
    simp only [biD] at e
    split at e <;> try simp only [Option.some.injEq, reduceCtorEq] at e
    · subst e
      obtain ⟨v, w, rfl, h1, h2⟩ := rts2 ra
      cases h1; cases h2
      exact call_max2 ok.calm pins s σ H _ us Q I rx ⟨_, _, rfl, same rfl⟩
    · rename_i i l
      obtain ⟨ns, e2, e3⟩ := Option.map_eq_some_iff.mp e
      subst e3
      obtain ⟨v, rfl, a, vs, rfl, h1, t⟩ := rts1 ra
      have ev := intsOf_vals (ns := i :: ns) t (by rw [intsOf_cons, e2]; rfl)
      rw [ev] at h1
      refine cr_max ok.calm pins s σ H _ us Q I rx ⟨a, i :: ns, rfl, .inl h1, by simp, fun m hm hle => ?_⟩
      have : m = maxI i ns := Int.le_antisymm (maxI_ge ns i m hm) (hle _ (maxI_mem ns i))
      rw [this]
      exact same rfl
    · rename_i i l
      obtain ⟨ns, e2, e3⟩ := Option.map_eq_some_iff.mp e
      subst e3
      obtain ⟨v, rfl, a, vs, rfl, h1, t⟩ := rts1 ra
      have ev := intsOf_vals (ns := i :: ns) t (by rw [intsOf_cons, e2]; rfl)
      have h1 : SqT X.K H a vs := h1
      rw [ev] at h1
      refine cr_maxT ok.calm pins s σ H _ us Q I rx ⟨a, i :: ns, rfl, h1, by simp, fun m hm hle => ?_⟩
      have : m = maxI i ns := Int.le_antisymm (maxI_ge ns i m hm) (hle _ (maxI_mem ns i))
      rw [this]
      exact same rfl
  case min =>
    simp only [biD] at e
    split at e <;> try simp only [Option.some.injEq, reduceCtorEq] at e
    · subst e
      obtain ⟨v, w, rfl, h1, h2⟩ := rts2 ra
      cases h1; cases h2
      exact call_min2 ok.calm pins s σ H _ us Q I rx ⟨_, _, rfl, same rfl⟩
    · rename_i i l
      obtain ⟨ns, e2, e3⟩ := Option.map_eq_some_iff.mp e
      subst e3
      obtain ⟨v, rfl, a, vs, rfl, h1, t⟩ := rts1 ra
      have ev := intsOf_vals (ns := i :: ns) t (by rw [intsOf_cons, e2]; rfl)
      rw [ev] at h1
      refine cr_min ok.calm pins s σ H _ us Q I rx ⟨a, i :: ns, rfl, .inl h1, by simp, fun m hm hle => ?_⟩
      have : m = minI i ns := Int.le_antisymm (hle _ (minI_mem ns i)) (minI_le ns i m hm)
      rw [this]
      exact same rfl
    · rename_i tl l
      split at e <;> try simp only [Option.some.injEq, reduceCtorEq] at e
      subst e
      rename_i p ps ep
      obtain ⟨v, rfl, a, vs, rfl, h1, t⟩ := rts1 ra
      refine cr_minP ok.calm ok.hu pins s σ H _ us Q I rx ⟨a, vs, p, ps, rfl, .inl h1, dps_of t (pairs_py ep), fun j y hy hj => ?_⟩
      obtain ⟨w, hw, hr⟩ := t.get (pairs_get ep hj)
      rw [hy] at hw
      cases hw
      exact same hr
    · rename_i i l
      obtain ⟨ns, e2, e3⟩ := Option.map_eq_some_iff.mp e
      subst e3
      obtain ⟨v, rfl, a, vs, rfl, h1, t⟩ := rts1 ra
      have ev := intsOf_vals (ns := i :: ns) t (by rw [intsOf_cons, e2]; rfl)
      have h1 : SqT X.K H a vs := h1
      rw [ev] at h1
      refine cr_minT ok.calm pins s σ H _ us Q I rx ⟨a, i :: ns, rfl, h1, by simp, fun m hm hle => ?_⟩
      have : m = minI i ns := Int.le_antisymm (hle _ (minI_mem ns i)) (minI_le ns i m hm)
      rw [this]
      exact same rfl
  case sum =>
    simp only [biD] at e
    split at e <;> try simp only [Option.some.injEq, reduceCtorEq] at e
    · obtain ⟨ns, e2, e3⟩ := Option.map_eq_some_iff.mp e
      subst e3
      obtain ⟨v, rfl, a, vs, rfl, h1, t⟩ := rts1 ra
      rw [intsOf_vals t e2] at h1
      exact cr_sum ok.calm pins s σ H _ us Q I rx ⟨a, ns, rfl, .inl h1, same rfl⟩
    · obtain ⟨ns, e2, e3⟩ := Option.map_eq_some_iff.mp e
      subst e3
      obtain ⟨v, rfl, a, vs, rfl, h1, t⟩ := rts1 ra
      have h1 : SqT X.K H a vs := h1
      rw [intsOf_vals t e2] at h1
      exact cr_sumT ok.calm pins s σ H _ us Q I rx ⟨a, ns, rfl, h1, same rfl⟩
  case sorted =>
    simp only [biD] at e
    split at e <;> try simp only [Option.some.injEq, reduceCtorEq] at e
    · obtain ⟨ns, e2, e3⟩ := Option.map_eq_some_iff.mp e
      obtain ⟨v, rfl, a, vs, rfl, h1, t⟩ := rts1 ra
      rw [intsOf_vals t e2] at h1
      refine cr_sortedI pins s σ H _ us Q I rx ⟨a, ns, rfl, .inl h1, fun ns' m hp hs hm => ?_⟩
      have := sortI_eq hp hs
      subst this
      exact lst e3.symm hm ints_rd
    · obtain ⟨v, rfl, hv⟩ := rts1 ra
      exact hv.elim
  case int =>
    simp only [biD] at e
    split at e <;> try simp only [Option.some.injEq, reduceCtorEq] at e
    · subst e
      obtain ⟨v, rfl, hv⟩ := rts1 ra
      cases hv
      exact call_int1 pins s σ H _ us Q I rx (.inl ⟨_, rfl, same rfl⟩)
    · subst e
      obtain ⟨v, rfl, hv⟩ := rts1 ra
      cases hv
      exact call_int1 pins s σ H _ us Q I rx (.inr ⟨_, rfl, same rfl⟩)
  case bool =>
    simp only [biD] at e
    split at e <;> try simp only [Option.some.injEq, reduceCtorEq] at e
    · subst e
      obtain ⟨v, rfl, hv⟩ := rts1 ra
      cases hv
      exact call_bool1 pins s σ H _ us Q I rx (.inl ⟨_, rfl, same rfl⟩)
    · subst e
      obtain ⟨v, rfl, hv⟩ := rts1 ra
      cases hv
      exact call_bool1 pins s σ H _ us Q I rx (.inr ⟨_, rfl, same rfl⟩)
  case str => simp only [biD, reduceCtorEq] at e
  case tuple =>
    simp only [biD] at e
    split at e <;> try simp only [Option.some.injEq, reduceCtorEq] at e
    · obtain ⟨v, rfl, a, vs, rfl, h1, t⟩ := rts1 ra
      exact call_tuple_of pins s σ H _ us Q I rx ⟨a, vs, rfl, .inl ⟨.inl h1, fun m hm => tup e.symm hm t⟩⟩
    · obtain ⟨v, rfl, a, vs, rfl, h1, t⟩ := rts1 ra
      subst e
      exact call_tuple_of pins s σ H _ us Q I rx ⟨a, vs, rfl, .inr ⟨h1, same ⟨a, vs, rfl, h1, t⟩⟩⟩
  case list =>
    simp only [biD] at e
    split at e <;> try simp only [Option.some.injEq, reduceCtorEq] at e
    · obtain ⟨v, rfl, a, vs, rfl, h1, t⟩ := rts1 ra
      exact call_list_of pins s σ H _ us Q I rx ⟨a, vs, rfl, .inl (.inl h1), fun m hm => lst e.symm hm t⟩
    · obtain ⟨v, rfl, a, vs, rfl, h1, t⟩ := rts1 ra
      exact call_list_of pins s σ H _ us Q I rx ⟨a, vs, rfl, .inr h1, fun m hm => lst e.symm hm t⟩
  case all =>
    simp only [biD] at e
    split at e <;> try simp only [Option.some.injEq, reduceCtorEq] at e
    obtain ⟨ns, e2, e3⟩ := Option.map_eq_some_iff.mp e
    subst e3
    obtain ⟨v, rfl, a, vs, rfl, h1, t⟩ := rts1 ra
    rw [blsOf_vals t e2] at h1
    exact cr_all ok.calm pins s σ H _ us Q I rx ⟨a, ns, rfl, .inl h1, same rfl⟩
  case any =>
    simp only [biD] at e
    split at e <;> try simp only [Option.some.injEq, reduceCtorEq] at e
    obtain ⟨ns, e2, e3⟩ := Option.map_eq_some_iff.mp e
    subst e3
    obtain ⟨v, rfl, a, vs, rfl, h1, t⟩ := rts1 ra
    rw [blsOf_vals t e2] at h1
    exact cr_any ok.calm pins s σ H _ us Q I rx ⟨a, ns, rfl, .inl h1, same rfl⟩
  case set => simp only [biD, reduceCtorEq] at e
end
end Gx
set_option Elab.async false
set_option linter.all false
set_option maxRecDepth 100000
/-! Gx7: calls: built-in functions, isinstance, methods, the text's own defs. -/
namespace Gx
open PySem PySem.Spec PyProof.Rows L2

/-! ### values told under other parameters -/
section
variable {P P' : Pm} {H : Hp}
structure Sim (P P' : Pm) : Prop where
  K : P'.K = P.K
  mg : P'.mg = P.mg
  av : ∀ a, P'.av a → P.av a
  bx : ∀ n a, P.bx n a → P'.bx n a
mutual
theorem RD.via (e : Sim P P') : ∀ {d : D} {v : V}, RD P H d v → RD P' H d v
  | .non, _, h => h
  | .bl _, _, h => h
  | .int _, _, h => h
  | .str _, _, h => h
  | .tup l, _, ⟨a, vs, e1, h, t⟩ => ⟨a, vs, e1, by rw [e.K]; exact h, RDs.via e t⟩
  | .lst l, _, ⟨a, vs, e1, n, h, t⟩ => ⟨a, vs, e1, fun z => n (e.av a z), h, RDs.via e t⟩
  | .dik l, _, ⟨a, vs, e1, n, h, t⟩ => ⟨a, vs, e1, fun z => n (e.av a z), h, RDk.via e t⟩
  | .dit _, _, h => h.elim
  | .set _, _, h => h.elim
  | .scr l, _, ⟨a, e1, h⟩ => ⟨a, e1, h.elim (fun ⟨n, h⟩ => .inl ⟨fun z => n (e.av a z), h⟩) fun h => .inr (by rw [e.K]; exact h)⟩
  | .box n, _, ⟨a, e1, h⟩ => ⟨a, e1, e.bx _ _ h⟩
  | .oref _, _, h => h.elim
  | .fn x, _, ⟨a, e1, h⟩ => ⟨a, e1, by rw [e.mg]; exact h⟩
  | .ty _, _, h => h
  | .err c fs, _, ⟨a, C, o, e1, g, n, h, q⟩ => ⟨a, C, o, e1, by rw [e.mg]; exact g, fun z => n (e.av a z), h, q.elim .inl fun ⟨dx, kvs, e2, n2, h2, t⟩ => .inr ⟨dx, kvs, e2, fun z => n2 (e.av dx z), h2, RDf.via e t⟩⟩
theorem RDs.via (e : Sim P P') : ∀ {l : List D} {vs : List V}, RDs P H l vs → RDs P' H l vs
  | [], _, h => h
  | _ :: _, _, ⟨v, vr, e1, h, t⟩ => ⟨v, vr, e1, RD.via e h, RDs.via e t⟩
theorem RDk.via (e : Sim P P') : ∀ {l : List (Key × D)} {vs : List (Key × V)}, RDk P H l vs → RDk P' H l vs
  | [], _, h => h
  | (_, _) :: _, _, ⟨v, vr, e1, h, t⟩ => ⟨v, vr, e1, RD.via e h, RDk.via e t⟩
theorem RDf.via (e : Sim P P') : ∀ {l : List (Str × D)} {vs : List (Str × V)}, RDf P H l vs → RDf P' H l vs
  | [], _, h => h
  | (_, _) :: _, _, ⟨v, vr, e1, h, t⟩ => ⟨v, vr, e1, RD.via e h, RDf.via e t⟩
end
theorem RH.via (e : Sim P P') {d : D} {a : Addr} (h : RH P H d a) : RH P' H d a := by
  cases d <;> first | exact False.elim h | skip
  · obtain ⟨vs, h, t⟩ := h; exact ⟨vs, h, t.via e⟩
  · obtain ⟨vs, h, t⟩ := h; exact ⟨vs, h, RDk.via e t⟩
end
section
variable {X : Cx} {W : Option WX} {F : Addr → Prop} {μ μ' : List Addr} {φ φ' : Fr} {S S' : Sto} {σ : L2.St} {H H' : Hp} {Q : VK} {a b c e : Expr} {es : List Expr} {pos p1 : Pos} {fa fb fc : Fr → Sto → R D} {fr : Fr → Sto → R (List D)}
theorem Rl.lookAll (rl : Rl X F μ φ S σ H) : ∀ {ds : List D} {vs : List V}, RXs X F μ φ σ H ds vs → RTs (pm X F μ φ σ) H (ds.map (Gx.look φ S)) vs
  | [], _, h => h
  | _ :: _, _, ⟨v, vr, e, h, t⟩ => ⟨v, vr, e, rl.look h, rl.lookAll t⟩

/-! ### built-in functions -/
def nmBi : Bi → Str
  | .len => "len" | .abs => "abs" | .max => "max" | .min => "min" | .sum => "sum" | .sorted => "sorted" | .int => "int" | .bool => "bool" | .str => "str" | .tuple => "tuple" | .list => "list" | .all => "all" | .any => "any" | .set => "set"
theorem boot_bi (p : Bi) : bootBuiltins (nmBi p) = some (pyBi p) := by cases p <;> decide +kernel
theorem nm_bi (p : Bi) : nmBi p ≠ "__name__" ∧ (nmBi p == ("__debug__" : Str)) = false := by cases p <;> decide +kernel
theorem pe_bi (ok : Okx X) {p : Bi} {t : TA} (hg : Gl X (nmBi p)) (hm : X.mg (nmBi p) = none) (ha : PA X (e :: es) t) (hs : starEach (e :: es) X.env = (false, eval e X.env) :: starEach es X.env) (hpl : (backTo pos (starEach es X.env)).any (·.1) = false) :
    PE X (.Call (.Name (nmBi p) p1) (e :: es) [] pos) (tCB (rB X p) t) := by
  have hb := boot_bi p
  obtain ⟨h1, h2⟩ := nm_bi p
  have hc := bi_ok (X := X) ok p
  cases p
  case len | abs | max | min | sum | sorted | all | any => exact pe_callB hc hg hm hb ha h1 h2 hs hpl
  all_goals exact pe_callTy hc hg hm hb ha h1 h2 hs hpl
theorem ge_bi (ok : Okx X) {p : Bi} (hg : Gl X (nmBi p)) (hm : X.mg (nmBi p) = none) (ha : GA X W (e :: es) fr) (hs : starEach (e :: es) X.env = (false, eval e X.env) :: starEach es X.env) (hpl : (backTo pos (starEach es X.env)).any (·.1) = false) :
    GE X W (.Call (.Name (nmBi p) p1) (e :: es) [] pos) (fun φ S => (fr φ S).bind fun ds φ S => ofO (biD p (ds.map (look φ S))) φ S) := by
  refine PE.to (pe_bi ok hg hm ha hs hpl) fun F μ φ S σ H Q rl po => ?_
  refine ⟨F, μ, φ, S, rl, PoE.fstA po fun xs φ1 S1 μ1 H1 vs n1 r1 po1 => ?_⟩
  obtain ⟨d, e, po1⟩ := PoE.opt1 po1
  exact ⟨F, μ1, φ1, S1, σ, _, d, n1.rl, n1.rl.lookAll r1, e, fin2 po1⟩

/-! ### isinstance -/
def tyNms : List String := ["int", "bool", "str", "tuple", "list", "dict"]
theorem boot_tyN {T : String} (h : T ∈ tyNms) : bootBuiltins (Str.ofString T) = some (.type T) ∧ Str.ofString T ≠ "__name__" ∧ (Str.ofString T == ("__debug__" : Str)) = false := by
  simp only [tyNms, List.mem_cons, List.not_mem_nil, or_false] at h
  rcases h with rfl | rfl | rfl | rfl | rfl | rfl <;> decide +kernel
theorem pe_tyN {T : String} (h : T ∈ tyNms) (hg : Gl X (Str.ofString T)) (hm : X.mg (Str.ofString T) = none) : PE X (.Name (Str.ofString T) p1) (tC (.ty T)) :=
  pe_bltn hg hm (boot_tyN h).1 rfl (boot_tyN h).2.1 (boot_tyN h).2.2
def d0s : List String := ["NoneType", "bool", "int", "str", "tuple", "list", "dict"]
def supT (t : String) : List String := if t = "bool" then ["bool", "int"] else [t]
theorem kit_all : ∀ t ∈ d0s, ∀ T ∈ tyNms, kitB t T = some ((supT t).contains T) := by decide +kernel
theorem tys_ok {P : Pm} {K : PySem.W.Frag} (hK : P.K = K) {d : D} {v : V} (h : RT P H d v) (n : tysOf d ≠ []) : ∃ t ∈ d0s, tysOf d = supT t ∧ TyX K H v (.type t) := by
  subst hK
  cases d <;> simp only [tysOf, ne_eq, not_true_eq_false] at n
  · cases h; exact ⟨"NoneType", by decide, rfl, .base .non⟩
  · cases h; exact ⟨"bool", by decide, rfl, .base (.bl _)⟩
  · cases h; exact ⟨"int", by decide, rfl, .base (.int _)⟩
  · cases h; exact ⟨"str", by decide, rfl, .base (.str _)⟩
  · obtain ⟨a, vs, rfl, h1, _⟩ := h
    refine ⟨"tuple", by decide, rfl, ?_⟩
    rcases h1 with (h1 | ⟨ob, h1⟩) | ⟨o, its, n, z⟩
    · exact .base (.tup h1)
    · exact .fTuple h1
    · exact .kTuple z.1 z.2.1
  · obtain ⟨a, vs, rfl, h1, _⟩ := h
    refine ⟨"list", by decide, rfl, ?_⟩
    rcases h1 with h1 | ⟨ob, h1⟩
    · exact .base (.lst h1)
    · exact .base (.frz h1)
  · obtain ⟨a, vs, rfl, h1, _⟩ := h
    refine ⟨"dict", by decide, rfl, ?_⟩
    rcases h1 with h1 | ⟨ob, h1⟩
    · exact .base (.dK h1)
    · exact .fDict h1
  · exact h.elim
theorem kit_any {K : PySem.W.Frag} {t : String} (ht : t ∈ d0s) : ∀ ts : List String, (∀ T ∈ ts, T ∈ tyNms) → PySem.W.kitAny K (.type t) (ts.map .type) = some (ts.any fun T => (supT t).contains T)
  | [], _ => rfl
  | T :: ts, h => by
    have h1 := kit_all t ht T (h T List.mem_cons_self)
    have h2 := kit_any (K := K) ht ts fun T m => h T (List.mem_cons_of_mem _ m)
    rw [List.map_cons, List.any_cons]
    refine kitAny_cons (kit_ty h1) (fun e => ?_) fun e => ?_
    · rw [e, Bool.false_or]; exact h2
    · rw [e, Bool.true_or]
theorem not_star (h : ∀ x p, e ≠ .Starred x p) : starEach (e :: es) X.env = (false, eval e X.env) :: starEach es X.env := by
  cases e <;> first | rfl | exact absurd rfl (h _ _)
/-- isinstance(a, T) -/
theorem ge_isi {T : String} {p2 : Pos} (hT : T ∈ tyNms) (ha : GE X W a fa) (hg : Gl X "isinstance") (hm : X.mg "isinstance" = none) (hgT : Gl X (Str.ofString T)) (hmT : X.mg (Str.ofString T) = none) (hs : starEach [a, .Name (Str.ofString T) p2] X.env = (false, eval a X.env) :: starEach [.Name (Str.ofString T) p2] X.env) :
    GE X W (.Call (.Name "isinstance" p1) [a, .Name (Str.ofString T) p2] [] pos) (fun φ S => (fa φ S).bind fun x φ S => match tysOf (look φ S x) with
      | [] => .no
      | us => .ok (.bl ([T].any fun t => us.contains t)) φ S) := by
  refine PE.to (pe_callB call_isi hg hm PyProof.Rows.boot_isinstance (pa_cons ha (pa_cons (pe_tyN hT hgT hmT) pa_nil) hs) (by decide) (by decide) hs rfl) fun F μ φ S σ H Q rl po => ?_
  refine ⟨F, μ, φ, S, rl, PoE.fst po fun x φ1 S1 μ1 H1 v n1 r1 po1 => ?_⟩
  split at po1
  · exact po1.elim
  · rename_i us hn
    obtain ⟨t, ht, e1, ty⟩ := tys_ok (K := X.K) rfl (n1.rl.look r1) hn
    have k := kit_all t ht T hT
    refine ⟨v, .ty T, .type t, .type T, _, rfl, .ty T, ty, kit_ty k, ?_⟩
    have := PoE.val po1 n1.rl (RD.rx (d := .bl _) rfl)
    rw [e1] at this
    simpa using this
theorem pe_tyNs : ∀ {ts : List String} {ps : List Pos}, ps.length = ts.length → (∀ T ∈ ts, T ∈ tyNms ∧ Gl X (Str.ofString T) ∧ X.mg (Str.ofString T) = none) → PA X (List.zipWith (fun T p => Expr.Name (Str.ofString T) p) ts ps) (fun σ H Q => Q (ts.map .ty) H)
  | [], [], _, _ => pa_nil
  | T :: ts, p :: ps, hl, h => by
    obtain ⟨h1, h2, h3⟩ := h T List.mem_cons_self
    exact pa_cons (pe_tyN h1 h2 h3) (pe_tyNs (ts := ts) (ps := ps) (by simpa using hl) fun T m => h T (List.mem_cons_of_mem _ m)) rfl
theorem ges_cls : ∀ ts : List String, Paired ClsV (ts.map .ty) (ts.map .type)
  | [] => .nil
  | T :: ts => .cons (.ty T) (ges_cls ts)
/-- isinstance(a, (T1, T2, ..)) -/
theorem ge_isiT {ts : List String} {ps : List Pos} {k : Nat} {tpos : Pos} (hl : ps.length = ts.length) (hz : ts.length ≤ sizeLine) (hT : ∀ T ∈ ts, T ∈ tyNms ∧ Gl X (Str.ofString T) ∧ X.mg (Str.ofString T) = none) (ha : GE X W a fa) (hg : Gl X "isinstance") (hm : X.mg "isinstance" = none)
    (hs : ∀ b, starEach [a, b] X.env = (false, eval a X.env) :: starEach [b] X.env) :
    GE X W (.Call (.Name "isinstance" p1) [a, .Tuple (List.zipWith (fun T p => Expr.Name (Str.ofString T) p) ts ps) k tpos] [] pos) (fun φ S => (fa φ S).bind fun x φ S => match tysOf (look φ S x) with
      | [] => .no
      | us => .ok (.bl (ts.any fun t => us.contains t)) φ S) := by
  refine PE.to (pe_callB call_isiT hg hm PyProof.Rows.boot_isinstance (pa_cons ha (pa_cons (pe_tup (pe_tyNs hl hT)) pa_nil) (hs _)) (by decide) (by decide) (hs _) rfl) fun F μ φ S σ H Q rl po => ?_
  refine ⟨F, μ, φ, S, rl, PoE.fst po fun x φ1 S1 μ1 H1 v n1 r1 po1 => ?_⟩
  refine ⟨by rw [List.length_map]; exact hz, fun p hp => ?_⟩
  have nx := Nx.new (o := .tup (ts.map .ty)) n1.rl hp
  split at po1
  · exact po1.elim
  · rename_i us hn
    obtain ⟨t, ht, e1, ty⟩ := tys_ok (K := X.K) rfl (nx.rl.look (nx.rx r1)) hn
    refine ⟨v, p, ts.map .ty, .type t, ts.map .type, _, rfl, upd_same, ges_cls ts, ty, kit_any ht ts fun T m => (hT T m).1, ?_⟩
    have := po1 μ1 _ _ nx (RD.rx (d := .bl _) rfl)
    rw [e1] at this
    exact this

/-! ### writing through a reference -/
theorem own_set {i : Nat} {d : D} (h : ∃ d0, φ[i]? = some (.own true d0)) : ∀ (j : Nat) x, Own (φ.set i (.own true d)) σ j x ↔ Own φ σ j x := fun j x => by
  obtain ⟨d0, h⟩ := h
  have hi : i < φ.length := (List.getElem?_eq_some_iff.mp h).1
  unfold Own
  by_cases e : i = j
  · subst e
    rw [List.getElem?_set_self hi]
    constructor
    · rintro ⟨w, c, h1, h2⟩; exact ⟨true, d0, h, h2⟩
    · rintro ⟨w, c, h1, h2⟩; exact ⟨true, d, rfl, h2⟩
  · rw [List.getElem?_set_ne e]
theorem pm_set {i : Nat} {d : D} (h : ∃ d0, φ[i]? = some (.own true d0)) : pm X F μ (φ.set i (.own true d)) σ = pm X F μ φ σ := by
  have e : muOf μ (φ.set i (.own true d)) σ = muOf μ φ σ := by
    funext x
    simp only [muOf, own_set h]
  unfold pm
  rw [e]
/-- neither a table nor a code object -/
theorem tab_upd {p : Addr} {o : HO} (h : ∀ u, H p = some u → (∀ ps, u ≠ .tbl ps) ∧ ∀ g, u ≠ .ext g) (t : TabOk H) : TabOk (upd H p o) := fun q hq => by
  obtain ⟨ps, h1, h2, h3⟩ := t q hq
  refine ⟨ps, by rw [upd_ne (fun z => (h _ (by rw [← z]; exact h1)).1 ps rfl)]; exact h1, h2, fun pos cv hc => ?_⟩
  obtain ⟨c, e1, e2⟩ := h3 pos cv hc
  exact ⟨c, e1, by rw [upd_ne (fun z => (h _ (by rw [← z]; exact e2)).2 _ rfl)]; exact e2⟩
theorem tab_mu (rl : Rl X F μ φ S σ H) {p : Addr} {o : HO} (h : muOf μ φ σ p) (t : TabOk H) : TabOk (upd H p o) := tab_upd (fun u e => by
  rcases rl.muThere h with ⟨vs, q⟩ | ⟨vs, q⟩ <;> (rw [q] at e; cases e; exact ⟨(fun _ z => nomatch z), (fun _ z => nomatch z)⟩)) t
theorem Ext.put (rl : Rl X F μ φ S σ H) {p : Addr} {o : HO} (h : muOf μ φ σ p) (hn : nt (upd H p o) p := by exact nt.upd rfl) : Ext (pm X F μ φ σ) H (pm X F μ φ σ) (upd H p o) :=
  ⟨rfl, rfl, fun b u f e n => by
      have nb : b ≠ p := fun z => n (by rw [z]; exact h)
      rcases e with e | ⟨ob, e⟩
      · exact .inl (by rw [upd_ne nb]; exact e)
      · exact .inr ⟨ob, by rw [upd_ne nb]; exact e⟩,
    fun b xs e => by
      have nb : b ≠ p := fun z => by
        subst z
        rcases rl.muThere h with ⟨vs, q⟩ | ⟨vs, q⟩ <;> (rcases e with e | ⟨ob, e⟩ <;> (rw [q] at e; cases e))
      rcases e with e | ⟨ob, e⟩
      · exact .inl (by rw [upd_ne nb]; exact e)
      · exact .inr ⟨ob, by rw [upd_ne nb]; exact e⟩,
    fun _ _ z => z, fun _ _ z => z, fun _ _ z => z, fun _ z => .inl z, fun b e => by
      by_cases z : b = p
      · rw [z]; exact hn
      · exact e.eq (upd_ne z), tab_mu rl h⟩
theorem RH.mono {P P' : Pm} (e : Ext P H P' H') {d : D} {x : Addr} (k : H' x = H x) (h : RH P H d x) : RH P' H' d x := by
  cases d <;> first | exact False.elim h | skip
  · obtain ⟨vs, h, t⟩ := h; exact ⟨vs, by rw [k]; exact h, t.mono e⟩
  · obtain ⟨vs, h, t⟩ := h; exact ⟨vs, by rw [k]; exact h, RDk.mono e t⟩
theorem Rl.put (rl : Rl X F μ φ S σ H) {r d : D} {v : V} (hr : RX X F μ φ σ H r v) (hp : putRef r d φ S = some (φ', S')) :
    ∃ p, v = .ref p ∧ muOf μ φ σ p ∧ RH (pm X F μ φ σ) H (Gx.look φ S r) p ∧ ∀ o, RH (pm X F μ φ σ) (upd H p o) d p → Nx X F μ φ σ H μ φ' S' (upd H p o) := by
  cases r <;> try (simp only [putRef, reduceCtorEq] at hp)
  case oref i =>
    split at hp
    · rename_i d0 h0
      simp only [Option.some.injEq, Prod.mk.injEq] at hp
      obtain ⟨e1, e2⟩ := hp
      subst e1 e2
      obtain ⟨p, e, hown⟩ := hr
      have hq := hown
      obtain ⟨w, c, h1, h2⟩ := hown
      rw [h0] at h1
      cases h1
      obtain ⟨p', h3, rh⟩ := rl.own h0
      rw [h2] at h3
      cases h3
      have hm : muOf μ φ σ p := .inr ⟨i, hq⟩
      refine ⟨p, e, hm, by simpa [Gx.look, h0] using rh, fun o ho => ?_⟩
      have ex := Ext.put (o := o) rl hm (RH.nt ho)
      have pe := pm_set (X := X) (F := F) (μ := μ) (σ := σ) (i := i) (d := d) ⟨d0, h0⟩
      have oe := own_set (σ := σ) (i := i) (d := d) ⟨d0, h0⟩
      have hi : i < φ.length := (List.getElem?_eq_some_iff.mp h0).1
      refine ⟨⟨rl.lenS, by rw [List.length_set]; exact rl.lenF, fun n x q z1 z2 => ?_, fun j s w z1 z2 => ?_, rl.n1, fun n j q z1 z2 => rl.n2 n j q z1 ((oe j q).mp z2), fun j k q z1 z2 => rl.n3 j k q ((oe j q).mp z1) ((oe k q).mp z2), fun q z => ex.there q (rl.f1 q z), fun q z1 z2 => ?_, ex.tb rl.tab⟩, by rw [pe]; exact ex, fun j w x z => ?_, ?_⟩
      · rw [pe]
        have nq : q ≠ p := fun z => by rw [z] at z2; exact rl.n2 n i p z2 hq
        exact (rl.bx n x q z1 z2).mono ex (upd_ne nq)
      · rw [pe]
        by_cases ej : i = j
        · subst ej
          rw [List.getElem?_set_self hi] at z1
          cases z1
          rw [h2] at z2
          cases z2
          exact ⟨p, rfl, ho⟩
        · rw [List.getElem?_set_ne ej] at z1
          have q := rl.sl j s w z1 z2
          cases s with
          | em => trivial
          | v d => obtain ⟨v, e1, r⟩ := q; exact ⟨v, e1, RD.mono ex r⟩
          | own b d =>
            obtain ⟨x, e1, r⟩ := q
            have nx : x ≠ p := fun z => by
              subst z
              subst e1
              exact ej (rl.n3 i j x hq ⟨b, d, z1, z2⟩)
            exact ⟨x, e1, r.mono ex (upd_ne nx)⟩
      · refine rl.f2 q z1 ?_
        rcases z2 with z2 | ⟨j, z2⟩
        · exact .inl z2
        · exact .inr ⟨j, (oe j q).mp z2⟩
      · by_cases ej : i = j
        · subst ej
          rw [h0] at z
          cases z
          exact ⟨d, List.getElem?_set_self hi⟩
        · exact ⟨x, by rw [List.getElem?_set_ne ej]; exact z⟩
      · exact ⟨fun q z => upd_ne fun z1 => rl.f2 q z (by rw [z1]; exact hm), fun j x z => by
          have ej : i ≠ j := fun z1 => by subst z1; rw [h0] at z; cases z
          exact ⟨by rw [List.getElem?_set_ne ej]; exact z, fun y hy => upd_ne fun z1 => ej (rl.n3 i j p hq ⟨false, x, z, by rw [← z1]; exact hy⟩)⟩⟩
    · cases hp
  case box n =>
    split at hp
    · rename_i hn
      simp only [Option.some.injEq, Prod.mk.injEq] at hp
      obtain ⟨e1, e2⟩ := hp
      subst e1 e2
      obtain ⟨p, e, hb⟩ := hr
      have hb : μ[n]? = some p := hb
      have hm : muOf μ φ σ p := .inl ⟨n, hb⟩
      have e2 : S[n]? = some S[n] := List.getElem?_eq_getElem hn
      refine ⟨p, e, hm, by simpa [Gx.look, e2] using rl.bx n _ p e2 hb, fun o ho => ?_⟩
      have ex := Ext.put (o := o) rl hm (RH.nt ho)
      refine ⟨⟨by rw [List.length_set]; exact rl.lenS, rl.lenF, fun m x q z1 z2 => ?_, fun j s w z1 z2 => ?_, rl.n1, rl.n2, rl.n3, fun q z => ex.there q (rl.f1 q z), rl.f2, ex.tb rl.tab⟩, ex, fun j w x z => ⟨x, z⟩, ⟨fun q z => upd_ne fun z1 => rl.f2 q z (by rw [z1]; exact hm), fun j x z => ⟨z, fun y hy => upd_ne fun z1 => rl.n2 n j p hb ⟨false, x, z, by rw [← z1]; exact hy⟩⟩⟩⟩
      · by_cases ej : n = m
        · subst ej
          rw [List.getElem?_set_self hn] at z1
          cases z1
          rw [hb] at z2
          cases z2
          exact ho
        · rw [List.getElem?_set_ne ej] at z1
          have nq : q ≠ p := fun z => ej (rl.n1 n m p hb (by rw [← z]; exact z2))
          exact (rl.bx m x q z1 z2).mono ex (upd_ne nq)
      · have q := rl.sl j s w z1 z2
        cases s with
        | em => trivial
        | v d => obtain ⟨v, e1, r⟩ := q; exact ⟨v, e1, RD.mono ex r⟩
        | own b d =>
          obtain ⟨x, e1, r⟩ := q
          have nx : x ≠ p := fun z => by
            subst z
            subst e1
            exact rl.n2 n j x hb ⟨b, d, z1, z2⟩
          exact ⟨x, e1, r.mono ex (upd_ne nx)⟩
    · cases hp
end
end Gx
set_option Elab.async false
set_option linter.all false
set_option maxRecDepth 100000
/-! Gx8: methods that change; subscript stores; calls of the text's defs. -/
namespace Gx
open PySem PySem.Spec PyProof.Rows L2
section
variable {X : Cx} {W : Option WX} {F : Addr → Prop} {μ μ' : List Addr} {φ φ' : Fr} {S S' : Sto} {σ : L2.St} {H H' : Hp} {Q : VK} {a b c e o : Expr} {es : List Expr} {pos p1 : Pos} {fa fb fc fo : Fr → Sto → R D} {fr : Fr → Sto → R (List D)}
/-- extend by any readable list -/
theorem mt_extendR : MtM X "list.extend" (fun x vs H Q => ∃ l b xs zs, x = .ref l ∧ vs = [.ref b] ∧ H l = some (.lst xs) ∧ Rd H b (.lst zs) ∧ xs.length + zs.length ≤ sizeLine ∧ Q .non (upd H l (.lst (xs ++ zs)))) := by
  intro pins s σ H x vs v us Q I rx rv h
  obtain ⟨l, b, xs, zs, rfl, rfl, hH, hB, hz, q⟩ := h
  cases rx
  obtain ⟨u, rfl, ru⟩ := rv.one
  cases ru
  obtain ⟨z, its, n, r, hl, e⟩ := I.lstM hH
  obtain ⟨z2, its2, n2, r2, hl2, e2⟩ := lstR I hB
  have hsz : its.toArray.size + its2.toArray.size ≤ sizeLine := by rw [List.size_toArray, List.size_toArray]; omega
  refine call_meets F.slot_list_extend ⟨_, e, rfl⟩ F.entry_list_extend (F.args_list_extend_2 _ _)
    (AutoSeq1.list_extend_list_list_0 l its.toArray n b its2.toArray n2 (by rw [notLongL hsz, Bool.and_false]; exact Bool.false_ne_true) (by rw [List.size_toArray]; omega) (by omega)) ⟨e, e2, ?_⟩
  refine ⟨.non, _, I.lset (its' := its ++ its2) hH e (by simp) (r.append r2) ?_, rfl, q⟩
  rw [List.length_append]
  omega
theorem map1 {α β : Type} {f : α → β} {l : List α} {y : β} (h : l.map f = [y]) : ∃ d, l = [d] ∧ f d = y := by
  match l, h with
  | [d], h => exact ⟨d, rfl, by simpa using h⟩
def idMu : Mu → String | .append => "list.append" | .extend => "list.extend" | .pop => "list.pop"
def nmMu : Mu → Str | .append => "append" | .extend => "extend" | .pop => "pop"
def argMu (m : Mu) (φ : Fr) (S : Sto) (d : D) : D := if m = .extend then look φ S d else d
def rM (X : Cx) (m : Mu) : V → List V → Hp → VK → Prop := fun v vs H Q => ∃ F μ φ S σ r ds p q, Rl X F μ φ S σ H ∧ RX X F μ φ σ H r v ∧ RXs X F μ φ σ H ds vs ∧ muD m (look φ S r) (ds.map (argMu m φ S)) = some p ∧ putRef r p.1 φ S = some q ∧
  ∀ H' w, Nx X F μ φ σ H μ q.1 q.2 H' → RD (pm X F μ φ σ) H' p.2 w → Q w H'
theorem rxs1 {d : D} {xs : List V} (h : RXs X F μ φ σ H [d] xs) : ∃ v, xs = [v] ∧ RX X F μ φ σ H d v := by
  obtain ⟨v, vr, e, h, t⟩ := h
  rw [show vr = [] from t] at e
  exact ⟨v, e, h⟩
theorem mu_ok (m : Mu) : MtM X (idMu m) (rM X m) := by
  intro pins s σ0 H x vs v us Q I rx rv h
  obtain ⟨F, μ, φ, S, σ, r, ds, p, q, rl, hr, hd, hm, hp, k⟩ := h
  obtain ⟨l, rfl, hmu, rh, nx⟩ := rl.put (S' := q.2) (φ' := q.1) hr hp
  cases m
  case append =>
    simp only [muD] at hm
    split at hm <;> try simp only [reduceCtorEq] at hm
    rename_i l0 x0 e0 e1
    split at hm
    · simp only [Option.some.injEq] at hm
      subst hm
      rename_i hz
      obtain ⟨d, rfl, e3⟩ := map1 e1
      · have e1 : d = x0 := e3
        subst e1
        obtain ⟨w, rfl, hw⟩ := rxs1 hd
        rw [e0] at rh
        obtain ⟨ws, hH, t⟩ := rh
        refine mt_append pins s σ0 H _ _ v us Q I rx rv ⟨l, ws, w, rfl, rfl, hH, by rw [← t.length]; exact hz.1, ?_⟩
        have ex := Ext.put (o := .lst (ws ++ [w])) rl hmu
        exact k _ _ (nx _ ⟨_, upd_same, RDs.append (t.mono ex) ⟨w, [], rfl, RD.mono ex (hw.keep hz.2), rfl⟩⟩) rfl
    · cases hm
  case extend =>
    simp only [muD] at hm
    split at hm <;> try simp only [reduceCtorEq] at hm
    rename_i l0 x0 e0 e1
    split at hm
    · simp only [Option.some.injEq] at hm
      subst hm
      rename_i hz
      obtain ⟨d, rfl, e3⟩ := map1 e1
      · have e1 : look φ S d = .lst x0 := e3
        obtain ⟨w, rfl, hw⟩ := rxs1 hd
        have rt := rl.look hw
        rw [e1] at rt
        obtain ⟨b, zs, rfl, hb, tb⟩ := rt
        rw [e0] at rh
        obtain ⟨ws, hH, t⟩ := rh
        refine mt_extendR pins s σ0 H _ _ v us Q I rx rv ⟨l, b, ws, zs, rfl, rfl, hH, hb, by rw [← t.length, ← tb.length]; exact hz, ?_⟩
        have ex := Ext.put (o := .lst (ws ++ zs)) rl hmu
        exact k _ _ (nx _ ⟨_, upd_same, (RDs.append t tb).mono ex⟩) rfl
    · cases hm
  case pop =>
    simp only [muD] at hm
    split at hm <;> try simp only [reduceCtorEq] at hm
    · rename_i l0 e0 e1
      obtain ⟨x, hx, rfl⟩ := Option.map_eq_some_iff.mp hm
      have en : ds = [] := by simpa using e1
      · subst en
        cases (show vs = [] from hd)
        rw [e0] at rh
        obtain ⟨ws, hH, t⟩ := rh
        obtain ⟨w, h1, h2⟩ := t.get hx
        refine mt_pop pins s σ0 H _ _ v us Q I rx rv ⟨l, ws, w, rfl, rfl, hH, by rw [← t.length]; exact h1, ?_⟩
        have ex := Ext.put (o := .lst ws.dropLast) rl hmu
        exact k _ _ (nx _ ⟨_, upd_same, t.dropLast.mono ex⟩) (RD.mono ex h2)
    · rename_i l0 i0 e0 e1
      split at hm
      · rename_i hz
        obtain ⟨j, hj, hm⟩ := Option.bind_eq_some_iff.mp hm
        obtain ⟨x, hx, rfl⟩ := Option.map_eq_some_iff.mp hm
        obtain ⟨d, rfl, e3⟩ := map1 e1
        · have e1 : d = .int i0 := e3
          subst e1
          obtain ⟨w, rfl, hw⟩ := rxs1 hd
          cases hw
          rw [e0] at rh
          obtain ⟨ws, hH, t⟩ := rh
          obtain ⟨w, h1, h2⟩ := t.get hx
          refine mt_popAt pins s σ0 H _ _ v us Q I rx rv ⟨l, ws, i0, j, w, rfl, rfl, hH, hz.1, hz.2, by rw [← t.length]; exact hj, h1, ?_⟩
          have ex := Ext.put (o := .lst (ws.eraseIdx j)) rl hmu
          exact k _ _ (nx _ ⟨_, upd_same, (t.eraseIdx j).mono ex⟩) (RD.mono ex h2)
      · cases hm
theorem muRes {m : Mu} {x : D} {ds : List D} {p : D × D} (h : muD m x ds = some p) : True := trivial
def evMu (m : Mu) (fo : Fr → Sto → R D) (fr : Fr → Sto → R (List D)) : Fr → Sto → R D := fun φ S => (fo φ S).bind fun r φ S => if !isLst (look φ S r) then .no else (fr φ S).bind fun ds φ S =>
  (ofO (muD m (look φ S r) (ds.map fun d => if m = .extend then look φ S d else d)) φ S).bind fun p φ S => (ofO (putRef r p.1 φ S) φ S).bind fun q _ _ => .ok p.2 q.1 q.2
theorem put_pm {r d : D} (hp : putRef r d φ S = some (φ', S')) : pm X F μ φ' σ = pm X F μ φ σ := by
  cases r <;> try (simp only [putRef, reduceCtorEq] at hp)
  case oref i =>
    split at hp
    · rename_i d0 h0
      simp only [Option.some.injEq, Prod.mk.injEq] at hp
      obtain ⟨e1, e2⟩ := hp
      subst e1 e2
      exact pm_set ⟨d0, h0⟩
    · cases hp
  case box n =>
    split at hp
    · simp only [Option.some.injEq, Prod.mk.injEq] at hp
      obtain ⟨e1, e2⟩ := hp
      subst e1
      rfl
    · cases hp
theorem mu_read {m : Mu} {σ : L2.St} {H : Hp} {Q : VK} {t : TA} (h : tE X W (evMu m fo fr) σ H Q) (ht : t = tA X W fr ∨ (es = [] ∧ t = tNil ∧ fr = fun φ S => .ok [] φ S)) : tBM X.K "list" (rM X m) (tE X W fo) t σ H Q := by
  obtain ⟨F, μ, φ, S, rl, po⟩ := h
  refine ⟨F, μ, φ, S, rl, PoE.fst po fun r φ1 S1 μ1 H1 v n1 r1 po1 => ?_⟩
  cases hl : isLst (look φ1 S1 r) with
  | false => rw [hl] at po1; exact po1.elim
  | true =>
    rw [hl] at po1
    have rt := n1.rl.look r1
    have ty : tyV X.K "list" v H1 := by
      cases e : look φ1 S1 r <;> rw [e] at hl <;> simp only [isLst, reduceCtorEq] at hl
      rw [e] at rt
      obtain ⟨b, ws, rfl, h1, _⟩ := rt
      exact .inl ⟨rfl, ws, .inl h1⟩
    have fin : ∀ {ds : List D} {φ2 : Fr} {S2 : Sto} {μ2 : List Addr} {H2 : Hp} {vs : List V}, Nx X F μ1 φ1 σ H1 μ2 φ2 S2 H2 → RXs X F μ2 φ2 σ H2 ds vs →
        PoE X W F μ2 φ2 σ H2 ((ofO (muD m (look φ2 S2 r) (ds.map fun d => if m = .extend then look φ2 S2 d else d)) φ2 S2).bind fun p φ S => (ofO (putRef r p.1 φ S) φ S).bind fun q _ _ => .ok p.2 q.1 q.2) Q → rM X m v vs H2 Q := fun {ds φ2 S2 μ2 H2 vs} n2 r2 po2 => by
      obtain ⟨p, e1, po2⟩ := PoE.opt po2
      obtain ⟨q, e2, po2⟩ := PoE.opt po2
      refine ⟨F, μ2, φ2, S2, σ, r, ds, p, q, n2.rl, n2.rx r1, r2, e1, e2, fun H' w nx rd => po2 μ2 H' w nx ?_⟩
      have := put_pm (X := X) (F := F) (μ := μ2) (σ := σ) (φ' := q.1) (S' := q.2) e2
      rw [← this] at rd
      exact rd.rx
    refine ⟨ty, ?_⟩
    rcases ht with rfl | ⟨_, rfl, rfl⟩
    · exact ⟨F, μ1, φ1, S1, n1.rl, PoE.fstA po1 fun ds φ2 S2 μ2 H2 vs n2 r2 po2 => fin n2 r2 po2⟩
    · exact fin (ds := []) (vs := []) (Nx.refl n1.rl) rfl po1
theorem ge_mu {m : Mu} {apos cpos : Pos} (ho : GE X W o fo) (ha : GA X W (e :: es) fr)
    (hbase : attributeBase o (nmMu m) X.env (eval o X.env) = eval o X.env)
    (hfew : ((backTo cpos (starEach (e :: es) X.env)).all (fun x => !x.1) && (backToKw cpos (keywordEach [] X.env)).all (fun x => x.1.isSome)
      && decide ((e :: es).length + ([] : List Keyword).length + (if ([] : List Keyword).isEmpty then 0 else 1) < 30)) = true)
    (hline : (apos.endLine == cpos.line) = true) (hs : starEach (e :: es) X.env = (false, eval e X.env) :: starEach es X.env) (hplain : (backTo cpos (starEach es X.env)).any (·.1) = false) :
    GE X W (.Call (.Attribute o (nmMu m) apos) (e :: es) [] cpos) (evMu m fo fr) := by
  have h : PE X (.Call (.Attribute o (nmMu m) apos) (e :: es) [] cpos) (tBM X.K "list" (rM X m) (tE X W fo) (tA X W fr)) := by
    have hm := mu_ok (X := X) m
    cases m
    · exact pe_bm PySem.F.plainAttrs_list PySem.F.slot_list_append PySem.F.type_list_append hm ho ha hbase hfew hline hs hplain
    · exact pe_bm PySem.F.plainAttrs_list PySem.F.slot_list_extend PySem.F.type_list_extend hm ho ha hbase hfew hline hs hplain
    · exact pe_bm PySem.F.plainAttrs_list PySem.F.slot_list_pop PySem.F.type_list_pop hm ho ha hbase hfew hline hs hplain
  exact h.imp fun σ H Q q => mu_read (es := es) q (.inl rfl)
theorem ge_mu0 {apos cpos : Pos} (ho : GE X W o fo) (hbase : attributeBase o (nmMu .pop) X.env (eval o X.env) = eval o X.env) (hline : (apos.endLine == cpos.line) = true) :
    GE X W (.Call (.Attribute o (nmMu .pop) apos) [] [] cpos) (evMu .pop fo fun φ S => .ok [] φ S) :=
  (pe_bm0 PySem.F.plainAttrs_list PySem.F.slot_list_pop PySem.F.type_list_pop (mu_ok (X := X) .pop) ho hbase hline).imp fun σ H Q q => mu_read (es := []) q (.inr ⟨rfl, rfl, rfl⟩)
end
end Gx
set_option Elab.async false
set_option linter.all false
set_option maxRecDepth 100000
/-! Gx9: calls of the text's defs; subscript stores; shared objects; dict displays. -/
namespace Gx
open PySem PySem.Spec PyProof.Rows L2
section
variable {X Y : Cx} {W : Option WX} {F : Addr → Prop} {μ μ' : List Addr} {φ φ' : Fr} {S S' : Sto} {σ : L2.St} {H H' : Hp} {Q : VK} {a b c e o : Expr} {es : List Expr} {pos p1 : Pos} {fa fb fc fo : Fr → Sto → R D} {fr : Fr → Sto → R (List D)}
theorem pm_cx (hK : Y.K = X.K) (hm : Y.mg = X.mg) : pm Y F μ φ σ = pm X F μ φ σ := by
  unfold pm
  rw [hK, hm]
theorem Rl.cx (hK : Y.K = X.K) (hm : Y.mg = X.mg) (rl : Rl X F μ φ S σ H) : Rl Y F μ φ S σ H := by
  refine ⟨rl.lenS, rl.lenF, fun n d a h1 h2 => ?_, fun i s w h1 h2 => ?_, rl.n1, rl.n2, rl.n3, rl.f1, rl.f2, rl.tab⟩
  · rw [pm_cx hK hm]; exact rl.bx n d a h1 h2
  · rw [pm_cx hK hm]; exact rl.sl i s w h1 h2
theorem Nx.cx (hK : Y.K = X.K) (hm : Y.mg = X.mg) (n : Nx X F μ φ σ H μ' φ' S' H') : Nx Y F μ φ σ H μ' φ' S' H' :=
  ⟨n.rl.cx hK hm, by rw [pm_cx hK hm, pm_cx hK hm]; exact n.ext, n.shape, n.fx⟩

/-! ### calls -/
/-- a call's end, seen from within -/
def PoC (X : Cx) (xx : Prop) (F : Addr → Prop) (μ : List Addr) (H : Hp) (r : RC) (Q : VK) (E : XK) : Prop := match r with
  | .ok d S' => ∀ μ' H' v, Nx X F μ [] [] H μ' [] S' H' → RD (pm X F μ' [] []) H' d v → Q v H'
  | .exc x S' => xx ∧ ∀ μ' H' cls dx, Nx X F μ [] [] H μ' [] S' H' → ExOk (pm X F μ' [] []) H' x cls dx → E cls dx H'
  | .no => False
/-- a def's promise: what the evaluator says -/
def spRun (K : PySem.W.Frag) (mg : Str → Option Value) (xx : Prop) (c : Call) (f : Str) : Sp := fun vs H Q E => ∃ (X : Cx) (F : Addr → Prop) (μ : List Addr) (S : Sto) (as : List D), X.K = K ∧ X.mg = mg ∧ Rl X F μ [] S [] H ∧ RDs (pm X F μ [] []) H as vs ∧ PoC X xx F μ H (c f as S) Q E
structure CallP (X : Cx) (W : Option WX) (c : Call) (f : Str) : Prop where
  ex : ∃ a, X.mg f = some (.ref a) ∧ PySem.W.keepIn X.K (.ref a) = true ∧ ∀ (pins : List (Addr × Obj)) (s : Shared) (σ : L2.St) (H : Hp) (vs : List V) (us : List Value) (Q : VK), L2.Inv X pins σ H s → Vals vs us →
    spRun X.K X.mg (W ≠ none) c f vs H Q (fun cls dx H' => Wi W cls dx σ H') → wpAny (model X.prog X.w) X.A (call (.ref a) us) (EP X pins σ Q) X.xe s
  db : (f == ("__debug__" : Str)) = false
theorem passL {E : XK} {X : Cx} (h : ∀ c d H, ¬ E c d H) : Passes (L2.CX X.prog X.w) X E := fun _ _ _ _ _ _ _ ⟨_, _, _, _, _, _, _, _, _, _, _, _, z⟩ => (h _ _ _ z).elim
/-- a def that may raise -/
theorem CallP.ofX {c : Call} {f : Str} {k : Nat} {a : Addr} {fd : FuncData} {ps : List Str} (F : FnOk X.prog X.w X.K X.mg X.base (L2.CX X.prog X.w) k a fd ps (spRun X.K X.mg True c f)) (hr : Room k X.A) (hm : X.mg f = some (.ref a)) (hk : PySem.W.keepIn X.K (.ref a) = true) (hb : L2.Binds X.K fd ps [])
    (hd : (f == ("__debug__" : Str)) = false) (tk : ∀ W1, W = some W1 → Takes X W1) : CallP X W c f := by
  refine ⟨⟨a, hm, hk, fun pins s σ H vs us Q I r h => ?_⟩, hd⟩
  have h' : ∀ {E : XK}, (∀ cls dx H', Wi W cls dx σ H' → E cls dx H') → spRun X.K X.mg True c f (vs ++ []) H Q E := fun {E} hE => by
    rw [List.append_nil]
    obtain ⟨X', F, μ, S, as, h1, h2, rl, rd, po⟩ := h
    refine ⟨X', F, μ, S, as, h1, h2, rl, rd, ?_⟩
    revert po
    cases c f as S with
    | ok d S' => exact fun po => po
    | exc x S' => exact fun po => ⟨trivial, fun μ' H' cls dx n e => hE _ _ _ (po.2 μ' H' cls dx n e)⟩
    | no => exact fun po => po
  cases W with
  | none => exact run_fn (dvs := []) (ds := []) (E := fun _ _ _ => False) F hr hb .nil (passL fun _ _ _ z => z) I r (h' fun _ _ _ z => z)
  | some W1 => exact run_fnSD (dvs := []) (ds := []) (E := WE W1) F hr hb .nil (passAt (tk W1 rfl) σ) I r (h' fun _ _ _ z => z)
theorem CallP.of {c : Call} {f : Str} {k : Nat} {a : Addr} {fd : FuncData} {ps : List Str} (F : FnOk X.prog X.w X.K X.mg X.base CX0 k a fd ps (spRun X.K X.mg False c f)) (hr : Room k X.A) (hm : X.mg f = some (.ref a)) (hk : PySem.W.keepIn X.K (.ref a) = true) (hb : L2.Binds X.K fd ps [])
    (hd : (f == ("__debug__" : Str)) = false) : CallP X none c f := by
  refine ⟨⟨a, hm, hk, fun pins s σ H vs us Q I r h => ?_⟩, hd⟩
  refine run_fn (dvs := []) (ds := []) (E := E0) F hr hb .nil pass0 I r ?_
  rw [List.append_nil]
  obtain ⟨X', F, μ, S, as, h1, h2, rl, rd, po⟩ := h
  refine ⟨X', F, μ, S, as, h1, h2, rl, rd, ?_⟩
  revert po
  cases c f as S with
  | ok d S' => exact fun po => po
  | exc x S' => exact fun po => absurd rfl po.1
  | no => exact fun po => po
def muC : (∃ n : Nat, μ[n]? = some (0 : Addr)) → True := fun _ => trivial
theorem own0 {i : Nat} {x : Addr} : ¬ Own [] ([] : L2.St) i x := fun ⟨w, d, h, _⟩ => by simp at h
theorem mu0 {x : Addr} : muOf μ [] [] x ↔ ∃ n : Nat, μ[n]? = some x := ⟨fun h => h.elim id fun ⟨i, h⟩ => (own0 h).elim, .inl⟩
/-- what the caller keeps apart -/
def Fc (F : Addr → Prop) (φ : Fr) (σ : L2.St) : Addr → Prop := fun x => F x ∨ ∃ i, Own φ σ i x
theorem simIn : Sim (pm X F μ φ σ) (pm X (Fc F φ σ) μ [] []) := ⟨rfl, rfl, fun x h => by
    rcases h with h | h | h
    · exact .inl (.inl (mu0.mp h))
    · exact .inr h
    · exact .inl (.inr h), fun _ _ h => h⟩
theorem simOut : Sim (pm X (Fc F φ σ) μ [] []) (pm X F μ φ σ) := ⟨rfl, rfl, fun x h => by
    rcases h with (h | h) | h
    · exact .inl (mu0.mpr h)
    · exact .inr (.inr h)
    · exact .inr (.inl h), fun _ _ h => h⟩
theorem Rl.callee (rl : Rl X F μ φ S σ H) : Rl X (Fc F φ σ) μ [] S [] H :=
  ⟨rl.lenS, rfl, fun n d x h1 h2 => (rl.bx n d x h1 h2).via simIn, fun i s w h => by simp at h, rl.n1, fun n i x _ h => own0 h, fun i j x h => (own0 h).elim, fun x h => by
      rcases h with h | ⟨i, h⟩
      · exact rl.f1 x h
      · exact rl.muNt (.inr ⟨i, h⟩), fun x h1 h2 => by
      obtain ⟨n, h2⟩ := mu0.mp h2
      rcases h1 with h1 | ⟨i, h1⟩
      · exact rl.f2 x h1 (.inl ⟨n, h2⟩)
      · exact rl.n2 n i x h2 h1, rl.tab⟩
theorem Nx.ofCall (rl : Rl X F μ φ S σ H) (n : Nx X (Fc F φ σ) μ [] [] H μ' [] S' H') : Nx X F μ φ σ H μ' φ S' H' := by
  have ex : Ext (pm X F μ φ σ) H (pm X F μ' φ σ) H' := ⟨rfl, rfl, fun x u f e h => n.ext.keep x u f e fun z => h (.inl (mu0.mp z)), n.ext.tup, fun x h z => by
      rcases z with z | z
      · exact .inl (mu0.mp (n.ext.mu x h (mu0.mpr z)))
      · exact .inr z, fun x h z => by
      have : (pm X (Fc F φ σ) μ' [] []).av x := by
        rcases z with (z | z) | z
        · exact .inl (mu0.mpr z)
        · exact .inr (.inr z)
        · exact .inr (.inl z)
      rcases n.ext.av x h this with z | z | z
      · exact .inl (.inl (mu0.mp z))
      · exact .inr z
      · exact .inl (.inr z), n.ext.bx, fun x z => .inl z, n.ext.there, n.ext.tb⟩
  have same : ∀ i x, Own φ σ i x → H' x = H x := fun i x h => n.fx.f x (.inr ⟨i, h⟩)
  refine ⟨⟨n.rl.lenS, rl.lenF, fun m d x h1 h2 => (n.rl.bx m d x h1 h2).via simOut, fun i s w h1 h2 => ?_, n.rl.n1, fun m i x h1 h2 => n.rl.f2 x (.inr ⟨i, h2⟩) (mu0.mpr ⟨m, h1⟩), rl.n3, fun x h => ex.there x (rl.f1 x h), fun x h1 h2 => ?_, ex.tb rl.tab⟩, ex, fun i w d h => ⟨d, h⟩, ⟨fun x h => n.fx.f x (.inl h), fun i d h => ⟨h, fun x hx => same i x ⟨false, d, h, hx⟩⟩⟩⟩
  · have q := rl.sl i s w h1 h2
    cases s with
    | em => trivial
    | v d => obtain ⟨v, e1, r⟩ := q; exact ⟨v, e1, RD.mono ex r⟩
    | own b d =>
      obtain ⟨x, e1, r⟩ := q
      exact ⟨x, e1, r.mono ex (same i x ⟨b, d, h1, by rw [h2, e1]⟩)⟩
  · rcases h2 with h2 | ⟨i, h2⟩
    · exact n.rl.f2 x (.inl h1) (mu0.mpr h2)
    · exact rl.f2 x h1 (.inr ⟨i, h2⟩)
theorem ExOk.via {P P' : Pm} (s : Sim P P') {x : Ex} {cls : Value} {dx : Option Addr} (h : ExOk P H x cls dx) : ExOk P' H x cls dx := by
  obtain ⟨C, h1, h2, h3⟩ := h
  refine ⟨C, h1, by rw [s.mg]; exact h2, ?_⟩
  cases dx with
  | none => exact h3
  | some d =>
    obtain ⟨kvs, h4, h5⟩ := h3
    exact ⟨kvs, h4, RDf.via s h5⟩
theorem call_read {c : Call} {f : Str} {ds : List D} {vs : List V} (rl : Rl X F μ φ S σ H) (h : RXs X F μ φ σ H ds vs) (po : PoE X W F μ φ σ H (if ds.all keepD then ofRC (c f ds S) φ else .no) Q) : spRun X.K X.mg (W ≠ none) c f vs H Q (fun cls dx H' => Wi W cls dx σ H') := by
  split at po
  · rename_i hk
    have rd := h.keep hk
    refine ⟨X, Fc F φ σ, μ, S, ds, rfl, rfl, rl.callee, rd.via simIn, ?_⟩
    revert po
    cases c f ds S with
    | ok d S' => exact fun po μ' H' v n rd => po μ' H' v (Nx.ofCall rl n) (RD.rx (rd.via simOut))
    | exc x S' => exact fun po => ⟨po.1, fun μ' H' cls dx n e => po.2 μ' H' cls dx (Nx.ofCall rl n) (e.via simOut)⟩
    | no => exact fun po => po
  · exact po.elim
theorem ge_app {c : Call} {f : Str} (hc : CallP X W c f) (hg : Gl X f) (ha : GA X W (e :: es) fr) (he : starEach (e :: es) X.env = (false, eval e X.env) :: starEach es X.env) (hpl : (backTo pos (starEach es X.env)).any (·.1) = false) :
    GE X W (.Call (.Name f p1) (e :: es) [] pos) (fun φ S => (fr φ S).bind fun ds φ S => if ds.all keepD then ofRC (c f ds S) φ else .no) := by
  obtain ⟨⟨x, hm, hk, run⟩, hdb⟩ := hc
  refine ⟨fun pins s σ H Q I h => ?_⟩
  obtain ⟨F, μ, φ, S, rl, po⟩ := h
  refine wpAny_Call_Name_kw (ld_glob I hg hm ?_ hdb)
  refine PySem.W.callWith_K (h₀ := X.base) I.ok.mod.kin hk (thn (ha.run pos pins s σ H _ I ⟨F, μ, φ, S, rl, PoE.fstA (Q1 := fun vs H1 => spRun X.K X.mg (W ≠ none) c f vs H1 Q (fun cls dx H' => Wi W cls dx σ H')) po fun ds φ1 S1 μ1 H1 vs n1 r1 po1 => call_read n1.rl r1 po1⟩) fun us s1 ⟨vs, H1, I1, r, q⟩ => ⟨I1.kIn, ?_⟩) he hpl
  exact run pins s1 σ H1 vs us Q I1 r q
theorem ge_app0 {c : Call} {f : Str} (hc : CallP X W c f) (hg : Gl X f) :
    GE X W (.Call (.Name f p1) [] [] pos) (fun φ S => (R.ok [] φ S : R (List D)).bind fun ds φ S => if ds.all keepD then ofRC (c f ds S) φ else .no) := by
  obtain ⟨⟨x, hm, hk, run⟩, hdb⟩ := hc
  refine ⟨fun pins s σ H Q I h => ?_⟩
  obtain ⟨F, μ, φ, S, rl, po⟩ := h
  refine wpAny_Call_Name_kw (ld_glob I hg hm ?_ hdb)
  exact PySem.W.callWith_K0 I.kIn hk (run pins s σ H [] [] Q I .nil (call_read (ds := []) (vs := []) rl rfl po))

/-! ### stores o[k] = x -/
def rSt (X : Cx) : TSet := fun o i v H Q => ∃ F μ φ S σ r k x d q, Rl X F μ φ S σ H ∧ RX X F μ φ σ H r o ∧ RT (pm X F μ φ σ) H k i ∧ RD (pm X F μ φ σ) H x v ∧ setIxD (look φ S r) k x = some d ∧ putRef r d φ S = some q ∧ ∀ H', Nx X F μ φ σ H μ q.1 q.2 H' → Q H'
theorem putK_rd {P : Pm} {k : Key} {d : D} {v : V} (h : RD P H d v) : ∀ {l : List (Key × D)} {kvs : List (Key × V)}, RDk P H l kvs → RDk P H (l.map fun p => if p.1 = k then (p.1, d) else p) (kvs.map fun p => if p.1 = k then (p.1, v) else p) ∧ (l.any fun p => decide (p.1 = k)) = (kvs.any fun p => decide (p.1 = k)) ∧ RDk P H (l ++ [(k, d)]) (kvs ++ [(k, v)])
  | [], kvs, t => by
    rw [show kvs = [] from t]
    exact ⟨rfl, rfl, v, [], rfl, h, rfl⟩
  | (k0, d0) :: l, kvs, ⟨v0, vr, e, h0, t⟩ => by
    subst e
    obtain ⟨t1, t2, t3⟩ := putK_rd (k := k) h t
    refine ⟨?_, by rw [List.any_cons, List.any_cons, t2], v0, _, rfl, h0, t3⟩
    rw [List.map_cons, List.map_cons]
    by_cases hk : k0 = k
    · rw [if_pos hk, if_pos hk]; exact ⟨v, _, rfl, h, t1⟩
    · rw [if_neg hk, if_neg hk]; exact ⟨v0, _, rfl, h0, t1⟩
theorem RDk.put {P : Pm} {k : Key} {d : D} {v : V} {l : List (Key × D)} {kvs : List (Key × V)} (h : RD P H d v) (t : RDk P H l kvs) : RDk P H (putK' l k d) (putK kvs k v) := by
  obtain ⟨t1, t2, t3⟩ := putK_rd (k := k) h t
  unfold putK' putK
  rw [t2]
  split
  · exact t1
  · exact t3
theorem set_ok (ok : Okx X) : PSet X (rSt X) := by
  intro pins s σ0 H o i v ov iv u Q I ro ri rv h
  obtain ⟨F, μ, φ, S, σ, r, k, x, d, q, rl, hr, hk, hx, hs, hp, fin⟩ := h
  obtain ⟨l, rfl, hmu, rh, nx⟩ := rl.put (S' := q.2) (φ' := q.1) hr hp
  unfold setIxD at hs
  split at hs
  · rename_i l0 i0 e0
    obtain ⟨j, hj, rfl⟩ := Option.map_eq_some_iff.mp hs
    rw [e0] at rh
    obtain ⟨ws, hH, t⟩ := rh
    cases hk
    refine set_list pins s σ0 H _ _ _ ov iv u Q I ro ri rv ⟨l, ws, i0, j, rfl, rfl, hH, by rw [← t.length]; exact hj, ?_⟩
    have ex := Ext.put (o := .lst (ws.set j v)) rl hmu
    exact fin _ (nx _ ⟨_, upd_same, (RDs.set hx j t).mono ex⟩)
  · rename_i l0 e0
    obtain ⟨ky, hky, hs⟩ := Option.bind_eq_some_iff.mp hs
    split at hs
    · rename_i hz
      cases hs
      rw [e0] at rh
      obtain ⟨kvs, hH, t⟩ := rh
      have ei := kOf_v hk hky
      subst ei
      refine set_dict (Nat.lt_of_le_of_lt (Nat.add_le_add_left (by decide : 1 ≤ 66) _) ok.hu) pins s σ0 H _ _ _ ov iv u Q I ro ri rv ⟨l, _, rfl, DPut.k hH (by rw [← t.length]; exact hz), ?_⟩
      have ex := Ext.put (o := .dK (putK kvs ky v)) rl hmu
      exact fin _ (nx _ ⟨_, upd_same, RDk.mono ex (t.put hx)⟩)
    · cases hs
  · cases hs
end
end Gx
set_option Elab.async false
set_option linter.all false
set_option maxRecDepth 100000
/-! Gx10: steps of statements; targets. -/
namespace Gx
open PySem PySem.Spec PyProof.Rows L2

/-- from one state of a frame to a later one -/
structure Sx (X : Cx) (F : Addr → Prop) (μ : List Addr) (φ : Fr) (σ : L2.St) (H : Hp) (μ' : List Addr) (φ' : Fr) (S' : Sto) (σ' : L2.St) (H' : Hp) : Prop where
  rl : Rl X F μ' φ' S' σ' H'
  ext : Ext (pm X F μ φ σ) H (pm X F μ' φ' σ') H'
  f : ∀ a, F a → H' a = H a
section
variable {X Y : Cx} {W : Option WX} {F : Addr → Prop} {μ μ' μ'' : List Addr} {φ φ' φ'' : Fr} {S S' S'' : Sto} {σ σ' σ'' : L2.St} {H H' H'' : Hp} {Q : VK} {a b c e o : Expr} {es : List Expr} {pos p1 : Pos} {fa fb fc fo : Fr → Sto → R D} {fr : Fr → Sto → R (List D)}
theorem Sx.refl (rl : Rl X F μ φ S σ H) : Sx X F μ φ σ H μ φ S σ H := ⟨rl, Ext.refl fun _ h => .inl h, fun _ _ => rfl⟩
theorem Sx.trans (a : Sx X F μ φ σ H μ' φ' S' σ' H') (b : Sx X F μ' φ' σ' H' μ'' φ'' S'' σ'' H'') : Sx X F μ φ σ H μ'' φ'' S'' σ'' H'' := ⟨b.rl, a.ext.trans b.ext, fun x h => (b.f x h).trans (a.f x h)⟩
theorem Nx.sx (n : Nx X F μ φ σ H μ' φ' S' H') : Sx X F μ φ σ H μ' φ' S' σ H' := ⟨n.rl, n.ext, n.fx.f⟩
/-- another frame over the same heap, with fewer objects of its own -/
theorem Ext.less2 {P P' : Pm} (s : Sim P P') (m : ∀ x, P'.mu x → P.mu x) (ma : ∀ x, P.mu x → P.av x) : Ext P H P' H := ⟨s.K, s.mg, fun _ _ _ h _ => h, fun _ _ h => h, fun x _ h => m x h, fun x _ h => s.av x h, s.bx, ma, fun _ h => h, id⟩
theorem own_setV {i : Nat} {d : D} {v : Option V} {j : Nat} {x : Addr} (h : Own (φ.set i (.v d)) (σ.set i v) j x) : Own φ σ j x ∧ i ≠ j := by
  obtain ⟨w, c, h1, h2⟩ := h
  by_cases e : i = j
  · subst e
    rcases Nat.lt_or_ge i φ.length with q | q
    · rw [List.getElem?_set_self q] at h1; cases h1
    · rw [List.getElem?_eq_none (by simpa using q)] at h1; cases h1
  · rw [List.getElem?_set_ne e] at h1 h2
    exact ⟨⟨w, c, h1, h2⟩, e⟩
theorem muOf_setV {i : Nat} {d : D} {v : Option V} {x : Addr} (h : muOf μ (φ.set i (.v d)) (σ.set i v) x) : muOf μ φ σ x := by
  rcases h with h | ⟨j, h⟩
  · exact .inl h
  · exact .inr ⟨j, (own_setV h).1⟩
theorem Sx.setV (rl : Rl X F μ φ S σ H) {i : Nat} {d : D} {v : V} (hi : i < φ.length) (h : RD (pm X F μ φ σ) H d v) : Sx X F μ φ σ H μ (φ.set i (.v d)) S (σ.set i (some v)) H := by
  have sm : Sim (pm X F μ φ σ) (pm X F μ (φ.set i (.v d)) (σ.set i (some v))) := ⟨rfl, rfl, fun x q => q.elim (fun z => .inl (muOf_setV z)) .inr, fun _ _ q => q⟩
  have hs : i < σ.length := by rw [← rl.lenF]; exact hi
  refine ⟨⟨rl.lenS, by rw [List.length_set, List.length_set]; exact rl.lenF, fun n x q z1 z2 => (rl.bx n x q z1 z2).via sm, fun j s w z1 z2 => ?_, rl.n1, fun n j x z1 z2 => rl.n2 n j x z1 (own_setV z2).1, fun j k x z1 z2 => rl.n3 j k x (own_setV z1).1 (own_setV z2).1, rl.f1, fun x z1 z2 => rl.f2 x z1 (muOf_setV z2), rl.tab⟩,
    Ext.less2 sm (fun x q => muOf_setV q) (fun x q => .inl q), fun _ _ => rfl⟩
  by_cases e : i = j
  · subst e
    rw [List.getElem?_set_self hi] at z1
    rw [List.getElem?_set_self hs] at z2
    cases z1; cases z2
    exact ⟨v, rfl, RD.via sm h⟩
  · rw [List.getElem?_set_ne e] at z1 z2
    have q := rl.sl j s w z1 z2
    cases s with
    | em => trivial
    | v d => obtain ⟨v, e1, r⟩ := q; exact ⟨v, e1, RD.via sm r⟩
    | own b d => obtain ⟨x, e1, r⟩ := q; exact ⟨x, e1, r.via sm⟩

/-! ### targets -/
theorem wipe_get (σ : L2.St) (j : Nat) : ∀ ws : List Nat, (wipe σ ws)[j]? = if j ∈ ws then (σ[j]?).map (fun _ => none) else σ[j]?
  | [] => by simp [wipe]
  | w :: ws => by
    unfold wipe
    by_cases e : w = j
    · subst e
      by_cases h : w < σ.length
      · rw [List.getElem?_set_self (by rw [wipe_length]; exact h), List.getElem?_eq_getElem h]; simp
      · rw [List.getElem?_eq_none (by rw [List.length_set, wipe_length]; omega), List.getElem?_eq_none (by omega)]; simp
    · rw [List.getElem?_set_ne e, wipe_get σ j ws]
      have : j ≠ w := fun z => e z.symm
      simp [List.mem_cons, this]
theorem wipe_set {σ : L2.St} {i : Nat} {v : Option V} {ws : List Nat} (h : i ∈ ws) : wipe (σ.set i v) ws = wipe σ ws := by
  apply List.ext_getElem?
  intro j
  rw [wipe_get, wipe_get]
  by_cases e : i = j
  · subst e
    rw [if_pos h, if_pos h]
    by_cases hi : i < σ.length
    · rw [List.getElem?_set_self hi, List.getElem?_eq_getElem hi]; rfl
    · rw [List.getElem?_eq_none (by rw [List.length_set]; omega), List.getElem?_eq_none (by omega)]
  · rw [List.getElem?_set_ne e]
/-- all but these slots stands as before -/
def Agr (is : List Nat) (σ σ' : L2.St) : Prop := ∀ ws : List Nat, (∀ i ∈ is, i ∈ ws) → wipe σ' ws = wipe σ ws
def tG (X : Cx) (t : Tg) : TG := fun v σ H Q => ∃ F μ φ S d φ', Rl X F μ φ S σ H ∧ RD (pm X F μ φ σ) H d v ∧ asgT t d φ = some φ' ∧ ∀ σ', Sx X F μ φ σ H μ φ' S σ' H → Agr (tgS t) σ σ' → Q σ' H
def tGs (X : Cx) (ts : List Tg) : TGs := fun vs σ H Q => ∃ F μ φ S ds φ', Rl X F μ φ S σ H ∧ RDs (pm X F μ φ σ) H ds vs ∧ asgTs ts ds φ = some φ' ∧ ∀ σ', Sx X F μ φ σ H μ φ' S σ' H → Agr (tgsS ts) σ σ' → Q σ' H
theorem _root_.L2.PG.imp {e : Expr} {t t' : TG} (h : PG X e t) (k : ∀ v σ H Q, t' v σ H Q → t v σ H Q) : PG X e t' := ⟨fun pins s σ H v u Q I r q => h.run pins s σ H v u Q I r (k v σ H Q q)⟩
theorem _root_.L2.PGs.imp {e : List Expr} {t t' : TGs} (h : PGs X e t) (k : ∀ v σ H Q, t' v σ H Q → t v σ H Q) : PGs X e t' := ⟨fun pins s σ H v u Q I r q => h.run pins s σ H v u Q I r (k v σ H Q q)⟩
theorem gg_name {i : Nat} {x : Str} (hN : X.N.Nodup) (hi : X.N[i]? = some x) (hx : L2.Loc X.env.scope x) (hf : X.fn x = true ∨ X.env.scope.names.lookup x = some .local) : PG X (.Name x pos) (tG X (.nm i)) := by
  refine (pg_name hN hi hx hf).imp fun v σ H Q ⟨F, μ, φ, S, d, φ', rl, rd, e, k⟩ => ?_
  simp only [asgT] at e
  split at e
  · rename_i h
    simp only [Bool.and_eq_true, decide_eq_true_eq] at h
    cases e
    exact k _ (Sx.setV rl h.2 rd) fun ws hw => wipe_set (hw i (by simp [tgS]))
  · cases e
theorem ggs_nil : PGs X [] (tGs X []) := by
  refine pgs_nil.imp fun v σ H Q ⟨F, μ, φ, S, ds, φ', rl, rd, e, k⟩ => ?_
  cases ds with
  | nil =>
    simp only [asgTs, Option.some.injEq] at e
    subst e
    exact ⟨rd, k σ (Sx.refl rl) fun ws _ => rfl⟩
  | cons d ds => simp [asgTs] at e
theorem ggs_cons {t : Tg} {ts : List Tg} (h1 : PG X e (tG X t)) (h2 : PGs X es (tGs X ts)) (hs : (assignEach (e :: es) X.env).map (·.2) = assign e X.env :: (assignEach es X.env).map (·.2)) : PGs X (e :: es) (tGs X (t :: ts)) := by
  refine (pgs_cons h1 h2 hs).imp fun v σ H Q ⟨F, μ, φ, S, ds, φ', rl, rd, e, k⟩ => ?_
  cases ds with
  | nil => simp [asgTs] at e
  | cons d ds =>
    obtain ⟨x, xr, rfl, r1, rr⟩ := rd
    obtain ⟨φ1, e1, e2⟩ := Option.bind_eq_some_iff.mp e
    refine ⟨x, xr, rfl, F, μ, φ, S, d, φ1, rl, r1, e1, fun σ1 s1 g1 => ?_⟩
    exact ⟨F, μ, φ1, S, ds, φ', s1.rl, rr.mono s1.ext, e2, fun σ2 s2 g2 => k σ2 (s1.trans s2) fun ws hw => (g2 ws fun i hi => hw i (by simp [tgsS, hi])).trans (g1 ws fun i hi => hw i (by simp [tgsS, hi]))⟩
theorem asgTs_len : ∀ {ts : List Tg} {ds : List D} {φ φ' : Fr}, asgTs ts ds φ = some φ' → ds.length = ts.length
  | [], [], _, _, _ => rfl
  | [], _ :: _, _, _, h => by simp [asgTs] at h
  | _ :: _, [], _, _, h => by simp [asgTs] at h
  | t :: ts, d :: ds, φ, φ', h => by
    obtain ⟨φ1, e1, e2⟩ := Option.bind_eq_some_iff.mp h
    rw [List.length_cons, List.length_cons, asgTs_len e2]
theorem tgS_tp (ts : List Tg) : tgS (.tp ts) = tgsS ts := by rw [tgS]
theorem gg_tup {k : Nat} {ts : List Tg} (hc : X.calm = true) (h : PGs X es (tGs X ts)) (hn : (assignEach es X.env).length = ts.length) (hst : (assignEach es X.env).findIdx? (·.1) = none) : PG X (.Tuple es k pos) (tG X (.tp ts)) := by
  refine (pg_tup hc h hn hst).imp fun v σ H Q ⟨F, μ, φ, S, d, φ', rl, rd, e, k⟩ => ?_
  cases d <;> simp only [asgT, reduceCtorEq] at e
  obtain ⟨x, xs, rfl, hq, t⟩ := rd
  exact ⟨x, xs, rfl, hq, by rw [← t.length]; exact asgTs_len e, F, μ, φ, S, _, φ', rl, t, e, fun σ' s g => k σ' s (by rw [tgS_tp]; exact g)⟩

/-! ### new objects, step by step -/
inductive Gr : Hp → Hp → Prop where
  | refl (H : Hp) : Gr H H
  | new {H H' : Hp} {p : Addr} {o : HO} (h : H p = none) (g : Gr (upd H p o) H') : Gr H H'
theorem Gr.nx {H H' : Hp} (g : Gr H H') : Rl X F μ φ S σ H → Nx X F μ φ σ H μ φ S H' := by
  induction g with
  | refl H => exact fun rl => Nx.refl rl
  | new h g ih => exact fun rl => (Nx.new rl h).trans (ih (Nx.new rl h).rl)
theorem Gr.ext {P : Pm} (ma : ∀ x, P.mu x → P.av x) {H H' : Hp} (g : Gr H H') : Ext P H P H' := by
  induction g with
  | refl H => exact Ext.refl ma
  | new h g ih => exact (Ext.new ma h).trans ih
theorem Gr.trans {H H' H'' : Hp} (g : Gr H H') (k : Gr H' H'') : Gr H H'' := by
  induction g with
  | refl H => exact k
  | new h g ih => exact .new h (ih k)
/-- an iterator that walks the values l, at any later state -/
structure Wk (P : Pm) (H : Hp) (J : L2.It) (l : List D) : Prop where
  go : ∀ P' H' i, Ext P H P' H' → i < l.length → J.go i H'
  stop : ∀ P' H', Ext P H P' H' → J.stop l.length H'
  yld : ∀ P' H' i d x H'', Ext P H P' H' → (∀ x, P'.mu x → P'.av x) → l[i]? = some d → J.yld i H' x H'' → Gr H' H'' ∧ RD P' H'' d x
def PoI (X : Cx) (W : Option WX) (F : Addr → Prop) (μ : List Addr) (φ : Fr) (σ : L2.St) (H : Hp) (r : R (List D)) (Rr : L2.It → Hp → Prop) : Prop := match r with
  | .ok l φ' S' => ∀ μ' H' J, Nx X F μ φ σ H μ' φ' S' H' → Wk (pm X F μ' φ' σ) H' J l → Rr J H'
  | .exc x φ' S' => W ≠ none ∧ ∀ μ' H' cls dx, Nx X F μ φ σ H μ' φ' S' H' → ExOk (pm X F μ' φ' σ) H' x cls dx → Wi W cls dx σ H'
  | .no => False
def tI (X : Cx) (W : Option WX) (f : Fr → Sto → R (List D)) : TI := fun σ H Rr => ∃ F μ φ S, Rl X F μ φ S σ H ∧ PoI X W F μ φ σ H (f φ S) Rr
abbrev GI (X : Cx) (W : Option WX) (tg it : Expr) (f : Fr → Sto → R (List D)) : Prop := PI X tg it (tI X W f)
theorem _root_.L2.PI.imp {tg e : Expr} {t t' : TI} (h : PI X tg e t) (k : ∀ σ H Q, t' σ H Q → t σ H Q) : PI X tg e t' := ⟨fun pins s σ H Q I q => h.run pins s σ H Q I (k σ H Q q)⟩
theorem PoI.re {r : R (List D)} {Q : L2.It → Hp → Prop} (po : PoI X W F μ φ σ H r Q) (nx : Nx X F μ φ σ H μ' φ' S' H') : PoI X W F μ' φ' σ H' r Q := by
  cases r with
  | ok d φ'' S'' => exact fun μ'' H'' v n rx => po μ'' H'' v (nx.trans n) rx
  | exc x φ'' S'' => exact ⟨po.1, fun μ'' H'' c d n e => po.2 μ'' H'' c d (nx.trans n) e⟩
  | no => exact po
theorem PoI.fst {r : R D} {k : D → Fr → Sto → R (List D)} {Q : L2.It → Hp → Prop} {Q1 : VK} (po : PoI X W F μ φ σ H (r.bind k) Q)
    (g : ∀ d φ1 S1 μ1 H1 v, Nx X F μ φ σ H μ1 φ1 S1 H1 → RX X F μ1 φ1 σ H1 d v → PoI X W F μ1 φ1 σ H1 (k d φ1 S1) Q → Q1 v H1) : PoE X W F μ φ σ H r Q1 := by
  cases r with
  | ok d φ1 S1 => exact fun μ1 H1 v nx rx => g d φ1 S1 μ1 H1 v nx rx (PoI.re po nx)
  | exc x φ1 S1 => exact po
  | no => exact po
theorem PoI.fstA {r : R (List D)} {k : List D → Fr → Sto → R (List D)} {Q : L2.It → Hp → Prop} {Q1 : List V → Hp → Prop} (po : PoI X W F μ φ σ H (r.bind k) Q)
    (g : ∀ d φ1 S1 μ1 H1 v, Nx X F μ φ σ H μ1 φ1 S1 H1 → RXs X F μ1 φ1 σ H1 d v → PoI X W F μ1 φ1 σ H1 (k d φ1 S1) Q → Q1 v H1) : PoA X W F μ φ σ H r Q1 := by
  cases r with
  | ok d φ1 S1 => exact fun μ1 H1 v nx rx => g d φ1 S1 μ1 H1 v nx rx (PoI.re po nx)
  | exc x φ1 S1 => exact po
  | no => exact po
theorem PoI.opt1 {o : Option (List D)} {Q : L2.It → Hp → Prop} (po : PoI X W F μ φ σ H (ofO o φ S) Q) : ∃ a, o = some a ∧ PoI X W F μ φ σ H (.ok a φ S) Q := by
  cases o with
  | some a => exact ⟨a, rfl, po⟩
  | none => exact po.elim
theorem wk_list {P : Pm} {l : List D} {vs : List V} {x : Addr} (h : Rd H x (.lst vs)) (n : ¬ P.av x) (t : RDs P H l vs) : Wk P H (Itl P.K x) l := by
  have at' : ∀ P' H', Ext P H P' H' → SqL P.K H' x vs ∧ RDs P' H' l vs := fun P' H' e => ⟨.inl (e.rd rfl h n), t.mono e⟩
  refine ⟨fun P' H' i e hi => ?_, fun P' H' e => ?_, fun P' H' i d y H'' e ma hd hy => ?_⟩
  · obtain ⟨q, _⟩ := at' P' H' e
    have : i < vs.length := by rw [← t.length]; exact hi
    exact ⟨vs, vs[i], q, List.getElem?_eq_getElem this⟩
  · exact ⟨vs, (at' P' H' e).1, by rw [t.length]; exact Nat.le_refl _⟩
  · obtain ⟨rfl, hy⟩ := hy
    obtain ⟨q, t'⟩ := at' P' H'' e
    obtain ⟨w, h1, h2⟩ := t'.get hd
    have := (hy vs q).symm.trans h1
    cases this
    exact ⟨.refl _, h2⟩
theorem wk_tup {P : Pm} {l : List D} {vs : List V} {x : Addr} (h : SqT P.K H x vs) (t : RDs P H l vs) : Wk P H (Itt P.K x) l := by
  have at' : ∀ P' H', Ext P H P' H' → SqT P.K H' x vs ∧ RDs P' H' l vs := fun P' H' e => ⟨by
    rcases h with h | h
    · exact .inl (e.tup _ _ h)
    · exact .inr h, t.mono e⟩
  refine ⟨fun P' H' i e hi => ?_, fun P' H' e => ?_, fun P' H' i d y H'' e ma hd hy => ?_⟩
  · obtain ⟨q, _⟩ := at' P' H' e
    have : i < vs.length := by rw [← t.length]; exact hi
    exact ⟨vs, vs[i], q, by rw [List.getElem?_eq_getElem this]⟩
  · exact ⟨vs, (at' P' H' e).1, by rw [t.length]; exact Nat.le_refl _⟩
  · obtain ⟨rfl, hy⟩ := hy
    obtain ⟨q, t'⟩ := at' P' H'' e
    obtain ⟨w, h1, h2⟩ := t'.get hd
    have := (hy vs q).symm.trans h1
    cases this
    exact ⟨.refl _, h2⟩
end
end Gx
set_option Elab.async false
set_option linter.all false
set_option maxRecDepth 100000
/-! Gx11: what loops walk. -/
namespace Gx
open PySem PySem.Spec PyProof.Rows L2
section
variable {X : Cx} {W : Option WX} {F : Addr → Prop} {μ μ' : List Addr} {φ φ' : Fr} {S S' : Sto} {σ : L2.St} {H H' : Hp} {Q : VK} {a b c e o tg : Expr} {es elts : List Expr} {pos p1 tpos : Pos} {kk : Nat} {fa fb fc fo : Fr → Sto → R D} {fr : Fr → Sto → R (List D)}
/-- a list or a tuple is walked -/
theorem pi_seq {l : Expr} {tl : TE} (hl : PE X l tl) : PI X tg l (fun σ H R => tl σ H fun x H1 => ∃ a, x = .ref a ∧ (((∃ xs, SqL X.K H1 a xs) ∧ R (Itl X.K a) H1) ∨ ((∃ xs, SqT X.K H1 a xs) ∧ R (Itt X.K a) H1))) := by
  refine ⟨fun pins s σ H R I h => ?_⟩
  refine thn (hl.run pins s σ H _ I h) fun v s1 ⟨x, H1, I1, r1, q1⟩ => ?_
  obtain ⟨a, e, q1⟩ := q1
  subst e
  cases r1
  have fp : ∀ b ∈ [s1.heap.objs.size], FpOk X pins H1 b := fun b hb => by
    have e : b = s1.heap.objs.size := by simpa using hb
    subst e
    exact I1.fpOk (Nat.le_refl _) (I1.hok.fresh (Nat.le_refl _))
  rcases q1 with ⟨⟨xs, hq⟩, q⟩ | ⟨⟨xs, hq⟩, q⟩
  · obtain ⟨its, rv, p, hz⟩ := I1.list hq
    exact wpAny_pyIter_list p.isList ⟨s1.heap.objs.size, [s1.heap.objs.size], _, _, H1, rfl, I1.kept (t' := s1.toks) fun b o e => Heap.get?_push_of_some _ e, turn_list a _, ⟨_, Heap.get?_push_size _ rfl, rfl, rfl⟩, fp, q⟩
  · obtain ⟨its, rv, p, hz⟩ := I1.tuple hq
    exact wpAny_pyIter_tuple (show s1.heap.IsTuple a its.toArray from p) ⟨s1.heap.objs.size, [s1.heap.objs.size], _, _, H1, rfl, I1.kept (t' := s1.toks) fun b o e => Heap.get?_push_of_some _ e, turn_tuple a _, ⟨_, Heap.get?_push_size _ rfl, rfl, rfl⟩, fp, q⟩
theorem PoI.val {l : List D} {Rr : L2.It → Hp → Prop} (po : PoI X W F μ φ σ H (.ok l φ S) Rr) (rl : Rl X F μ φ S σ H) {J : L2.It} (w : Wk (pm X F μ φ σ) H J l) : Rr J H := po μ H J (Nx.refl rl) w
theorem gi_seq (ha : GE X W a fa) : GI X W tg a (fun φ S => (fa φ S).bind fun d φ S => ofO (itemsD d) φ S) := by
  refine (pi_seq ha).imp fun σ H Rr ⟨F, μ, φ, S, rl, po⟩ => ?_
  refine ⟨F, μ, φ, S, rl, PoI.fst po fun d φ1 S1 μ1 H1 v n1 r1 po1 => ?_⟩
  obtain ⟨l, e, po1⟩ := PoI.opt1 po1
  cases d <;> simp only [itemsD, Option.some.injEq, reduceCtorEq] at e
  · subst e
    obtain ⟨x, vs, rfl, h1, t⟩ := r1
    exact ⟨x, rfl, .inr ⟨⟨vs, h1⟩, po1.val n1.rl (wk_tup h1 t)⟩⟩
  · subst e
    obtain ⟨x, vs, rfl, nv, h1, t⟩ := r1
    exact ⟨x, rfl, .inl ⟨⟨vs, .inl h1⟩, po1.val n1.rl (wk_list h1 nv t)⟩⟩

/-! ### range -/
theorem rngD_len (lo : Int) (n : Nat) (st : Int) : (rngD lo n st).length = n := by simp [rngD]
theorem rngD_get {lo : Int} {n : Nat} {st : Int} {i : Nat} {d : D} (h : (rngD lo n st)[i]? = some d) : i < n ∧ d = .int (lo + (i : Int) * st) := by
  unfold rngD at h
  rw [List.getElem?_map] at h
  by_cases hi : i < n
  · rw [List.getElem?_range hi] at h
    exact ⟨hi, by simpa using h.symm⟩
  · rw [List.getElem?_eq_none (by simpa using Nat.le_of_not_lt hi)] at h
    cases h
theorem wk_rng {P : Pm} (lo : Int) (n : Nat) : Wk P H (Itr lo n) (rngD lo n 1) := by
  refine ⟨fun P' H' i e hi => ?_, fun P' H' e => ?_, fun P' H' i d y H'' e ma hd hy => ?_⟩
  · rw [rngD_len] at hi; exact hi
  · rw [rngD_len]; exact Nat.le_refl _
  · obtain ⟨rfl, rfl⟩ := hy
    obtain ⟨_, rfl⟩ := rngD_get hd
    refine ⟨.refl _, ?_⟩
    rw [Int.mul_one]
    rfl
theorem wk_rngC {P : Pm} (lo c : Int) (n : Nat) : Wk P H (Itc lo c n) (rngD lo n c) := by
  refine ⟨fun P' H' i e hi => ?_, fun P' H' e => ?_, fun P' H' i d y H'' e ma hd hy => ?_⟩
  · rw [rngD_len] at hi; exact hi
  · rw [rngD_len]; exact Nat.le_refl _
  · obtain ⟨rfl, rfl⟩ := hy
    obtain ⟨_, rfl⟩ := rngD_get hd
    exact ⟨.refl _, rfl⟩
theorem rxs_int1 {d : D} {xs : List V} (h : RXs X F μ φ σ H [.int i] xs) : xs = [.int i] := by
  obtain ⟨v, rfl, hv⟩ := rxs1 h
  cases hv; rfl
theorem rxs_int2 {i j : Int} {xs : List V} (h : RXs X F μ φ σ H [.int i, .int j] xs) : xs = [.int i, .int j] := by
  obtain ⟨v, vr, rfl, hv, t⟩ := h
  cases hv
  rw [rxs_int1 (d := .non) t]
theorem rxs_int3 {i j k : Int} {xs : List V} (h : RXs X F μ φ σ H [.int i, .int j, .int k] xs) : xs = [.int i, .int j, .int k] := by
  obtain ⟨v, vr, rfl, hv, t⟩ := h
  cases hv
  rw [rxs_int2 t]
theorem rngOk_iff {i : Int} (h : rngOk i = true) : -(2 ^ 62) ≤ i ∧ i < 2 ^ 62 := of_decide_eq_true h
theorem gi_rng1 (hg : Gl X "range") (hm : X.mg "range" = none) (ha : GA X W [a] fr) (hs : starEach [a] X.env = [(false, eval a X.env)]) : GI X W tg (.Call (.Name "range" p1) [a] [] pos) (fun φ S => (fr φ S).bind fun ds φ S => if ds.length = 1 then ofO (rngOf ds) φ S else .no) := by
  refine (pi_range1 hg hm ha hs).imp fun σ H Rr ⟨F, μ, φ, S, rl, po⟩ => ?_
  refine ⟨F, μ, φ, S, rl, PoI.fstA po fun ds φ1 S1 μ1 H1 vs n1 r1 po1 => ?_⟩
  split at po1
  · obtain ⟨l, e, po1⟩ := PoI.opt1 po1
    unfold rngOf at e
    split at e <;> try (simp only [reduceCtorEq] at e)
    · split at e
      · cases e
        rename_i n _ _ hn
        obtain ⟨h1, h2⟩ := rngOk_iff hn
        exact ⟨n, rxs_int1 (d := .non) r1, h1, h2, po1.val n1.rl (wk_rng 0 _)⟩
      · cases e
    · rename_i hl; simp at hl
    · rename_i hl; simp at hl
  · exact po1.elim
theorem gi_rng2 (hg : Gl X "range") (hm : X.mg "range" = none) (ha : GA X W [a, b] fr) (hs : starEach [a, b] X.env = [(false, eval a X.env), (false, eval b X.env)]) (hs2 : starEach [b] X.env = [(false, eval b X.env)]) :
    GI X W tg (.Call (.Name "range" p1) [a, b] [] pos) (fun φ S => (fr φ S).bind fun ds φ S => if ds.length = 2 then ofO (rngOf ds) φ S else .no) := by
  refine (pi_range2 hg hm ha hs hs2).imp fun σ H Rr ⟨F, μ, φ, S, rl, po⟩ => ?_
  refine ⟨F, μ, φ, S, rl, PoI.fstA po fun ds φ1 S1 μ1 H1 vs n1 r1 po1 => ?_⟩
  split at po1
  · obtain ⟨l, e, po1⟩ := PoI.opt1 po1
    unfold rngOf at e
    split at e <;> try (simp only [reduceCtorEq] at e)
    · rename_i hl; simp at hl
    · split at e
      · cases e
        rename_i i j _ _ hn
        rw [Bool.and_eq_true] at hn
        obtain ⟨h1, h2⟩ := rngOk_iff hn.1
        obtain ⟨h3, h4⟩ := rngOk_iff hn.2
        exact ⟨i, j, rxs_int2 r1, ⟨h1, h2, h3, h4⟩, po1.val n1.rl (wk_rng i _)⟩
      · cases e
    · rename_i hl; simp at hl
  · exact po1.elim
theorem rgc_pos {i j k : Int} (h1 : -(2 ^ 62) ≤ i ∧ i < 2 ^ 62) (h2 : -(2 ^ 62) ≤ j ∧ j < 2 ^ 62) (hk : 0 < k ∧ k < 1073741824) : RgC i j k (rngN i j k) := by
  have hs : Builtin.Range.rangeSize i j k = (rngN i j k : Int) := by
    unfold Builtin.Range.rangeSize rngN
    rw [if_pos hk.1, if_pos hk.1]
    split
    · rename_i hij
      have e : j - i + k - 1 = (j - i - 1) + 1 * k := by omega
      rw [e, Int.add_mul_ediv_right _ _ (by omega)]
      have : 0 ≤ (j - i - 1) / k := Int.ediv_nonneg (by omega) (by omega)
      omega
    · rename_i hij
      have : (j - i + k - 1) / k ≤ 0 := by
        have h3 : j - i + k - 1 < 1 * k := by omega
        have := Int.ediv_lt_of_lt_mul hk.1 h3
        omega
      omega
  refine ⟨by omega, by omega, ?_, hs⟩
  unfold Builtin.Range.small
  rw [hs]
  have hn : (rngN i j k : Int) ≤ 2 ^ 63 - 1 := by
    unfold rngN
    rw [if_pos hk.1]
    have h3 : (j - i + k - 1) / k ≤ 2 ^ 63 - 1 := by
      have : j - i + k - 1 < (2 ^ 63) * k := by
        have h4 : j - i ≤ 2 ^ 63 - 1 := by omega
        have h5 : (2 ^ 63) * k = (2 ^ 63) * (k - 1) + 2 ^ 63 := by omega
        have h6 : (2 ^ 63 : Int) * (k - 1) ≥ 1 * (k - 1) := Int.mul_le_mul_of_nonneg_right (by decide) (by omega)
        omega
      have := Int.ediv_lt_of_lt_mul hk.1 this
      omega
    omega
  simp only [Builtin.Range.rangeFitsLong, Bool.and_eq_true, Bool.or_eq_true, decide_eq_true_eq, beq_iff_eq, if_pos hk.1]
  omega
theorem gi_rng3 (hg : Gl X "range") (hm : X.mg "range" = none) (ha : GA X W [a, b, c] fr) (hs : starEach [a, b, c] X.env = (false, eval a X.env) :: starEach [b, c] X.env) (hpl : (backTo pos (starEach [b, c] X.env)).any (·.1) = false) :
    GI X W tg (.Call (.Name "range" p1) [a, b, c] [] pos) (fun φ S => (fr φ S).bind fun ds φ S => if ds.length = 3 then ofO (rngOf ds) φ S else .no) := by
  refine (pi_range3 hg hm ha hs hpl).imp fun σ H Rr ⟨F, μ, φ, S, rl, po⟩ => ?_
  refine ⟨F, μ, φ, S, rl, PoI.fstA po fun ds φ1 S1 μ1 H1 vs n1 r1 po1 => ?_⟩
  split at po1
  · obtain ⟨l, e, po1⟩ := PoI.opt1 po1
    unfold rngOf at e
    split at e <;> try (simp only [reduceCtorEq] at e)
    · rename_i hl; simp at hl
    · rename_i hl; simp at hl
    · split at e
      · cases e
        rename_i i j k _ _ hn
        rw [Bool.and_eq_true, Bool.and_eq_true, decide_eq_true_eq] at hn
        obtain ⟨⟨g1, g2⟩, hk⟩ := hn
        have h1 := rngOk_iff g1
        have h2 := rngOk_iff g2
        refine ⟨i, j, k, rngN i j k, rxs_int3 r1, ?_, po1.val n1.rl (wk_rngC i k _)⟩
        rcases hk with rfl | hk
        · have e : rngN i j (-1) = (i - j).toNat := rfl
          rw [e]
          exact RgC.neg h1.1 h1.2 h2.1 h2.2
        · exact rgc_pos h1 h2 hk
      · cases e
  · exact po1.elim

/-! ### zip, enumerate -/
theorem zipL_get {x y : List D} {i : Nat} {d : D} (h : (zipL x y)[i]? = some d) : ∃ a b, x[i]? = some a ∧ y[i]? = some b ∧ d = .tup [a, b] := by
  unfold zipL at h
  rw [List.getElem?_zipWith] at h
  split at h
  · rename_i a b h1 h2
    exact ⟨a, b, h1, h2, by simpa using h.symm⟩
  · cases h
theorem zipL_len (x y : List D) : (zipL x y).length = min x.length y.length := by simp [zipL]
theorem pair_gr {P : Pm} (ma : ∀ x, P.mu x → P.av x) {T : Addr} {d e : D} {v w : V} (hn : H T = none) (h1 : RD P H d v) (h2 : RD P H e w) : Gr H (upd H T (.tup [v, w])) ∧ RD P (upd H T (.tup [v, w])) (.tup [d, e]) (.ref T) := by
  have ex := Ext.new (P := P) (o := .tup [v, w]) ma hn
  exact ⟨.new hn (.refl _), rd_tup upd_same ⟨v, [w], rfl, RD.mono ex h1, w, [], rfl, RD.mono ex h2, rfl⟩⟩
theorem enumD_get {x : List D} {i : Nat} {d : D} (h : (enumD x)[i]? = some d) : ∃ b, x[i]? = some b ∧ d = .tup [.int i, b] := by
  unfold enumD at h
  rw [List.getElem?_zipWith] at h
  split at h
  · rename_i a b h1 h2
    by_cases hi : i < x.length
    · rw [List.getElem?_range hi] at h1
      cases h1
      exact ⟨b, h2, by simpa using h.symm⟩
    · rw [List.getElem?_eq_none (by omega)] at h2; cases h2
  · cases h
theorem enumD_len (x : List D) : (enumD x).length = x.length := by simp [enumD]
end
end Gx
set_option Elab.async false
set_option linter.all false
set_option maxRecDepth 100000
/-! Gx12: statements. -/
namespace Gx
open PySem PySem.Spec PyProof.Rows L2

def fin (Z : Ends) (P : Pm) (σ : L2.St) (H : Hp) : Flow' → Prop
  | .nx => Z.nx σ H
  | .brk => Z.bk σ H
  | .cont => Z.ct σ H
  | .ret d => ∀ v, RD P H d v → Z.rt v H
def PoS (X : Cx) (W : Option WX) (F : Addr → Prop) (μ : List Addr) (φ : Fr) (σ : L2.St) (H : Hp) (r : R Flow') (Z : Ends) : Prop := match r with
  | .ok f φ' S' => ∀ μ' σ' H', Sx X F μ φ σ H μ' φ' S' σ' H' → fin Z (pm X F μ' φ' σ') σ' H' f
  | .exc x φ' S' => W ≠ none ∧ ∀ μ' σ' H' cls dx, Sx X F μ φ σ H μ' φ' S' σ' H' → ExOk (pm X F μ' φ' σ') H' x cls dx → Wi W cls dx σ' H'
  | .no => False
def tS (X : Cx) (W : Option WX) (f : Fr → Sto → R Flow') : TS := fun Z σ H => ∃ F μ φ S, Rl X F μ φ S σ H ∧ PoS X W F μ φ σ H (f φ S) Z
abbrev GS (X : Cx) (W : Option WX) (st : Stmt) (f : Fr → Sto → R Flow') : Prop := PS X st (tS X W f)
abbrev GSs (X : Cx) (W : Option WX) (st : List Stmt) (f : Fr → Sto → R Flow') : Prop := PSs X st (tS X W f)
theorem _root_.L2.PS.imp {X : Cx} {e : Stmt} {t t' : TS} (h : PS X e t) (k : ∀ Z σ H, t' Z σ H → t Z σ H) : PS X e t' := ⟨fun pins s σ H Z I q => h.run pins s σ H Z I (k Z σ H q)⟩
theorem _root_.L2.PSs.imp {X : Cx} {e : List Stmt} {t t' : TS} (h : PSs X e t) (k : ∀ Z σ H, t' Z σ H → t Z σ H) : PSs X e t' := ⟨fun pins s σ H Z I q => h.run pins s σ H Z I (k Z σ H q)⟩
section
variable {X : Cx} {W : Option WX} {F : Addr → Prop} {μ μ' μ'' : List Addr} {φ φ' φ'' : Fr} {S S' S'' : Sto} {σ σ' σ'' : L2.St} {H H' H'' : Hp} {Q : VK} {Z : Ends} {a b c e o tg : Expr} {es elts : List Expr} {pos p1 tpos : Pos} {kk : Nat} {fa fb fc fo : Fr → Sto → R D} {fr : Fr → Sto → R (List D)} {st : Stmt} {sts ss1 ss2 : List Stmt} {f g : Fr → Sto → R Flow'}
theorem PoS.re {r : R Flow'} (po : PoS X W F μ φ σ H r Z) (sx : Sx X F μ φ σ H μ' φ' S' σ' H') : PoS X W F μ' φ' σ' H' r Z := by
  cases r with
  | ok d φ'' S'' => exact fun μ'' σ'' H'' n => po μ'' σ'' H'' (sx.trans n)
  | exc x φ'' S'' => exact ⟨po.1, fun μ'' σ'' H'' c d n e => po.2 μ'' σ'' H'' c d (sx.trans n) e⟩
  | no => exact po
theorem PoS.fst {r : R D} {k : D → Fr → Sto → R Flow'} {Q1 : VK} (po : PoS X W F μ φ σ H (r.bind k) Z)
    (g : ∀ d φ1 S1 μ1 H1 v, Nx X F μ φ σ H μ1 φ1 S1 H1 → RX X F μ1 φ1 σ H1 d v → PoS X W F μ1 φ1 σ H1 (k d φ1 S1) Z → Q1 v H1) : PoE X W F μ φ σ H r Q1 := by
  cases r with
  | ok d φ1 S1 => exact fun μ1 H1 v nx rx => g d φ1 S1 μ1 H1 v nx rx (PoS.re po nx.sx)
  | exc x φ1 S1 => exact ⟨po.1, fun μ1 H1 c d n e => po.2 μ1 σ H1 c d n.sx e⟩
  | no => exact po
theorem PoS.fstA {r : R (List D)} {k : List D → Fr → Sto → R Flow'} {Q1 : List V → Hp → Prop} (po : PoS X W F μ φ σ H (r.bind k) Z)
    (g : ∀ d φ1 S1 μ1 H1 v, Nx X F μ φ σ H μ1 φ1 S1 H1 → RXs X F μ1 φ1 σ H1 d v → PoS X W F μ1 φ1 σ H1 (k d φ1 S1) Z → Q1 v H1) : PoA X W F μ φ σ H r Q1 := by
  cases r with
  | ok d φ1 S1 => exact fun μ1 H1 v nx rx => g d φ1 S1 μ1 H1 v nx rx (PoS.re po nx.sx)
  | exc x φ1 S1 => exact ⟨po.1, fun μ1 H1 c d n e => po.2 μ1 σ H1 c d n.sx e⟩
  | no => exact po
theorem PoS.fstI {r : R (List D)} {k : List D → Fr → Sto → R Flow'} {Q1 : L2.It → Hp → Prop} (po : PoS X W F μ φ σ H (r.bind k) Z)
    (g : ∀ l φ1 S1 μ1 H1 J, Nx X F μ φ σ H μ1 φ1 S1 H1 → Wk (pm X F μ1 φ1 σ) H1 J l → PoS X W F μ1 φ1 σ H1 (k l φ1 S1) Z → Q1 J H1) : PoI X W F μ φ σ H r Q1 := by
  cases r with
  | ok d φ1 S1 => exact fun μ1 H1 v nx rx => g d φ1 S1 μ1 H1 v nx rx (PoS.re po nx.sx)
  | exc x φ1 S1 => exact ⟨po.1, fun μ1 H1 c d n e => po.2 μ1 σ H1 c d n.sx e⟩
  | no => exact po
theorem PoS.fstT {r : R Bool} {k : Bool → Fr → Sto → R Flow'} {Q1 : Bool → Hp → Prop} (po : PoS X W F μ φ σ H (r.bind k) Z)
    (g : ∀ d φ1 S1 μ1 H1, Nx X F μ φ σ H μ1 φ1 S1 H1 → PoS X W F μ1 φ1 σ H1 (k d φ1 S1) Z → Q1 d H1) : PoT X W F μ φ σ H r Q1 := by
  cases r with
  | ok d φ1 S1 => exact fun μ1 H1 nx => g d φ1 S1 μ1 H1 nx (PoS.re po nx.sx)
  | exc x φ1 S1 => exact ⟨po.1, fun μ1 H1 c d n e => po.2 μ1 σ H1 c d n.sx e⟩
  | no => exact po
theorem PoS.opt {α : Type} {o : Option α} {k : α → Fr → Sto → R Flow'} (po : PoS X W F μ φ σ H ((ofO o φ S).bind k) Z) : ∃ a, o = some a ∧ PoS X W F μ φ σ H (k a φ S) Z := by
  cases o with
  | some a => exact ⟨a, rfl, po⟩
  | none => exact po.elim
/-- one statement behind another -/
theorem PoS.fstS {r : R Flow'} {k : Flow' → Fr → Sto → R Flow'} {Z1 : Ends} (po : PoS X W F μ φ σ H (r.bind k) Z)
    (g : ∀ d φ1 S1 μ1 σ1 H1, Sx X F μ φ σ H μ1 φ1 S1 σ1 H1 → PoS X W F μ1 φ1 σ1 H1 (k d φ1 S1) Z → fin Z1 (pm X F μ1 φ1 σ1) σ1 H1 d) : PoS X W F μ φ σ H r Z1 := by
  cases r with
  | ok d φ1 S1 => exact fun μ1 σ1 H1 sx => g d φ1 S1 μ1 σ1 H1 sx (PoS.re po sx)
  | exc x φ1 S1 => exact po
  | no => exact po
theorem PoS.nx1 (po : PoS X W F μ φ σ H (.ok .nx φ S) Z) (rl : Rl X F μ φ S σ H) : Z.nx σ H := po μ σ H (Sx.refl rl)

theorem gss_nil : GSs X W [] (fun φ S => .ok .nx φ S) := pss_nil.imp fun Z σ H ⟨F, μ, φ, S, rl, po⟩ => po.nx1 rl
def seqF (f g : Fr → Sto → R Flow') : Fr → Sto → R Flow' := fun φ S => (f φ S).bind fun x φ S => match x with
  | .nx => g φ S
  | x => .ok x φ S
theorem gss_cons (h1 : GS X W st f) (h2 : GSs X W sts g) : GSs X W (st :: sts) (seqF f g) := by
  refine (pss_cons h1 h2).imp fun Z σ H ⟨F, μ, φ, S, rl, po⟩ => ?_
  refine ⟨F, μ, φ, S, rl, PoS.fstS po fun x φ1 S1 μ1 σ1 H1 sx po1 => ?_⟩
  cases x with
  | nx => exact ⟨F, μ1, φ1, S1, sx.rl, po1⟩
  | brk => exact po1 μ1 σ1 H1 (Sx.refl sx.rl)
  | cont => exact po1 μ1 σ1 H1 (Sx.refl sx.rl)
  | ret d => exact po1 μ1 σ1 H1 (Sx.refl sx.rl)
theorem gs_if {tc : Fr → Sto → R Bool} (hc : GT X W c tc) (ha : GSs X W ss1 f) (hb : GSs X W ss2 g) : GS X W (.If c ss1 ss2 pos) (fun φ S => (tc φ S).bind fun t φ S => if t then f φ S else g φ S) := by
  refine (ps_if hc ha hb).imp fun Z σ H ⟨F, μ, φ, S, rl, po⟩ => ?_
  refine ⟨F, μ, φ, S, rl, PoS.fstT po fun t φ1 S1 μ1 H1 n1 po1 => ?_⟩
  cases t with
  | true => exact ⟨F, μ1, φ1, S1, n1.rl, po1⟩
  | false => exact ⟨F, μ1, φ1, S1, n1.rl, po1⟩
theorem gs_ret (ha : GE X W a fa) : GS X W (.Return (some a) pos) (fun φ S => (fa φ S).bind fun d φ S => if keepD d then .ok (.ret d) φ S else .no) := by
  refine (ps_ret ha).imp fun Z σ H ⟨F, μ, φ, S, rl, po⟩ => ?_
  refine ⟨F, μ, φ, S, rl, PoS.fst po fun d φ1 S1 μ1 H1 v n1 r1 po1 => ?_⟩
  split at po1
  · rename_i hk
    exact po1 μ1 σ H1 (Sx.refl n1.rl) v (r1.keep hk)
  · exact po1.elim
theorem gs_retN : GS X W (.Return none pos) (fun φ S => .ok (.ret .non) φ S) := ps_retN.imp fun Z σ H ⟨F, μ, φ, S, rl, po⟩ => po μ σ H (Sx.refl rl) .non rfl
theorem gs_expr (ha : GE X W a fa) (hs : swapsWith a none pos.line X.env = pure false) : GS X W (.Expr a pos) (fun φ S => (fa φ S).bind fun _ φ S => .ok .nx φ S) := by
  refine (ps_expr ha hs).imp fun Z σ H ⟨F, μ, φ, S, rl, po⟩ => ?_
  exact ⟨F, μ, φ, S, rl, PoS.fst po fun d φ1 S1 μ1 H1 v n1 r1 po1 => po1.nx1 n1.rl⟩
theorem gs_pass : GS X W (.Pass pos) (fun φ S => .ok .nx φ S) := ps_pass.imp fun Z σ H ⟨F, μ, φ, S, rl, po⟩ => po.nx1 rl
theorem gs_brk : GS X W (.Break pos) (fun φ S => .ok .brk φ S) := ps_break.imp fun Z σ H ⟨F, μ, φ, S, rl, po⟩ => po μ σ H (Sx.refl rl)
theorem gs_cont : GS X W (.Continue pos) (fun φ S => .ok .cont φ S) := ps_continue.imp fun Z σ H ⟨F, μ, φ, S, rl, po⟩ => po μ σ H (Sx.refl rl)
/-- target = value -/
theorem gs_unp {t : Tg} (ha : GE X W a fa) (hg : PG X tg (tG X t)) (hs : swapsWithSole [tg] a pos.line X.env = pure false) (hw : swappedStores [tg] a X.env = pure none) (h1 : (assignEach [tg] X.env).map (·.2) = [assign tg X.env]) :
    GS X W (.Assign [tg] a pos) (fun φ S => (fa φ S).bind fun d φ S => (ofO (asgT t d φ) φ S).bind fun φ _ S => .ok .nx φ S) := by
  refine (ps_asg ha hg hs hw h1).imp fun Z σ H ⟨F, μ, φ, S, rl, po⟩ => ?_
  refine ⟨F, μ, φ, S, rl, PoS.fst po fun d φ1 S1 μ1 H1 v n1 r1 po1 => ?_⟩
  obtain ⟨φ2, e, po1⟩ := PoS.opt po1
  have hk : keepD d = true := by
    cases d <;> first | rfl | skip
    cases t <;> simp [asgT, keepD] at e
  exact ⟨F, μ1, φ1, S1, d, φ2, n1.rl, r1.keep hk, e, fun σ' sx _ => (po1.re sx).nx1 sx.rl⟩
/-- o[k] = value -/
theorem gs_six (ok : Okx X) (he : GE X W e fa) (ho : GE X W o fo) (hb : GE X W b fb)
    (hs : swapsWithSole [.Subscript o b p1] e pos.line X.env = pure false) (hw : swappedStores [.Subscript o b p1] e X.env = pure none) (h1 : (assignEach [.Subscript o b p1] X.env).map (·.2) = [assign (.Subscript o b p1) X.env])
    (hk : ∀ v, assign (.Subscript o b p1) X.env v = (do
      let ov ← holding [v] (eval o X.env)
      let iv ← holding [v, ov] (eval b X.env)
      standAt p1
      holding [v, ov, iv] (setItem ov iv v)
      release [v, ov, iv] [])) :
    GS X W (.Assign [.Subscript o b p1] e pos) (fun φ S => (fa φ S).bind fun x φ S => (fo φ S).bind fun r φ S => (fb φ S).bind fun k φ S => if keepD x then
      (ofO (setIxD (look φ S r) (look φ S k) x) φ S).bind fun d φ S => (ofO (putRef r d φ S) φ S).bind fun q _ _ => .ok .nx q.1 q.2 else .no) := by
  refine (ps_asg he (pg_sub ho hb (set_ok ok) hk) hs hw h1).imp fun Z σ H ⟨F, μ, φ, S, rl, po⟩ => ?_
  refine ⟨F, μ, φ, S, rl, PoS.fst po fun x φ1 S1 μ1 H1 v n1 r1 po1 => ?_⟩
  refine ⟨F, μ1, φ1, S1, n1.rl, PoS.fst po1 fun r φ2 S2 μ2 H2 w n2 r2 po2 => ?_⟩
  refine ⟨F, μ2, φ2, S2, n2.rl, PoS.fst po2 fun k φ3 S3 μ3 H3 u n3 r3 po3 => ?_⟩
  split at po3
  · rename_i hx
    obtain ⟨d, e1, po3⟩ := PoS.opt po3
    obtain ⟨q, e2, po3⟩ := PoS.opt po3
    exact ⟨F, μ3, φ3, S3, σ, r, _, x, d, q, n3.rl, n3.rx r2, n3.rl.look r3, (n3.rx (n2.rx r1)).keep hx, e1, e2, fun H' nx => (po3.re nx.sx).nx1 nx.rl⟩
  · exact po3.elim
end
end Gx
set_option Elab.async false
set_option linter.all false
set_option maxRecDepth 100000
/-! Gx13: name op= e; o[k] op= e; owned stores; loops. -/
namespace Gx
open PySem PySem.Spec PyProof.Rows L2
section
variable {X : Cx} {W : Option WX} {F : Addr → Prop} {μ μ' μ'' : List Addr} {φ φ' φ'' : Fr} {S S' S'' : Sto} {σ σ' σ'' : L2.St} {H H' H'' : Hp} {Q : VK} {Z : Ends} {a b c e o tg : Expr} {es elts : List Expr} {pos p1 tpos : Pos} {kk : Nat} {fa fb fc fo fe : Fr → Sto → R D} {fr : Fr → Sto → R (List D)} {st : Stmt} {sts ss1 ss2 : List Stmt} {f g : Fr → Sto → R Flow'}
def ipD (o : BOp) : TIp := fun x y H Q => ∃ P a b d, RD P H a x ∧ RD P H b y ∧ augD o a b = some d ∧ ∀ w, RD P H d w → Q w H
theorem ip_ok (o : BOp) : PIp X (pyOp o) (ipD o) := by
  intro pins s σ H x y v u Q I rx ry h
  obtain ⟨P, a, b, d, r1, r2, e, q⟩ := h
  unfold augD at e
  split at e <;> simp only [Option.some.injEq, reduceCtorEq] at e
  · subst e; cases r1; cases r2
    exact ip_add pins s σ H _ _ v u Q I rx ry ⟨_, _, rfl, rfl, q _ rfl⟩
  · subst e; cases r1; cases r2
    exact ip_sub pins s σ H _ _ v u Q I rx ry ⟨_, _, rfl, rfl, q _ rfl⟩
theorem aug_keep {o : BOp} {x y d : D} (h : augD o x y = some d) : (∃ i, x = .int i) ∧ (∃ j, y = .int j) ∧ ∃ k, d = .int k := by
  unfold augD at h
  split at h <;> simp only [Option.some.injEq, reduceCtorEq] at h
  · exact ⟨⟨_, rfl⟩, ⟨_, rfl⟩, _, h.symm⟩
  · exact ⟨⟨_, rfl⟩, ⟨_, rfl⟩, _, h.symm⟩
theorem gs_aug {i : Nat} {x : Str} {op : BOp} (hN : X.N.Nodup) (hi : X.N[i]? = some x) (hx : L2.Loc X.env.scope x) (he : GE X W e fe) (hf : X.fn x = true ∨ X.env.scope.names.lookup x = some .local) :
    GS X W (.AugAssign (.Name x p1) (pyOp op) e pos) (fun φ S => (ofO (φ.get i) φ S).bind fun x φ S => (fe φ S).bind fun y φ S => (ofO (augD op x y) φ S).bind fun z φ S => if i < φ.length then .ok .nx (φ.set i (.v z)) S else .no) := by
  refine (ps_aug hN hi hx he (ip_ok op) hf).imp fun Z σ H ⟨F, μ, φ, S, rl, po⟩ => ?_
  obtain ⟨d, e1, po⟩ := PoS.opt po
  obtain ⟨v, h1, h2⟩ := rl.get e1
  refine ⟨v, h1, F, μ, φ, S, rl, PoS.fst po fun y φ1 S1 μ1 H1 w n1 r1 po1 => ?_⟩
  obtain ⟨z, e2, po1⟩ := PoS.opt po1
  obtain ⟨⟨k1, rfl⟩, ⟨k2, rfl⟩, k3, rfl⟩ := aug_keep e2
  refine ⟨pm X F μ1 φ1 σ, .int k1, .int k2, .int k3, (n1.rx h2).keep rfl, r1.keep rfl, e2, fun w rw => ?_⟩
  split at po1
  · rename_i hl
    have sx := Sx.setV n1.rl hl rw
    exact (po1.re sx).nx1 sx.rl
  · exact po1.elim
def rGt (X : Cx) : V → V → Hp → VK → Prop := fun o i H Q => ∃ F μ φ S σ a k d, Rl X F μ φ S σ H ∧ RT (pm X F μ φ σ) H a o ∧ RT (pm X F μ φ σ) H k i ∧ ixL a k = some d ∧ ∀ v, RD (pm X F μ φ σ) H d v → Q v H
theorem get_ok (ok : Okx X) : PGet X (rGt X) := by
  intro pins s σ0 H o i ov iv Q I ro ri h
  obtain ⟨F, μ, φ, S, σ, a, k, d, rl, ra, rk, e, q⟩ := h
  unfold ixL at e
  split at e
  · rename_i l n
    obtain ⟨p, vs, rfl, h1, t⟩ := ra
    cases rk
    cases ro
    obtain ⟨tk, rfl⟩ := ri
    obtain ⟨its, r, pl, hz⟩ := I.list (.inl h1)
    obtain ⟨j, g1, g2, g3, g4, g5⟩ := atI_get e
    obtain ⟨v, ev, rv⟩ := t.get g2
    obtain ⟨w, ew, rw'⟩ := r.get ev
    have hl := r.length
    have hl2 := t.length
    have hn := line63
    have fin : EP X pins σ0 Q w s := ⟨v, H, I, rw', q _ rv⟩
    by_cases h0 : 0 ≤ n
    · have hj : n.toNat = j := by
        rw [seqIndex_of h0 g5] at g1
        exact Option.some.inj g1
      exact wpAny_getItem_list pl.isList h0 (by omega) (by rw [hj]; simpa using ew) fin
    · have hj : (n + (its.toArray.size : Int)).toNat = j := by
        rw [seqIndex_neg (by omega) g4] at g1
        rw [List.size_toArray, ← hl, ← hl2]
        exact Option.some.inj g1
      exact wpAny_getItem_list_neg pl.isList (by omega) (by rw [List.size_toArray] <;> omega) (by omega) (by rw [hj]; simpa using ew) fin
  · rename_i l
    obtain ⟨p, kvs, rfl, h1, t⟩ := ra
    obtain ⟨ky, ek, eg⟩ := Option.bind_eq_some_iff.mp e
    have ex := kOf_v rk ek
    subst ex
    cases ro
    obtain ⟨v, ev, rv⟩ : ∃ v, valV kvs ky = some v ∧ RD (pm X F μ φ σ) H d v := by
      rcases t.val ky with ⟨z, _⟩ | ⟨d', v, z1, z2, z3⟩
      · rw [eg] at z; cases z
      · rw [eg] at z1; cases z1; exact ⟨v, z2, z3⟩
    exact d_getItem (Nat.lt_of_le_of_lt (Nat.add_le_add_left (by decide : 1 ≤ 66) _) ok.hu) I (.inl ⟨kvs, ky, h1, rfl, ev.symm⟩) ri fun w' s' I' rw => ⟨v, H, I', rw, q _ rv⟩
  · cases e

theorem gs_aix (ok : Okx X) {op : BOp} (ho : GE X W o fo) (hb : GE X W b fb) (he : GE X W e fe)
    (ha : ∀ ov iv new, augStore b ov iv new = (do holding [new, ov, iv] (setItem ov iv new); release [new, ov, iv] []; pure .next)) :
    GS X W (.AugAssign (.Subscript o b tpos) (pyOp op) e pos) (fun φ S => (fo φ S).bind fun r φ S => (fb φ S).bind fun k φ S => (ofO (ixL (look φ S r) (look φ S k)) φ S).bind fun x φ S => (fe φ S).bind fun y φ S =>
      (ofO (augD op x y) φ S).bind fun z φ S => (ofO (setIxD (look φ S r) (look φ S k) z) φ S).bind fun d φ S => (ofO (putRef r d φ S) φ S).bind fun q _ _ => .ok .nx q.1 q.2) := by
  refine (ps_augS ho hb (get_ok ok) he (ip_ok op) (set_ok ok) ha).imp fun Z σ H ⟨F, μ, φ, S, rl, po⟩ => ?_
  refine ⟨F, μ, φ, S, rl, PoS.fst po fun r φ1 S1 μ1 H1 v n1 r1 po1 => ?_⟩
  refine ⟨F, μ1, φ1, S1, n1.rl, PoS.fst po1 fun k φ2 S2 μ2 H2 w n2 r2 po2 => ?_⟩
  obtain ⟨x, e1, po2⟩ := PoS.opt po2
  refine ⟨F, μ2, φ2, S2, σ, _, _, x, n2.rl, n2.rl.look (n2.rx r1), n2.rl.look r2, e1, fun xv rx => ?_⟩
  refine ⟨F, μ2, φ2, S2, n2.rl, PoS.fst po2 fun y φ3 S3 μ3 H3 u n3 r3 po3 => ?_⟩
  obtain ⟨z, e2, po3⟩ := PoS.opt po3
  obtain ⟨⟨k1, rfl⟩, ⟨k2, rfl⟩, k3, rfl⟩ := aug_keep e2
  obtain ⟨d, e3, po4⟩ := PoS.opt po3
  obtain ⟨q, e4, po5⟩ := PoS.opt po4
  refine ⟨pm X F μ3 φ3 σ, .int k1, .int k2, .int k3, RD.mono n3.ext rx, r3.keep rfl, e2, fun zv rz => ?_⟩
  exact ⟨F, μ3, φ3, S3, σ, r, _, _, d, q, n3.rl, n3.rx (n2.rx r1), n3.rl.look (n3.rx r2), rz, e3, e4, fun H' nx => (po5.re nx.sx).nx1 nx.rl⟩

/-! ### loops -/
theorem Gr.sx {H H' : Hp} (g : Gr H H') (rl : Rl X F μ φ S σ H) : Sx X F μ φ σ H μ φ S σ H' := (g.nx rl).sx
theorem gs_for {t : Tg} {fi : Fr → Sto → R (List D)} {fb : Fr → Sto → R Flow'} (hp : PassesOwn (model X.prog X.w) X.A X.env X.xe) (hc : X.calm = true) (hi : GI X W tg e fi) (hg : PG X tg (tG X t)) (hb : GSs X W sts fb) (hs : ∀ x, foldedSetIterable e X.env x = pure x) :
    GS X W (.For tg e sts [] pos) (fun φ S => (fi φ S).bind fun l φ S => each (fun x φ S => (ofO (asgT t x φ) φ S).bind fun φ _ S => fb φ S) l φ S) := by
  refine (ps_for hp hc hi hg hb hs).imp fun Z σ H ⟨F, μ, φ, S, rl, po⟩ => ?_
  refine ⟨F, μ, φ, S, rl, PoS.fstI po fun l φ0 S0 μ0 H0 J n0 wk po0 => ?_⟩
  let body : D → Fr → Sto → R Flow' := fun x φ S => (ofO (asgT t x φ) φ S).bind fun φ _ S => fb φ S
  refine ⟨fun i m σ' H' => m = l.length - i ∧ i ≤ l.length ∧ ∃ μ' φ' S', Sx X F μ0 φ0 σ H0 μ' φ' S' σ' H' ∧ PoS X W F μ' φ' σ' H' (each body (l.drop i) φ' S') Z, ⟨l.length, rfl, Nat.zero_le _, μ0, φ0, S0, Sx.refl n0.rl, po0⟩, ?_⟩
  rintro i m σ1 H1 ⟨rfl, hi, μ1, φ1, S1, s1, po1⟩
  have ma : ∀ x, (pm X F μ1 φ1 σ1).mu x → (pm X F μ1 φ1 σ1).av x := fun _ z => .inl z
  by_cases hlt : i < l.length
  · refine .inr ⟨wk.go _ _ i s1.ext hlt, ?_⟩
    have hd : l[i]? = some l[i] := List.getElem?_eq_getElem hlt
    rw [List.drop_eq_getElem_cons hlt] at po1
    refine ⟨fun σ' H' => ∃ μ' φ' S', Sx X F μ0 φ0 σ H0 μ' φ' S' σ' H' ∧ PoS X W F μ' φ' σ' H' (each body (l.drop (i + 1)) φ' S') Z, fun σ' H' ⟨μ', φ', S', h1, h2⟩ => ⟨l.length - (i + 1), by omega, rfl, hlt, μ', φ', S', h1, h2⟩, fun x H' hy => ?_⟩
    obtain ⟨gr, rx⟩ := wk.yld _ _ i _ x H' s1.ext ma hd hy
    have s2 := gr.sx s1.rl
    have po2 : PoS X W F μ1 φ1 σ1 H' ((body l[i] φ1 S1).bind fun f φ S => match f with
      | .nx => each body (l.drop (i + 1)) φ S
      | .cont => each body (l.drop (i + 1)) φ S
      | .brk => .ok .nx φ S
      | .ret d => .ok (.ret d) φ S) Z := PoS.re po1 s2
    show tG X t x σ1 H' _
    obtain ⟨φ2, e1, _⟩ : ∃ φ2, asgT t l[i] φ1 = some φ2 ∧ True := by
      cases e1 : asgT t l[i] φ1 with
      | some φ2 => exact ⟨φ2, rfl, trivial⟩
      | none =>
        have : body l[i] φ1 S1 = .no := by show (ofO (asgT t l[i] φ1) φ1 S1).bind _ = _; rw [e1]; rfl
        rw [this] at po2
        exact po2.elim
    have eb : body l[i] φ1 S1 = fb φ2 S1 := by show (ofO (asgT t l[i] φ1) φ1 S1).bind _ = _; rw [e1]; rfl
    rw [eb] at po2
    refine ⟨F, μ1, φ1, S1, l[i], φ2, s2.rl, rx, e1, fun σ2 s3 _ => ⟨F, μ1, φ2, S1, s3.rl, ?_⟩⟩
    refine PoS.fstS (PoS.re po2 s3) fun d φ3 S3 μ3 σ3 H3 s4 po3 => ?_
    have s5 := ((s1.trans s2).trans s3).trans s4
    cases d with
    | nx => exact ⟨μ3, φ3, S3, s5, po3⟩
    | cont => exact ⟨μ3, φ3, S3, s5, po3⟩
    | brk => exact po3.nx1 s4.rl
    | ret d => exact po3 μ3 σ3 H3 (Sx.refl s4.rl)
  · have e : i = l.length := by omega
    subst e
    refine .inl ⟨wk.stop _ _ s1.ext, ?_⟩
    rw [List.drop_length] at po1
    exact po1.nx1 s1.rl
theorem gs_while {n : Nat} {tc : Fr → Sto → R Bool} {fb : Fr → Sto → R Flow'} (hp : PassesOwn (model X.prog X.w) X.A X.env X.xe) (hc : GT X W c tc) (hb : GSs X W sts fb) : GS X W (.While c sts [] pos) (fun φ S => loop tc fb n φ S) := by
  refine (ps_while hp hc hb).imp fun Z σ H ⟨F, μ, φ, S, rl, po⟩ => ?_
  refine ⟨fun m σ' H' => ∃ μ' φ' S', Rl X F μ' φ' S' σ' H' ∧ PoS X W F μ' φ' σ' H' (loop tc fb m φ' S') Z, ⟨n, μ, φ, S, rl, po⟩, ?_⟩
  rintro m σ1 H1 ⟨μ1, φ1, S1, r1, po1⟩
  cases m with
  | zero => exact po1.elim
  | succ m =>
    refine ⟨F, μ1, φ1, S1, r1, PoS.fstT po1 fun t φ2 S2 μ2 H2 n2 po2 => ?_⟩
    cases t with
    | false => exact po2.nx1 n2.rl
    | true =>
      refine ⟨fun σ' H' => ∃ μ' φ' S', Rl X F μ' φ' S' σ' H' ∧ PoS X W F μ' φ' σ' H' (loop tc fb m φ' S') Z, fun σ' H' h => ⟨m, Nat.lt_succ_self m, h⟩, F, μ2, φ2, S2, n2.rl, ?_⟩
      refine PoS.fstS po2 fun d φ3 S3 μ3 σ3 H3 s3 po3 => ?_
      cases d with
      | nx => exact ⟨μ3, φ3, S3, s3.rl, po3⟩
      | cont => exact ⟨μ3, φ3, S3, s3.rl, po3⟩
      | brk => exact po3.nx1 s3.rl
      | ret d => exact po3 μ3 σ3 H3 (Sx.refl s3.rl)
end
end Gx
set_option Elab.async false
set_option linter.all false
set_option maxRecDepth 100000
/-! Gx14: stores of several values, some of them new objects that a slot then owns. -/
namespace Gx
open PySem PySem.Spec PyProof.Rows L2
def plus (F : Addr → Prop) (as : List Addr) : Addr → Prop := fun b => F b ∨ b ∈ as
theorem plus_nil (F : Addr → Prop) : plus F [] = F := by funext b; simp [plus]
theorem plus_cons (F : Addr → Prop) (a : Addr) (as : List Addr) : plus (fun b => F b ∨ b = a) as = plus F (a :: as) := by funext b; simp [plus, or_assoc]
theorem plus_cons' (F : Addr → Prop) (a : Addr) (as : List Addr) : (fun b => plus F as b ∨ b = a) = plus F (a :: as) := by funext b; simp only [plus, List.mem_cons, eq_iff_iff]; constructor <;> (intro h; rcases h with h | h) <;> first | (rcases h with h | h <;> simp [h]) | simp [h]
/-- what was made: new objects at as, and plain values -/
def RM (P : Pm) (H : Hp) : List (Nat × Bool) → List Addr → List D → List V → Prop
  | [], as, ds, vs => as = [] ∧ ds = [] ∧ vs = []
  | (_, true) :: is, as, ds, vs => ∃ a as' d ds' vs', as = a :: as' ∧ ds = d :: ds' ∧ vs = .ref a :: vs' ∧ RH P H d a ∧ a ∉ as' ∧ RM P H is as' ds' vs'
  | (_, false) :: is, as, ds, vs => ∃ d ds' v vs', ds = d :: ds' ∧ vs = v :: vs' ∧ (keepD d = true → RD P H d v) ∧ RM P H is as ds' vs'
theorem RM.via {P P' : Pm} {H : Hp} (s : Sim P P') : ∀ {is : List (Nat × Bool)} {as : List Addr} {ds : List D} {vs : List V}, RM P H is as ds vs → RM P' H is as ds vs
  | [], _, _, _, h => h
  | (_, true) :: is, _, _, _, ⟨a, as', d, ds', vs', e1, e2, e3, h1, h2, h3⟩ => ⟨a, as', d, ds', vs', e1, e2, e3, h1.via s, h2, h3.via s⟩
  | (_, false) :: is, _, _, _, ⟨d, ds', v, vs', e2, e3, h1, h3⟩ => ⟨d, ds', v, vs', e2, e3, fun k => RD.via s (h1 k), h3.via s⟩
theorem RM.mono {P P' : Pm} {H H' : Hp} (s : Ext P H P' H') : ∀ {is : List (Nat × Bool)} {as : List Addr} {ds : List D} {vs : List V}, (∀ a ∈ as, H' a = H a) → RM P H is as ds vs → RM P' H' is as ds vs
  | [], _, _, _, _, h => h
  | (_, true) :: is, _, _, _, k, ⟨a, as', d, ds', vs', e1, e2, e3, h1, h2, h3⟩ => ⟨a, as', d, ds', vs', e1, e2, e3, h1.mono s (k a (by rw [e1]; simp)), h2, h3.mono s fun b hb => k b (by rw [e1]; simp [hb])⟩
  | (_, false) :: is, _, _, _, k, ⟨d, ds', v, vs', e2, e3, h1, h3⟩ => ⟨d, ds', v, vs', e2, e3, fun q => RD.mono s (h1 q), h3.mono s k⟩
section
variable {X : Cx} {W : Option WX} {F : Addr → Prop} {μ μ' μ'' : List Addr} {φ φ' φ'' : Fr} {S S' S'' : Sto} {σ σ' σ'' : L2.St} {H H' H'' : Hp} {Q : VK} {Z : Ends} {a b c e o tg : Expr} {es elts : List Expr} {pos p1 tpos : Pos} {kk : Nat} {fa fb fc fo fe : Fr → Sto → R D} {fr : Fr → Sto → R (List D)} {is : List (Nat × Bool)}
def PoM (X : Cx) (W : Option WX) (is : List (Nat × Bool)) (F : Addr → Prop) (μ : List Addr) (φ : Fr) (σ : L2.St) (H : Hp) (r : R (List D)) (Q : List V → Hp → Prop) : Prop := match r with
  | .ok ds φ' S' => ∀ μ' H' as vs, (∀ x ∈ as, ¬ nt H x) → Rl X (plus F as) μ' φ' S' σ H' → RM (pm X (plus F as) μ' φ' σ) H' is as ds vs → Ext (pm X F μ φ σ) H (pm X F μ' φ' σ) H' →
      (∀ (i : Nat) w d, φ[i]? = some (.own w d) → ∃ d', φ'[i]? = some (.own w d')) → Fix F φ σ H φ' H' → Q vs H'
  | .exc x φ' S' => W ≠ none ∧ ∀ μ' H' cls dx, Nx X F μ φ σ H μ' φ' S' H' → ExOk (pm X F μ' φ' σ) H' x cls dx → Wi W cls dx σ H'
  | .no => False
def tM (X : Cx) (W : Option WX) (is : List (Nat × Bool)) (f : Fr → Sto → R (List D)) : TA := fun σ H Q => ∃ F μ φ S, Rl X F μ φ S σ H ∧ PoM X W is F μ φ σ H (f φ S) Q
abbrev GM (X : Cx) (W : Option WX) (is : List (Nat × Bool)) (es : List Expr) (f : Fr → Sto → R (List D)) : Prop := PA X es (tM X W is f)
theorem gm_nil : GM X W [] [] (fun φ S => .ok [] φ S) := pa_nil.imp fun σ H Q ⟨F, μ, φ, S, rl, po⟩ => by
  refine po μ H [] [] (fun x h => by simp at h) (by rw [plus_nil]; exact rl) ⟨rfl, rfl, rfl⟩ (Ext.refl fun _ z => .inl z) (fun i w d h => ⟨d, h⟩) Fix.refl
/-- new addresses kept apart -/
theorem Ext.plus {as : List Addr} (e : Ext (pm X F μ φ σ) H (pm X F μ' φ' σ') H') (n : ∀ x ∈ as, ¬ nt H x) : Ext (pm X F μ φ σ) H (pm X (plus F as) μ' φ' σ') H' :=
  ⟨e.K, e.mg, e.keep, e.tup, e.mu, fun x h z => by
    rcases z with z | z | z
    · exact e.av x h (.inl z)
    · exact e.av x h (.inr z)
    · exact (n x z h).elim, e.bx, e.ma, e.there, e.tb⟩
theorem PoM.re {r : R (List D)} {Q : List V → Hp → Prop} (po : PoM X W is F μ φ σ H r Q) (nx : Nx X F μ φ σ H μ' φ' S' H') : PoM X W is F μ' φ' σ H' r Q := by
  cases r with
  | ok d φ'' S'' => exact fun μ'' H'' as vs n rl rm ex sh fx => po μ'' H'' as vs (fun x hx z => n x hx (nx.ext.there x z)) rl rm (nx.ext.trans ex) (fun i w d h => (nx.shape i w d h).elim fun d1 h1 => sh i w d1 h1) (nx.fx.trans fx)
  | exc x φ'' S'' => exact ⟨po.1, fun μ'' H'' c d n e => po.2 μ'' H'' c d (nx.trans n) e⟩
  | no => exact po
theorem gm_consV {i : Nat} (ha : GE X W a fa) (hr : GM X W is es fr) (hs : starEach (a :: es) X.env = (false, eval a X.env) :: starEach es X.env) :
    GM X W ((i, false) :: is) (a :: es) (fun φ S => (fa φ S).bind fun d φ S => (fr φ S).bind fun ds φ S => .ok (d :: ds) φ S) := by
  refine (pa_cons ha hr hs).imp fun σ H Q ⟨F, μ, φ, S, rl, po⟩ => ?_
  refine ⟨F, μ, φ, S, rl, ?_⟩
  have po : PoM X W ((i, false) :: is) F μ φ σ H ((fa φ S).bind fun d φ S => (fr φ S).bind fun ds φ S => .ok (d :: ds) φ S) Q := po
  revert po
  cases fa φ S with
  | no => exact fun po => po
  | exc x φ1 S1 => exact fun po => po
  | ok d φ1 S1 =>
    intro po μ1 H1 v n1 r1
    refine ⟨F, μ1, φ1, S1, n1.rl, ?_⟩
    have po : PoM X W ((i, false) :: is) F μ1 φ1 σ H1 ((fr φ1 S1).bind fun ds φ S => .ok (d :: ds) φ S) Q := PoM.re po n1
    revert po
    cases fr φ1 S1 with
    | no => exact fun po => po
    | exc x φ2 S2 => exact fun po => po
    | ok ds φ2 S2 =>
      intro po μ2 H2 as vs n2 rl2 rm ex sh fx
      exact po μ2 H2 as (v :: vs) n2 rl2 ⟨d, ds, v, vs, rfl, rfl, fun k => RD.mono (ex.plus n2) (r1.keep k), rm⟩ ex sh fx
theorem gm_consF {i : Nat} (ha : GF X W a fa) (hr : GM X W is es fr) (hs : starEach (a :: es) X.env = (false, eval a X.env) :: starEach es X.env) :
    GM X W ((i, true) :: is) (a :: es) (fun φ S => (fa φ S).bind fun d φ S => (fr φ S).bind fun ds φ S => .ok (d :: ds) φ S) := by
  refine (pa_cons ha hr hs).imp fun σ H Q ⟨F, μ, φ, S, rl, po⟩ => ?_
  refine ⟨F, μ, φ, S, rl, ?_⟩
  have po : PoM X W ((i, true) :: is) F μ φ σ H ((fa φ S).bind fun d φ S => (fr φ S).bind fun ds φ S => .ok (d :: ds) φ S) Q := po
  revert po
  cases fa φ S with
  | no => exact fun po => po
  | exc x φ1 S1 => exact fun po => po
  | ok d φ1 S1 =>
    intro po μ1 H1 p hp rl1 rh ex1 sh1 fx1
    refine ⟨fun b => F b ∨ b = p, μ1, φ1, S1, rl1, ?_⟩
    have po : PoM X W ((i, true) :: is) F μ φ σ H ((fr φ1 S1).bind fun ds φ S => .ok (d :: ds) φ S) Q := po
    have hpn : nt H1 p := rl1.f1 p (.inr rfl)
    obtain ⟨rl0, _, _⟩ := rl1.less
    have n1 : Nx X F μ φ σ H μ1 φ1 S1 H1 := ⟨rl0, ex1, sh1, fx1⟩
    have cv : ∀ {μ2 : List Addr} {φ2 : Fr} {H2 : Hp}, (∀ x, (F x ∨ x = p) → ¬ muOf μ2 φ2 σ x) → Ext (pm X (fun b => F b ∨ b = p) μ1 φ1 σ) H1 (pm X (fun b => F b ∨ b = p) μ2 φ2 σ) H2 → Ext (pm X F μ1 φ1 σ) H1 (pm X F μ2 φ2 σ) H2 := fun {μ2 φ2 H2} f2 ex => ⟨ex.K, ex.mg, ex.keep, ex.tup, ex.mu, fun x h z => by
        have : (pm X (fun b => F b ∨ b = p) μ2 φ2 σ).av x := z.elim .inl fun z => .inr (.inl z)
        rcases ex.av x h this with q | q | q
        · exact .inl q
        · exact .inr q
        · subst q
          rcases z with z | z
          · exact absurd z (f2 _ (.inr rfl))
          · exact .inr z, ex.bx, fun _ z => .inl z, ex.there, ex.tb⟩
    revert po
    cases fr φ1 S1 with
    | no => exact fun po => po
    | exc x φ2 S2 =>
      refine fun po => ⟨po.1, fun μ2 H2 cls dx n2 e => ?_⟩
      have l2 := n2.rl.less
      exact po.2 μ2 H2 cls dx (n1.trans ⟨l2.1, cv n2.rl.f2 n2.ext, n2.shape, ⟨fun x h => n2.fx.f x (.inl h), n2.fx.ro⟩⟩) (by
        obtain ⟨C, h1, h2, h3⟩ := e
        refine ⟨C, h1, h2, ?_⟩
        cases dx with
        | none => exact h3
        | some dd =>
          obtain ⟨kvs, h4, h5⟩ := h3
          exact ⟨kvs, h4, RDf.mono Ext.less h5⟩)
    | ok ds φ2 S2 =>
      intro po μ2 H2 as vs n2 rl2 rm ex2 sh2 fx2
      have e2 := ex2.plus n2
      rw [plus_cons] at rl2 rm e2
      refine po μ2 H2 (p :: as) (.ref p :: vs) (fun x hx => ?_) rl2 ⟨p, as, d, ds, vs, rfl, rfl, rfl, rh.mono e2 (fx2.f p (.inr rfl)), fun z => n2 p z hpn, rm⟩ (ex1.trans (cv (fun x hx => rl2.f2 x (by
        rcases hx with hx | hx
        · exact .inl hx
        · exact .inr (by rw [hx]; simp))) ex2)) (fun i w d h => (sh1 i w d h).elim fun d1 h1 => sh2 i w d1 h1) (fx1.trans ⟨fun x h => fx2.f x (.inl h), fx2.ro⟩)
      rcases List.mem_cons.mp hx with rfl | hx
      · exact hp
      · exact fun z => n2 x hx (ex1.there x z)

/-! ### the stores -/
def stAll : List (Nat × Bool) → List V → L2.St → L2.St
  | (i, _) :: is, v :: vs, σ => stAll is vs (σ.set i (some v))
  | _, _, σ => σ
theorem own_setO {i : Nat} {d : D} {p : Addr} {j : Nat} {x : Addr} (h : Own (φ.set i (.own true d)) (σ.set i (some (.ref p))) j x) : (i = j ∧ x = p) ∨ (i ≠ j ∧ Own φ σ j x) := by
  obtain ⟨w, c, h1, h2⟩ := h
  by_cases e : i = j
  · subst e
    rcases Nat.lt_or_ge i σ.length with q | q
    · rw [List.getElem?_set_self q] at h2; cases h2; exact .inl ⟨rfl, rfl⟩
    · rw [List.getElem?_eq_none (by simpa using q)] at h2; cases h2
  · rw [List.getElem?_set_ne e] at h1 h2
    exact .inr ⟨e, w, c, h1, h2⟩
theorem Rl.setO {G : Addr → Prop} {p : Addr} (rl : Rl X (fun b => G b ∨ b = p) μ φ S σ H) (np : ¬ G p) {i : Nat} {d : D} (hi : i < φ.length) (h : RH (pm X (fun b => G b ∨ b = p) μ φ σ) H d p) :
    Rl X G μ (φ.set i (.own true d)) S (σ.set i (some (.ref p))) H ∧ Sim (pm X (fun b => G b ∨ b = p) μ φ σ) (pm X G μ (φ.set i (.own true d)) (σ.set i (some (.ref p)))) ∧ ∀ x, muOf μ (φ.set i (.own true d)) (σ.set i (some (.ref p))) x → muOf μ φ σ x ∨ x = p := by
  have mu : ∀ x, muOf μ (φ.set i (.own true d)) (σ.set i (some (.ref p))) x → muOf μ φ σ x ∨ x = p := fun x q => by
    rcases q with q | ⟨j, q⟩
    · exact .inl (.inl q)
    · rcases own_setO q with ⟨_, q⟩ | ⟨_, q⟩
      · exact .inr q
      · exact .inl (.inr ⟨j, q⟩)
  have sm : Sim (pm X (fun b => G b ∨ b = p) μ φ σ) (pm X G μ (φ.set i (.own true d)) (σ.set i (some (.ref p)))) := ⟨rfl, rfl, fun x q => by
    rcases q with q | q
    · rcases mu x q with q | q
      · exact .inl q
      · exact .inr (.inr q)
    · exact .inr (.inl q), fun _ _ q => q⟩
  have hs : i < σ.length := by rw [← rl.lenF]; exact hi
  refine ⟨⟨rl.lenS, by rw [List.length_set, List.length_set]; exact rl.lenF, fun n x q z1 z2 => (rl.bx n x q z1 z2).via sm, fun j s w z1 z2 => ?_, rl.n1, fun n j x z1 z2 => ?_, fun j k x z1 z2 => ?_, fun x q => rl.f1 x (.inl q), fun x z1 z2 => ?_, rl.tab⟩, sm, mu⟩
  · by_cases e : i = j
    · subst e
      rw [List.getElem?_set_self hi] at z1
      rw [List.getElem?_set_self hs] at z2
      cases z1; cases z2
      exact ⟨p, rfl, h.via sm⟩
    · rw [List.getElem?_set_ne e] at z1 z2
      have q := rl.sl j s w z1 z2
      cases s with
      | em => trivial
      | v d => obtain ⟨v, e1, r⟩ := q; exact ⟨v, e1, RD.via sm r⟩
      | own b d => obtain ⟨x, e1, r⟩ := q; exact ⟨x, e1, r.via sm⟩
  · rcases own_setO z2 with ⟨_, q⟩ | ⟨_, q⟩
    · subst q; exact rl.f2 x (.inr rfl) (.inl ⟨n, z1⟩)
    · exact rl.n2 n j x z1 q
  · rcases own_setO z1 with ⟨e1, q1⟩ | ⟨e1, q1⟩
    · rcases own_setO z2 with ⟨e2, q2⟩ | ⟨e2, q2⟩
      · exact e1.symm.trans e2
      · subst q1; exact absurd (.inr ⟨k, q2⟩) (rl.f2 x (.inr rfl))
    · rcases own_setO z2 with ⟨e2, q2⟩ | ⟨e2, q2⟩
      · subst q2; exact absurd (.inr ⟨j, q1⟩) (rl.f2 x (.inr rfl))
      · exact rl.n3 j k x q1 q2
  · rcases mu x z2 with q | q
    · exact rl.f2 x (.inl z1) q
    · subst q; exact np z1
theorem store_all : ∀ (is : List (Nat × Bool)) (as : List Addr) (ds : List D) (vs : List V) (φ : Fr) (σ : L2.St) (φ' : Fr), Rl X (plus F as) μ φ S σ H → (∀ x ∈ as, ¬ F x) → RM (pm X (plus F as) μ φ σ) H is as ds vs → setAll is ds φ = some φ' →
    Rl X F μ φ' S (stAll is vs σ) H ∧ ∀ x, muOf μ φ' (stAll is vs σ) x → muOf μ φ σ x ∨ x ∈ as
  | [], as, ds, vs, φ, σ, φ', rl, nf, rm, e => by
    obtain ⟨rfl, rfl, rfl⟩ := rm
    simp only [setAll, Option.some.injEq] at e
    subst e
    rw [plus_nil] at rl
    exact ⟨rl, fun x h => .inl h⟩
  | (i, true) :: is, as, ds, vs, φ, σ, φ', rl, nf, rm, e => by
    obtain ⟨p, as', d, ds', vs', rfl, rfl, rfl, h1, h2, h3⟩ := rm
    simp only [setAll] at e
    split at e
    · rename_i hk
      simp only [Bool.and_eq_true, decide_eq_true_eq] at hk
      rw [← plus_cons'] at rl h1 h3
      obtain ⟨rl2, sm, mu⟩ := rl.setO (i := i) (fun z => z.elim (nf p List.mem_cons_self) h2) hk.2 h1
      obtain ⟨r, k⟩ := store_all is as' ds' vs' _ _ φ' rl2 (fun x hx => nf x (List.mem_cons_of_mem _ hx)) (h3.via sm) (by simpa using e)
      refine ⟨r, fun x hx => ?_⟩
      rcases k x hx with q | q
      · rcases mu x q with q | q
        · exact .inl q
        · exact .inr (by rw [q]; simp)
      · exact .inr (List.mem_cons_of_mem _ q)
    · cases e
  | (i, false) :: is, as, ds, vs, φ, σ, φ', rl, nf, rm, e => by
    obtain ⟨d, ds', v, vs', rfl, rfl, h1, h3⟩ := rm
    simp only [setAll] at e
    split at e
    · rename_i hk
      simp only [Bool.and_eq_true, decide_eq_true_eq] at hk
      have sx := Sx.setV rl hk.2 (h1 hk.1)
      have sm : Sim (pm X (plus F as) μ φ σ) (pm X (plus F as) μ (φ.set i (.v d)) (σ.set i (some v))) := ⟨rfl, rfl, fun x q => q.elim (fun z => .inl (muOf_setV z)) .inr, fun _ _ q => q⟩
      obtain ⟨r, k⟩ := store_all is as ds' vs' _ _ φ' sx.rl nf (h3.via sm) (by simpa using e)
      refine ⟨r, fun x hx => ?_⟩
      rcases k x hx with q | q
      · exact .inl (muOf_setV q)
      · exact .inr q
    · cases e
/-- the statement's end -/
theorem stored {as : List Addr} {ds : List D} {vs : List V} (rl0 : Rl X F μ φ S σ H) (n : ∀ x ∈ as, ¬ nt H x) (rl : Rl X (plus F as) μ' φ' S' σ H') (rm : RM (pm X (plus F as) μ' φ' σ) H' is as ds vs) (ex : Ext (pm X F μ φ σ) H (pm X F μ' φ' σ) H') (fx : Fix F φ σ H φ' H') (e : setAll is ds φ' = some φ'') :
    Sx X F μ φ σ H μ' φ'' S' (stAll is vs σ) H' := by
  obtain ⟨r, k⟩ := store_all is as ds vs φ' σ φ'' rl (fun x hx z => n x hx (rl0.f1 x z)) rm e
  refine ⟨r, ⟨ex.K, ex.mg, ex.keep, ex.tup, fun x h z => ?_, fun x h z => ?_, ex.bx, ex.ma, ex.there, ex.tb⟩, fx.f⟩
  · rcases k x z with q | q
    · exact ex.mu x h q
    · exact (n x q h).elim
  · rcases z with z | z
    · rcases k x z with q | q
      · exact ex.av x h (.inl q)
      · exact (n x q h).elim
    · exact ex.av x h (.inr z)
end
end Gx
set_option Elab.async false
set_option linter.all false
set_option maxRecDepth 100000
/-! Gx15: stores of several values: the statements; a slot's own object given free; new objects of other expressions. -/
namespace Gx
open PySem PySem.Spec PyProof.Rows L2
section
variable {X : Cx} {W : Option WX} {F : Addr → Prop} {μ μ' μ'' : List Addr} {φ φ' φ'' : Fr} {S S' S'' : Sto} {σ σ' σ'' : L2.St} {H H' H'' : Hp} {Q : VK} {Z : Ends} {a b c e o tg : Expr} {es elts : List Expr} {pos p1 tpos px py pz pt pt2 : Pos} {kk kt k2 : Nat} {fa fb fc fo fe : Fr → Sto → R D} {fr : Fr → Sto → R (List D)} {is : List (Nat × Bool)} {sts : List Stmt} {g : Fr → Sto → R Flow'}
abbrev parF (is : List (Nat × Bool)) (fr : Fr → Sto → R (List D)) : Fr → Sto → R Flow' := fun φ S => (fr φ S).bind fun ds φ S => (ofO (setAll is ds φ) φ S).bind fun φ _ S => .ok .nx φ S
theorem PoS.fstM {r : R (List D)} (po : PoS X W F μ φ σ H (r.bind fun ds φ S => (ofO (setAll is ds φ) φ S).bind fun φ _ S => .ok .nx φ S) Z) (rl0 : Rl X F μ φ S σ H) : PoM X W is F μ φ σ H r (fun vs H' => Z.nx (stAll is vs σ) H') := by
  revert po
  cases r with
  | no => exact fun po => po
  | exc x φ1 S1 => exact fun po => ⟨po.1, fun μ' H' cls dx nx e => po.2 μ' σ H' cls dx nx.sx e⟩
  | ok ds φ1 S1 =>
    intro po μ' H' as vs n rl rm ex sh fx
    have po : PoS X W F μ φ σ H ((ofO (setAll is ds φ1) φ1 S1).bind fun φ _ S => .ok .nx φ S) Z := po
    cases e : setAll is ds φ1 with
    | none => rw [e] at po; exact po.elim
    | some φ2 =>
      rw [e] at po
      have sx := stored rl0 n rl rm ex fx e
      exact (PoS.re po sx).nx1 sx.rl
theorem PoM.len {r : R (List D)} {Q : List V → Hp → Prop} (po : PoM X W is F μ φ σ H r Q) : PoM X W is F μ φ σ H r (fun vs H' => vs.length = is.length ∧ Q vs H') := by
  have len : ∀ {P : Pm} {H : Hp} {is : List (Nat × Bool)} {as : List Addr} {ds : List D} {vs : List V}, RM P H is as ds vs → vs.length = is.length := fun {P H is} => by
    induction is with
    | nil => intro as ds vs h; rw [h.2.2]; rfl
    | cons p is ih =>
      obtain ⟨i, b⟩ := p
      cases b with
      | false => rintro as ds vs ⟨d, ds', v, vs', e2, rfl, h1, h3⟩; rw [List.length_cons, List.length_cons, ih h3]
      | true => rintro as ds vs ⟨a, as', d, ds', vs', e1, e2, rfl, h1, h2, h3⟩; rw [List.length_cons, List.length_cons, ih h3]
  revert po
  cases r with
  | no => exact fun po => po
  | exc x φ1 S1 => exact fun po => po
  | ok ds φ1 S1 => exact fun po μ' H' as vs n rl rm ex sh fx => ⟨len rm, po μ' H' as vs n rl rm ex sh fx⟩
theorem PoM.imp {r : R (List D)} {Q Q' : List V → Hp → Prop} (po : PoM X W is F μ φ σ H r Q) (k : ∀ vs H', Q vs H' → Q' vs H') : PoM X W is F μ φ σ H r Q' := by
  revert po
  cases r with
  | no => exact fun po => po
  | exc x φ1 S1 => exact fun po => po
  | ok ds φ1 S1 => exact fun po μ' H' as vs n rl rm ex sh fx => k _ _ (po μ' H' as vs n rl rm ex sh fx)
theorem gs_par2 {i j : Nat} {x y : Str} {bi bj : Bool} (hc : X.calm = true) (hN : X.N.Nodup) (hi : X.N[i]? = some x) (hj : X.N[j]? = some y) (hij : i ≠ j) (hx : X.env.scope.names.lookup x = some .local) (hy : X.env.scope.names.lookup y = some .local)
    (ha : GM X W [(i, bi), (j, bj)] [a, b] fr) (hw : swappedStores [.Tuple [.Name x px, .Name y py] kt pt] (.Tuple [a, b] k2 pt2) X.env = pure (some [x, y])) :
    GS X W (.Assign [.Tuple [.Name x px, .Name y py] kt pt] (.Tuple [a, b] k2 pt2) pos) (parF [(i, bi), (j, bj)] fr) := by
  refine (ps_par hc hN hi hj hij hx hy ha hw).imp fun Z σ H ⟨F, μ, φ, S, rl, po⟩ => ?_
  refine ⟨F, μ, φ, S, rl, ((PoS.fstM po rl).len).imp fun vs H' ⟨l, q⟩ => ?_⟩
  match vs, l with
  | [v, w], _ => exact ⟨v, w, rfl, q⟩
theorem gs_par3 {i j l : Nat} {x y z : Str} {bi bj bl : Bool} (hc : X.calm = true) (hN : X.N.Nodup) (hi : X.N[i]? = some x) (hj : X.N[j]? = some y) (hl : X.N[l]? = some z) (hij : i ≠ j) (hil : i ≠ l) (hjl : j ≠ l)
    (hx : X.env.scope.names.lookup x = some .local) (hy : X.env.scope.names.lookup y = some .local) (hz : X.env.scope.names.lookup z = some .local)
    (ha : GM X W [(i, bi), (j, bj), (l, bl)] [a, b, c] fr) (hw : swappedStores [.Tuple [.Name x px, .Name y py, .Name z pz] kt pt] (.Tuple [a, b, c] k2 pt2) X.env = pure (some [x, y, z])) :
    GS X W (.Assign [.Tuple [.Name x px, .Name y py, .Name z pz] kt pt] (.Tuple [a, b, c] k2 pt2) pos) (parF [(i, bi), (j, bj), (l, bl)] fr) := by
  refine (ps_par3 hc hN hi hj hl hij hil hjl hx hy hz ha hw).imp fun Z σ H ⟨F, μ, φ, S, rl, po⟩ => ?_
  refine ⟨F, μ, φ, S, rl, ((PoS.fstM po rl).len).imp fun vs H' ⟨l, q⟩ => ?_⟩
  match vs, l with
  | [u, v, w], _ => exact ⟨u, v, w, rfl, q⟩
/-- plain names, from the left -/
def gNs : List (Nat × Bool) → TGs
  | [] => gNil
  | (i, _) :: is => gCons (gName i) (gNs is)
theorem gNs_at : ∀ (is : List (Nat × Bool)) (vs : List V) (σ : L2.St) (H : Hp) (Q : L2.St → Hp → Prop), vs.length = is.length → Q (stAll is vs σ) H → gNs is vs σ H Q
  | [], [], σ, H, Q, _, q => ⟨rfl, q⟩
  | (i, b) :: is, v :: vs, σ, H, Q, l, q => ⟨v, vs, rfl, gNs_at is vs _ H Q (by simpa using l) q⟩
theorem gs_tupM {tes : List Expr} (hc : X.calm = true) (hz : is.length ≤ sizeLine) (ha : GM X W is es fr) (hg : PGs X tes (gNs is)) (hn : (assignEach tes X.env).length = is.length) (hst : (assignEach tes X.env).findIdx? (·.1) = none)
    (hs : swapsWithSole [.Tuple tes kt pt] (.Tuple es k2 pt2) pos.line X.env = pure false) (hw : swappedStores [.Tuple tes kt pt] (.Tuple es k2 pt2) X.env = pure none) (h1 : (assignEach [.Tuple tes kt pt] X.env).map (·.2) = [assign (.Tuple tes kt pt) X.env]) :
    GS X W (.Assign [.Tuple tes kt pt] (.Tuple es k2 pt2) pos) (parF is fr) := by
  refine (ps_asg (pe_tup ha) (pg_tup hc hg hn hst) hs hw h1).imp fun Z σ H ⟨F, μ, φ, S, rl, po⟩ => ?_
  refine ⟨F, μ, φ, S, rl, ?_⟩
  have po : PoS X W F μ φ σ H ((fr φ S).bind fun ds φ S => (ofO (setAll is ds φ) φ S).bind fun φ _ S => .ok .nx φ S) Z := po
  have fin : ∀ vs H', vs.length = is.length → (∀ p, H' p = none → Z.nx (stAll is vs σ) (upd H' p (.tup vs))) → vs.length ≤ sizeLine ∧ ∀ p, H' p = none → gTup X.K is.length (gNs is) (.ref p) σ (upd H' p (.tup vs)) Z.nx := fun vs H' l k =>
    ⟨by omega, fun p hp => ⟨p, vs, rfl, .inl (.inl upd_same), l, gNs_at is vs σ _ _ l (k p hp)⟩⟩
  suffices h : PoM X W is F μ φ σ H (fr φ S) (fun vs H' => vs.length = is.length ∧ ∀ p, H' p = none → Z.nx (stAll is vs σ) (upd H' p (.tup vs))) from h.imp fun vs H' ⟨l, k⟩ => fin vs H' l k
  have q : PoM X W is F μ φ σ H (fr φ S) (fun vs H' => ∀ p, H' p = none → Z.nx (stAll is vs σ) (upd H' p (.tup vs))) := by
    revert po
    cases fr φ S with
    | no => exact fun po => po
    | exc x φ1 S1 => exact fun po => ⟨po.1, fun μ' H' cls dx nx e => po.2 μ' σ H' cls dx nx.sx e⟩
    | ok ds φ1 S1 =>
      intro po μ' H' as vs n rl1 rm ex sh fx p hp
      have po : PoS X W F μ φ σ H ((ofO (setAll is ds φ1) φ1 S1).bind fun φ _ S => .ok .nx φ S) Z := po
      cases e : setAll is ds φ1 with
      | none => rw [e] at po; exact po.elim
      | some φ2 =>
        rw [e] at po
        have sx := stored rl n rl1 rm ex fx e
        have s2 := sx.trans ((Gr.new (o := .tup vs) hp (.refl _)).sx sx.rl)
        exact (PoS.re po s2).nx1 s2.rl
  exact q.len
theorem gs_own {i : Nat} {x : Str} (hN : X.N.Nodup) (hi : X.N[i]? = some x) (hx : L2.Loc X.env.scope x) (he : GF X W a fa) (hs : swapsWith a (some (.Name x px)) pos.line X.env = pure false) (hf : X.fn x = true ∨ X.env.scope.names.lookup x = some .local) :
    GS X W (.Assign [.Name x px] a pos) (fun φ S => (fa φ S).bind fun d φ S => if ownD d && decide (i < φ.length) then .ok .nx (φ.set i (.own true d)) S else .no) := by
  refine (ps_set hN hi hx he hs hf).imp fun Z σ H ⟨F, μ, φ, S, rl, po⟩ => ?_
  refine ⟨F, μ, φ, S, rl, ?_⟩
  have po : PoS X W F μ φ σ H ((fa φ S).bind fun d φ S => if ownD d && decide (i < φ.length) then .ok .nx (φ.set i (.own true d)) S else .no) Z := po
  show PoF X W F μ φ σ H (fa φ S) _
  revert po
  cases fa φ S with
  | no => exact fun po => po
  | exc x φ1 S1 => exact fun po => ⟨po.1, fun μ' H' cls dx nx e => po.2 μ' σ H' cls dx nx.sx e⟩
  | ok d φ1 S1 =>
    intro po μ' H' p hp rl1 rh ex sh fx
    have po : PoS X W F μ φ σ H (if ownD d && decide (i < φ1.length) then .ok .nx (φ1.set i (.own true d)) S1 else .no) Z := po
    split at po
    · rename_i h
      simp only [Bool.and_eq_true, decide_eq_true_eq] at h
      have kd : keepD d = true := by cases d <;> simp [ownD] at h <;> rfl
      have e1 : (fun b => F b ∨ b = p) = plus F [p] := by funext b; simp [plus]
      rw [e1] at rl1 rh
      have sx := stored (is := [(i, true)]) (as := [p]) (ds := [d]) (vs := [.ref p]) (φ'' := φ1.set i (.own true d)) rl (fun x hx => by simp at hx; rw [hx]; exact hp) rl1 ⟨p, [], d, [], [], rfl, rfl, rfl, rh, by simp, rfl, rfl, rfl⟩ ex fx (by simp [setAll, kd, h.2])
      exact (PoS.re po sx).nx1 sx.rl
    · exact po.elim
theorem gs_set {i : Nat} {x : Str} (hN : X.N.Nodup) (hi : X.N[i]? = some x) (hx : L2.Loc X.env.scope x) (he : GE X W a fa) (hs : swapsWith a (some (.Name x px)) pos.line X.env = pure false) (hf : X.fn x = true ∨ X.env.scope.names.lookup x = some .local) :
    GS X W (.Assign [.Name x px] a pos) (fun φ S => (fa φ S).bind fun d φ S => if keepD d && decide (i < φ.length) then .ok .nx (φ.set i (.v d)) S else .no) := by
  refine (ps_set hN hi hx he hs hf).imp fun Z σ H ⟨F, μ, φ, S, rl, po⟩ => ?_
  refine ⟨F, μ, φ, S, rl, PoS.fst po fun d φ1 S1 μ1 H1 v n1 r1 po1 => ?_⟩
  split at po1
  · rename_i h
    simp only [Bool.and_eq_true, decide_eq_true_eq] at h
    have sx := Sx.setV n1.rl h.2 (r1.keep h.1)
    exact (PoS.re po1 sx).nx1 sx.rl
  · exact po1.elim

/-! ### a slot's own object is given free: from now on nobody writes to it -/
theorem own_frz {i : Nat} {d : D} {j : Nat} {x : Addr} (h : Own (φ.set i (.v d)) σ j x) : Own φ σ j x ∧ i ≠ j := by
  obtain ⟨w, c, h1, h2⟩ := h
  by_cases e : i = j
  · subst e
    rcases Nat.lt_or_ge i φ.length with q | q
    · rw [List.getElem?_set_self q] at h1; cases h1
    · rw [List.getElem?_eq_none (by simpa using q)] at h1; cases h1
  · rw [List.getElem?_set_ne e] at h1
    exact ⟨⟨w, c, h1, h2⟩, e⟩
theorem RH.rd {P : Pm} {d : D} {x : Addr} (h : RH P H d x) (n : ¬ P.av x) : RD P H d (.ref x) := by
  cases d <;> first | exact False.elim h | skip
  · obtain ⟨vs, h, t⟩ := h; exact ⟨x, vs, rfl, n, .inl h, t⟩
  · obtain ⟨vs, h, t⟩ := h; exact ⟨x, vs, rfl, n, .inl h, t⟩
theorem Sx.frz1 (rl : Rl X F μ φ S σ H) {i : Nat} {w : Bool} {d : D} (h : φ[i]? = some (.own w d)) : Sx X F μ φ σ H μ (φ.set i (.v d)) S σ H := by
  obtain ⟨p, hp, rh⟩ := rl.own h
  have hi : i < φ.length := (List.getElem?_eq_some_iff.mp h).1
  have hown : Own φ σ i p := ⟨w, d, h, hp⟩
  have mu : ∀ x, muOf μ (φ.set i (.v d)) σ x → muOf μ φ σ x := fun x q => q.elim .inl fun ⟨j, q⟩ => .inr ⟨j, (own_frz q).1⟩
  have sm : Sim (pm X F μ φ σ) (pm X F μ (φ.set i (.v d)) σ) := ⟨rfl, rfl, fun x q => q.elim (fun z => .inl (mu x z)) .inr, fun _ _ q => q⟩
  have nav : ¬ (pm X F μ (φ.set i (.v d)) σ).av p := fun z => by
    rcases z with (⟨n, z⟩ | ⟨j, z⟩) | z
    · exact rl.n2 n i p z hown
    · exact (own_frz z).2 (rl.n3 i j p hown (own_frz z).1)
    · exact rl.f2 p z (.inr ⟨i, hown⟩)
  refine ⟨⟨rl.lenS, by rw [List.length_set]; exact rl.lenF, fun n x q z1 z2 => (rl.bx n x q z1 z2).via sm, fun j s v z1 z2 => ?_, rl.n1, fun n j x z1 z2 => rl.n2 n j x z1 (own_frz z2).1, fun j k x z1 z2 => rl.n3 j k x (own_frz z1).1 (own_frz z2).1, rl.f1, fun x z1 z2 => rl.f2 x z1 (mu x z2), rl.tab⟩,
    Ext.less2 sm mu (fun x q => .inl q), fun _ _ => rfl⟩
  by_cases e : i = j
  · subst e
    rw [List.getElem?_set_self hi] at z1
    rw [hp] at z2
    cases z1; cases z2
    exact ⟨.ref p, rfl, (rh.via sm).rd nav⟩
  · rw [List.getElem?_set_ne e] at z1
    have q := rl.sl j s v z1 z2
    cases s with
    | em => trivial
    | v d => obtain ⟨v, e1, r⟩ := q; exact ⟨v, e1, RD.via sm r⟩
    | own b d => obtain ⟨x, e1, r⟩ := q; exact ⟨x, e1, r.via sm⟩
theorem Sx.frz : ∀ (is : List Nat) {φ : Fr}, Rl X F μ φ S σ H → Sx X F μ φ σ H μ (frzF φ is) S σ H
  | [], _, rl => Sx.refl rl
  | i :: is, φ, rl => by
    unfold frzF
    split
    · rename_i d h
      have s1 := Sx.frz1 rl h
      exact s1.trans (Sx.frz is s1.rl)
    · exact Sx.frz is rl
theorem gss_frz {is : List Nat} (h : GSs X W sts g) : GSs X W sts (fun φ S => g (frzF φ is) S) := h.imp fun Z σ H ⟨F, μ, φ, S, rl, po⟩ =>
  have s := Sx.frz is rl
  ⟨F, μ, frzF φ is, S, s.rl, PoS.re po s⟩
end
end Gx
set_option Elab.async false
set_option linter.all false
set_option maxRecDepth 100000
/-! Gx16: list comprehensions. -/
namespace Gx
open PySem PySem.Spec PyProof.Rows L2
section
variable {X Y : Cx} {W : Option WX} {F F1 : Addr → Prop} {μ μ' μ'' μ1 μ3 : List Addr} {φ φ' φ'' φ1 φ3 : Fr} {S S' S'' S1 S3 : Sto} {σ σ' σ'' σ3 : L2.St} {H H' H'' H3 : Hp} {Q : VK} {Z : Ends} {a b c e o tg iter elt : Expr} {ifs : List Expr} {pos p1 tpos : Pos} {fe : Fr → Sto → R D} {fi : Fr → Sto → R (List D)} {fc : Fr → Sto → R Bool} {scope : Scope} {own : List (Str × Nat)}
/-- an older frame again, at a later heap -/
theorem Rl.back (rl0 : Rl X F μ φ S σ H) (rl3 : Rl Y F1 μ3 φ3 S3 σ3 H3) (hK : Y.K = X.K) (hm : Y.mg = X.mg) (sub : ∀ i x, Own φ σ i x → ∃ j, Own φ3 σ3 j x) (ex : Ext (pm X F μ φ σ) H (pm X F1 μ3 φ σ) H3) (same : ∀ i x, Own φ σ i x → H3 x = H x) :
    Rl X F1 μ3 φ S3 σ H3 := by
  have mu : ∀ x, muOf μ3 φ σ x → muOf μ3 φ3 σ3 x := fun x h => h.elim .inl fun ⟨i, h⟩ => .inr (sub i x h)
  have sm : Sim (pm Y F1 μ3 φ3 σ3) (pm X F1 μ3 φ σ) := ⟨hK.symm, hm.symm, fun x h => h.elim (fun h => .inl (mu x h)) .inr, fun _ _ h => h⟩
  refine ⟨rl3.lenS, rl0.lenF, fun n d x h1 h2 => (rl3.bx n d x h1 h2).via sm, fun i s w h1 h2 => ?_, rl3.n1, fun n i x h1 h2 => (sub i x h2).elim fun j h2 => rl3.n2 n j x h1 h2, rl0.n3, rl3.f1, fun x h1 h2 => rl3.f2 x h1 (mu x h2), rl3.tab⟩
  have q := rl0.sl i s w h1 h2
  cases s with
  | em => trivial
  | v d => obtain ⟨v, e1, r⟩ := q; exact ⟨v, e1, RD.mono ex r⟩
  | own b d =>
    obtain ⟨x, e1, r⟩ := q
    exact ⟨x, e1, r.mono ex (same i x ⟨b, d, h1, by rw [h2, e1]⟩)⟩
/-- an object kept apart is written -/
theorem put_apart {p : Addr} {vs vs' : List V} (rl : Rl X F μ φ S σ H) (hp : F p) (e : H p = some (.lst vs)) : Rl X F μ φ S σ (upd H p (.lst vs')) ∧ ∀ {l ws}, RDs (pm X F μ φ σ) H l ws → RDs (pm X F μ φ σ) (upd H p (.lst vs')) l ws := by
  have s1 : Sim (pm X F μ φ σ) { pm X F μ φ σ with mu := fun b => muOf μ φ σ b ∨ b = p } := ⟨rfl, rfl, fun _ h => h, fun _ _ h => h⟩
  have s2 : Sim { pm X F μ φ σ with mu := fun b => muOf μ φ σ b ∨ b = p } (pm X F μ φ σ) := ⟨rfl, rfl, fun _ h => h, fun _ _ h => h⟩
  have ex : Ext { pm X F μ φ σ with mu := fun b => muOf μ φ σ b ∨ b = p } H { pm X F μ φ σ with mu := fun b => muOf μ φ σ b ∨ b = p } (upd H p (.lst vs')) :=
    ⟨rfl, rfl, fun b u f h n => by
        have nb : b ≠ p := fun z => n (.inr z)
        rcases h with h | ⟨ob, h⟩
        · exact .inl (by rw [upd_ne nb]; exact h)
        · exact .inr ⟨ob, by rw [upd_ne nb]; exact h⟩,
      fun b xs h => by
        have nb : b ≠ p := fun z => by subst z; rcases h with h | ⟨ob, h⟩ <;> (rw [e] at h; cases h)
        rcases h with h | ⟨ob, h⟩
        · exact .inl (by rw [upd_ne nb]; exact h)
        · exact .inr ⟨ob, by rw [upd_ne nb]; exact h⟩,
      fun _ _ z => z, fun _ _ z => z, fun _ _ z => z, fun x z => z.elim .inl fun z => .inr (by rw [z]; exact hp), fun b h => by
        exact h.put rfl, tab_upd fun u q => by rw [e] at q; cases q; exact ⟨(fun _ z => nomatch z), (fun _ z => nomatch z)⟩⟩
  have rd : ∀ {d v}, RD (pm X F μ φ σ) H d v → RD (pm X F μ φ σ) (upd H p (.lst vs')) d v := fun h => RD.via s2 (RD.mono ex (RD.via s1 h))
  have rds : ∀ {l ws}, RDs (pm X F μ φ σ) H l ws → RDs (pm X F μ φ σ) (upd H p (.lst vs')) l ws := fun h => RDs.via s2 (RDs.mono ex (RDs.via s1 h))
  have rh : ∀ {d x}, x ≠ p → RH (pm X F μ φ σ) H d x → RH (pm X F μ φ σ) (upd H p (.lst vs')) d x := fun {d x} nx h => ((h.via s1).mono ex (upd_ne nx)).via s2
  refine ⟨⟨rl.lenS, rl.lenF, fun n d x h1 h2 => rh (fun z => rl.f2 p hp (.inl ⟨n, by rw [← z]; exact h2⟩)) (rl.bx n d x h1 h2), fun i s w h1 h2 => ?_, rl.n1, rl.n2, rl.n3, fun x h => ex.there x (rl.f1 x h), rl.f2, ex.tb rl.tab⟩, rds⟩
  have q := rl.sl i s w h1 h2
  cases s with
  | em => trivial
  | v d => obtain ⟨v, e1, r⟩ := q; exact ⟨v, e1, rd r⟩
  | own b d =>
    obtain ⟨x, e1, r⟩ := q
    exact ⟨x, e1, rh (fun z => rl.f2 p hp (.inr ⟨i, b, d, h1, by rw [h2, e1, z]⟩)) r⟩

/-! ### the frame of a comprehension's block -/
theorem wipeF_len (φ : Fr) : ∀ vs : List Nat, (wipeF φ vs).length = φ.length
  | [] => rfl
  | v :: vs => by unfold wipeF; rw [List.length_set, wipeF_len φ vs]
theorem wipeF_get (φ : Fr) (j : Nat) : ∀ ws : List Nat, (wipeF φ ws)[j]? = if j ∈ ws then (φ[j]?).map (fun _ => .em) else φ[j]?
  | [] => by simp [wipeF]
  | w :: ws => by
    unfold wipeF
    by_cases e : w = j
    · subst e
      by_cases h : w < φ.length
      · rw [List.getElem?_set_self (by rw [wipeF_len]; exact h), List.getElem?_eq_getElem h]; simp
      · rw [List.getElem?_eq_none (by rw [List.length_set, wipeF_len]; omega), List.getElem?_eq_none (by omega)]; simp
    · rw [List.getElem?_set_ne e, wipeF_get φ j ws]
      have : j ≠ w := fun z => e z.symm
      simp [List.mem_cons, this]
def blkF (φ : Fr) (vs : List Nat) : Fr := (wipeF φ vs).map roS
theorem blkF_get (φ : Fr) (vs : List Nat) (j : Nat) : (blkF φ vs)[j]? = if j ∈ vs then (φ[j]?).map (fun _ => .em) else (φ[j]?).map roS := by
  unfold blkF
  rw [List.getElem?_map, wipeF_get]
  split
  · cases φ[j]? <;> rfl
  · rfl
theorem plain_no {vs : List Nat} (hp : vs.all (fun i => plainS φ i) = true) {i : Nat} (hi : i ∈ vs) {w : Bool} {d : D} : φ[i]? ≠ some (.own w d) := fun z => by
  have := List.all_eq_true.mp hp i hi
  simp [plainS, z] at this
theorem own_blk {vs : List Nat} (hp : vs.all (fun i => plainS φ i) = true) (i : Nat) (x : Addr) : Own (blkF φ vs) (wipe σ vs) i x ↔ Own φ σ i x := by
  unfold Own
  rw [blkF_get, wipe_get]
  by_cases hi : i ∈ vs
  · rw [if_pos hi, if_pos hi]
    constructor
    · rintro ⟨w, d, h, _⟩
      cases e : φ[i]? <;> rw [e] at h <;> cases h
    · rintro ⟨w, d, h, _⟩
      exact absurd h (plain_no hp hi)
  · rw [if_neg hi, if_neg hi]
    constructor
    · rintro ⟨w, d, h, h2⟩
      cases e : φ[i]? with
      | none => rw [e] at h; cases h
      | some s =>
        rw [e] at h
        cases s with
        | own b d' => exact ⟨b, d', rfl, h2⟩
        | em => cases h
        | v d' => cases h
    · rintro ⟨w, d, h, h2⟩
      rw [h]
      exact ⟨false, d, rfl, h2⟩
theorem pm_blk {vs : List Nat} (hp : vs.all (fun i => plainS φ i) = true) : pm X F μ (blkF φ vs) (wipe σ vs) = pm X F μ φ σ := by
  have e : muOf μ (blkF φ vs) (wipe σ vs) = muOf μ φ σ := by
    funext x
    simp only [muOf, own_blk hp]
  unfold pm
  rw [e]
theorem Rl.blk {vs : List Nat} (hp : vs.all (fun i => plainS φ i) = true) (rl : Rl X F μ φ S σ H) : Rl X F μ (blkF φ vs) S (wipe σ vs) H := by
  refine ⟨rl.lenS, by rw [wipe_length]; unfold blkF; rw [List.length_map, wipeF_len]; exact rl.lenF, fun n d x h1 h2 => by rw [pm_blk hp]; exact rl.bx n d x h1 h2, fun i s w h1 h2 => ?_, rl.n1, fun n i x h1 h2 => rl.n2 n i x h1 ((own_blk hp i x).mp h2), fun i j x h1 h2 => rl.n3 i j x ((own_blk hp i x).mp h1) ((own_blk hp j x).mp h2), rl.f1, fun x h1 h2 => rl.f2 x h1 ?_, rl.tab⟩
  · rw [pm_blk hp]
    rw [blkF_get] at h1
    rw [wipe_get] at h2
    by_cases hi : i ∈ vs
    · rw [if_pos hi] at h1
      cases e : φ[i]? <;> rw [e] at h1 <;> cases h1
      trivial
    · rw [if_neg hi] at h1 h2
      cases e : φ[i]? with
      | none => rw [e] at h1; cases h1
      | some s0 =>
        rw [e] at h1
        have q := rl.sl i s0 w e h2
        cases h1
        cases s0 with
        | em => trivial
        | v d => exact q
        | own b d => exact q
  · rcases h2 with h2 | ⟨i, h2⟩
    · exact .inl h2
    · exact .inr ⟨i, (own_blk hp i x).mp h2⟩
theorem comp_len {φ0 : Fr} {f : D → Fr → Sto → R (Option D)} : ∀ (xs : List D) (S : Sto) (acc : List D) {l : List D} {φ' : Fr} {S' : Sto}, comp φ0 f xs S acc = .ok l φ' S' → acc.length ≤ l.length
  | [], S, acc, l, φ', S', h => by
    simp only [comp, R.ok.injEq] at h
    rw [← h.1, List.length_reverse]; exact Nat.le_refl _
  | x :: r, S, acc, l, φ', S', h => by
    simp only [comp] at h
    cases e : f x φ0 S with
    | no => rw [e] at h; cases h
    | exc _ _ _ => rw [e] at h; cases h
    | ok o φ1 S1 =>
      rw [e] at h
      cases o with
      | none => exact comp_len r S1 acc h
      | some d => exact Nat.le_trans (Nat.le_succ _) (comp_len r S1 (d :: acc) h)

theorem RX_cx (hK : Y.K = X.K) (hm : Y.mg = X.mg) {d : D} {v : V} (h : RX X F μ φ σ H d v) : RX Y F μ φ σ H d v := by
  cases d <;> first | exact h | (unfold RX at h ⊢; rw [pm_cx hK hm]; exact h)
theorem PoE_cx (hK : Y.K = X.K) (hm : Y.mg = X.mg) {r : R D} (po : PoE X W F μ φ σ H r Q) : PoE Y W F μ φ σ H r Q := by
  cases r with
  | no => exact po
  | ok d φ1 S1 => exact fun μ1 H1 v n r => po μ1 H1 v (n.cx hK.symm hm.symm) (RX_cx hK.symm hm.symm r)
  | exc x φ1 S1 => exact ⟨po.1, fun μ1 H1 c d n e => po.2 μ1 H1 c d (n.cx hK.symm hm.symm) (by rw [← pm_cx hK hm]; exact e)⟩
theorem tE_cx (hK : Y.K = X.K) (hm : Y.mg = X.mg) {f : Fr → Sto → R D} {σ : L2.St} {H : Hp} {Q : VK} (h : tE X W f σ H Q) : tE Y W f σ H Q := by
  obtain ⟨F, μ, φ, S, rl, po⟩ := h
  exact ⟨F, μ, φ, S, rl.cx hK hm, PoE_cx hK hm po⟩
theorem tT_cx (hK : Y.K = X.K) (hm : Y.mg = X.mg) {f : Fr → Sto → R Bool} {σ : L2.St} {H : Hp} {Q : Bool → Hp → Prop} (h : tT X W f σ H Q) : tT Y W f σ H Q := by
  obtain ⟨F, μ, φ, S, rl, po⟩ := h
  refine ⟨F, μ, φ, S, rl.cx hK hm, ?_⟩
  revert po
  cases f φ S with
  | no => exact fun po => po
  | ok d φ1 S1 => exact fun po μ1 H1 n => po μ1 H1 (n.cx hK.symm hm.symm)
  | exc x φ1 S1 => exact fun po => ⟨po.1, fun μ1 H1 c d n e => po.2 μ1 H1 c d (n.cx hK.symm hm.symm) (by rw [← pm_cx hK hm]; exact e)⟩
theorem Sx.cx (hK : Y.K = X.K) (hm : Y.mg = X.mg) (n : Sx X F μ φ σ H μ' φ' S' σ' H') : Sx Y F μ φ σ H μ' φ' S' σ' H' := ⟨n.rl.cx hK hm, by rw [pm_cx hK hm, pm_cx hK hm]; exact n.ext, n.f⟩
theorem tG_cx (hK : Y.K = X.K) (hm : Y.mg = X.mg) {t : Tg} {v : V} {σ : L2.St} {H : Hp} {Q : L2.St → Hp → Prop} (h : tG X t v σ H Q) : tG Y t v σ H Q := by
  obtain ⟨F, μ, φ, S, d, φ', rl, rd, e, k⟩ := h
  exact ⟨F, μ, φ, S, d, φ', rl.cx hK hm, by rw [pm_cx hK hm]; exact rd, e, fun σ' s g => k σ' (s.cx hK.symm hm.symm) g⟩
theorem PoF.fstI {r : R (List D)} {k : List D → Fr → Sto → R D} {Q1 : L2.It → Hp → Prop} (po : PoF X W F μ φ σ H (r.bind k) Q)
    (g : ∀ l φ1 S1 μ1 H1 J, Nx X F μ φ σ H μ1 φ1 S1 H1 → Wk (pm X F μ1 φ1 σ) H1 J l → PoF X W F μ1 φ1 σ H1 (k l φ1 S1) Q → Q1 J H1) : PoI X W F μ φ σ H r Q1 := by
  cases r with
  | ok d φ1 S1 => exact fun μ1 H1 v nx rx => g d φ1 S1 μ1 H1 v nx rx (PoF.re po nx)
  | exc x φ1 S1 => exact po
  | no => exact po
mutual
theorem asgT_out : ∀ {t : Tg} {d : D} {φ φ' : Fr} {j : Nat}, asgT t d φ = some φ' → j ∉ tgS t → φ'[j]? = φ[j]?
  | .nm i, d, φ, φ', j, h, hj => by
    simp only [asgT] at h
    split at h
    · cases h
      exact List.getElem?_set_ne fun z => hj (by simp [tgS, z])
    · cases h
  | .tp ts, d, φ, φ', j, h, hj => by
    cases d <;> simp only [asgT, reduceCtorEq] at h
    exact asgTs_out h (by rw [tgS_tp] at hj; exact hj)
theorem asgTs_out : ∀ {ts : List Tg} {ds : List D} {φ φ' : Fr} {j : Nat}, asgTs ts ds φ = some φ' → j ∉ tgsS ts → φ'[j]? = φ[j]?
  | [], [], φ, φ', j, h, _ => by simp only [asgTs, Option.some.injEq] at h; rw [h]
  | [], _ :: _, _, _, _, h, _ => by simp [asgTs] at h
  | _ :: _, [], _, _, _, h, _ => by simp [asgTs] at h
  | t :: ts, d :: ds, φ, φ', j, h, hj => by
    obtain ⟨φ1, e1, e2⟩ := Option.bind_eq_some_iff.mp h
    simp only [tgsS, List.mem_append, not_or] at hj
    rw [asgTs_out e2 hj.2, asgT_out e1 hj.1]
end
theorem Ext.one {p : Addr} (e : Ext (pm X F μ φ σ) H (pm X F μ' φ' σ') H') (n : H p = none) : Ext (pm X F μ φ σ) H (pm X (fun b => F b ∨ b = p) μ' φ' σ') H' :=
  ⟨e.K, e.mg, e.keep, e.tup, e.mu, fun x h z => by
    rcases z with z | z | z
    · exact e.av x h (.inl z)
    · exact e.av x h (.inr z)
    · exact (h (by rw [z]; exact n)).elim, e.bx, e.ma, e.there, e.tb⟩
theorem Ext.updNew {P P' : Pm} {p : Addr} {o : HO} (e : Ext P H P' H') (n : H p = none) {vs : List V} (q : H' p = some (.lst vs)) (fo : nf o = true := by rfl) : Ext P H P' (upd H' p o) :=
  have ne : ∀ {b u}, Rd H b u → b ≠ p := fun h z => Rd.there h (by rw [z]; exact n)
  ⟨e.K, e.mg, fun b u f h m => (e.keep b u f h m).elim (fun q => .inl (by rw [upd_ne (ne h)]; exact q)) fun ⟨ob, q⟩ => .inr ⟨ob, by rw [upd_ne (ne h)]; exact q⟩,
    fun b xs h => (e.tup b xs h).elim (fun q => .inl (by rw [upd_ne (ne h)]; exact q)) fun ⟨ob, q⟩ => .inr ⟨ob, by rw [upd_ne (ne h)]; exact q⟩, e.mu, e.av, e.bx, e.ma, fun b h => by
      exact (e.there b h).put fo, fun t => tab_upd (fun u z => by rw [q] at z; cases z; exact ⟨(fun _ z => nomatch z), (fun _ z => nomatch z)⟩) (e.tb t)⟩
/-- one turn's work on a value -/
def turnF (t : Tg) (fc : Fr → Sto → R Bool) (fe : Fr → Sto → R D) : D → Fr → Sto → R (Option D) := fun x φ S => (ofO (asgT t x φ) φ S).bind fun φ _ S =>
  (fc φ S).bind fun b φ S => if b then (fe φ S).bind fun d φ S => if keepD d then .ok (some d) φ S else .no else .ok none φ S
def lcF (t : Tg) (vs : List Nat) (fi : Fr → Sto → R (List D)) (fc : Fr → Sto → R Bool) (fe : Fr → Sto → R D) : Fr → Sto → R D := fun φ S => (fi φ S).bind fun l φ S => if !(vs.all fun i => plainS φ i) then .no else if !((tgS t).all fun i => vs.contains i) then .no else
  (comp (blkF φ vs) (turnF t fc fe) l S []).nox.bind fun l _ S => if l.length ≤ sizeLine then .ok (.lst l) φ S else .no
theorem lc_read {t : Tg} {vs : List Nat} {σ : L2.St} {H : Hp} {Q : VK} (h : tF X W (lcF t vs fi fc fe) σ H Q) : tLc (tI X W fi) (tG X t) (tT X none fc) (tE X none fe) vs σ H Q := by
  obtain ⟨F, μ, φ, S, rl, po⟩ := h
  refine ⟨F, μ, φ, S, rl, PoF.fstI po fun l φ1 S1 μ1 H1 J n1 wk po1 => ?_⟩
  intro p hp
  cases hpl : vs.all fun i => plainS φ1 i with
  | false => rw [hpl] at po1; exact po1.elim
  | true =>
  rw [hpl] at po1
  cases htg : (tgS t).all fun i => vs.contains i with
  | false => rw [htg] at po1; exact po1.elim
  | true =>
  rw [htg] at po1
  have htg : ∀ i ∈ tgS t, i ∈ vs := fun i hi => by simpa using List.all_eq_true.mp htg i hi
  let φ0 := blkF φ1 vs
  let σ0 := wipe σ vs
  let F1 : Addr → Prop := fun b => F b ∨ b = p
  let G : R (List D) → Prop := fun r => PoF X W F μ1 φ1 σ H1 (r.nox.bind fun l _ S => if l.length ≤ sizeLine then .ok (.lst l) φ1 S else .no) Q
  have G0 : G (comp φ0 (turnF t fc fe) l S1 []) := po1
  have Gok : ∀ {r : R (List D)}, G r → ∃ m φ S, r = .ok m φ S ∧ m.length ≤ sizeLine := fun {r} g => by
    cases r with
    | no => exact g.elim
    | exc _ _ _ => exact g.elim
    | ok m φ S =>
      by_cases hm : m.length ≤ sizeLine
      · exact ⟨m, φ, S, rfl, hm⟩
      · have g : PoF X W F μ1 φ1 σ H1 (if m.length ≤ sizeLine then .ok (.lst m) φ1 S else .no) Q := g
        rw [if_neg hm] at g
        exact g.elim
  have ww : wipe σ0 vs = σ0 := by
    apply List.ext_getElem?
    intro j
    show (wipe (wipe σ vs) vs)[j]? = (wipe σ vs)[j]?
    rw [wipe_get, wipe_get]
    split
    · cases σ[j]? <;> rfl
    · rfl
  have pe : ∀ {F μ}, pm X F μ φ0 σ0 = pm X F μ φ1 σ := pm_blk hpl
  have own0 : ∀ {j x}, Own φ0 σ0 j x → ∃ d, φ0[j]? = some (.own false d) ∧ σ0[j]? = some (some (.ref x)) ∧ j ∉ vs := fun {j x} ⟨w, d, h1, h2⟩ => by
    have h3 := h1
    rw [blkF_get] at h3
    by_cases hj : j ∈ vs
    · rw [if_pos hj] at h3
      cases e : φ1[j]? <;> rw [e] at h3 <;> cases h3
    · rw [if_neg hj] at h3
      cases e : φ1[j]? with
      | none => rw [e] at h3; cases h3
      | some s0 =>
        rw [e] at h3
        cases s0 <;> cases h3
        exact ⟨d, h1, h2, hj⟩
  let N : Nat → Hp → Prop := fun i Hi => ∃ μi Si acc vacc, Rl X F1 μi φ0 Si σ0 Hi ∧ Ext (pm X F μ1 φ0 σ0) H1 (pm X F1 μi φ0 σ0) Hi ∧ Fix F φ0 σ0 H1 φ0 Hi ∧ Hi p = some (.lst vacc) ∧ RDs (pm X F1 μi φ0 σ0) Hi acc.reverse vacc ∧ G (comp φ0 (turnF t fc fe) (l.drop i) Si acc)
  have rlb : Rl X F μ1 φ0 S1 σ0 H1 := n1.rl.blk hpl
  have ma0 : ∀ x, (pm X F μ1 φ0 σ0).mu x → (pm X F μ1 φ0 σ0).av x := fun _ z => .inl z
  refine ⟨fun i m Hi => m = l.length - i ∧ i ≤ l.length ∧ N i Hi, ⟨l.length, rfl, Nat.zero_le _, μ1, S1, [], [], (rlb.more hp).1, (Ext.new ma0 hp).one hp, rlb.fixNew hp, upd_same, rfl, G0⟩, ?_⟩
  rintro i m Hi ⟨rfl, hi, μi, Si, acc, vacc, rlI, exI, fxI, eI, tI, gI⟩
  by_cases hlt : i < l.length
  · have ex1 : Ext (pm X F μ1 φ1 σ) H1 (pm X F1 μi φ0 σ0) Hi := by rw [← pe]; exact exI
    refine .inr ⟨wk.go _ _ i ex1 hlt, ?_⟩
    have hd : l[i]? = some l[i] := List.getElem?_eq_getElem hlt
    rw [List.drop_eq_getElem_cons hlt] at gI
    refine ⟨N (i + 1), fun H' h => ⟨l.length - (i + 1), by omega, rfl, hlt, h⟩, fun x H' hy => ?_⟩
    obtain ⟨gr, rx⟩ := wk.yld (pm X F1 μi φ0 σ0) Hi i _ x H' ex1 (fun x (z : muOf μi φ0 σ0 x) => Or.inl z) hd hy
    have n2 := gr.nx rlI
    obtain ⟨φ2, e1⟩ : ∃ φ2, asgT t l[i] φ0 = some φ2 := by
      cases e1 : asgT t l[i] φ0 with
      | some φ2 => exact ⟨φ2, rfl⟩
      | none =>
        have : comp φ0 (turnF t fc fe) (l[i] :: l.drop (i + 1)) Si acc = .no := by
          show (turnF t fc fe l[i] φ0 Si).bind _ = _
          unfold turnF
          rw [e1]; rfl
        rw [this] at gI
        exact gI.elim
    have gI : G (((fc φ2 Si).bind fun b φ S => if b then (fe φ S).bind fun d φ S => if keepD d then .ok (some d) φ S else .no else .ok none φ S).bind fun o _ S => match o with
        | some d => comp φ0 (turnF t fc fe) (l.drop (i + 1)) S (d :: acc)
        | none => comp φ0 (turnF t fc fe) (l.drop (i + 1)) S acc) := by
      have e : comp φ0 (turnF t fc fe) (l[i] :: l.drop (i + 1)) Si acc = (turnF t fc fe l[i] φ0 Si).bind fun o _ S => match o with
        | some d => comp φ0 (turnF t fc fe) (l.drop (i + 1)) S (d :: acc)
        | none => comp φ0 (turnF t fc fe) (l.drop (i + 1)) S acc := rfl
      rw [e] at gI
      unfold turnF at gI
      rw [e1] at gI
      exact gI
    refine ⟨F1, μi, φ0, Si, l[i], φ2, n2.rl, rx, e1, fun σ2 s3 ag => ?_⟩
    have w2 : wipe σ2 vs = wipe σ vs := (ag vs htg).trans ww
    refine ⟨w2, ?_⟩
    have at2 : ∀ {j}, j ∉ vs → σ2[j]? = σ0[j]? := fun {j} hj => by
      have := congrArg (fun s : L2.St => s[j]?) (ag vs htg)
      simp only [wipe_get, if_neg hj] at this
      exact this.trans (by show σ[j]? = (wipe σ vs)[j]?; rw [wipe_get, if_neg hj])
    have step : ∀ {μ4 : List Addr} {φ4 : Fr} {S4 : Sto} {H4 : Hp}, Sx X F1 μi φ0 σ0 Hi μ4 φ4 S4 σ2 H4 → (∀ (j : Nat) d, φ2[j]? = some (.own false d) → φ4[j]? = some (.own false d) ∧ ∀ a, σ2[j]? = some (some (.ref a)) → H4 a = H' a) →
        Rl X F1 μ4 φ0 S4 σ0 H4 ∧ Ext (pm X F1 μi φ0 σ0) Hi (pm X F1 μ4 φ0 σ0) H4 ∧ Sim (pm X F1 μ4 φ4 σ2) (pm X F1 μ4 φ0 σ0) ∧ ∀ j x, Own φ0 σ0 j x → H4 x = Hi x := fun {μ4 φ4 S4 H4} sx ro => by
      have sub : ∀ j x, Own φ0 σ0 j x → Own φ4 σ2 j x ∧ H4 x = Hi x := fun j x h => by
        obtain ⟨d, g1, g2, hj⟩ := own0 h
        have g3 : φ2[j]? = some (.own false d) := by rw [asgT_out e1 fun z => hj (htg j z)]; exact g1
        obtain ⟨g4, g5⟩ := ro j d g3
        have g6 : σ2[j]? = some (some (.ref x)) := by rw [at2 hj]; exact g2
        exact ⟨⟨false, d, g4, g6⟩, (g5 x g6).trans ((n2.fx.ro j d g1).2 x g2)⟩
      have mu : ∀ x, muOf μ4 φ0 σ0 x → muOf μ4 φ4 σ2 x := fun x h => h.elim .inl fun ⟨j, h⟩ => .inr ⟨j, (sub j x h).1⟩
      have sm : Sim (pm X F1 μ4 φ4 σ2) (pm X F1 μ4 φ0 σ0) := ⟨rfl, rfl, fun x h => h.elim (fun h => .inl (mu x h)) .inr, fun _ _ h => h⟩
      have ex : Ext (pm X F1 μi φ0 σ0) Hi (pm X F1 μ4 φ0 σ0) H4 := sx.ext.trans (Ext.less2 sm mu fun _ z => .inl z)
      exact ⟨Rl.back rlI sx.rl rfl rfl (fun j x h => ⟨j, (sub j x h).1⟩) ex fun j x h => (sub j x h).2, ex, sm, fun j x h => (sub j x h).2⟩
    have own1 : ∀ {j x}, Own φ0 σ0 j x → x ≠ p := fun {j x} h z => rlI.f2 p (.inr rfl) (.inr ⟨j, by rw [← z]; exact h⟩)
    refine ⟨F1, μi, φ2, Si, s3.rl, ?_⟩
    show PoT X none F1 μi φ2 σ2 H' (fc φ2 Si) _
    revert gI
    cases fc φ2 Si with
    | no => exact fun gI => gI.elim
    | exc _ _ _ => exact fun gI => gI.elim
    | ok bb φ3 S3 =>
      intro gI μ3 H3 nx3
      cases bb with
      | false =>
        have gI : G (comp φ0 (turnF t fc fe) (l.drop (i + 1)) S3 acc) := gI
        obtain ⟨rl4, ex4, sm4, sa4⟩ := step ((n2.sx.trans s3).trans nx3.sx) nx3.fx.ro
        have e3 : H3 p = some (.lst vacc) := by rw [nx3.fx.f p (.inr rfl), n2.fx.f p (.inr rfl)]; exact eI
        refine iteF ⟨μ3, S3, acc, vacc, rl4, exI.trans ex4, ⟨fun x h => ?_, fun j d h => ⟨h, fun x hx => ?_⟩⟩, e3, tI.mono ex4, gI⟩
        · rw [nx3.fx.f x (.inl h), n2.fx.f x (.inl h)]; exact fxI.f x h
        · exact (sa4 j x ⟨false, d, h, hx⟩).trans ((fxI.ro j d h).2 x hx)
      | true =>
        have gI : G (((fe φ3 S3).bind fun d φ S => if keepD d then .ok (some d) φ S else .no).bind fun o _ S => match o with
          | some d => comp φ0 (turnF t fc fe) (l.drop (i + 1)) S (d :: acc)
          | none => comp φ0 (turnF t fc fe) (l.drop (i + 1)) S acc) := gI
        refine iteT ⟨F1, μ3, φ3, S3, nx3.rl, ?_⟩
        show PoE X none F1 μ3 φ3 σ2 H3 (fe φ3 S3) _
        revert gI
        cases fe φ3 S3 with
        | no => exact fun gI => gI.elim
        | exc _ _ _ => exact fun gI => gI.elim
        | ok y φ4 S4 =>
          intro gI μ4 H4 v nx4 rx4
          cases hk : keepD y with
          | false =>
            have e : (((R.ok y φ4 S4 : R D).bind fun d φ S => if keepD d then (.ok (some d) φ S : R (Option D)) else .no).bind fun o _ S => match o with
              | some d => comp φ0 (turnF t fc fe) (l.drop (i + 1)) S (d :: acc)
              | none => comp φ0 (turnF t fc fe) (l.drop (i + 1)) S acc) = .no := by simp [hk]
            rw [e] at gI
            exact gI.elim
          | true =>
            have e : (((R.ok y φ4 S4 : R D).bind fun d φ S => if keepD d then (.ok (some d) φ S : R (Option D)) else .no).bind fun o _ S => match o with
              | some d => comp φ0 (turnF t fc fe) (l.drop (i + 1)) S (d :: acc)
              | none => comp φ0 (turnF t fc fe) (l.drop (i + 1)) S acc) = comp φ0 (turnF t fc fe) (l.drop (i + 1)) S4 (y :: acc) := by simp [hk]
            rw [e] at gI
            obtain ⟨rl4, ex4, sm4, sa4⟩ := step (((n2.sx.trans s3).trans nx3.sx).trans nx4.sx) (nx3.fx.trans nx4.fx).ro
            have e4 : H4 p = some (.lst vacc) := by rw [nx4.fx.f p (.inr rfl), nx3.fx.f p (.inr rfl), n2.fx.f p (.inr rfl)]; exact eI
            obtain ⟨m, _, _, em, hm⟩ := Gok gI
            have lm := comp_len _ _ _ em
            have la := tI.length
            rw [List.length_reverse] at la
            rw [List.length_cons] at lm
            obtain ⟨rl6, rds⟩ := put_apart (vs' := vacc ++ [v]) rl4 (.inr rfl) e4
            refine ⟨vacc, e4, by omega, μ4, S4, y :: acc, vacc ++ [v], rl6, (exI.trans ex4).updNew hp e4, ⟨fun x h => ?_, fun j d h => ⟨h, fun x hx => ?_⟩⟩, upd_same, ?_, gI⟩
            · have np : x ≠ p := fun z => n1.rl.f1 x h (by rw [z]; exact hp)
              rw [upd_ne np, nx4.fx.f x (.inl h), nx3.fx.f x (.inl h), n2.fx.f x (.inl h)]
              exact fxI.f x h
            · have ho : Own φ0 σ0 j x := ⟨false, d, h, hx⟩
              rw [upd_ne (own1 ho)]
              exact (sa4 j x ho).trans ((fxI.ro j d h).2 x hx)
            · rw [List.reverse_cons]
              exact rds (RDs.append (tI.mono ex4) ⟨v, [], rfl, RD.via sm4 (rx4.keep hk), rfl⟩)
  · have e : i = l.length := by omega
    subst e
    refine .inl ⟨wk.stop _ _ (by rw [← pe]; exact exI), ?_⟩
    rw [List.drop_length] at gI
    have gI : PoF X W F μ1 φ1 σ H1 (if acc.reverse.length ≤ sizeLine then .ok (.lst acc.reverse) φ1 Si else .no) Q := gI
    split at gI
    · have same : ∀ j x, Own φ1 σ j x → Hi x = H1 x := fun j x h => by
        have h0 : Own φ0 σ0 j x := (own_blk hpl j x).mpr h
        obtain ⟨d, g1, g2, _⟩ := own0 h0
        exact (fxI.ro j d g1).2 x g2
      have ex1 : Ext (pm X F μ1 φ1 σ) H1 (pm X F1 μi φ1 σ) Hi := by rw [← pe, ← pe]; exact exI
      refine gI μi Hi p (fun z => z hp) (Rl.back n1.rl rlI rfl rfl (fun j x h => ⟨j, (own_blk hpl j x).mpr h⟩) ex1 same) ⟨vacc, eI, by rw [← pe]; exact tI⟩ (ex1.trans Ext.less) (fun j w d h => ⟨d, h⟩) ⟨fxI.f, fun j d h => ⟨h, fun x hx => same j x ⟨false, d, h, hx⟩⟩⟩
    · exact gI.elim

theorem gpts_nil : PTs X [] (tT X W fun φ S => .ok true φ S) := by
  refine ⟨fun pins s σ H Q I h => ?_⟩
  obtain ⟨F, μ, φ, S, rl, po⟩ := h
  exact pts_nil.run pins s σ H Q I (po μ H (Nx.refl rl))
theorem gpts_one (h : GT X W c fc) : PTs X [c] (tT X W fc) := pts_one h
theorem _root_.L2.PTs.imp {X : Cx} {e : List Expr} {t t' : TT} (h : PTs X e t) (k : ∀ σ H Q, t' σ H Q → t σ H Q) : PTs X e t' := ⟨fun pins s σ H Q I q => h.run pins s σ H Q I (k σ H Q q)⟩
theorem gf_lc {t : Tg} (hc : X.calm = true) (hN : X.N.Nodup) (hi : GI X W tg iter fi) (hok : BlkOk X.N X.env.scope scope own)
    (hg : ∀ (s : Shared) (H : Hp) (C : Addr) (cl : List (Str × Addr)) (fp : List Addr), PG (X.blk s H scope (compEnvC scope cl C X.env) fp) tg (tG (X.blk s H scope (compEnvC scope cl C X.env) fp) t))
    (ht : ∀ (s : Shared) (H : Hp) (C : Addr) (cl : List (Str × Addr)) (fp : List Addr), PTs (X.blk s H scope (compEnvC scope cl C X.env) fp) ifs (tT (X.blk s H scope (compEnvC scope cl C X.env) fp) none fc))
    (he : ∀ (s : Shared) (H : Hp) (C : Addr) (cl : List (Str × Addr)) (fp : List Addr), GE (X.blk s H scope (compEnvC scope cl C X.env) fp) none elt fe)
    (hs : ∀ x, foldedSetIterable iter X.env x = pure x) : GF X W (.ListComp elt [⟨tg, iter, ifs, 0⟩] scope pos) (lcF t (own.map (·.2)) fi fc fe) :=
  (pe_lc hc hN hi hok (fun s H' C cl fp => (hg s H' C cl fp).imp fun v σ H Q h => tG_cx (X := X) (Y := X.blk s H' scope (compEnvC scope cl C X.env) fp) rfl rfl h) (fun s H' C cl fp => (ht s H' C cl fp).imp fun σ H Q h => tT_cx (X := X) (Y := X.blk s H' scope (compEnvC scope cl C X.env) fp) rfl rfl h) (fun s H' C cl fp => (he s H' C cl fp).imp fun σ H Q h => tE_cx (X := X) (Y := X.blk s H' scope (compEnvC scope cl C X.env) fp) rfl rfl h) hs).imp fun σ H Q h => lc_read h
theorem gs_setLc {t : Tg} {i : Nat} {y : Str} {py spos : Pos} {b : Bool} (hc : X.calm = true) (hN : X.N.Nodup) (hy : X.N[i]? = some y) (hyl : X.env.scope.names.lookup y = some .local)
    (hsw : swapsWith (.ListComp elt [⟨tg, iter, ifs, 0⟩] scope pos) (some (.Name y py)) spos.line X.env = pure true) (hi : GI X W tg iter fi) (hok : BlkOk X.N X.env.scope scope own)
    (hg : ∀ (s : Shared) (H : Hp) (C : Addr) (cl : List (Str × Addr)) (fp : List Addr), PG (X.blk s H scope (compEnvC scope cl C X.env) fp) tg (tG (X.blk s H scope (compEnvC scope cl C X.env) fp) t))
    (ht : ∀ (s : Shared) (H : Hp) (C : Addr) (cl : List (Str × Addr)) (fp : List Addr), PTs (X.blk s H scope (compEnvC scope cl C X.env) fp) ifs (tT (X.blk s H scope (compEnvC scope cl C X.env) fp) none fc))
    (he : ∀ (s : Shared) (H : Hp) (C : Addr) (cl : List (Str × Addr)) (fp : List Addr), GE (X.blk s H scope (compEnvC scope cl C X.env) fp) none elt fe)
    (hs : ∀ x, foldedSetIterable iter X.env x = pure x) : GS X W (.Assign [.Name y py] (.ListComp elt [⟨tg, iter, ifs, 0⟩] scope pos) spos) (parF [(i, b)] fun φ S => (lcF t (own.map (·.2)) fi fc fe φ S).bind fun d φ S => .ok [d] φ S) := by
  refine (ps_setLc hc hN hy hyl hsw hi hok (fun s H' C cl fp => (hg s H' C cl fp).imp fun v σ H Q h => tG_cx (X := X) (Y := X.blk s H' scope (compEnvC scope cl C X.env) fp) rfl rfl h) (fun s H' C cl fp => (ht s H' C cl fp).imp fun σ H Q h => tT_cx (X := X) (Y := X.blk s H' scope (compEnvC scope cl C X.env) fp) rfl rfl h) (fun s H' C cl fp => (he s H' C cl fp).imp fun σ H Q h => tE_cx (X := X) (Y := X.blk s H' scope (compEnvC scope cl C X.env) fp) rfl rfl h) hs).imp fun Z σ H ⟨F, μ, φ, S, rl, po⟩ => ?_
  have po : PoS X W F μ φ σ H (((lcF t (own.map (·.2)) fi fc fe φ S).bind fun d φ S => .ok [d] φ S).bind fun ds φ S => (ofO (setAll [(i, b)] ds φ) φ S).bind fun φ _ S => .ok .nx φ S) Z := po
  refine lc_read ⟨F, μ, φ, S, rl, ?_⟩
  revert po
  cases e : lcF t (own.map (·.2)) fi fc fe φ S with
  | no => exact fun po => po
  | exc x φ1 S1 => exact fun po => ⟨po.1, fun μ' H' cls dx nx e => po.2 μ' σ H' cls dx nx.sx e⟩
  | ok d φ1 S1 =>
    intro po μ' H' p hp rl1 rh ex sh fx
    have po2 : PoS X W F μ φ σ H ((ofO (setAll [(i, b)] [d] φ1) φ1 S1).bind fun φ _ S => .ok .nx φ S) Z := po
    clear po
    cases e : setAll [(i, b)] [d] φ1 with
    | none => rw [e] at po2; exact po2.elim
    | some φ2 =>
      rw [e] at po2
      have e1 : (fun b => F b ∨ b = p) = plus F [p] := by funext b; simp [plus]
      cases b with
      | true =>
        rw [e1] at rl1 rh
        have sx := stored (is := [(i, true)]) (as := [p]) (ds := [d]) (vs := [.ref p]) rl (fun x hx => by simp at hx; rw [hx]; exact hp) rl1 ⟨p, [], d, [], [], rfl, rfl, rfl, rh, by simp, rfl, rfl, rfl⟩ ex fx e
        exact (PoS.re po2 sx).nx1 sx.rl
      | false =>
        obtain ⟨rl2, k1, k2⟩ := rl1.less
        have nv : ¬ (pm X F μ' φ1 σ).av p := fun z => by
          rcases z with z | z
          · exact rl1.f2 p (.inr rfl) z
          · exact hp (rl.f1 p z)
        have rh2 : RH (pm X F μ' φ1 σ) H' d p := RH.via (P := pm X (fun b => F b ∨ b = p) μ' φ1 σ) (P' := pm X F μ' φ1 σ) ⟨rfl, rfl, fun x (h : muOf μ' φ1 σ x ∨ F x) => h.elim .inl fun h => .inr (.inl h), fun _ _ h => h⟩ rh
        have sx := stored (is := [(i, false)]) (as := []) (ds := [d]) (vs := [.ref p]) rl (fun x hx => by simp at hx) (by rw [plus_nil]; exact rl2) ⟨d, [], .ref p, [], rfl, rfl, fun _ => by rw [plus_nil]; exact rh2.rd nv, rfl, rfl, rfl⟩ ex fx e
        exact (PoS.re po2 sx).nx1 sx.rl
end
end Gx
set_option Elab.async false
set_option linter.all false
set_option maxRecDepth 100000
/-! Gx17: new objects of other expressions; shared objects; dict displays. -/
namespace Gx
open PySem PySem.Spec PyProof.Rows L2
section
variable {X Y : Cx} {W : Option WX} {F F1 : Addr → Prop} {μ μ' μ'' μ1 μ3 : List Addr} {φ φ' φ'' φ1 φ3 : Fr} {S S' S'' S1 S3 : Sto} {σ σ' σ'' σ3 : L2.St} {H H' H'' H3 : Hp} {Q : VK} {Z : Ends} {a b c e o tg iter elt : Expr} {es : List Expr} {pos p1 tpos : Pos} {fa fb : Fr → Sto → R D} {fr : Fr → Sto → R (List D)}
theorem PoF.opt1 {o : Option D} (po : PoF X W F μ φ σ H (ofO o φ S) Q) : ∃ a, o = some a ∧ PoF X W F μ φ σ H (.ok a φ S) Q := by
  cases o with
  | some a => exact ⟨a, rfl, po⟩
  | none => exact po.elim
theorem gf_list (hg : Gl X "list") (hm : X.mg "list" = none) (ha : GA X W (e :: es) fr) (hs : starEach (e :: es) X.env = (false, eval e X.env) :: starEach es X.env) (hpl : (backTo pos (starEach es X.env)).any (·.1) = false) :
    GF X W (.Call (.Name "list" p1) (e :: es) [] pos) (fun φ S => (fr φ S).bind fun ds φ S => ofO (biD .list (ds.map (look φ S))) φ S) := by
  refine (pe_callTy call_list_of hg hm boot_list ha (by decide) (by decide) hs hpl).imp fun σ H Q ⟨F, μ, φ, S, rl, po⟩ => ?_
  refine ⟨F, μ, φ, S, rl, PoF.fstA po fun xs φ1 S1 μ1 H1 vs n1 r1 po1 => ?_⟩
  obtain ⟨d, ed, po1⟩ := PoF.opt1 po1
  have ra := n1.rl.lookAll r1
  simp only [biD] at ed
  split at ed <;> try simp only [Option.some.injEq, reduceCtorEq] at ed
  · rename_i em
    rw [em] at ra
    obtain ⟨v, rfl, p, ws, rfl, h1, t⟩ := rts1 ra
    subst ed
    exact ⟨p, ws, rfl, .inl (.inl h1), fun l hl => PoF.lst po1 n1.rl hl t⟩
  · rename_i em
    rw [em] at ra
    obtain ⟨v, rfl, p, ws, rfl, h1, t⟩ := rts1 ra
    subst ed
    exact ⟨p, ws, rfl, .inr h1, fun l hl => PoF.lst po1 n1.rl hl t⟩
theorem gf_sorted (hg : Gl X "sorted") (hm : X.mg "sorted" = none) (hb : bootBuiltins "sorted" = some (.builtin "sorted")) (ha : GA X W (e :: es) fr) (hs : starEach (e :: es) X.env = (false, eval e X.env) :: starEach es X.env) (hpl : (backTo pos (starEach es X.env)).any (·.1) = false) :
    GF X W (.Call (.Name "sorted" p1) (e :: es) [] pos) (fun φ S => (fr φ S).bind fun ds φ S => ofO (biD .sorted (ds.map (look φ S))) φ S) := by
  refine (pe_callB cr_sortedI hg hm hb ha (by decide) (by decide) hs hpl).imp fun σ H Q ⟨F, μ, φ, S, rl, po⟩ => ?_
  refine ⟨F, μ, φ, S, rl, PoF.fstA po fun xs φ1 S1 μ1 H1 vs n1 r1 po1 => ?_⟩
  obtain ⟨d, ed, po1⟩ := PoF.opt1 po1
  have ra := n1.rl.lookAll r1
  simp only [biD] at ed
  split at ed <;> try simp only [Option.some.injEq, reduceCtorEq] at ed
  · rename_i em
    rw [em] at ra
    obtain ⟨ns, e2, e3⟩ := Option.map_eq_some_iff.mp ed
    obtain ⟨v, rfl, p, ws, rfl, h1, t⟩ := rts1 ra
    rw [intsOf_vals t e2] at h1
    subst e3
    refine ⟨p, ns, rfl, .inl h1, fun ns' m hp hs hm => ?_⟩
    have := sortI_eq hp hs
    subst this
    exact PoF.lst po1 n1.rl hm ints_rd
  · rename_i em
    rw [em] at ra
    obtain ⟨v, rfl, hv⟩ := rts1 ra
    exact hv.elim
def rNew (X : Cx) (o : BOp) : R2 := fun x y H Q => ∃ F μ φ S σ a b l, Rl X F μ φ S σ H ∧ RT (pm X F μ φ σ) H a x ∧ RT (pm X F μ φ σ) H b y ∧ newD o a b = some (.lst l) ∧
  ∀ p vs, H p = none → RDs (pm X F μ φ σ) H l vs → Q (.ref p) (upd H p (.lst vs))
theorem op_new (o : BOp) : OpR X (binaryOp (pyOp o)) (rNew X o) := by
  intro pins s σ H x y v u Q I rx ry h
  obtain ⟨F, μ, φ, S, σ', a, b, l, rl, ra, rb, e, k⟩ := h
  unfold newD at e
  split at e <;> try simp only [reduceCtorEq] at e
  · split at e
    · cases e
      rename_i hz
      obtain ⟨p, vs, rfl, h1, t1⟩ := ra
      obtain ⟨q, ws, rfl, h2, t2⟩ := rb
      have z1 := t1.length
      have z2 := t2.length
      exact op_catR pins s σ H _ _ v u Q I rx ry ⟨p, q, vs, ws, rfl, rfl, h1, h2, by omega, fun m hm => k m _ hm (t1.append t2)⟩
    · cases e
  · split at e
    · cases e
      rename_i hz
      obtain ⟨p, vs, rfl, h1, t1⟩ := ra
      cases rb
      have z1 := t1.length
      exact op_repR pins s σ H _ _ v u Q I rx ry ⟨p, _, vs, rfl, rfl, h1, hz.1, hz.2.1, by rw [← z1]; exact hz.2.2, fun m hm => k m _ hm (t1.rep _)⟩
    · cases e
theorem newD_lst {o : BOp} {a b d : D} (h : newD o a b = some d) : ∃ l, d = .lst l := by
  unfold newD at h
  split at h <;> try simp only [reduceCtorEq] at h
  all_goals (split at h <;> cases h; exact ⟨_, rfl⟩)
theorem gf_bin {o : BOp} (ha : GE X W a fa) (hb : GE X W b fb) : GF X W (.BinOp a (pyOp o) b pos) (fun φ S => (fa φ S).bind fun x φ S => (fb φ S).bind fun y φ S => ofO (newD o (look φ S x) (look φ S y)) φ S) := by
  refine (pe_op (op_new o) ha hb).imp fun σ H Q ⟨F, μ, φ, S, rl, po⟩ => ?_
  refine ⟨F, μ, φ, S, rl, PoF.fst po fun x φ1 S1 μ1 H1 v n1 r1 po1 => ?_⟩
  refine ⟨F, μ1, φ1, S1, n1.rl, PoF.fst po1 fun y φ2 S2 μ2 H2 u n2 r2 po2 => ?_⟩
  obtain ⟨d, e, po2⟩ := PoF.opt1 po2
  obtain ⟨l, rfl⟩ := newD_lst e
  exact ⟨F, μ2, φ2, S2, σ, _, _, l, n2.rl, n2.rl.look (n2.rx r1), n2.rl.look r2, e, fun p vs hp t => PoF.lst po2 n2.rl hp t⟩

/-! ### a shared object -/
theorem Rl.share {p : Addr} {d : D} (rl : Rl X (fun b => F b ∨ b = p) μ φ S σ H) (np : ¬ F p) (h : RH (pm X (fun b => F b ∨ b = p) μ φ σ) H d p) : Rl X F (μ ++ [p]) φ (S ++ [d]) σ H ∧ Sim (pm X (fun b => F b ∨ b = p) μ φ σ) (pm X F (μ ++ [p]) φ σ) ∧ ∀ x, muOf (μ ++ [p]) φ σ x → muOf μ φ σ x ∨ x = p := by
  have at' : ∀ {n : Nat} {x : Addr}, (μ ++ [p])[n]? = some x → μ[n]? = some x ∨ (n = μ.length ∧ x = p) := fun {n x} h => by
    rcases Nat.lt_trichotomy n μ.length with q | q | q
    · rw [List.getElem?_append_left q] at h; exact .inl h
    · subst q; rw [List.getElem?_append_right (Nat.le_refl _)] at h; simp at h; exact .inr ⟨rfl, h.symm⟩
    · rw [List.getElem?_eq_none (by simp; omega)] at h; cases h
  have mu : ∀ x, muOf (μ ++ [p]) φ σ x → muOf μ φ σ x ∨ x = p := fun x q => by
    rcases q with ⟨n, q⟩ | q
    · rcases at' q with q | q
      · exact .inl (.inl ⟨n, q⟩)
      · exact .inr q.2
    · exact .inl (.inr q)
  have sm : Sim (pm X (fun b => F b ∨ b = p) μ φ σ) (pm X F (μ ++ [p]) φ σ) := ⟨rfl, rfl, fun x q => by
    rcases q with q | q
    · rcases mu x q with q | q
      · exact .inl q
      · exact .inr (.inr q)
    · exact .inr (.inl q), fun n x (q : μ[n]? = some x) => by
      show (μ ++ [p])[n]? = some x
      rw [List.getElem?_append_left (List.getElem?_eq_some_iff.mp q).1]; exact q⟩
  have nm : ¬ muOf μ φ σ p := rl.f2 p (.inr rfl)
  refine ⟨⟨by simp [rl.lenS], rl.lenF, fun n x q z1 z2 => ?_, fun i s w z1 z2 => ?_, fun n m x z1 z2 => ?_, fun n i x z1 z2 => ?_, rl.n3, fun x q => rl.f1 x (.inl q), fun x z1 z2 => ?_, rl.tab⟩, sm, mu⟩
  · rcases at' z2 with z2 | ⟨rfl, rfl⟩
    · have : n < S.length := by rw [← rl.lenS]; exact (List.getElem?_eq_some_iff.mp z2).1
      rw [List.getElem?_append_left this] at z1
      exact (rl.bx n x q z1 z2).via sm
    · rw [rl.lenS, List.getElem?_append_right (Nat.le_refl _)] at z1
      simp at z1
      subst z1
      exact h.via sm
  · have q := rl.sl i s w z1 z2
    cases s with
    | em => trivial
    | v d => obtain ⟨v, e1, r⟩ := q; exact ⟨v, e1, RD.via sm r⟩
    | own b d => obtain ⟨x, e1, r⟩ := q; exact ⟨x, e1, r.via sm⟩
  · rcases at' z1 with y1 | ⟨e1, x1⟩
    · rcases at' z2 with y2 | ⟨e2, x2⟩
      · exact rl.n1 n m x y1 y2
      · exact absurd (.inl ⟨n, by rw [← x2]; exact y1⟩) nm
    · rcases at' z2 with y2 | ⟨e2, _⟩
      · exact absurd (.inl ⟨m, by rw [← x1]; exact y2⟩) nm
      · rw [e1, e2]
  · rcases at' z1 with y1 | ⟨e1, x1⟩
    · exact rl.n2 n i x y1 z2
    · exact nm (.inr ⟨i, by rw [← x1]; exact z2⟩)
  · rcases mu x z2 with q | q
    · exact rl.f2 x (.inl z1) q
    · subst q; exact np z1
theorem ge_bxl (ha : GA X W es fr) : GE X W (.List es pos) (fun φ S => (fr φ S).bind fun ds φ S => if ds.all keepD && decide (ds.length ≤ sizeLine) then .ok (.box S.length) φ (S ++ [.lst ds]) else .no) := by
  refine PE.to (pe_lst ha) fun F μ φ S σ H Q rl po => ?_
  refine ⟨F, μ, φ, S, rl, PoE.fstA po fun xs φ1 S1 μ1 H1 vs n1 r1 po1 => ?_⟩
  split at po1
  · rename_i h
    simp only [Bool.and_eq_true, decide_eq_true_eq] at h
    have t := r1.keep h.1
    refine ⟨by rw [← t.length]; exact h.2, fun p hp => ?_⟩
    obtain ⟨rl2, k⟩ := n1.rl.more (o := .lst vs) hp
    have nf : ¬ F p := fun z => n1.rl.f1 p z hp
    obtain ⟨rl3, sm, mu⟩ := rl2.share (d := .lst xs) nf ⟨vs, upd_same, k t⟩
    have ma : ∀ a, (pm X F μ1 φ1 σ).mu a → (pm X F μ1 φ1 σ).av a := fun _ z => .inl z
    have ex := Ext.new (o := .lst vs) ma hp
    have hb : (μ1 ++ [p])[S1.length]? = some p := by rw [← n1.rl.lenS]; simp
    refine po1 (μ1 ++ [p]) _ (.ref p) ⟨rl3, ⟨rfl, rfl, ex.keep, ex.tup, fun x h z => ?_, fun x h z => ?_, sm.bx, ma, ex.there, ex.tb⟩, fun i w d h => ⟨d, h⟩, n1.rl.fixNew hp⟩ (RD.rx (d := .box S1.length) ⟨p, rfl, hb⟩)
    · rcases mu x z with q | q
      · exact q
      · exact (h (by rw [q]; exact hp)).elim
    · rcases z with z | z
      · rcases mu x z with q | q
        · exact .inl q
        · exact (h (by rw [q]; exact hp)).elim
      · exact .inr z
  · exact po1.elim
end
end Gx
set_option Elab.async false
set_option linter.all false
set_option maxRecDepth 100000
set_option maxHeartbeats 1000000
/-! Gz1: zip of lists and tuples, mixed, and whose pairs are kept: at the library's level. -/
namespace Gz
open PySem
open PySem.Sem (wp)
section
variable {prog : Program} {w : World} {A : Around} {E : Value → Shared → Prop} {s : Shared}
theorem wpAny_alive {a : Addr} {Q : Option Obj → Shared → Prop} (h : Q (s.heap.get? a) s) : wpAny (model prog w) A (loadIfAlive a) Q E s := fun _ _ _ => h
/-- an iterator over a list or a tuple -/
inductive Src (h : Heap) (i l : Addr) (xs : Array Value) (k : Nat) : Prop
  | lst (a : h.IsListIter i l k) (b : h.IsList l xs)
  | tup (a : h.IsTupleIter i l k) (b : h.IsTuple l xs)
theorem Src.extBut {h h' : Heap} {i l c : Addr} {xs : Array Value} {k : Nat} (a : Src h i l xs k) (e : Heap.ExtBut c h h') (n1 : i ≠ c) (n2 : l ≠ c) : Src h' i l xs k := by
  cases a with
  | lst a b => exact .lst (a.extBut e n1) (b.extBut e n2)
  | tup a b => exact .tup (a.extBut e n1) (b.extBut e n2)
theorem Src.keep {h h' : Heap} {i l : Addr} {xs : Array Value} {k : Nat} (a : Src h i l xs k) (n1 : ∀ o, h.get? i = some o → h'.get? i = some o) (n2 : ∀ o, h.get? l = some o → h'.get? l = some o) : Src h' i l xs k := by
  cases a with
  | lst a b => exact .lst (a.at n1) (b.at n2)
  | tup a b => exact .tup (a.at n1) (b.at n2)
theorem Src.item {i l : Addr} {xs : Array Value} {k : Nat} {x : Value} {Q : Value → Shared → Prop} (a : Src s.heap i l xs k) (n : l ≠ i) (hx : xs[k]? = some x)
    (hQ : ∀ h', Src h' i l xs (k + 1) → Heap.SameBut i s.heap h' → Q x { s with heap := h' }) : wpAny (model prog w) A (Builtin.SmallTypes.nextOf (.ref i)) Q E s := by
  cases a with
  | lst a b => exact wpAny_nextOf_list_item a b hx fun h' q sb => hQ h' (.lst q (b.extBut sb.extBut n)) sb
  | tup a b => exact RZ.nextOf_tuple_item a b hx fun h' q sb => hQ h' (.tup q (b.extBut sb.extBut n)) sb
theorem Src.done {i l : Addr} {xs : Array Value} {k : Nat} {Q : Value → Shared → Prop} (hh : A.handled = none) (a : Src s.heap i l xs k) (hx : xs[k]? = none)
    (hE : ∀ h' e, Heap.ExtBut i s.heap h' → (∃ o, h'.get? e = some o ∧ o.cls = .type "StopIteration") → E (.ref e) { s with heap := h' }) : wpAny (model prog w) A (Builtin.SmallTypes.nextOf (.ref i)) Q E s := by
  cases a with
  | lst a b => exact wpAny_nextOf_list_end hh a b hx hE
  | tup a b => exact RZ.nextOf_tuple_end hh a b hx hE
abbrev IsZ (h : Heap) (z TI TO : Addr) (f0 : Value) (b : Bool) : Prop :=
  h.get? z = some { cls := .type "zip", dict := none, data := .fields #[f0, .bool b, .bool false, .ref TI, .ref TO], slots := #[] }
/-- the pair last given out is still held -/
theorem zip_again {z TI TO T0 i1 i2 l1 l2 : Addr} {o0 : Obj} {fb : Bool} {k1 k2 : Nat} {xs ys : Array Value} {x y : Value} {Q : Value → Shared → Prop} (D : ZipApart z TI TO i1 i2 l1 l2)
    (hz : IsZ s.heap z TI TO (rawInt T0) fb) (h0 : s.heap.get? T0 = some o0) (n0 : T0 ≠ z) (hTI : IsPair s.heap TI (.ref i1) (.ref i2))
    (h1 : Src s.heap i1 l1 xs k1) (h2 : Src s.heap i2 l2 ys k2) (hx : xs[k1]? = some x) (hy : ys[k2]? = some y)
    (hQ : ∀ h', IsZ h' z TI TO (rawInt T0) true → Src h' i1 l1 xs (k1 + 1) → Src h' i2 l2 ys (k2 + 1) → IsPair h' s.heap.objs.size x y → h'.objs.size = s.heap.objs.size + 1 →
      (∀ c o, c ≠ z → c ≠ i1 → c ≠ i2 → s.heap.get? c = some o → h'.get? c = some o) → Q (.ref s.heap.objs.size) { s with heap := h' }) :
    wpAny (model prog w) A (Builtin.«zip.__next__» ⟨[.ref z], []⟩) (fun fin s' => ∃ v, fin = .done (.ret v) ∧ Q v s') E s := by
  show wpAny _ _ (field (.ref z) 2 >>= _) _ _ _
  refine wpAny_bind (wpAny_field hz rfl (x := .bool false) rfl ?_)
  show wpAny _ _ (field (.ref z) 3 >>= _) _ _ _
  refine wpAny_bind (wpAny_field hz rfl (x := .ref TI) rfl ?_)
  refine wpAny_bind (wpAny_seqItems hTI rfl ?_)
  show wpAny _ _ (Builtin.SmallTypes.ownedTupleIsFree (.ref z) >>= _) _ _ _
  -- the flag is set, the heap else as it was
  have free : ∀ {Q' : Bool → Shared → Prop}, (∀ h', IsZ h' z TI TO (rawInt T0) true → Heap.SameBut z s.heap h' → Q' false { s with heap := h' }) → wpAny (model prog w) A (Builtin.SmallTypes.ownedTupleIsFree (.ref z)) Q' E s := fun {Q'} hq => by
    unfold Builtin.SmallTypes.ownedTupleIsFree
    refine wpAny_bind (wpAny_field hz rfl (x := rawInt T0) rfl ?_)
    show wpAny _ _ (loadIfAlive (Int.toNat (T0 : Int)) >>= _) _ _ _
    refine wpAny_bind (wpAny_alive ?_)
    rw [Int.toNat_natCast, h0]
    show wpAny _ _ (field (.ref z) 1 >>= _) _ _ _
    refine wpAny_bind (wpAny_field hz rfl (x := .bool fb) rfl ?_)
    cases fb with
    | true =>
      refine wpAny_pure ?_
      exact hq s.heap hz (Heap.SameBut.refl ..)
    | false =>
      refine wpAny_bind (wpAny_setField_rec hz (by simp) fun h' hz' hs' => ?_)
      exact wpAny_pure (hq h' hz' hs')
  refine wpAny_bind (free fun h₁ hz₁ hs₁ => ?_)
  simp only [Bool.false_eq_true, if_false]
  rw [← Array.forIn_toList]
  simp only [List.forIn_cons, List.forIn_nil]
  refine wpAny_bind (wpAny_bind (wpAny_bind (wpAny_holding ?_)))
  show wpAny _ _ (Builtin.SmallTypes.nextOf (.ref i1) >>= fun x => pure (some x)) _ _ _
  refine wpAny_bind ((h1.extBut hs₁.extBut D.i1z D.l1z).item D.l1i1 hx fun h₂ h1₂ hs₂ => wpAny_pure ?_)
  refine wpAny_pure ?_
  refine wpAny_bind (wpAny_bind (wpAny_holding ?_))
  show wpAny _ _ (Builtin.SmallTypes.nextOf (.ref i2) >>= fun x => pure (some x)) _ _ _
  refine wpAny_bind (((h2.extBut hs₁.extBut D.i2z D.l2z).extBut hs₂.extBut D.i12.symm D.l2i1).item D.l2i2 hy fun h₃ h2₃ hs₃ => wpAny_pure ?_)
  refine wpAny_pure (wpAny_pure ?_)
  refine wpAny_bind (wpAny_newTuple ?_ (by show 2 ≤ sizeLine; decide))
  refine wpAny_pure ⟨_, rfl, ?_⟩
  have hsz : h₃.objs.size = s.heap.objs.size := by rw [hs₃.1, hs₂.1, hs₁.1]
  have up : ∀ c o, c ≠ z → c ≠ i1 → c ≠ i2 → s.heap.get? c = some o → h₃.get? c = some o := fun c o c1 c2 c3 e => hs₃.extBut _ _ c3 (hs₂.extBut _ _ c2 (hs₁.extBut _ _ c1 e))
  have hz₃ : IsZ h₃ z TI TO (rawInt T0) true := hs₃.extBut _ _ D.i2z.symm (hs₂.extBut _ _ D.i1z.symm hz₁)
  have q := hQ (h₃.push { cls := .type "tuple", data := .seq #[x, y] }) (Heap.get?_push_of_some _ hz₃) ((h1₂.extBut hs₃.extBut D.i12 D.l1i2).keep (fun o e => Heap.get?_push_of_some _ e) fun o e => Heap.get?_push_of_some _ e) (h2₃.keep (fun o e => Heap.get?_push_of_some _ e) fun o e => Heap.get?_push_of_some _ e)
    (by rw [← hsz]; exact Heap.get?_push_size _ rfl) (by rw [Heap.size_push, hsz]) fun c o c1 c2 c3 e => Heap.get?_push_of_some _ (up c o c1 c2 c3 e)
  show Q (.ref h₃.objs.size) _
  rw [hsz]
  exact q
/-- and the end -/
theorem zip_again_end {z TI TO T0 i1 i2 l1 l2 : Addr} {o0 : Obj} {fb : Bool} {k1 k2 : Nat} {xs ys : Array Value} {Q : Fin → Shared → Prop} (hh : A.handled = none) (D : ZipApart z TI TO i1 i2 l1 l2)
    (hz : IsZ s.heap z TI TO (rawInt T0) fb) (h0 : s.heap.get? T0 = some o0) (hTI : IsPair s.heap TI (.ref i1) (.ref i2))
    (h1 : Src s.heap i1 l1 xs k1) (h2 : Src s.heap i2 l2 ys k2) (hend : xs[k1]? = none ∨ ys[k2]? = none)
    (hE : ∀ h' e, (∀ c o, c ≠ z → c ≠ i1 → c ≠ i2 → s.heap.get? c = some o → h'.get? c = some o) → (∃ o, h'.get? e = some o ∧ o.cls = .type "StopIteration") → E (.ref e) { s with heap := h' }) :
    wpAny (model prog w) A (Builtin.«zip.__next__» ⟨[.ref z], []⟩) Q E s := by
  show wpAny _ _ (field (.ref z) 2 >>= _) _ _ _
  refine wpAny_bind (wpAny_field hz rfl (x := .bool false) rfl ?_)
  show wpAny _ _ (field (.ref z) 3 >>= _) _ _ _
  refine wpAny_bind (wpAny_field hz rfl (x := .ref TI) rfl ?_)
  refine wpAny_bind (wpAny_seqItems hTI rfl ?_)
  show wpAny _ _ (Builtin.SmallTypes.ownedTupleIsFree (.ref z) >>= _) _ _ _
  have free : ∀ {Q' : Bool → Shared → Prop}, (∀ h', IsZ h' z TI TO (rawInt T0) true → Heap.SameBut z s.heap h' → Q' false { s with heap := h' }) → wpAny (model prog w) A (Builtin.SmallTypes.ownedTupleIsFree (.ref z)) Q' E s := fun {Q'} hq => by
    unfold Builtin.SmallTypes.ownedTupleIsFree
    refine wpAny_bind (wpAny_field hz rfl (x := rawInt T0) rfl ?_)
    show wpAny _ _ (loadIfAlive (Int.toNat (T0 : Int)) >>= _) _ _ _
    refine wpAny_bind (wpAny_alive ?_)
    rw [Int.toNat_natCast, h0]
    show wpAny _ _ (field (.ref z) 1 >>= _) _ _ _
    refine wpAny_bind (wpAny_field hz rfl (x := .bool fb) rfl ?_)
    cases fb with
    | true =>
      refine wpAny_pure ?_
      exact hq s.heap hz (Heap.SameBut.refl ..)
    | false =>
      refine wpAny_bind (wpAny_setField_rec hz (by simp) fun h' hz' hs' => ?_)
      exact wpAny_pure (hq h' hz' hs')
  refine wpAny_bind (free fun h₁ hz₁ hs₁ => ?_)
  simp only [Bool.false_eq_true, if_false]
  rw [← Array.forIn_toList]
  simp only [List.forIn_cons, List.forIn_nil]
  refine wpAny_bind (wpAny_bind (wpAny_bind (wpAny_holding ?_)))
  show wpAny _ _ (Builtin.SmallTypes.nextOf (.ref i1) >>= fun x => pure (some x)) _ _ _
  cases hx : xs[k1]? with
  | none =>
    exact wpAny_bind ((h1.extBut hs₁.extBut D.i1z D.l1z).done hh hx fun h₂ e hs₂ he => hE h₂ e (fun c o c1 c2 c3 x => hs₂ _ _ c2 (hs₁.extBut _ _ c1 x)) he)
  | some x =>
    have hy : ys[k2]? = none := by rcases hend with h | h; rw [hx] at h; cases h; exact h
    refine wpAny_bind ((h1.extBut hs₁.extBut D.i1z D.l1z).item D.l1i1 hx fun h₂ h1₂ hs₂ => wpAny_pure ?_)
    refine wpAny_pure ?_
    refine wpAny_bind (wpAny_bind (wpAny_holding ?_))
    show wpAny _ _ (Builtin.SmallTypes.nextOf (.ref i2) >>= fun x => pure (some x)) _ _ _
    exact wpAny_bind (((h2.extBut hs₁.extBut D.i2z D.l2z).extBut hs₂.extBut D.i12.symm D.l2i1).done hh hy fun h₃ e hs₃ he => hE h₃ e (fun c o c1 c2 c3 x => hs₃ _ _ c3 (hs₂.extBut _ _ c2 (hs₁.extBut _ _ c1 x))) he)
/-- nothing is held: the first pair, or each pair of a loop -/
theorem zip_first {z TI TO i1 i2 l1 l2 : Addr} {k1 k2 : Nat} {xs ys : Array Value} {x y a b : Value} {Q : Value → Shared → Prop} (D : ZipApart z TI TO i1 i2 l1 l2)
    (hz : IsZip s.heap z TI TO .none) (hTI : IsPair s.heap TI (.ref i1) (.ref i2)) (hTO : IsPair s.heap TO a b)
    (h1 : Src s.heap i1 l1 xs k1) (h2 : Src s.heap i2 l2 ys k2) (hx : xs[k1]? = some x) (hy : ys[k2]? = some y)
    (hQ : ∀ h', IsZip h' z TI TO (rawInt s.heap.objs.size) → IsPair h' TO x y → Src h' i1 l1 xs (k1 + 1) → Src h' i2 l2 ys (k2 + 1) → IsPair h' s.heap.objs.size x y → h'.objs.size = s.heap.objs.size + 1 →
      (∀ c o, c ≠ z → c ≠ TO → c ≠ i1 → c ≠ i2 → s.heap.get? c = some o → h'.get? c = some o) → Q (.ref s.heap.objs.size) { s with heap := h' }) :
    wpAny (model prog w) A (Builtin.«zip.__next__» ⟨[.ref z], []⟩) (fun fin s' => ∃ v, fin = .done (.ret v) ∧ Q v s') E s := by
  show wpAny _ _ (field (.ref z) 2 >>= _) _ _ _
  refine wpAny_bind (wpAny_field hz rfl (x := .bool false) rfl ?_)
  show wpAny _ _ (field (.ref z) 3 >>= _) _ _ _
  refine wpAny_bind (wpAny_field hz rfl (x := .ref TI) rfl ?_)
  refine wpAny_bind (wpAny_seqItems hTI rfl ?_)
  show wpAny _ _ (Builtin.SmallTypes.ownedTupleIsFree (.ref z) >>= _) _ _ _
  refine wpAny_bind ?_
  unfold Builtin.SmallTypes.ownedTupleIsFree
  refine wpAny_bind (wpAny_field hz rfl (x := .none) rfl (wpAny_pure ?_))
  simp only [if_true]
  refine wpAny_bind (wpAny_rule ?_)
  refine wpAny_bind (wpAny_field hz rfl (x := .ref TO) rfl ?_)
  refine wpAny_bind (wpAny_setField_rec hz (by simp) fun h₁ hz₁ hs₁ => ?_)
  replace hz₁ : IsZip h₁ z TI TO .ellipsis := hz₁
  refine wpAny_bind ?_
  simp only [List.zipIdx_cons, List.zipIdx_nil, List.forIn_cons, List.forIn_nil]
  refine wpAny_bind (wpAny_bind (wpAny_onRaise ?_))
  show wpAny _ _ (Builtin.SmallTypes.nextOf (.ref i1) >>= _) _ _ _
  refine wpAny_bind ((h1.extBut hs₁.extBut D.i1z D.l1z).item D.l1i1 hx fun h₂ h1₂ hs₂ => wpAny_pure ?_)
  have hTO₂ : IsPair h₂ TO a b := hs₂.extBut _ _ D.TOi1 (hs₁.extBut _ _ D.TOz hTO)
  refine wpAny_bind (wpAny_seqItems hTO₂ rfl ?_)
  refine wpAny_bind (wpAny_updateSeq_pair hTO₂ fun h₃ hTO₃ hs₃ => ?_)
  replace hTO₃ : IsPair h₃ TO x b := hTO₃
  refine wpAny_bind (wpAny_letGo (wpAny_pure ?_))
  refine wpAny_bind (wpAny_bind (wpAny_onRaise ?_))
  show wpAny _ _ (Builtin.SmallTypes.nextOf (.ref i2) >>= _) _ _ _
  refine wpAny_bind ((((h2.extBut hs₁.extBut D.i2z D.l2z).extBut hs₂.extBut D.i12.symm D.l2i1).extBut hs₃.extBut D.TOi2.symm D.l2TO).item D.l2i2 hy fun h₄ h2₄ hs₄ => wpAny_pure ?_)
  have hTO₄ : IsPair h₄ TO x b := hs₄.extBut _ _ D.TOi2 hTO₃
  refine wpAny_bind (wpAny_seqItems hTO₄ rfl ?_)
  refine wpAny_bind (wpAny_updateSeq_pair hTO₄ fun h₅ hTO₅ hs₅ => ?_)
  replace hTO₅ : IsPair h₅ TO x y := hTO₅
  refine wpAny_bind (wpAny_letGo (wpAny_pure (wpAny_pure ?_)))
  refine wpAny_bind (wpAny_seqItems hTO₅ rfl ?_)
  refine wpAny_bind (wpAny_newTuple ?_)
  have hsz : h₅.objs.size = s.heap.objs.size := by rw [hs₅.1, hs₄.1, hs₃.1, hs₂.1, hs₁.1]
  have hz₅ : IsZip h₅ z TI TO .ellipsis := hs₅.extBut _ _ D.TOz.symm (hs₄.extBut _ _ D.i2z.symm (hs₃.extBut _ _ D.TOz.symm (hs₂.extBut _ _ D.i1z.symm hz₁)))
  have hk₅ : ∀ c o, c ≠ z → c ≠ TO → c ≠ i1 → c ≠ i2 → s.heap.get? c = some o → h₅.get? c = some o := fun c o c1 c2 c3 c4 e =>
    hs₅.extBut _ _ c2 (hs₄.extBut _ _ c4 (hs₃.extBut _ _ c2 (hs₂.extBut _ _ c3 (hs₁.extBut _ _ c1 e))))
  have h1₅ : Src h₅ i1 l1 xs (k1 + 1) := ((h1₂.extBut hs₃.extBut D.TOi1.symm D.l1TO).extBut hs₄.extBut D.i12 D.l1i2).extBut hs₅.extBut D.TOi1.symm D.l1TO
  have h2₅ : Src h₅ i2 l2 ys (k2 + 1) := h2₄.extBut hs₅.extBut D.TOi2.symm D.l2TO
  have hzlt : z < h₅.objs.size := Heap.lt_size hz₅
  have hTOlt : TO < h₅.objs.size := Heap.lt_size hTO₅
  show wpAny _ _ (Builtin.SmallTypes.ownedTupleHandOut (.ref z) (.ref h₅.objs.size) >>= _) _ _ _
  refine wpAny_bind ?_
  unfold Builtin.SmallTypes.ownedTupleHandOut
  have hz₆ : IsZip (h₅.push { cls := .type "tuple", data := .seq #[x, y] }) z TI TO .ellipsis := Heap.get?_push_of_some _ hz₅
  refine wpAny_bind (wpAny_setField_rec hz₆ (by simp) fun h₇ hz₇ hs₇ => ?_)
  replace hz₇ : IsZip h₇ z TI TO (rawInt h₅.objs.size) := hz₇
  refine wpAny_setField_rec hz₇ (by simp) fun h₈ hz₈ hs₈ => ?_
  replace hz₈ : IsZip h₈ z TI TO (rawInt h₅.objs.size) := hz₈
  have up : ∀ c o, c ≠ z → h₅.get? c = some o → h₈.get? c = some o := fun c o c1 e => hs₈.extBut _ _ c1 (hs₇.extBut _ _ c1 (Heap.get?_push_of_some _ e))
  have hT₈ : IsPair h₈ h₅.objs.size x y := hs₈.extBut _ _ (Nat.ne_of_gt hzlt) (hs₇.extBut _ _ (Nat.ne_of_gt hzlt) (Heap.get?_push_size _ rfl))
  have hz8 : h₈.objs.size = h₅.objs.size + 1 := by rw [hs₈.1, hs₇.1, Heap.size_push]
  rw [hsz] at hz₈ hT₈ hz8
  refine wpAny_pure ⟨_, rfl, ?_⟩
  show Q (.ref h₅.objs.size) _
  rw [hsz]
  exact hQ h₈ hz₈ (up _ _ D.TOz hTO₅) (h1₅.keep (fun o e => up _ o D.i1z e) fun o e => up _ o D.l1z e) (h2₅.keep (fun o e => up _ o D.i2z e) fun o e => up _ o D.l2z e) hT₈ hz8 fun c o c1 c2 c3 c4 e => up c o c1 (hk₅ c o c1 c2 c3 c4 e)
theorem zip_first_end {z TI TO i1 i2 l1 l2 : Addr} {k1 k2 : Nat} {xs ys : Array Value} {a b : Value} {Q : Fin → Shared → Prop} (hh : A.handled = none) (D : ZipApart z TI TO i1 i2 l1 l2)
    (hz : IsZip s.heap z TI TO .none) (hTI : IsPair s.heap TI (.ref i1) (.ref i2)) (hTO : IsPair s.heap TO a b)
    (h1 : Src s.heap i1 l1 xs k1) (h2 : Src s.heap i2 l2 ys k2) (hend : xs[k1]? = none ∨ ys[k2]? = none)
    (hE : ∀ h' e, (∀ c o, c ≠ z → c ≠ TO → c ≠ i1 → c ≠ i2 → s.heap.get? c = some o → h'.get? c = some o) → (∃ o, h'.get? e = some o ∧ o.cls = .type "StopIteration") → E (.ref e) { s with heap := h' }) :
    wpAny (model prog w) A (Builtin.«zip.__next__» ⟨[.ref z], []⟩) Q E s := by
  show wpAny _ _ (field (.ref z) 2 >>= _) _ _ _
  refine wpAny_bind (wpAny_field hz rfl (x := .bool false) rfl ?_)
  show wpAny _ _ (field (.ref z) 3 >>= _) _ _ _
  refine wpAny_bind (wpAny_field hz rfl (x := .ref TI) rfl ?_)
  refine wpAny_bind (wpAny_seqItems hTI rfl ?_)
  show wpAny _ _ (Builtin.SmallTypes.ownedTupleIsFree (.ref z) >>= _) _ _ _
  refine wpAny_bind ?_
  unfold Builtin.SmallTypes.ownedTupleIsFree
  refine wpAny_bind (wpAny_field hz rfl (x := .none) rfl (wpAny_pure ?_))
  simp only [if_true]
  refine wpAny_bind (wpAny_rule ?_)
  refine wpAny_bind (wpAny_field hz rfl (x := .ref TO) rfl ?_)
  refine wpAny_bind (wpAny_setField_rec hz (by simp) fun h₁ hz₁ hs₁ => ?_)
  replace hz₁ : IsZip h₁ z TI TO .ellipsis := hz₁
  refine wpAny_bind ?_
  simp only [List.zipIdx_cons, List.zipIdx_nil, List.forIn_cons, List.forIn_nil]
  refine wpAny_bind (wpAny_bind (wpAny_onRaise ?_))
  show wpAny _ _ (Builtin.SmallTypes.nextOf (.ref i1) >>= _) _ _ _
  cases hx : xs[k1]? with
  | none =>
    refine wpAny_bind ((h1.extBut hs₁.extBut D.i1z D.l1z).done hh hx fun h₂ e hs₂ he => ?_)
    obtain ⟨oe, hoe, hce⟩ := he
    have hz₂ : IsZip h₂ z TI TO .ellipsis := hs₂ _ _ D.i1z.symm hz₁
    have hez : e ≠ z := fun x => by subst x; rw [hz₂] at hoe; cases hoe; simp at hce
    refine wpAny_setField_rec hz₂ (by simp) fun h₃ _ hs₃ => hE h₃ e (fun c o c1 _ c3 _ x => hs₃.extBut _ _ c1 (hs₂ _ _ c3 (hs₁.extBut _ _ c1 x))) ⟨oe, hs₃.extBut _ _ hez hoe, hce⟩
  | some x =>
    have hy : ys[k2]? = none := by rcases hend with h | h; rw [hx] at h; cases h; exact h
    refine wpAny_bind ((h1.extBut hs₁.extBut D.i1z D.l1z).item D.l1i1 hx fun h₂ h1₂ hs₂ => wpAny_pure ?_)
    have hTO₂ : IsPair h₂ TO a b := hs₂.extBut _ _ D.TOi1 (hs₁.extBut _ _ D.TOz hTO)
    refine wpAny_bind (wpAny_seqItems hTO₂ rfl ?_)
    refine wpAny_bind (wpAny_updateSeq_pair hTO₂ fun h₃ hTO₃ hs₃ => ?_)
    refine wpAny_bind (wpAny_letGo (wpAny_pure ?_))
    refine wpAny_bind (wpAny_bind (wpAny_onRaise ?_))
    show wpAny _ _ (Builtin.SmallTypes.nextOf (.ref i2) >>= _) _ _ _
    refine wpAny_bind ((((h2.extBut hs₁.extBut D.i2z D.l2z).extBut hs₂.extBut D.i12.symm D.l2i1).extBut hs₃.extBut D.TOi2.symm D.l2TO).done hh hy fun h₄ e hs₄ he => ?_)
    obtain ⟨oe, hoe, hce⟩ := he
    have hz₄ : IsZip h₄ z TI TO .ellipsis := hs₄ _ _ D.i2z.symm (hs₃.extBut _ _ D.TOz.symm (hs₂.extBut _ _ D.i1z.symm hz₁))
    have hez : e ≠ z := fun x => by subst x; rw [hz₄] at hoe; cases hoe; simp at hce
    refine wpAny_setField_rec hz₄ (by simp) fun h₅ _ hs₅ => hE h₅ e (fun c o c1 c2 c3 c4 x => hs₅.extBut _ _ c1 (hs₄ _ _ c4 (hs₃.extBut _ _ c2 (hs₂.extBut _ _ c3 (hs₁.extBut _ _ c1 x))))) ⟨oe, hs₅.extBut _ _ hez hoe, hce⟩
theorem pyNext_item {z : Addr} {Q : Option Value → Shared → Prop} (hT : s.TypeIs (.ref z) "zip") (h : ∀ A' : Around, wpAny (model prog w) A' (Builtin.«zip.__next__» ⟨[.ref z], []⟩) (fun fin s' => ∃ v, fin = .done (.ret v) ∧ Q (some v) s') (fun _ _ => False) s) : wpAny (model prog w) A (pyNext (.ref z)) Q E s := by
  unfold pyNext
  refine wpAny_bind (wpAny_attempt (wpAny_callSpecial?_slot (name := Str.ofString "__next__") hT F.slot_zip_next (wpAny_call_entry F.slot_zip_next hT F.entry_zip_next (wpAny_mono (h _) (fun fin s' ⟨v, e, q⟩ => ⟨v, e, wpAny_pure q⟩) fun _ _ z => z.elim) (F.args_zip_next_1 _))))
theorem pyNext_stop {z : Addr} {Q : Option Value → Shared → Prop} (hT : s.TypeIs (.ref z) "zip") (h : ∀ A' : Around, A'.handled = A.handled → wpAny (model prog w) A' (Builtin.«zip.__next__» ⟨[.ref z], []⟩) (fun _ _ => False) (fun e s' => ∃ a o, e = .ref a ∧ s'.heap.get? a = some o ∧ o.cls = .type "StopIteration" ∧ Q none s') s) : wpAny (model prog w) A (pyNext (.ref z)) Q E s := by
  unfold pyNext
  refine wpAny_bind (wpAny_attempt (wpAny_callSpecial?_slot (name := Str.ofString "__next__") hT F.slot_zip_next (wpAny_call_entry F.slot_zip_next hT F.entry_zip_next (wpAny_mono (h _ rfl) (fun fin s' z => z.elim) fun e s' ⟨a, o, e1, ho, hc, q⟩ => ?_) (F.args_zip_next_1 _))))
  subst e1
  refine wpAny_bind (wpAny_isInstance (T := "StopIteration") (b := true) ⟨o, ho, hc⟩ isSubtype_stop ?_)
  exact wpAny_pure q
end
end Gz
set_option Elab.async false
set_option linter.all false
set_option maxRecDepth 100000
set_option maxHeartbeats 1000000
/-! Gz2: zip(a, b) of lists and tuples, mixed; list(zip(a, b)): at the library's level. -/
namespace Gz
open PySem
open PySem.Sem (wp)
abbrev gH1 (n1 : String) (h : Heap) (l1 : Addr) : Heap := h.push { cls := .type n1, data := .fields #[.ref l1, .int 0 0] }
abbrev gH2 (n1 n2 : String) (h : Heap) (l1 l2 : Addr) : Heap := (gH1 n1 h l1).push { cls := .type n2, data := .fields #[.ref l2, .int 0 0] }
abbrev gH3 (n1 n2 : String) (h : Heap) (l1 l2 : Addr) : Heap := (gH2 n1 n2 h l1 l2).push { cls := .type "tuple", data := .seq #[.ref h.objs.size, .ref (gH1 n1 h l1).objs.size] }
abbrev gH4 (n1 n2 : String) (h : Heap) (l1 l2 : Addr) : Heap := (gH3 n1 n2 h l1 l2).push { cls := .type "tuple", data := .seq #[.none, .none] }
abbrev gH5 (n1 n2 : String) (h : Heap) (l1 l2 : Addr) : Heap := (gH4 n1 n2 h l1 l2).push { cls := .type "zip", data := .fields #[.none, .bool false, .bool false, .ref (gH2 n1 n2 h l1 l2).objs.size, .ref (gH3 n1 n2 h l1 l2).objs.size] }
theorem meets_LT (l1 l2 : Addr) (xs ys : Array Value) :
    Meets (Builtin.«zip.__new__» ⟨[.type "zip", .ref l1, .ref l2], []⟩) (fun _ R s => s.heap.IsList l1 xs ∧ s.heap.IsTuple l2 ys ∧
      R (.ok (.ret (.ref (gH4 "list_iterator" "tuple_iterator" s.heap l1 l2).objs.size))) { s with heap := gH5 "list_iterator" "tuple_iterator" s.heap l1 l2 }) :=
  .of_wp fun prog w A R s h => by
    obtain ⟨hp, g, d, tk, os⟩ := s; obtain ⟨hl1, hl2, h⟩ := h
    have hsub := sub_zip
    have hL1 : Heap.IsList (Shared.heap ⟨hp, g, d, tk, os⟩) l1 xs := hl1
    have hL2 : Heap.IsTuple (Shared.heap ⟨hp.push { cls := .type "list_iterator", data := .fields #[.ref l1, .int 0 0] }, g, d, tk, os⟩) l2 ys := Heap.IsTuple.push hl2 _
    wp_walk using wpAny_pyIter_list hL1, wpAny_pyIter_tuple hL2
    exact ⟨_, rfl, h⟩
theorem meets_TL (l1 l2 : Addr) (xs ys : Array Value) :
    Meets (Builtin.«zip.__new__» ⟨[.type "zip", .ref l1, .ref l2], []⟩) (fun _ R s => s.heap.IsTuple l1 xs ∧ s.heap.IsList l2 ys ∧
      R (.ok (.ret (.ref (gH4 "tuple_iterator" "list_iterator" s.heap l1 l2).objs.size))) { s with heap := gH5 "tuple_iterator" "list_iterator" s.heap l1 l2 }) :=
  .of_wp fun prog w A R s h => by
    obtain ⟨hp, g, d, tk, os⟩ := s; obtain ⟨hl1, hl2, h⟩ := h
    have hsub := sub_zip
    have hL1 : Heap.IsTuple (Shared.heap ⟨hp, g, d, tk, os⟩) l1 xs := hl1
    have hL2 : Heap.IsList (Shared.heap ⟨hp.push { cls := .type "tuple_iterator", data := .fields #[.ref l1, .int 0 0] }, g, d, tk, os⟩) l2 ys := Heap.IsList.push hl2 _
    wp_walk using wpAny_pyIter_tuple hL1, wpAny_pyIter_list hL2
    exact ⟨_, rfl, h⟩
section
variable {prog : Program} {w : World} {A : Around} {E : Value → Shared → Prop} {s : Shared}
theorem gH_facts (n1 n2 : String) (l1 l2 : Addr) (h : Heap) : IsZip (gH5 n1 n2 h l1 l2) (h.objs.size + 4) (h.objs.size + 2) (h.objs.size + 3) .none ∧ IsPair (gH5 n1 n2 h l1 l2) (h.objs.size + 2) (.ref h.objs.size) (.ref (h.objs.size + 1)) ∧
    IsPair (gH5 n1 n2 h l1 l2) (h.objs.size + 3) .none .none ∧ (gH5 n1 n2 h l1 l2).get? h.objs.size = some { cls := .type n1, data := .fields #[.ref l1, .int 0 0] } ∧ (gH5 n1 n2 h l1 l2).get? (h.objs.size + 1) = some { cls := .type n2, data := .fields #[.ref l2, .int 0 0] } ∧
    (gH5 n1 n2 h l1 l2).objs.size = h.objs.size + 5 ∧ (gH4 n1 n2 h l1 l2).objs.size = h.objs.size + 4 ∧ ∀ c o, h.get? c = some o → (gH5 n1 n2 h l1 l2).get? c = some o := by
  have z1 : (gH1 n1 h l1).objs.size = h.objs.size + 1 := Heap.size_push ..
  have z2 : (gH2 n1 n2 h l1 l2).objs.size = h.objs.size + 2 := by rw [Heap.size_push, z1]
  have z3 : (gH3 n1 n2 h l1 l2).objs.size = h.objs.size + 3 := by rw [Heap.size_push, z2]
  have z4 : (gH4 n1 n2 h l1 l2).objs.size = h.objs.size + 4 := by rw [Heap.size_push, z3]
  have z5 : (gH5 n1 n2 h l1 l2).objs.size = h.objs.size + 5 := by rw [Heap.size_push, z4]
  have g5 : (gH5 n1 n2 h l1 l2).get? (gH4 n1 n2 h l1 l2).objs.size = some _ := Heap.get?_push_size _ rfl
  have g4 : (gH5 n1 n2 h l1 l2).get? (gH3 n1 n2 h l1 l2).objs.size = some _ := Heap.get?_push_of_some _ (Heap.get?_push_size _ rfl)
  have g3 : (gH5 n1 n2 h l1 l2).get? (gH2 n1 n2 h l1 l2).objs.size = some _ := Heap.get?_push_of_some _ (Heap.get?_push_of_some _ (Heap.get?_push_size _ rfl))
  have g2 : (gH5 n1 n2 h l1 l2).get? (gH1 n1 h l1).objs.size = some _ := Heap.get?_push_of_some _ (Heap.get?_push_of_some _ (Heap.get?_push_of_some _ (Heap.get?_push_size _ rfl)))
  have g1 : (gH5 n1 n2 h l1 l2).get? h.objs.size = some _ := Heap.get?_push_of_some _ (Heap.get?_push_of_some _ (Heap.get?_push_of_some _ (Heap.get?_push_of_some _ (Heap.get?_push_size _ rfl))))
  rw [z2, z3, z4] at g5
  rw [z1, z2] at g3
  rw [z3] at g4
  rw [z1] at g2
  exact ⟨g5, g3, g4, g1, g2, z5, z4, fun c o x => Heap.get?_push_of_some _ (Heap.get?_push_of_some _ (Heap.get?_push_of_some _ (Heap.get?_push_of_some _ (Heap.get?_push_of_some _ x))))⟩
def Sq (h : Heap) (l : Addr) (xs : Array Value) : Prop := h.IsList l xs ∨ h.IsTuple l xs
theorem call_zipG {l1 l2 : Addr} {xs ys : Array Value} {Q : Value → Shared → Prop} (hl1 : Sq s.heap l1 xs) (hl2 : Sq s.heap l2 ys)
    (h : ∀ h', IsZip h' (s.heap.objs.size + 4) (s.heap.objs.size + 2) (s.heap.objs.size + 3) .none → IsPair h' (s.heap.objs.size + 2) (.ref s.heap.objs.size) (.ref (s.heap.objs.size + 1)) →
      IsPair h' (s.heap.objs.size + 3) .none .none → Src h' s.heap.objs.size l1 xs 0 → Src h' (s.heap.objs.size + 1) l2 ys 0 → h'.objs.size = s.heap.objs.size + 5 →
      (∀ c o, s.heap.get? c = some o → h'.get? c = some o) → Q (.ref (s.heap.objs.size + 4)) { s with heap := h' }) :
    wpAny (model prog w) A (call (.type "zip") [.ref l1, .ref l2]) Q E s := by
  rcases hl1 with hl1 | hl1
  · rcases hl2 with hl2 | hl2
    · exact call_zip_2 hl1 hl2 fun h' a1 a2 a3 a4 a5 a6 hk => h h' a1 a2 a3 (.lst a4 (hl1.at fun o e => hk _ o e)) (.lst a5 (hl2.at fun o e => hk _ o e)) a6 hk
    · refine callType_new F.called_zip (by decide) (F.typeCall_zip_2 _ _) (F.newCall_zip_2 _ _) (fun obj => F.args_object_init_3 obj _ _) F.entry_zip_new (meets_LT l1 l2 xs ys) ⟨hl1, hl2, ?_⟩
      obtain ⟨g5, g3, g4, g1, g2, z5, z4, hk⟩ := gH_facts "list_iterator" "tuple_iterator" l1 l2 s.heap
      show _ ∧ _
      rw [z4]
      exact ⟨⟨_, g5, rfl⟩, h _ g5 g3 g4 (.lst ⟨_, g1, rfl, rfl⟩ (hl1.at fun o e => hk _ o e)) (.tup ⟨_, g2, rfl, rfl⟩ (hl2.at fun o e => hk _ o e)) z5 hk⟩
  · rcases hl2 with hl2 | hl2
    · refine callType_new F.called_zip (by decide) (F.typeCall_zip_2 _ _) (F.newCall_zip_2 _ _) (fun obj => F.args_object_init_3 obj _ _) F.entry_zip_new (meets_TL l1 l2 xs ys) ⟨hl1, hl2, ?_⟩
      obtain ⟨g5, g3, g4, g1, g2, z5, z4, hk⟩ := gH_facts "tuple_iterator" "list_iterator" l1 l2 s.heap
      show _ ∧ _
      rw [z4]
      exact ⟨⟨_, g5, rfl⟩, h _ g5 g3 g4 (.tup ⟨_, g1, rfl, rfl⟩ (hl1.at fun o e => hk _ o e)) (.lst ⟨_, g2, rfl, rfl⟩ (hl2.at fun o e => hk _ o e)) z5 hk⟩
    · exact RZ.call_zipT hl1 hl2 fun h' a1 a2 a3 a4 a5 a6 hk => h h' a1 a2 a3 (.tup a4 (hl1.at fun o e => hk _ o e)) (.tup a5 (hl2.at fun o e => hk _ o e)) a6 hk

/-! ### one step, whether the last pair is held or not -/
def ZSt (h : Heap) (z TI TO i1 i2 : Addr) : Prop := (IsZip h z TI TO .none ∧ ∃ a b, IsPair h TO a b) ∨ ∃ (T0 : Addr) (o0 : Obj) (fb : Bool), IsZ h z TI TO (rawInt (T0 : Nat)) fb ∧ h.get? T0 = some o0 ∧ T0 ≠ z ∧ T0 ≠ i1 ∧ T0 ≠ i2
theorem ZSt.ty {z TI TO i1 i2 : Addr} (h : ZSt s.heap z TI TO i1 i2) : s.TypeIs (.ref z) "zip" := by
  rcases h with ⟨h, _⟩ | ⟨_, _, _, h, _⟩
  · exact ⟨_, h, rfl⟩
  · exact ⟨_, h, rfl⟩
variable {z TI TO i1 i2 l1 l2 : Addr} {k : Nat} {xs ys : Array Value}
theorem zip_step {x y : Value} {Q : Option Value → Shared → Prop} (D : ZipApart z TI TO i1 i2 l1 l2) (hz : ZSt s.heap z TI TO i1 i2) (hTI : IsPair s.heap TI (.ref i1) (.ref i2)) (h1 : Src s.heap i1 l1 xs k) (h2 : Src s.heap i2 l2 ys k) (hx : xs[k]? = some x) (hy : ys[k]? = some y)
    (hQ : ∀ h', ZSt h' z TI TO i1 i2 → IsPair h' TI (.ref i1) (.ref i2) → Src h' i1 l1 xs (k + 1) → Src h' i2 l2 ys (k + 1) → IsPair h' s.heap.objs.size x y → h'.objs.size = s.heap.objs.size + 1 →
      (∀ c o, c ≠ z → c ≠ TO → c ≠ i1 → c ≠ i2 → s.heap.get? c = some o → h'.get? c = some o) → Q (some (.ref s.heap.objs.size)) { s with heap := h' }) : wpAny (model prog w) A (pyNext (.ref z)) Q E s := by
  have lt : ∀ {c o}, s.heap.get? c = some o → s.heap.objs.size ≠ c := fun e => Nat.ne_of_gt (Heap.lt_size e)
  have li : ∀ {i l : Addr} {xs : Array Value} {k : Nat}, Src s.heap i l xs k → s.heap.objs.size ≠ i := fun h => by
    cases h with
    | lst a b => obtain ⟨_, e, _⟩ := a; exact lt e
    | tup a b => obtain ⟨_, e, _⟩ := a; exact lt e
  refine pyNext_item hz.ty fun A' => ?_
  rcases hz with ⟨hz, a, b, hTO⟩ | ⟨T0, o0, fb, hz, h0, n0, n1, n2⟩
  · exact zip_first D hz hTI hTO h1 h2 hx hy fun h' g1 g2 g3 g4 g5 g6 hk => hQ h' (.inr ⟨_, _, false, g1, g5, lt hz, li h1, li h2⟩) (hk _ _ D.TIz D.TITO D.TIi1 D.TIi2 hTI) g3 g4 g5 g6 hk
  · exact zip_again D hz h0 n0 hTI h1 h2 hx hy fun h' g1 g3 g4 g5 g6 hk => hQ h' (.inr ⟨T0, o0, true, g1, hk _ _ n0 n1 n2 h0, n0, n1, n2⟩) (hk _ _ D.TIz D.TIi1 D.TIi2 hTI) g3 g4 g5 g6 fun c o c1 _ c3 c4 e => hk c o c1 c3 c4 e
theorem zip_stop {Q : Option Value → Shared → Prop} (hh : A.handled = none) (D : ZipApart z TI TO i1 i2 l1 l2) (hz : ZSt s.heap z TI TO i1 i2) (hTI : IsPair s.heap TI (.ref i1) (.ref i2)) (h1 : Src s.heap i1 l1 xs k) (h2 : Src s.heap i2 l2 ys k) (hend : xs[k]? = none ∨ ys[k]? = none)
    (hQ : ∀ h', (∀ c o, c ≠ z → c ≠ TO → c ≠ i1 → c ≠ i2 → s.heap.get? c = some o → h'.get? c = some o) → Q none { s with heap := h' }) : wpAny (model prog w) A (pyNext (.ref z)) Q E s := by
  refine pyNext_stop hz.ty fun A' hA => ?_
  rcases hz with ⟨hz, a, b, hTO⟩ | ⟨T0, o0, fb, hz, h0, n0, n1, n2⟩
  · exact zip_first_end (by rw [hA]; exact hh) D hz hTI hTO h1 h2 hend fun h' e hk ⟨o, ho, hc⟩ => ⟨e, o, rfl, ho, hc, hQ h' hk⟩
  · exact zip_again_end (by rw [hA]; exact hh) D hz h0 hTI h1 h2 hend fun h' e hk ⟨o, ho, hc⟩ => ⟨e, o, rfl, ho, hc, hQ h' fun c o c1 _ c3 c4 e => hk c o c1 c3 c4 e⟩

/-! ### list(zip(..)) -/
/-- what the list holds so far: each pair in a tuple of its own, none of them old -/
structure Acc (n0 : Nat) (h : Heap) (xs ys acc : Array Value) (i : Nat) (out : List Addr) : Prop where
  size : acc.size = i
  item : ∀ j, j < i → ∃ T x y, acc[j]? = some (.ref T) ∧ xs[j]? = some x ∧ ys[j]? = some y ∧ IsPair h T x y ∧ n0 ≤ T
  ord : ∀ (j j' : Nat) (T T' : Addr), j < j' → acc[j]? = some (Value.ref T) → acc[j']? = some (Value.ref T') → T < T'
theorem list_loop {n0 : Nat} {S : Addr} {res : Value} {R : Result → Shared → Prop} (hh : A.handled = none) (D : ZipApart z TI TO i1 i2 l1 l2) (hn : min xs.size ys.size ≤ sizeLine)
    (lS : z < S ∧ TI < S ∧ TO < S ∧ i1 < S ∧ i2 < S ∧ l1 < S ∧ l2 < S) (hS0 : S < n0) :
    ∀ (m i : Nat) (s : Shared) (acc : Array Value) (c : Nat), min xs.size ys.size - i = m → i ≤ min xs.size ys.size → ZSt s.heap z TI TO i1 i2 → IsPair s.heap TI (.ref i1) (.ref i2) → Src s.heap i1 l1 xs i → Src s.heap i2 l2 ys i → n0 ≤ s.heap.objs.size →
      s.heap.get? S = some { cls := .type "list", dict := none, data := .seq acc c, slots := #[] } → Acc n0 s.heap xs ys acc i [] →
      (∀ h' acc' c', h'.get? S = some { cls := .type "list", dict := none, data := .seq acc' c', slots := #[] } → Acc n0 h' xs ys acc' (min xs.size ys.size) [] →
        (∀ c o, c ≠ z → c ≠ TO → c ≠ i1 → c ≠ i2 → c ≠ S → s.heap.get? c = some o → h'.get? c = some o) → R (.ok (.ret res)) { s with heap := h' }) →
      codeAny (model prog w) A (.builtin "list.extend.loop" ⟨[.ref S, .ref z, res], []⟩) R s := by
  obtain ⟨a1, a2, a3, a4, a5, a6, a7⟩ := lS
  have far : ∀ {c T : Addr}, c < S → n0 ≤ T → T ≠ c := fun h1 h2 => Nat.ne_of_gt (Nat.lt_of_lt_of_le (Nat.lt_trans h1 hS0) h2)
  have farS : ∀ {T : Addr}, n0 ≤ T → T ≠ S := fun h2 => Nat.ne_of_gt (Nat.lt_of_lt_of_le hS0 h2)
  intro m
  induction m with
  | zero =>
    intro i s acc c hm hi hz hTI h1 h2 hsz hS hacc hR
    have e : i = min xs.size ys.size := by omega
    refine codeAny_builtin F.entry_extend_loop ?_
    rw [Around.under_plainId F.plain_extend_loop _]
    show wpAny _ A.in1 (pyNext (.ref z) >>= _) _ _ s
    refine wpAny_bind (zip_stop hh D hz hTI h1 h2 (by
      rcases Nat.le_total xs.size ys.size with q | q
      · exact .inl (Array.getElem?_eq_none (by omega))
      · exact .inr (Array.getElem?_eq_none (by omega))) fun h' hk => wpAny_pure ?_)
    have kS := hk S _ (Nat.ne_of_gt a1) (Nat.ne_of_gt a3) (Nat.ne_of_gt a4) (Nat.ne_of_gt a5) hS
    refine hR h' acc c kS ⟨by rw [hacc.size, e], fun j hj => ?_, hacc.ord⟩ fun c o c1 c2 c3 c4 _ q => hk c o c1 c2 c3 c4 q
    obtain ⟨T, x, y, e1, e2, e3, e4, e5⟩ := hacc.item j (by omega)
    · exact ⟨T, x, y, e1, e2, e3, hk _ _ (far a1 e5) (far a3 e5) (far a4 e5) (far a5 e5) e4, e5⟩
  | succ m ih =>
    intro i s acc c hm hi hz hTI h1 h2 hsz hS hacc hR
    have hx : i < xs.size := by omega
    have hy : i < ys.size := by omega
    have hasz := hacc.size
    refine codeAny_builtin F.entry_extend_loop ?_
    rw [Around.under_plainId F.plain_extend_loop _]
    show wpAny _ A.in1 (pyNext (.ref z) >>= _) _ _ s
    refine wpAny_bind (zip_step D hz hTI h1 h2 (Array.getElem?_eq_getElem hx) (Array.getElem?_eq_getElem hy) fun h' hz' hTI' h1' h2' hT hsz' hk => ?_)
    have kS := hk S _ (Nat.ne_of_gt a1) (Nat.ne_of_gt a3) (Nat.ne_of_gt a4) (Nat.ne_of_gt a5) hS
    show wpAny _ A.in1 (updateSeq S (·.push (.ref s.heap.objs.size)) >>= _) _ _ _
    refine wpAny_bind ?_
    have oth : ∀ b o, b ≠ S → h'.get? b = some o → (h'.update S (Obj.mapSeq (·.push (.ref s.heap.objs.size)))).get? b = some o := fun b o hb e => (Heap.get?_update_other _ _ (Ne.symm hb)).trans e
    refine wpAny_updateSeq kS rfl (wpAny_pure ⟨plainId_quiet F.plain_extend_loop _, ih (i + 1) _ (acc.push (.ref s.heap.objs.size)) _ (by omega) (by omega) ?_ (oth _ _ (Nat.ne_of_lt a2) hTI') (h1'.keep (fun o e => oth _ o (Nat.ne_of_lt a4) e) fun o e => oth _ o (Nat.ne_of_lt a6) e)
      (h2'.keep (fun o e => oth _ o (Nat.ne_of_lt a5) e) fun o e => oth _ o (Nat.ne_of_lt a7) e) ?_ (Heap.get?_update_self _ kS rfl) ?_ fun h'' acc' c' hS'' hacc' hk' => ?_⟩) (by rw [hasz]; omega) (by show (acc.push _).size ≤ sizeLine + 1; rw [Array.size_push, hasz]; omega)
    · rcases hz' with ⟨q1, a, b, q2⟩ | ⟨T0, o0, fb, q1, q2, q3, q4, q5⟩
      · exact .inl ⟨oth _ _ (Nat.ne_of_lt a1) q1, a, b, oth _ _ (Nat.ne_of_lt a3) q2⟩
      · by_cases e : T0 = S
        · subst e
          exact .inr ⟨T0, _, fb, oth _ _ (Nat.ne_of_lt a1) q1, Heap.get?_update_self _ kS rfl, q3, q4, q5⟩
        · exact .inr ⟨T0, o0, fb, oth _ _ (Nat.ne_of_lt a1) q1, oth _ _ e q2, q3, q4, q5⟩
    · show n0 ≤ (h'.update S _).objs.size
      rw [Heap.size_update]
      omega
    · refine ⟨by rw [Array.size_push, hasz], fun j hj => ?_, fun j j' T T' hjj e1 e2 => ?_⟩
      by_cases e : j = i
      · subst e
        exact ⟨s.heap.objs.size, _, _, by rw [← hasz]; exact Array.getElem?_push_size, Array.getElem?_eq_getElem hx, Array.getElem?_eq_getElem hy, oth _ _ (farS hsz) hT, hsz⟩
      · obtain ⟨T, x, y, e1, e2, e3, e4, e5⟩ := hacc.item j (by omega)
        refine ⟨T, x, y, ?_, e2, e3, oth _ _ (farS e5) (hk _ _ (far a1 e5) (far a3 e5) (far a4 e5) (far a5 e5) e4), e5⟩
        rw [Array.getElem?_push_lt (by omega)]
        rw [Array.getElem?_eq_getElem (by omega)] at e1
        exact e1
      · have hj' : j' < acc.size + 1 := by
          have := (Array.getElem?_eq_some_iff.mp e2).1
          rw [Array.size_push] at this; exact this
        have hj : j < acc.size := by omega
        rw [Array.getElem?_push, if_neg (by omega)] at e1
        by_cases e : j' = acc.size
        · rw [Array.getElem?_push, if_pos e] at e2
          cases e2
          obtain ⟨T0, x, y, q1, _, _, q4, _⟩ := hacc.item j (by omega)
          rw [q1] at e1
          cases e1
          exact Heap.lt_size q4
        · rw [Array.getElem?_push, if_neg e] at e2
          exact hacc.ord j j' T T' hjj e1 e2
    · exact hR h'' acc' c' hS'' hacc' fun c o c1 c2 c3 c4 c5 q => hk' c o c1 c2 c3 c4 c5 (oth _ _ c5 (hk c o c1 c2 c3 c4 q))
end
end Gz
set_option Elab.async false
set_option linter.all false
set_option maxRecDepth 100000
set_option maxHeartbeats 1000000
/-! Gz3: list(zip(a, b)): the call. -/
namespace Gz
open PySem
open PySem.Sem (wp)
theorem zip_no_len : typeLookup (.type "zip") (Str.ofString "__len__") = pure none := by rw [typeLookup_type, builtinLookup_eq_fast]; kernel_rfl
theorem zip_no_hint : typeLookup (.type "zip") (Str.ofString "__length_hint__") = pure none := by rw [typeLookup_type, builtinLookup_eq_fast]; kernel_rfl
section
variable {prog : Program} {w : World} {A : Around} {E : Value → Shared → Prop} {s : Shared} {R : Result → Shared → Prop}
variable {z TI TO i1 i2 l1 l2 : Addr} {xs ys : Array Value}
theorem Src.keep2 {h h' : Heap} {i l : Addr} {xs : Array Value} {k : Nat} (a : Src h i l xs k) (n : ∀ b o, h.get? b = some o → h'.get? b = some o) : Src h' i l xs k := a.keep (fun o e => n _ o e) fun o e => n _ o e
theorem ZSt.keep {h h' : Heap} (a : ZSt h z TI TO i1 i2) (n : ∀ b o, h.get? b = some o → h'.get? b = some o) : ZSt h' z TI TO i1 i2 := by
  rcases a with ⟨q1, a, b, q2⟩ | ⟨T0, o0, fb, q1, q2, q3⟩
  · exact .inl ⟨n _ _ q1, a, b, n _ _ q2⟩
  · exact .inr ⟨T0, o0, fb, n _ _ q1, n _ _ q2, q3⟩
theorem zip_iter {Q : Value → Shared → Prop} (hz : ZSt s.heap z TI TO i1 i2) (h : Q (.ref z) s) : wpAny (model prog w) A (pyIter (.ref z)) Q E s := by
  refine wpAny_pyIter_slot hz.ty F.slot_zip_iter (wpAny_call_entry F.slot_zip_iter hz.ty F.entry_zip_iter ?_ (F.args_zip_iter_1 _))
  show wpAny _ _ (ret (.ref z)) _ _ s
  exact wpAny_pure ⟨_, rfl, "zip", _, hz.ty, F.slot_zip_next.lookup, h⟩
/-- what is asked at the start -/
structure St0 (s : Shared) (z TI TO i1 i2 l1 l2 : Addr) (xs ys : Array Value) (S : Addr) : Prop where
  D : ZipApart z TI TO i1 i2 l1 l2
  hn : min xs.size ys.size ≤ sizeLine
  hz : ZSt s.heap z TI TO i1 i2
  hTI : IsPair s.heap TI (.ref i1) (.ref i2)
  h1 : Src s.heap i1 l1 xs 0
  h2 : Src s.heap i2 l2 ys 0
  lS : z < S ∧ TI < S ∧ TO < S ∧ i1 < S ∧ i2 < S ∧ l1 < S ∧ l2 < S
theorem Src.but {h h' : Heap} {i l : Addr} {xs : Array Value} {k : Nat} {S : Addr} (a : Src h i l xs k) (n : ∀ b o, b ≠ S → h.get? b = some o → h'.get? b = some o) (n1 : i < S) (n2 : l < S) : Src h' i l xs k := a.keep (fun o e => n _ o (Nat.ne_of_lt n1) e) fun o e => n _ o (Nat.ne_of_lt n2) e
theorem ZSt.but {h h' : Heap} {S : Addr} (a : ZSt h z TI TO i1 i2) (n : ∀ b o, b ≠ S → h.get? b = some o → h'.get? b = some o) (hS : ∃ o, h'.get? S = some o) (n1 : z < S) (n2 : TO < S) : ZSt h' z TI TO i1 i2 := by
  rcases a with ⟨q1, a, b, q2⟩ | ⟨T0, o0, fb, q1, q2, q3⟩
  · exact .inl ⟨n _ _ (Nat.ne_of_lt n1) q1, a, b, n _ _ (Nat.ne_of_lt n2) q2⟩
  · by_cases e : T0 = S
    · obtain ⟨o, ho⟩ := hS
      exact .inr ⟨T0, o, fb, n _ _ (Nat.ne_of_lt n1) q1, by rw [e]; exact ho, q3⟩
    · exact .inr ⟨T0, o0, fb, n _ _ (Nat.ne_of_lt n1) q1, n _ _ e q2, q3⟩
theorem St0.but {s' : Shared} {S : Addr} (a : St0 s z TI TO i1 i2 l1 l2 xs ys S) (n : ∀ b o, b ≠ S → s.heap.get? b = some o → s'.heap.get? b = some o) (hS : ∃ o, s'.heap.get? S = some o) : St0 s' z TI TO i1 i2 l1 l2 xs ys S := by
  obtain ⟨a1, a2, a3, a4, a5, a6, a7⟩ := a.lS
  exact ⟨a.D, a.hn, a.hz.but n hS a1 a3, n _ _ (Nat.ne_of_lt a2) a.hTI, a.h1.but n a4 a6, a.h2.but n a5 a7, a.lS⟩
abbrev LQ (n0 : Nat) (S z TO i1 i2 : Addr) (xs ys : Array Value) (s : Shared) (K : Heap → Prop) : Prop := ∀ h' acc c, h'.get? S = some { cls := .type "list", dict := none, data := .seq acc c, slots := #[] } → Acc n0 h' xs ys acc (min xs.size ys.size) [] →
      (∀ c o, c ≠ z → c ≠ TO → c ≠ i1 → c ≠ i2 → c ≠ S → s.heap.get? c = some o → h'.get? c = some o) → K h'
theorem extend_zip (hh : A.handled = none) {S : Addr} {res : Value} {c₀ n0 : Nat} (a : St0 s z TI TO i1 i2 l1 l2 xs ys S) (hS : s.heap.get? S = some { cls := .type "list", data := .seq #[] c₀ }) (hS0 : S < n0) (hn0 : n0 ≤ s.heap.objs.size)
    (hR : LQ n0 S z TO i1 i2 xs ys s fun h' => R (.ok (.ret res)) { s with heap := h' }) :
    wpAny (model prog w) A.in1 (Builtin.List.listExtendWith (.ref S) (.ref z) res)
      (fun fin s' => match fin with | .done f => R (.ok f) s' | .again c' => c'.quiet = true ∧ codeAny (model prog w) A c' R s') (fun e s' => R (.error e) s') s := by
  have hSz : S ≠ z := Nat.ne_of_gt a.lS.1
  unfold Builtin.List.listExtendWith
  refine wpAny_bind (wpAny_typeOf a.hz.ty ?_)
  have h1 : Builtin.List.listSameRef (.ref S) (.ref z) = false := by simp [Builtin.List.listSameRef, hSz]
  have h2 : (Value.type "zip" == Value.type "list") = false := by decide
  have h3 : (Value.type "zip" == Value.type "tuple") = false := by decide
  simp only [h1, h2, h3, Bool.or_false, Bool.false_eq_true, if_false]
  refine wpAny_bind (zip_iter a.hz ?_)
  refine wpAny_bind (wpAny_holding ?_)
  unfold Builtin.List.listLengthHint
  refine wpAny_bind (wpAny_specialOf a.hz.ty zip_no_len ?_)
  show wpAny _ A.in1 (specialOf (Value.ref z) (Str.ofString "__length_hint__") >>= _) _ _ _
  refine wpAny_bind (wpAny_specialOf a.hz.ty zip_no_hint ?_)
  refine wpAny_pure ?_
  show wpAny _ A.in1 (rule "list.extend.makes-room" >>= fun _ => Builtin.List.listTouch (.ref S) >>= fun _ =>
    again (.builtin "list.extend.loop" ⟨[.ref S, .ref z, res], []⟩)) _ _ _
  refine wpAny_bind (wpAny_rule ?_)
  refine wpAny_bind ?_
  show wpAny _ A.in1 (updateSeq S (·.push .none) >>= fun _ => updateSeq S (·.pop)) _ _ _
  refine wpAny_bind (wpAny_updateSeq hS rfl ?_)
  have hS₂ := Heap.get?_update_self (Obj.mapSeq (·.push Value.none)) hS rfl
  refine wpAny_updateSeq (hz := by seq_fits) hS₂ rfl ?_
  have hS₃ := Heap.get?_update_self (Obj.mapSeq (·.pop)) hS₂ rfl
  have oth : ∀ b o, b ≠ S → s.heap.get? b = some o → ((s.heap.update S (Obj.mapSeq (·.push Value.none))).update S (Obj.mapSeq (·.pop))).get? b = some o :=
    fun b o hb e => (Heap.get?_update_other _ _ (Ne.symm hb)).trans ((Heap.get?_update_other _ _ (Ne.symm hb)).trans e)
  have a' := a.but (s' := { s with heap := (s.heap.update S (Obj.mapSeq (·.push Value.none))).update S (Obj.mapSeq (·.pop)) }) oth ⟨_, hS₃⟩
  refine wpAny_pure ⟨plainId_quiet F.plain_extend_loop _, ?_⟩
  refine list_loop (n0 := n0) hh a.D a.hn a.lS hS0 (min xs.size ys.size) 0 _ #[] _ (Nat.sub_zero _) (Nat.zero_le _) a'.hz a'.hTI a'.h1 a'.h2 ?_ hS₃ ⟨rfl, fun j hj => absurd hj (Nat.not_lt_zero j), fun j j' T T' _ e _ => by simp at e⟩ fun h' acc' c' hS' hacc hk => ?_
  · rw [Heap.size_update, Heap.size_update]; exact hn0
  · exact hR h' acc' c' hS' hacc fun c o c1 c2 c3 c4 c5 q => hk c o c1 c2 c3 c4 c5 (oth c o c5 q)
theorem init_zip (hh : A.handled = none) {S : Addr} {n0 : Nat} (a : St0 s z TI TO i1 i2 l1 l2 xs ys S) (hS : s.heap.get? S = some { cls := .type "list", data := .seq #[] }) (hS0 : S < n0) (hn0 : n0 ≤ s.heap.objs.size)
    (hR : LQ n0 S z TO i1 i2 xs ys s fun h' => R (.ok (.ret .none)) { s with heap := h' }) :
    wpAny (model prog w) A.in1 (Builtin.«list.__init__» ⟨[.ref S, .ref z], []⟩)
      (fun fin s' => match fin with | .done f => R (.ok f) s' | .again c' => c'.quiet = true ∧ codeAny (model prog w) A c' R s') (fun e s' => R (.error e) s') s := by
  show wpAny _ A.in1 (do let old ← Builtin.List.listItems (.ref S); Builtin.List.listUpdate (.ref S) (fun _ => #[]); letGo old.toList.reverse; Builtin.List.listExtendWith (.ref S) (.ref z) .none) _ _ s
  refine wpAny_bind ?_
  unfold Builtin.List.listItems
  refine wpAny_bind (wpAny_seqItems hS rfl (wpAny_pure ?_))
  show wpAny _ A.in1 (updateSeq S (fun _ => #[]) >>= fun _ => letGo (#[] : Array Value).toList.reverse >>= fun _ => Builtin.List.listExtendWith (.ref S) (.ref z) .none) _ _ s
  refine wpAny_bind (wpAny_updateSeq hS rfl ?_)
  have hS₂ := Heap.get?_update_self (Obj.mapSeq (fun _ => (#[] : Array Value))) hS rfl
  have oth : ∀ b o, b ≠ S → s.heap.get? b = some o → (s.heap.update S (Obj.mapSeq (fun _ => (#[] : Array Value)))).get? b = some o :=
    fun b o hb e => (Heap.get?_update_other _ _ (Ne.symm hb)).trans e
  refine wpAny_bind (wpAny_letGo ?_)
  refine extend_zip hh (a.but (s' := { s with heap := s.heap.update S (Obj.mapSeq (fun _ => (#[] : Array Value))) }) oth ⟨_, hS₂⟩) hS₂ hS0 (by show n0 ≤ (s.heap.update S _).objs.size; rw [Heap.size_update]; exact hn0) fun h' acc' c' hS' hacc hk => ?_
  exact hR h' acc' c' hS' hacc fun c o c1 c2 c3 c4 c5 q => hk c o c1 c2 c3 c4 c5 (oth c o c5 q)
theorem call_list_zip {Q : Value → Shared → Prop} (hh : A.handled = none) (a : St0 s z TI TO i1 i2 l1 l2 xs ys s.heap.objs.size)
    (hQ : LQ (s.heap.objs.size + 1) s.heap.objs.size z TO i1 i2 xs ys s fun h' => Q (.ref s.heap.objs.size) { s with heap := h' }) :
    wpAny (model prog w) A (call (.type "list") [.ref z]) Q E s := by
  refine callType_codes (Q₁ := fun obj s₁ => obj = .ref s.heap.objs.size ∧ s₁ = { s with heap := s.heap.push { cls := .type "list", data := .seq #[] } }) F.called_list (F.typeCall_list_1 _) F.entry_list_init
    (code_list_new _ ⟨rfl, rfl⟩) fun obj s₁ h₁ => ?_
  obtain ⟨rfl, rfl⟩ := h₁
  have hS : (s.heap.push { cls := .type "list", data := .seq #[] }).get? s.heap.objs.size = some { cls := .type "list", data := .seq #[] } := Heap.get?_push_size _ rfl
  have k1 : ∀ b o, b ≠ s.heap.objs.size → s.heap.get? b = some o → (s.heap.push { cls := .type "list", data := .seq #[] }).get? b = some o := fun b o _ e => Heap.get?_push_of_some _ e
  refine ⟨⟨_, hS, rfl⟩, F.args_list_init_2 _ _, ?_⟩
  refine init_zip (A := A.in1) (n0 := s.heap.objs.size + 1) hh (a.but (s' := { s with heap := s.heap.push { cls := .type "list", data := .seq #[] } }) k1 ⟨_, hS⟩) hS (Nat.lt_succ_self _) (by show s.heap.objs.size + 1 ≤ (s.heap.push _).objs.size; rw [Heap.size_push]; exact Nat.le_refl _) fun h' acc' c' hS' hacc hk => ?_
  exact ⟨rfl, hQ h' acc' c' hS' hacc fun c o c1 c2 c3 c4 c5 q => hk c o c1 c2 c3 c4 c5 (k1 c o c5 q)⟩
end
end Gz
set_option Elab.async false
set_option linter.all false
set_option maxRecDepth 100000
set_option maxHeartbeats 4000000
/-! Gz4: set(list of ints) (after the rule for tuples); t[::-1] of tuples and lists. -/
namespace Gz
open PySem PySem.Spec PyProof.Rows L2
section
variable {P : Program} {w : World} {A : Around} {E : Value → Shared → Prop} {s : Shared}
theorem call_set_lstI {l : Addr} {items : Array Value} (ns : List Int) {Q : Value → Shared → Prop} (hh : A.handled = none) (hl : s.heap.IsList l items) (hit : IntsAre items.toList ns) (hb : ns.length + 1 < scanBound)
    (h : ∀ (h' : Heap) (tk c : Nat), SetR w h' s.heap.objs.size (fun j => decide (j ∈ ns)) c → c ≤ ns.length → (∀ b o, s.heap.get? b = some o → h'.get? b = some o) → Q (.ref s.heap.objs.size) { s with heap := h', toks := tk }) :
    wpAny (model P w) A (call (.type "set") [.ref l]) Q E s := by
  have hisz : items.size = ns.length := by
    have q := IntsAre.length hit
    rw [Array.length_toList] at q
    exact q
  obtain ⟨c, tl, hmro⟩ := F.called_set.mro
  have hmade := F.called_set.made
  have hsub := F.called_set.sub
  refine wpAny_call (codeAny_of_tree ?_)
  show wpAny _ _ (callAny (.type "set") _) _ _ _
  refine wpAny_pure ⟨Code.quiet_builtin _ (by decide +kernel), codeAny_builtin F.entry_type_call ?_⟩
  rw [Around.under_plain (weight_type_call_type "set" [.ref l] []) rfl]
  have h1 := F.called_set.notType
  have h2 := F.called_set.canCreate
  have hct := F.typeCall_set_1 (.ref l)
  repeat (any_goals (first | assumption | wp_step))

  refine codeAny_mono (code_set_led1 (.ref l) (E := E) (Q₁ := fun obj s₁ => obj = .ref s.heap.objs.size ∧ s₁ = { s with heap := s.heap.push { cls := .type "set", dict := none, data := .set #[] 0 (.fresh 0 0 (!w.params.followText "set-order")) } }) ⟨rfl, rfl⟩) fun r s₁ hr => ?_
  cases r with
  | error e => exact hr
  | ok fl =>
    cases fl with
    | ret obj =>
      obtain ⟨rfl, rfl⟩ := hr
      have hS : (s.heap.push { cls := .type "set", dict := none, data := .set #[] 0 (.fresh 0 0 (!w.params.followText "set-order")) }).get? s.heap.objs.size = some { cls := .type "set", dict := none, data := .set #[] 0 (.fresh 0 0 (!w.params.followText "set-order")) } := Heap.get?_push_size _ rfl
      have hT : Shared.TypeIs { s with heap := s.heap.push { cls := .type "set", dict := none, data := .set #[] 0 (.fresh 0 0 (!w.params.followText "set-order")) } } (.ref s.heap.objs.size) "set" := ⟨_, hS, rfl⟩
      have hli := F.called_set.init.lookup
      have hbi := F.called_set.init.bind (.ref s.heap.objs.size)
      repeat (any_goals (first | assumption | wp_step))

      refine codeAny_mono (codeAny_call_builtin (R := wants (fun r s₂ => r = .none ∧ ∃ h' tk c, s₂ = { s with heap := h', toks := tk } ∧ SetR w h' s.heap.objs.size (fun j => decide (j ∈ ns)) c ∧ c ≤ ns.length ∧
          (∀ b o, s.heap.get? b = some o → h'.get? b = some o)) E) F.called_set.init.plain F.entry_set_init (check_set_init_1 hT ?_)) fun r₂ s₂ hr₂ => ?_
      · obtain ⟨ol, hol, hcl, nl, hdl⟩ := hl
        obtain ⟨ocls, odict, odata, oslots⟩ := ol
        simp only at hcl hdl
        subst hcl; subst hdl
        have hol' : (s.heap.push { cls := .type "set", dict := none, data := .set #[] 0 (.fresh 0 0 (!w.params.followText "set-order")) }).get? l = some { cls := .type "list", dict := odict, data := .seq items nl, slots := oslots } := Heap.get?_push_of_some _ hol
        have hsls := F.sub_list_set
        have hslf := F.sub_list_frozenset
        have hne : (Value.type "list" == Value.type "dict") = false := by decide
        have hl1 : (s.heap.push { cls := .type "set", dict := none, data := .set #[] 0 (.fresh 0 0 (!w.params.followText "set-order")) }).IsList l items := ⟨_, hol', rfl, nl, rfl⟩
        unfold Builtin.«set.__init__» noKeywords Builtin.Frozenset.updateFrom
        generalize hPI : pyIter = PI
        wp_walk
        subst hPI

        refine wpAny_pyIter_list hl1 ?_
        refine wpAny_bind (wpAny_runValue ?_)
        have hlS : l < s.heap.objs.size := Heap.lt_size hol
        have hh3 : A.in1.in1.in1.handled = none := by simp [hh]
        have hz1 : (s.heap.push { cls := .type "set", dict := none, data := .set #[] 0 (.fresh 0 0 (!w.params.followText "set-order")) }).objs.size = s.heap.objs.size + 1 := Heap.size_push ..
        have hneI : l ≠ (s.heap.push { cls := .type "set", dict := none, data := .set #[] 0 (.fresh 0 0 (!w.params.followText "set-order")) }).objs.size := by
          rw [Heap.size_push]; exact Nat.ne_of_lt (Nat.lt_succ_of_lt hlS)
        have hSf : s.heap.objs.size ∉ [(s.heap.push { cls := .type "set", dict := none, data := .set #[] 0 (.fresh 0 0 (!w.params.followText "set-order")) }).objs.size, l] := by
          rw [Heap.size_push]; simp only [List.mem_cons, List.mem_singleton, List.not_mem_nil, or_false, not_or]
          exact ⟨Nat.ne_of_lt (Nat.lt_succ_self _), Nat.ne_of_gt hlS⟩
        have hval : ∀ (i : Nat) (v : Value), items[i]? = some v → ∃ k t, ns[i]? = some k ∧ v = .int k t := fun i v hv => by
          have hi : i < ns.length := by rw [← hisz]; exact (Array.getElem?_eq_some_iff.mp hv).1
          obtain ⟨t, e⟩ := PyProof.Rows.IntsAre.int_at hit i v (by rw [Array.getElem?_toList]; exact hv)
          refine ⟨ns[i], t, List.getElem?_eq_getElem hi, ?_⟩
          rw [e, List.getD_eq_getElem?_getD, List.getElem?_eq_getElem hi] <;> rfl
        refine set_update_ints ((Walks.list hh3 _ l hneI items).toS) s.heap.objs.size
          hSf ns hisz hb hval (items.size - 0) 0 _ (by omega) (Nat.zero_le _)
          ⟨⟨_, Heap.get?_push_size _ rfl, rfl, rfl⟩, (hl1.push _)⟩ ?hS0 ?hR
        case hS0 =>
          have hget : ((s.heap.push { cls := .type "set", dict := none, data := .set #[] 0 (.fresh 0 0 (!w.params.followText "set-order")) }).push { cls := .type "list_iterator", data := .fields #[.ref l, .int 0 0] }).get? s.heap.objs.size
              = some { cls := .type "set", dict := none, data := .set #[] 0 (.fresh 0 0 (!w.params.followText "set-order")) } := Heap.get?_push_of_some _ hS
          exact ⟨0, Nat.le_refl 0, setR_new_at hget⟩
        case hR =>
          intro s' c' hm hc' hS'
          obtain ⟨h', g2, d', tk', os'⟩ := s'
          have eg : g2 = s.gens := hm.gens
          have ed : d' = s.drawn := hm.drawn
          have eo : os' = s.os := hm.os
          subst eg; subst ed; subst eo
          show wpAny _ _ _ _ _ _
          refine wpAny_pure ?_
          show wpAny _ _ (ret Value.none) _ _ _
          rw [hisz] at hc'
          refine wpAny_pure ⟨rfl, h', tk', c', rfl, hS', hc', fun b o e => ?_⟩
          have hb0 : b < s.heap.objs.size := Heap.lt_size e
          have hb1 : b ≠ s.heap.objs.size := Nat.ne_of_lt hb0
          have hb2 : b ≠ (s.heap.push { cls := .type "set", dict := none, data := .set #[] 0 (.fresh 0 0 (!w.params.followText "set-order")) }).objs.size := by
            rw [Heap.size_push]; exact Nat.ne_of_lt (Nat.lt_succ_of_lt hb0)
          exact hm.heap b o (by simp only [List.mem_cons, List.mem_singleton, List.not_mem_nil, or_false, not_or]; exact ⟨hb1, hb2⟩) (Heap.get?_push_of_some _ (Heap.get?_push_of_some _ e))

      · cases r₂ with
        | error e => exact hr₂
        | ok fl₂ =>
          cases fl₂ with
          | ret r =>
            obtain ⟨rfl, h', tk, c', rfl, hS', hc', hk'⟩ := hr₂
            repeat (any_goals (first | assumption | wp_step))
            exact h _ _ _ hS' hc' hk'
          | _ => exact hr₂.elim
    | _ => exact hr.elim
end
section
variable {X : Cx}
/-- set(e), a list of ints -/
def rSetOfI (w : World) : List V → Hp → VK → Prop := fun xs H Q => ∃ (l : Addr) (ns : List Int), xs = [V.ref l] ∧ Rd H l (.lst (ns.map V.int)) ∧ ns.length < 64 ∧ ∀ (p : Addr) (n : Nat), H p = none → n ≤ ns.length → Q (.ref p) (upd H p (SetO w p (fun j => decide (j ∈ ns)) n))
theorem cr_setOfI (hc : X.calm = true) : CallR X (.type "set") (rSetOfI X.w) := by
  intro pins s σ H vs us Q I r h
  obtain ⟨l, ns, rfl, hl, hz, q⟩ := h
  rw [Vals.ref1 r]
  obtain ⟨z, its, n, rv, e⟩ := hl.ok I.hok
  have hi : IntsAre its ns := Vals.ints rv
  have hL : s.heap.IsList l its.toArray := ⟨_, e, rfl, n, rfl⟩
  refine call_set_lstI ns (I.ok.hd hc) hL hi (by unfold scanBound; omega) fun h' tk c R hcn k => ?_
  have hn : H s.heap.objs.size = none := I.hok.fresh (Nat.le_refl _)
  exact ⟨.ref s.heap.objs.size, _, I.laid (t' := tk) k (Nat.le_refl _) (setO_new R), rfl, q _ c hn hcn⟩
theorem sliceApplied_rev {P : Program} {w : World} {A : Around} {E : Value → Shared → Prop} {s : Shared} {sl : Addr} {vl vu vs : Value} {n : Nat} {Q : Int × Int × Nat → Shared → Prop} (hs : s.heap.IsSliceOf sl vl vu vs) (pl : IsPart vl none) (pu : IsPart vu none) (ps : IsPart vs (some (-1)))
    (h : Q (((n : Int) - 1), -1, n) s) : wpAny (model P w) A (Builtin.Slice.sliceApplied (.ref sl) (pure (n : Int))) Q E s := by
  obtain ⟨os, hos, hcs, hds⟩ := id hs
  unfold Builtin.Slice.sliceApplied Builtin.Slice.sliceFields
  refine wpAny_bind (wpAny_bind (wpAny_field hos hds (x := vl) rfl (wpAny_bind (wpAny_field hos hds (x := vu) rfl (wpAny_bind (wpAny_field hos hds (x := vs) rfl (wpAny_pure ?_)))))))
  refine wpAny_bind (HT.slicePart_ ps ?_)
  show wpAny _ _ (if ((-1 : Int) == 0) = true then _ else _) _ _ s
  rw [if_neg (by decide)]
  refine wpAny_bind (HT.slicePart_ pl (wpAny_bind (HT.slicePart_ pu (wpAny_bind (wpAny_pure ?_)))))
  show wpAny _ _ (match Builtin.Slice.sliceAdjust none none (-1) (n : Int) with | (lo, hi) => pure (lo, (-1 : Int), Builtin.Slice.slicePlaces lo hi (-1))) _ _ s
  have e1 : Builtin.Slice.sliceAdjust none none (-1) (n : Int) = ((n : Int) - 1, -1) := by
    unfold Builtin.Slice.sliceAdjust
    simp
  rw [e1]
  have e2 : Builtin.Slice.slicePlaces ((n : Int) - 1) (-1) (-1) = n := by
    unfold Builtin.Slice.slicePlaces
    rcases Nat.eq_zero_or_pos n with z | z
    · subst z; rfl
    · simp
      omega
  show wpAny _ _ (pure (((n : Int) - 1), (-1 : Int), Builtin.Slice.slicePlaces ((n : Int) - 1) (-1) (-1))) _ _ s
  rw [e2]
  exact wpAny_pure h
theorem fm_congr {α β : Type} {f g : α → Option β} : ∀ {l : List α}, (∀ a ∈ l, f a = g a) → l.filterMap f = l.filterMap g
  | [], _ => rfl
  | a :: l, h => by
    rw [List.filterMap_cons, List.filterMap_cons, h a List.mem_cons_self, fm_congr fun b hb => h b (List.mem_cons_of_mem _ hb)]
theorem pick_rev (xs : Array Value) : ((List.range xs.size).filterMap fun (m : Nat) => xs[(((xs.size : Int) - 1) + (m : Int) * (-1)).toNat]?).toArray = xs.toList.reverse.toArray := by
  congr 1
  have e : ∀ m ∈ List.range xs.size, xs[(((xs.size : Int) - 1) + (m : Int) * (-1)).toNat]? = xs.toList.reverse[m]? := fun m hm => by
    have hm := List.mem_range.mp hm
    rw [List.getElem?_reverse (by rw [Array.length_toList]; exact hm), Array.length_toList, Array.getElem?_toList]
    congr 1
    omega
  rw [fm_congr e]
  have l : xs.size = xs.toList.reverse.length := by simp
  rw [l]
  generalize xs.toList.reverse = ys
  induction ys with
  | nil => rfl
  | cons y ys ih =>
    rw [List.length_cons, List.range_succ_eq_map, List.filterMap_cons]
    simp only [List.getElem?_cons_zero, List.filterMap_map]
    congr 1
theorem getItem_tuple_rev {P : Program} {w : World} {A : Around} {E : Value → Shared → Prop} {s : Shared} {t sl : Addr} {items : Array Value} {vl vu vs : Value} {Q : Value → Shared → Prop} (ht : IsTup s.heap t items) (hs : s.heap.IsSliceOf sl vl vu vs) (pl : IsPart vl none) (pu : IsPart vu none) (ps : IsPart vs (some (-1)))
    (h : Q (.ref s.heap.objs.size) { s with heap := s.heap.push { cls := .type "tuple", data := .seq items.toList.reverse.toArray } })
    (hsz : items.size ≤ sizeLine) : wpAny (model P w) A (getItem (.ref t) (.ref sl)) Q E s := by
  have htake : sizeOk (.seq items.toList.reverse.toArray) := by
    show items.toList.reverse.toArray.size ≤ sizeLine
    rw [List.size_toArray, List.length_reverse, Array.length_toList]
    exact hsz
  obtain ⟨os, hos, hcs, hds⟩ := id hs
  have hTs : s.TypeIs (.ref sl) "slice" := ⟨os, hos, hcs⟩
  unfold getItem
  try with_reducible refine wpAny_holding ?_
  first | refine wpAny_bind (wpAny_pure ?_) | skip
  refine wpAny_bind (wpAny_sequenceKey ht.typeIs (by decide) ?_)
  refine wpAny_bind (wpAny_callSpecial?_slot (name := Str.ofString "__getitem__") ht.typeIs PyProof.Rows.slot_tuple_getitem
    (wpAny_call_entry PyProof.Rows.slot_tuple_getitem ht.typeIs entry_tuple_getitem ?_ (args_tuple_getitem _ _)))
  show wpAny _ _ (Builtin.Tuple.tupleItemsOf (.ref t) >>= _) _ _ s
  refine wpAny_bind (tupleItemsOf_ ht ?_)
  refine wpAny_bind (wpAny_typeOf hTs ?_)
  rw [if_pos (by decide)]
  refine wpAny_bind (sliceApplied_rev hs pl pu ps ?_)
  have hno : ¬ ((((items.size : Int) - 1) == 0 && (-1 : Int) == 1 && items.size == items.size) = true) := by simp
  show wpAny _ _ (if (((items.size : Int) - 1) == 0 && (-1 : Int) == 1 && items.size == items.size) = true then _ else _) _ _ s
  rw [if_neg hno, pick_rev]
  first
    | exact wpAny_bind (m := Builtin.Tuple.tupleExact _) (wpAny_newObj_type (wpAny_pure ⟨_, rfl, wpAny_pure h⟩) htake)
    | exact wpAny_bind (m := Builtin.Tuple.tupleExact _) (wpAny_newObj_type (wpAny_bind (wpAny_pure (wpAny_pure ⟨_, rfl, wpAny_pure h⟩))) htake)
def tRevA (K : PySem.W.Frag) (te : TE) : TE := fun σ H Q => te σ H fun x H1 => ∃ a xs, x = .ref a ∧ ((SqL K H1 a xs ∧ ∀ p, H1 p = none → Q (.ref p) (upd H1 p (.lst xs.reverse))) ∨ (SqT K H1 a xs ∧ ∀ p, H1 p = none → Q (.ref p) (upd H1 p (.tup xs.reverse))))
theorem pe_revA {e : Expr} {te : TE} {k : Nat} {p1 p2 p3 pos : Pos} (he : PE X e te) : PE X (.Subscript e (.Slice none none (some (.UnaryOp .USub (.Constant (.int 1) k p1) p2)) p3) pos) (tRevA X.K te) := by
  refine ⟨fun pins s σ H Q I h => ?_⟩
  refine Subscript_ (thn (he.run pins s σ H _ I h) fun v s1 ⟨x, H1, I1, r1, q1⟩ => ?_)
  obtain ⟨a, xs, ex, hq⟩ := q1
  subst ex
  cases r1
  have hst : PO X (some (.UnaryOp .USub (.Constant (.int 1) k p1) p2)) (tPart (tUn (rU fun i => .int (-i)) (tC (.int 1)))) := po_some (pe_un un_neg pe_int)
  refine wpAny_Slice (thn (po_none.run pins s1 σ H1 (fun o H2 => o = none ∧ H2 = H1) I1 ⟨rfl, rfl⟩) fun vl s2 ⟨l, H2, I2, pl, el, e2⟩ => ?_)
  subst el e2
  refine thn (po_none.run pins s2 σ H2 (fun o H3 => o = none ∧ H3 = H2) I2 ⟨rfl, rfl⟩) fun vu s3 ⟨u, H3, I3, pu, eu, e3⟩ => ?_
  subst eu e3
  refine thn (hst.run pins s3 σ H3 (fun o H4 => o = some (-1) ∧ H4 = H3) I3 ⟨1, rfl, -1, rfl, rfl, rfl⟩) fun vs s4 ⟨o, H4, I4, ps, eo, e4⟩ => ?_
  subst eo e4
  have I5 : Inv X pins σ H4 { s4 with heap := s4.heap.push { cls := .type "slice", data := .fields #[vl, vu, vs] } } := I4.kept (t' := s4.toks) fun b ob q => Heap.get?_push_of_some _ q
  show wpAny (model X.prog X.w) X.A (subscriptTail e (.Slice none none (some (.UnaryOp .USub (.Constant (.int 1) k p1) p2)) p3) (.ref a) (.ref s4.heap.objs.size)) (EP X pins σ Q) X.xe { s4 with heap := s4.heap.push { cls := .type "slice", data := .fields #[vl, vu, vs] } }
  rcases hq with ⟨hx, q⟩ | ⟨hx, q⟩
  · obtain ⟨its, r, ht, hz⟩ := I5.list hx
    have hlen := r.length
    refine tail_any (ops := [.ref a, .ref s4.heap.objs.size]) ht.isList.typeIs (PySem.slot_list_getitem.lookup) ?_ (by with_unfolding_all rfl)
    refine wpAny_getItem_list_slice ht.isList (Heap.IsSliceOf.new _ vl vu vs) pl pu ps (by decide) ?_ (by rw [List.size_toArray]; omega)
    rw [PySem.W.krv_pick]
    refine ⟨.ref _, _, I5.laid (t' := s4.toks) (o := .lst xs.reverse) (fun b ob q => Heap.get?_push_of_some _ q) (Nat.le_refl _) ?_, rfl, q _ (I5.hok.fresh (Nat.le_refl _))⟩
    exact ⟨by rw [List.length_reverse]; exact hz, _, 0, r.reverse, Heap.get?_push_size _ rfl⟩
  · obtain ⟨its, r, ht, hz⟩ := I5.tuple hx
    have hlen := r.length
    refine tail_any (ops := [.ref a, .ref s4.heap.objs.size]) ht.typeIs (PyProof.Rows.slot_tuple_getitem.lookup) ?_ (by with_unfolding_all rfl)
    refine getItem_tuple_rev ht (Heap.IsSliceOf.new _ vl vu vs) pl pu ps ?_ (by rw [List.size_toArray]; omega)
    refine ⟨.ref _, _, I5.laid (t' := s4.toks) (o := .tup xs.reverse) (fun b ob q => Heap.get?_push_of_some _ q) (Nat.le_refl _) ?_, rfl, q _ (I5.hok.fresh (Nat.le_refl _))⟩
    exact ⟨by rw [List.length_reverse]; exact hz, _, r.reverse, IsTup.new _ _⟩
end
end Gz
set_option Elab.async false
set_option linter.all false
set_option maxRecDepth 100000
set_option maxHeartbeats 1000000
/-! Gx25: list(zip(a, b)). -/
namespace Gx
open PySem PySem.Spec PyProof.Rows L2
def layP : List Addr → List V → List V → Hp → Hp
  | T :: Ts, x :: xs, y :: ys, H => layP Ts xs ys (upd H T (.tup [x, y]))
  | _, _, _, H => H
theorem layP_out : ∀ (Ts : List Addr) (xs ys : List V) (H : Hp) {b : Addr}, b ∉ Ts → layP Ts xs ys H b = H b
  | [], _, _, _, _, _ => by simp [layP]
  | _ :: _, [], _, _, _, _ => by simp [layP]
  | _ :: _, _ :: _, [], _, _, _ => by simp [layP]
  | T :: Ts, x :: xs, y :: ys, H, b, h => by
    rw [layP, layP_out Ts xs ys _ fun z => h (List.mem_cons_of_mem _ z), upd_ne fun z => h (by simp [z])]
theorem layP_gr : ∀ (Ts : List Addr) (xs ys : List V) (H : Hp), Ts.Nodup → (∀ T ∈ Ts, H T = none) → Gr H (layP Ts xs ys H)
  | [], _, _, H, _, _ => by simp only [layP]; exact .refl H
  | _ :: _, [], _, H, _, _ => by simp only [layP]; exact .refl H
  | _ :: _, _ :: _, [], H, _, _ => by simp only [layP]; exact .refl H
  | T :: Ts, x :: xs, y :: ys, H, nd, h => by
    obtain ⟨n1, n2⟩ := List.nodup_cons.mp nd
    rw [layP]
    exact .new (h T List.mem_cons_self) (layP_gr Ts xs ys _ n2 fun T' hT => by rw [upd_ne fun z => n1 (by rw [← z]; exact hT)]; exact h T' (List.mem_cons_of_mem _ hT))
theorem layP_at : ∀ (Ts : List Addr) (xs ys : List V) (H : Hp) (j : Nat) (T : Addr) (x y : V), Ts.Nodup → Ts[j]? = some T → xs[j]? = some x → ys[j]? = some y → layP Ts xs ys H T = some (.tup [x, y])
  | [], _, _, _, _, _, _, _, _, h, _, _ => by simp at h
  | _ :: _, [], _, _, _, _, _, _, _, _, h, _ => by simp at h
  | _ :: _, _ :: _, [], _, _, _, _, _, _, _, _, h => by simp at h
  | T0 :: Ts, x0 :: xs, y0 :: ys, H, 0, T, x, y, nd, h1, h2, h3 => by
    simp at h1 h2 h3
    subst h1 h2 h3
    rw [layP, layP_out Ts xs ys _ (List.nodup_cons.mp nd).1, upd_same]
  | T0 :: Ts, x0 :: xs, y0 :: ys, H, j + 1, T, x, y, nd, h1, h2, h3 => by
    rw [layP]
    exact layP_at Ts xs ys _ j T x y (List.nodup_cons.mp nd).2 (by simpa using h1) (by simpa using h2) (by simpa using h3)
theorem layP_in : ∀ (Ts : List Addr) (xs ys : List V) (H : Hp) (T : Addr) (o : HO), Ts.Nodup → T ∈ Ts → Ts.length = min xs.length ys.length → layP Ts xs ys H T = some o → ∃ (j : Nat) (x y : V), Ts[j]? = some T ∧ xs[j]? = some x ∧ ys[j]? = some y ∧ o = .tup [x, y] := fun Ts xs ys H T o nd hT hl e => by
  obtain ⟨j, hj, ej⟩ := List.mem_iff_getElem.mp hT
  have e1 : Ts[j]? = some T := by rw [List.getElem?_eq_getElem hj, ej]
  have h1 : j < xs.length := by omega
  have h2 : j < ys.length := by omega
  have := layP_at Ts xs ys H j T _ _ nd e1 (List.getElem?_eq_getElem h1) (List.getElem?_eq_getElem h2)
  rw [this] at e
  cases e
  exact ⟨j, _, _, e1, List.getElem?_eq_getElem h1, List.getElem?_eq_getElem h2, rfl⟩
section
variable {X : Cx} {pins : List (Addr × Obj)} {σ : L2.St} {H H' : Hp} {s : Shared} {h' : Heap}
theorem _root_.L2.Inv.many {t' : Nat} (I : L2.Inv X pins σ H s) (k : ∀ b u, s.heap.get? b = some u → h'.get? b = some u) (hl : ∀ b, b < s.heap.objs.size → H' b = H b) (hok : HOk X.prog X.w H' h') : L2.Inv X pins σ H' { s with heap := h', toks := t' } := by
  have lt : ∀ {b o}, H b = some o → b < s.heap.objs.size := fun e => (I.hok _ _ e).lt
  exact I.un ⟨fun b u q _ _ _ => k b u q, fun b u q _ _ _ => ⟨u.slots, k b u q⟩, fun b u q n _ => by rw [hl b (Heap.lt_size q)]; exact n, fun b u q _ => ⟨u, k b u q⟩, fun b xs q => by rw [hl b (lt q)]; exact q, fun b o u q => by rw [hl b (lt q)]; exact q, fun b ps q => ⟨#[], by rw [hl b (lt q), q]; simp⟩⟩ hok
theorem refs_of {l : List Value} (h : ∀ v ∈ l, ∃ T, v = .ref T) : ∃ Ts : List Addr, l = Ts.map Value.ref := by
  induction l with
  | nil => exact ⟨[], rfl⟩
  | cons v r ih =>
    obtain ⟨T, rfl⟩ := h v List.mem_cons_self
    obtain ⟨Ts, rfl⟩ := ih fun v hv => h v (List.mem_cons_of_mem _ hv)
    exact ⟨T :: Ts, rfl⟩
theorem vals_refs : ∀ Ts : List Addr, Vals (Ts.map V.ref) (Ts.map Value.ref)
  | [] => .nil
  | T :: Ts => .cons rfl (vals_refs Ts)
/-- behind list(zip(..)) -/
theorem after_zip {S : Addr} {xs ys : List V} {us ws : List Value} {acc : Array Value} {c : Nat} (I : L2.Inv X pins σ H s) (k : ∀ b u, s.heap.get? b = some u → h'.get? b = some u) (hS : s.heap.objs.size ≤ S) (rx : Vals xs us) (ry : Vals ys ws) (hn : min xs.length ys.length ≤ sizeLine)
    (eS : h'.get? S = some { cls := .type "list", dict := none, data := .seq acc c, slots := #[] }) (ha : Gz.Acc (S + 1) h' us.toArray ws.toArray acc (min us.toArray.size ws.toArray.size) []) :
    ∃ Ts : List Addr, Ts.Nodup ∧ Ts.length = min xs.length ys.length ∧ (∀ T ∈ Ts, H T = none) ∧ S ∉ Ts ∧ L2.Inv X pins σ (upd (layP Ts xs ys H) S (.lst (Ts.map V.ref))) { s with heap := h' } := by
  have lx := rx.length
  have ly := ry.length
  have hmin : min us.toArray.size ws.toArray.size = min xs.length ys.length := by rw [List.size_toArray, List.size_toArray, ← lx, ← ly]
  rw [hmin] at ha
  obtain ⟨Ts, eT⟩ := refs_of (l := acc.toList) fun v hv => by
    obtain ⟨j, hj, e⟩ := List.mem_iff_getElem.mp hv
    obtain ⟨T, _, _, e1, _⟩ := ha.item j (by rw [← ha.size]; simpa using hj)
    rw [Array.getElem?_eq_getElem (by simpa using hj)] at e1
    refine ⟨T, ?_⟩
    rw [← e, Array.getElem_toList]
    exact Option.some.inj e1
  have lT : Ts.length = min xs.length ys.length := by
    have := congrArg List.length eT
    rw [List.length_map, Array.length_toList, ha.size] at this
    exact this.symm
  have atT : ∀ {j : Nat} {T : Addr}, Ts[j]? = some T → acc[j]? = some (.ref T) := fun {j T} e => by
    rw [← Array.getElem?_toList, eT, List.getElem?_map, e]; rfl
  have itT : ∀ {j : Nat} {T : Addr}, Ts[j]? = some T → ∃ u w, us[j]? = some u ∧ ws[j]? = some w ∧ IsPair h' T u w ∧ S < T := fun {j T} e => by
    have hj : j < min xs.length ys.length := by rw [← lT]; exact (List.getElem?_eq_some_iff.mp e).1
    obtain ⟨T', u, w, e1, e2, e3, e4, e5⟩ := ha.item j hj
    rw [atT e] at e1
    cases e1
    exact ⟨u, w, by simpa using e2, by simpa using e3, e4, e5⟩
  have nd : Ts.Nodup := by
    refine List.pairwise_iff_getElem.mpr fun i j hi hj hij => ?_
    exact Nat.ne_of_lt (ha.ord i j _ _ hij (atT (List.getElem?_eq_getElem hi)) (atT (List.getElem?_eq_getElem hj)))
  have fr : ∀ T ∈ Ts, S < T := fun T hT => by
    obtain ⟨j, hj, e⟩ := List.mem_iff_getElem.mp hT
    obtain ⟨_, _, _, _, _, q⟩ := itT (j := j) (T := T) (by rw [List.getElem?_eq_getElem hj, e])
    exact q
  have hST : S ∉ Ts := fun z => Nat.lt_irrefl _ (fr S z)
  have old : ∀ b, b < s.heap.objs.size → (upd (layP Ts xs ys H) S (.lst (Ts.map V.ref))) b = H b := fun b hb => by
    have n1 : b ≠ S := Nat.ne_of_lt (Nat.lt_of_lt_of_le hb hS)
    rw [upd_ne n1, layP_out Ts xs ys H fun z => Nat.lt_irrefl _ (Nat.lt_trans (Nat.lt_of_lt_of_le hb hS) (fr b z))]
  refine ⟨Ts, nd, lT, fun T hT => I.hok.fresh (Nat.le_of_lt (Nat.lt_of_le_of_lt hS (fr T hT))), hST, I.many k old fun b o e => ?_⟩
  by_cases e1 : b = S
  · subst e1
    rw [upd_same] at e
    cases e
    refine ⟨by rw [List.length_map, lT]; exact hn, acc.toList, c, by rw [eT]; exact vals_refs Ts, ?_⟩
    exact eS
  · rw [upd_ne e1] at e
    by_cases e2 : b ∈ Ts
    · obtain ⟨j, x, y, g1, g2, g3, rfl⟩ := layP_in Ts xs ys H b o nd e2 lT e
      obtain ⟨u, w, g4, g5, g6, _⟩ := itT g1
      obtain ⟨u', q1, q2⟩ := rx.get g2
      obtain ⟨w', q3, q4⟩ := ry.get g3
      rw [g4] at q1; rw [g5] at q3
      cases q1; cases q3
      exact ⟨by show 2 ≤ sizeLine; decide, [u, w], .cons q2 (.cons q4 .nil), ⟨_, g6, rfl, _, rfl⟩⟩
    · rw [layP_out Ts xs ys H e2] at e
      have lt := (I.hok b o e).lt
      refine (I.hok b o e).stay (fun b' u _ q => k b' u q) (fun b' q => ?_) fun b' xs' q => ?_
      · rw [old b' (I.hok _ _ q).lt]; exact q
      · rw [old b' (I.hok _ _ q).lt]; exact q
end
/-- the value that list(zip(a, b)) has -/
def tLZ (K : PySem.W.Frag) (ta : TA) : TE := fun σ H Q => ta σ H fun vs H1 => ∃ a b xs ys, vs = [.ref a, .ref b] ∧ (SqL K H1 a xs ∨ SqT K H1 a xs) ∧ (SqL K H1 b ys ∨ SqT K H1 b ys) ∧ min xs.length ys.length ≤ sizeLine ∧
  ∀ S Ts, H1 S = none → S ∉ Ts → Ts.Nodup → Ts.length = min xs.length ys.length → (∀ T ∈ Ts, H1 T = none) → Q (.ref S) (upd (layP Ts xs ys H1) S (.lst (Ts.map V.ref)))
section
variable {X : Cx} {W : Option WX} {a b : Expr} {p1 p2 pos q : Pos} {fa fb : Fr → Sto → R D} {ta : TA}
theorem sq_of {pins : List (Addr × Obj)} {σ : L2.St} {H : Hp} {s : Shared} {x : Addr} {xs : List V} (I : L2.Inv X pins σ H s) (h : SqL X.K H x xs ∨ SqT X.K H x xs) : ∃ us, Vals xs us ∧ Gz.Sq s.heap x us.toArray ∧ x < s.heap.objs.size := by
  rcases h with h | h
  · obtain ⟨its, rv, p, _⟩ := I.list h
    exact ⟨its, rv, .inl p.isList, p.lt⟩
  · obtain ⟨its, rv, p, _⟩ := I.tuple h
    obtain ⟨o, ho, _⟩ := id p
    exact ⟨its, rv, .inr p, Heap.lt_size ho⟩
theorem pe_listzip (hc : X.calm = true) (hg : Gl X "list") (hm : X.mg "list" = none) (hg2 : Gl X "zip") (hm2 : X.mg "zip" = none) (ha : PA X [a, b] ta)
    (hs : starEach [a, b] X.env = (false, eval a X.env) :: starEach [b] X.env) (hpl : (backTo q (starEach [b] X.env)).any (·.1) = false) : PE X (.Call (.Name "list" p1) [.Call (.Name "zip" p2) [a, b] [] q] [] pos) (tLZ X.K ta) := by
  refine ⟨fun pins s σ H Q I h => ?_⟩
  refine Call_ (ld_blt I hg hm boot_list ?_)
  refine PyProof.Rows.callWith_type1 (PyProof.Rows.args_cons ?_ rfl) rfl rfl
  refine Call_ (ld_blt I hg2 hm2 PyProof.Rows.boot_zip (PyProof.Rows.callWith_type1 (thn (ha.run q pins s σ H _ I h) fun us s1 ⟨vs, H1, I1, r1, q1⟩ => ?_) hs hpl))
  obtain ⟨x, y, xs, ys, ex, hx, hy, hn, q1⟩ := q1
  subst ex
  cases r1 with
  | cons r rr =>
    cases rr with
    | cons r' rr =>
      cases rr
      cases r
      cases r'
      obtain ⟨us, rx, sx, lx⟩ := sq_of I1 hx
      obtain ⟨ws, ry, sy, ly⟩ := sq_of I1 hy
      refine Gz.call_zipG sx sy fun h' hz hTI hTO h1 h2 hsz hk => PyProof.Rows.args_nil ?_
      have e1 := rx.length
      have e2 := ry.length
      have lt : ∀ {n : Nat}, n ≤ s1.heap.objs.size + 4 → n < h'.objs.size := fun hn => by rw [hsz]; omega
      have st : Gz.St0 { s1 with heap := h' } (s1.heap.objs.size + 4) (s1.heap.objs.size + 2) (s1.heap.objs.size + 3) s1.heap.objs.size (s1.heap.objs.size + 1) x y us.toArray ws.toArray h'.objs.size :=
        ⟨PySem.W.ktu_apart s1.heap.objs.size x y lx ly, by rw [List.size_toArray, List.size_toArray, ← e1, ← e2]; exact hn, .inl ⟨hz, _, _, hTO⟩, hTI, h1, h2, lt (Nat.le_refl _), lt (by omega), lt (by omega), lt (by omega), lt (by omega), lt (Nat.le_trans (Nat.le_of_lt lx) (by omega)), lt (Nat.le_trans (Nat.le_of_lt ly) (by omega))⟩
      refine Gz.call_list_zip (I1.ok.hd hc) st fun h'' acc c hS hacc hk2 => ?_
      have far : ∀ {b : Addr} {o : Obj} {n : Nat}, s1.heap.get? b = some o → b ≠ s1.heap.objs.size + n := fun {b o n} e z => by
        have := Heap.lt_size e
        rw [z] at this
        exact Nat.not_lt.mpr (Nat.le_add_right _ n) this
      have kk : ∀ b o, s1.heap.get? b = some o → h''.get? b = some o := fun b o e => hk2 b o (far e) (far e) (far (n := 0) e) (far e) (Nat.ne_of_lt (Heap.lt_size (hk b o e))) (hk b o e)
      obtain ⟨Ts, nd, lT, fr, nS, I2⟩ := after_zip (S := h'.objs.size) I1 kk (by rw [hsz]; omega) rx ry hn hS hacc
      exact ⟨.ref h'.objs.size, _, I2, rfl, q1 _ Ts (I1.hok.fresh (by rw [hsz]; omega)) nS nd lT fr⟩
end
end Gx
set_option Elab.async false
set_option linter.all false
set_option maxRecDepth 100000
set_option maxHeartbeats 2000000
/-! Gx26: zip of lists and tuples, mixed, in loops; list(zip(..)) as a new object. -/
namespace Gx
open PySem PySem.Spec PyProof.Rows L2
def SqB (K : PySem.W.Frag) (H : Hp) (k : Bool) (a : Addr) (xs : List V) : Prop := if k = true then SqL K H a xs else SqT K H a xs
def ItB (h : Heap) (k : Bool) (i l : Addr) (n : Nat) : Prop := if k = true then h.IsListIter i l n else h.IsTupleIter i l n
theorem ItB.obj {h : Heap} {k : Bool} {i l : Addr} {n : Nat} (a : ItB h k i l n) : ∃ o, h.get? i = some o ∧ ∀ v, o.data ≠ .cell v := by
  unfold ItB at a
  split at a
  · obtain ⟨o, e, _, d⟩ := a; exact ⟨o, e, fun v q => by rw [d] at q; cases q⟩
  · obtain ⟨o, e, _, d⟩ := a; exact ⟨o, e, fun v q => by rw [d] at q; cases q⟩
theorem ItB.at {h h' : Heap} {k : Bool} {i l : Addr} {n : Nat} (a : ItB h k i l n) (e : ∀ o, h.get? i = some o → h'.get? i = some o) : ItB h' k i l n := by
  unfold ItB at a ⊢
  split
  · rw [if_pos (by assumption)] at a; exact Heap.IsListIter.at a e
  · rw [if_neg (by assumption)] at a; exact Heap.IsTupleIter.at a e
section
variable {X : Cx} {pins : List (Addr × Obj)} {σ : L2.St} {H : Hp} {s : Shared}
theorem srcB {k : Bool} {i l : Addr} {n : Nat} {xs : List V} (I : L2.Inv X pins σ H s) (q : SqB X.K H k l xs) (a : ItB s.heap k i l n) : ∃ us, Vals xs us ∧ Gz.Src s.heap i l us.toArray n := by
  unfold SqB at q
  unfold ItB at a
  cases k with
  | true =>
    obtain ⟨its, rv, p, _⟩ := I.list q
    exact ⟨its, rv, .lst a p.isList⟩
  | false =>
    obtain ⟨its, rv, p, _⟩ := I.tuple q
    exact ⟨its, rv, .tup a p⟩
theorem itB {h : Heap} {k : Bool} {i l : Addr} {n m : Nat} {xs ys : Array Value} {h0 : Heap} (a : ItB h0 k i l m) (q : Gz.Src h0 i l xs m) (q' : Gz.Src h i l ys n) (hi : ∃ o o', h0.get? i = some o ∧ h.get? i = some o' ∧ o'.cls = o.cls) : ItB h k i l n := by
  obtain ⟨o, o', e1, e2, e3⟩ := hi
  unfold ItB at a ⊢
  cases k with
  | true =>
    obtain ⟨_, g1, g2, _⟩ := a
    cases q' with
    | lst x _ => exact x
    | tup x _ =>
      obtain ⟨_, g3, g4, _⟩ := x
      rw [e1] at g1; rw [e2] at g3
      cases g1; cases g3
      rw [e3, g2] at g4
      exact absurd (Value.type.inj g4) (by decide)
  | false =>
    obtain ⟨_, g1, g2, _⟩ := a
    cases q' with
    | tup x _ => exact x
    | lst x _ =>
      obtain ⟨_, g3, g4, _⟩ := x
      rw [e1] at g1; rw [e2] at g3
      cases g1; cases g3
      rw [e3, g2] at g4
      exact absurd (Value.type.inj g4) (by decide)
theorem sqB_inj {k : Bool} {l : Addr} {xs ys : List V} (I : L2.Inv X pins σ H s) (a : SqB X.K H k l xs) (b : SqB X.K H k l ys) : xs = ys := by
  unfold SqB at a b
  cases k with
  | true => exact I.list_inj a b
  | false => exact I.tuple_inj a b
end
section
variable {X : Cx} {W : Option WX} {F : Addr → Prop} {μ : List Addr} {φ : Fr} {S : Sto} {σ : L2.St} {H : Hp} {a b : Expr} {p1 p2 pos q : Pos} {fa fb : Fr → Sto → R D}
theorem zipG_rd {P : Pm} : ∀ {x y : List D} {vs ws : List V} {Ts : List Addr} {H : Hp}, RDs P H x vs → RDs P H y ws → Ts.length = min vs.length ws.length → (∀ (j : Nat) T v w, Ts[j]? = some T → vs[j]? = some v → ws[j]? = some w → H T = some (.tup [v, w])) → RDs P H (zipL x y) (Ts.map V.ref)
  | [], _, _, _, Ts, H, h1, _, hl, _ => by
    rw [RDs.nil h1] at hl
    have : Ts = [] := by simpa using hl
    subst this
    simp [zipL, RDs]
  | _ :: _, [], _, _, Ts, H, _, h2, hl, _ => by
    rw [RDs.nil h2] at hl
    have : Ts = [] := by simpa using hl
    subst this
    simp [zipL, RDs]
  | d :: x, e :: y, _, _, [], H, ⟨v, vr, e1, h1, t1⟩, ⟨w, wr, e2, h2, t2⟩, hl, _ => by subst e1 e2; simp at hl
  | d :: x, e :: y, _, _, T :: Ts, H, ⟨v, vr, e1, h1, t1⟩, ⟨w, wr, e2, h2, t2⟩, hl, k => by
    subst e1 e2
    refine ⟨.ref T, Ts.map V.ref, rfl, rd_tup (k 0 T v w rfl rfl rfl) ⟨v, [w], rfl, h1, w, [], rfl, h2, rfl⟩, ?_⟩
    exact zipG_rd t1 t2 (by simp at hl; omega) fun j T v w g1 g2 g3 => k (j + 1) T v w (by simpa using g1) (by simpa using g2) (by simpa using g3)
/-- list(zip(a, b)): a new list of new pairs -/
theorem gf_listzip (hc : X.calm = true) (hg : Gl X "list") (hm : X.mg "list" = none) (hg2 : Gl X "zip") (hm2 : X.mg "zip" = none) (ha : GE X W a fa) (hb : GE X W b fb)
    (hs : starEach [a, b] X.env = (false, eval a X.env) :: starEach [b] X.env) (hs2 : starEach [b] X.env = (false, eval b X.env) :: starEach [] X.env) (hpl : (backTo q (starEach [b] X.env)).any (·.1) = false) :
    GF X W (.Call (.Name "list" p1) [.Call (.Name "zip" p2) [a, b] [] q] [] pos) (fun φ S => (fa φ S).bind fun x φ S => (fb φ S).bind fun y φ S => (ofO ((itemsD x).bind fun l => (itemsD y).map fun m => zipL l m) φ S).bind fun l φ S => if l.length ≤ sizeLine then .ok (.lst l) φ S else .no) := by
  refine (pe_listzip hc hg hm hg2 hm2 (pa_cons ha (pa_cons hb pa_nil hs2) hs) hs hpl).imp fun σ H Q ⟨F, μ, φ, S, rl, po⟩ => ?_
  refine ⟨F, μ, φ, S, rl, PoF.fst po fun x φ1 S1 μ1 H1 v n1 r1 po1 => ?_⟩
  refine ⟨F, μ1, φ1, S1, n1.rl, PoF.fst po1 fun y φ2 S2 μ2 H2 w n2 r2 po2 => ?_⟩
  have r1 := n2.rx r1
  cases ex : itemsD x with
  | none => rw [ex] at po2; exact po2.elim
  | some l =>
  cases ey : itemsD y with
  | none => rw [ex, ey] at po2; exact po2.elim
  | some m =>
  rw [ex, ey] at po2
  have po2 : PoF X W F μ2 φ2 σ H2 (if (zipL l m).length ≤ sizeLine then .ok (.lst (zipL l m)) φ2 S2 else .no) Q := po2
  have kx : keepD x = true := by cases x <;> simp [itemsD] at ex <;> rfl
  have ky : keepD y = true := by cases y <;> simp [itemsD] at ey <;> rfl
  obtain ⟨a', vs, rfl, g1, t1⟩ := items_rt (r1.keep kx).rt ex
  obtain ⟨b', ws, rfl, g2, t2⟩ := items_rt (r2.keep ky).rt ey
  split at po2
  · rename_i hz
    rw [zipL_len, t1.length, t2.length] at hz
    refine ⟨a', b', vs, ws, rfl, g1.symm, g2.symm, hz, fun L Ts hL nL nd lT fr => ?_⟩
    have gr := layP_gr Ts vs ws H2 nd fr
    have nx := gr.nx n2.rl
    have hL2 : layP Ts vs ws H2 L = none := by rw [layP_out Ts vs ws H2 nL]; exact hL
    refine PoF.lst (PoF.re po2 nx) nx.rl hL2 ?_
    exact zipG_rd (t1.mono nx.ext) (t2.mono nx.ext) lT fun j T v w q1 q2 q3 => layP_at Ts vs ws H2 j T v w nd q1 q2 q3
  · exact po2.elim
end
end Gx
set_option Elab.async false
set_option linter.all false
set_option maxRecDepth 100000
set_option maxHeartbeats 2000000
/-! Gx27: loops over zip of a list and a tuple. -/
namespace Gx
open PySem PySem.Spec PyProof.Rows L2
def ItzG (K : PySem.W.Frag) (k1 k2 : Bool) (a b : Addr) : L2.It :=
  ⟨fun i H => ∃ (xs ys : List V) (x y : V), SqB K H k1 a xs ∧ SqB K H k2 b ys ∧ xs[i]? = some x ∧ ys[i]? = some y,
    fun i H v H' => ∃ T x y, v = .ref T ∧ H T = none ∧ H' = upd H T (.tup [x, y]) ∧ (∀ xs, SqB K H k1 a xs → xs[i]? = some x) ∧ ∀ ys, SqB K H k2 b ys → ys[i]? = some y,
    fun i H => ∃ xs ys : List V, SqB K H k1 a xs ∧ SqB K H k2 b ys ∧ (xs.length ≤ i ∨ ys.length ≤ i)⟩
theorem pyNextG_item {prog : Program} {w : World} {A : Around} {E : Value → Shared → Prop} {s : Shared} {z TI TO i1 i2 l1 l2 : Addr} {k1 k2 : Nat} {xs ys : Array Value} {x y a b : Value} {Q : Option Value → Shared → Prop} (D : ZipApart z TI TO i1 i2 l1 l2)
    (hz : IsZip s.heap z TI TO .none) (hTI : IsPair s.heap TI (.ref i1) (.ref i2)) (hTO : IsPair s.heap TO a b) (h1 : Gz.Src s.heap i1 l1 xs k1) (h2 : Gz.Src s.heap i2 l2 ys k2) (hx : xs[k1]? = some x) (hy : ys[k2]? = some y)
    (hQ : ∀ h', IsZip h' z TI TO (rawInt s.heap.objs.size) → IsPair h' TO x y → Gz.Src h' i1 l1 xs (k1 + 1) → Gz.Src h' i2 l2 ys (k2 + 1) → IsPair h' s.heap.objs.size x y → h'.objs.size = s.heap.objs.size + 1 →
      (∀ c o, c ≠ z → c ≠ TO → c ≠ i1 → c ≠ i2 → s.heap.get? c = some o → h'.get? c = some o) → Q (some (.ref s.heap.objs.size)) { s with heap := h' }) : wpAny (model prog w) A (pyNext (.ref z)) Q E s :=
  Gz.pyNext_item ⟨_, hz, rfl⟩ fun A' => Gz.zip_first D hz hTI hTO h1 h2 hx hy hQ
theorem pyNextG_end {prog : Program} {w : World} {A : Around} {E : Value → Shared → Prop} {s : Shared} {z TI TO i1 i2 l1 l2 : Addr} {k1 k2 : Nat} {xs ys : Array Value} {a b : Value} {Q : Option Value → Shared → Prop} (hh : A.handled = none) (D : ZipApart z TI TO i1 i2 l1 l2)
    (hz : IsZip s.heap z TI TO .none) (hTI : IsPair s.heap TI (.ref i1) (.ref i2)) (hTO : IsPair s.heap TO a b) (h1 : Gz.Src s.heap i1 l1 xs k1) (h2 : Gz.Src s.heap i2 l2 ys k2) (hend : xs[k1]? = none ∨ ys[k2]? = none)
    (hQ : ∀ h', (∀ c o, c ≠ z → c ≠ TO → c ≠ i1 → c ≠ i2 → s.heap.get? c = some o → h'.get? c = some o) → Q none { s with heap := h' }) : wpAny (model prog w) A (pyNext (.ref z)) Q E s :=
  Gz.pyNext_stop ⟨_, hz, rfl⟩ fun A' hA => Gz.zip_first_end (by rw [hA]; exact hh) D hz hTI hTO h1 h2 hend fun h' e hk ⟨o, ho, hc⟩ => ⟨e, o, rfl, ho, hc, hQ h' hk⟩
/-- the kind of an iterator stays -/
def SrcB (h : Heap) (k : Bool) (i l : Addr) (n : Nat) : Prop := ItB h k i l n
theorem srcB_of {h : Heap} {k : Bool} {i l : Addr} {n m : Nat} {xs : Array Value} (a : ItB h k i l m) (h' : Heap) (q : Gz.Src h' i l xs n) (ty : if k = true then h'.IsList l xs else h'.IsTuple l xs) (nl : ¬ (h'.IsList l xs ∧ h'.IsTuple l xs)) : ItB h' k i l n := by
  unfold ItB
  cases k with
  | true =>
    cases q with
    | lst x _ => exact x
    | tup _ y => exact absurd ⟨ty, y⟩ nl
  | false =>
    cases q with
    | tup x _ => exact x
    | lst _ y => exact absurd ⟨y, ty⟩ nl
theorem lt_apart {h : Heap} {l : Addr} {xs : Array Value} : ¬ (h.IsList l xs ∧ h.IsTuple l xs) := fun ⟨a, b⟩ => by
  obtain ⟨o, e1, e2, _⟩ := a
  obtain ⟨o', e3, e4, _⟩ := b
  rw [e1] at e3
  cases e3
  rw [e2] at e4
  exact absurd (Value.type.inj e4) (by decide)
theorem turn_zipG {P : Program} {w : World} {K : PySem.W.Frag} {elts : List Expr} {kk : Nat} {tpos : Pos} {k1 k2 : Bool} {a b z TI TO i1 i2 : Addr} (D : ZipApart z TI TO i1 i2 a b) :
    Turn P w K (.Tuple elts kk tpos) (ItzG K k1 k2 a b) [z, TI, TO, i1, i2] z (fun i h => IsZip h z TI TO .none ∧ IsPair h TI (.ref i1) (.ref i2) ∧ (∃ x y, IsPair h TO x y) ∧ ItB h k1 i1 a i ∧ ItB h k2 i2 b i) where
  mem := by simp
  obj := fun i h st c hc => by
    obtain ⟨hz, hTI, ⟨x, y, hTO⟩, q1, q2⟩ := st
    have e' : c = z ∨ c = TI ∨ c = TO ∨ c = i1 ∨ c = i2 := by simpa using hc
    rcases e' with q | q | q | q | q
    · rw [q]; exact ⟨_, hz, fun v q => nomatch q⟩
    · rw [q]; exact ⟨_, hTI, fun v q => nomatch q⟩
    · rw [q]; exact ⟨_, hTO, fun v q => nomatch q⟩
    · rw [q]; exact q1.obj
    · rw [q]; exact q2.obj
  keep := fun i h h' st k => by
    obtain ⟨hz, hTI, ⟨x, y, hTO⟩, h1, h2⟩ := st
    exact ⟨k z (by simp) _ hz, k TI (by simp) _ hTI, ⟨x, y, k TO (by simp) _ hTO⟩, h1.at fun o q => k i1 (by simp) o q, h2.at fun o q => k i2 (by simp) o q⟩
  item := by
    intro X hP hw hK hc i pins s σ H E I hf st hg
    subst hP hw hK
    obtain ⟨hz, hTI, ⟨x0, y0, hTO⟩, h1, h2⟩ := st
    obtain ⟨xs, ys, x, y, hqx, hqy, hx, hy⟩ := hg
    obtain ⟨its, rv, s1⟩ := srcB I hqx h1
    obtain ⟨its2, rv2, s2⟩ := srcB I hqy h2
    obtain ⟨u, hu, ru⟩ := rv.get hx
    obtain ⟨u2, hu2, ru2⟩ := rv2.get hy
    have hzl : z < s.heap.objs.size := Heap.lt_size hz
    refine pyNextG_item D hz hTI hTO s1 s2 (x := u) (y := u2) (by simpa using hu) (by simpa using hu2) fun h' z' TO' s1' s2' hT hsz hk => ?_
    refine ⟨_, rfl, wpAny_letOwnedTupleGo_zip (s := { s with heap := h' }) z' fun h'' z'' sb => ?_⟩
    have hT2 : h''.get? s.heap.objs.size = some { cls := .type "tuple", data := .seq #[u, u2] } := (sb.2 _ (Nat.ne_of_gt hzl)).trans hT
    have new : ObjOk X.prog X.w (upd H s.heap.objs.size (.tup [x, y])) h'' s.heap.objs.size (.tup [x, y]) :=
      ⟨by show 2 ≤ sizeLine; decide, [u, u2], .cons ru (.cons ru2 .nil), ⟨_, hT2, rfl, _, rfl⟩⟩
    have I1 : L2.Inv X pins σ (upd H s.heap.objs.size (.tup [x, y])) { s with heap := h'' } :=
      I.turnedNew (t' := s.toks) (ch := [z, TI, TO, i1, i2]) (fun c o hb q => (sb.2 c (fun q' => hb (by simp [q']))).trans (hk c o (fun q' => hb (by simp [q'])) (fun q' => hb (by simp [q'])) (fun q' => hb (by simp [q'])) (fun q' => hb (by simp [q'])) q)) hf (Nat.le_refl _) new
    have kd : ∀ {k : Bool} {l i' : Addr} {zs : List V} {us : List Value}, SqB X.K H k l zs → Vals zs us → Gz.Src h' i' l us.toArray (i + 1) → ItB s.heap k i' l i → l ≠ z → l ≠ TO → l ≠ i1 → l ≠ i2 → ItB h' k i' l (i + 1) := fun {k l i' zs us} q rv sr it n1 n2 n3 n4 => by
      refine srcB_of it h' sr ?_ lt_apart
      unfold SqB at q
      cases k with
      | true =>
        obtain ⟨us', rv', p, _⟩ := I.list q
        have : us' = us ∨ True := .inr trivial
        cases sr with
        | lst _ y => exact y
        | tup _ y =>
          have pl := p.isList
          obtain ⟨o, e1, e2, _⟩ := pl
          obtain ⟨o', e3, e4, _⟩ := y
          rw [hk l o n1 n2 n3 n4 e1] at e3
          cases e3
          rw [e2] at e4
          exact absurd (Value.type.inj e4) (by decide)
      | false =>
        obtain ⟨us', rv', p, _⟩ := I.tuple q
        cases sr with
        | tup _ y => exact y
        | lst _ y =>
          obtain ⟨o, e1, e2, _⟩ := id p
          obtain ⟨o', e3, e4, _⟩ := y
          rw [hk l o n1 n2 n3 n4 e1] at e3
          cases e3
          rw [e2] at e4
          exact absurd (Value.type.inj e4) (by decide)
    refine ⟨.ref s.heap.objs.size, _, I1, rfl, ⟨_, x, y, rfl, I.hok.fresh (Nat.le_refl _), rfl, fun l hl => by rw [sqB_inj I hl hqx]; exact hx, fun l hl => by rw [sqB_inj I hl hqy]; exact hy⟩, ⟨z'', ?_, ⟨u, u2, ?_⟩, ?_, ?_⟩, fun c hcm => ?_⟩
    · exact (sb.2 _ D.TIz).trans (hk _ _ D.TIz D.TITO D.TIi1 D.TIi2 hTI)
    · exact (sb.2 _ D.TOz).trans TO'
    · exact (kd hqx rv s1' h1 D.l1z D.l1TO D.l1i1 D.l1i2).at fun o q => (sb.2 _ D.i1z).trans q
    · exact (kd hqy rv2 s2' h2 D.l2z D.l2TO D.l2i1 D.l2i2).at fun o q => (sb.2 _ D.i2z).trans q
    · have hlt : c < s.heap.objs.size := by
        have e' : c = z ∨ c = TI ∨ c = TO ∨ c = i1 ∨ c = i2 := by simpa using hcm
        rcases e' with q | q | q | q | q
        · rw [q]; exact hzl
        · rw [q]; exact Heap.lt_size hTI
        · rw [q]; exact Heap.lt_size hTO
        · rw [q]; obtain ⟨_, e1, _⟩ := h1.obj; exact Heap.lt_size e1
        · rw [q]; obtain ⟨_, e2, _⟩ := h2.obj; exact Heap.lt_size e2
      rw [upd_ne (Nat.ne_of_lt hlt)]
      exact (hf c hcm).1
  done := by
    intro X hP hw hK hc i pins s σ H E I hf st hg
    subst hP hw hK
    obtain ⟨hz, hTI, ⟨x0, y0, hTO⟩, h1, h2⟩ := st
    obtain ⟨xs, ys, hqx, hqy, hend⟩ := hg
    obtain ⟨its, rv, s1⟩ := srcB I hqx h1
    obtain ⟨its2, rv2, s2⟩ := srcB I hqy h2
    have l1 := rv.length
    have l2 := rv2.length
    have he : its.toArray[i]? = none ∨ its2.toArray[i]? = none := by
      rcases hend with q | q
      · exact .inl (by simp; omega)
      · exact .inr (by simp; omega)
    exact pyNextG_end (I.ok.hd hc) D hz hTI hTO s1 s2 he fun h' hk => ⟨rfl, I.turnedL (t' := s.toks) (ch := [z, TI, TO, i1, i2]) (fun c o hb q =>
      hk c o (fun q' => hb (by simp [q'])) (fun q' => hb (by simp [q'])) (fun q' => hb (by simp [q'])) (fun q' => hb (by simp [q'])) q) hf⟩
  self := fun A i s Q E st h => wpAny_pyIter_zip st.1 h

def iZipG (K : PySem.W.Frag) (ta : TA) : TI := fun σ H R => ta σ H fun vs H1 => ∃ a b k1 k2 xs ys, vs = [.ref a, .ref b] ∧ SqB K H1 k1 a xs ∧ SqB K H1 k2 b ys ∧ R (ItzG K k1 k2 a b) H1
theorem sqB_sq {X : Cx} {pins : List (Addr × Obj)} {σ : L2.St} {H : Hp} {s : Shared} {k : Bool} {x : Addr} {xs : List V} (I : L2.Inv X pins σ H s) (h : SqB X.K H k x xs) : ∃ us, Vals xs us ∧ Gz.Sq s.heap x us.toArray ∧ x < s.heap.objs.size ∧ (if k = true then s.heap.IsList x us.toArray else s.heap.IsTuple x us.toArray) := by
  unfold SqB at h
  cases k with
  | true =>
    obtain ⟨its, rv, p, _⟩ := I.list h
    exact ⟨its, rv, .inl p.isList, p.lt, p.isList⟩
  | false =>
    obtain ⟨its, rv, p, _⟩ := I.tuple h
    obtain ⟨o, ho, _⟩ := id p
    exact ⟨its, rv, .inr p, Heap.lt_size ho, p⟩
theorem itB_new {h h' : Heap} {k : Bool} {i l : Addr} {xs : Array Value} (ty : if k = true then h.IsList l xs else h.IsTuple l xs) (hk : ∀ c o, h.get? c = some o → h'.get? c = some o) (q : Gz.Src h' i l xs 0) : ItB h' k i l 0 := by
  unfold ItB
  cases k with
  | true =>
    have ty : h.IsList l xs := ty
    cases q with
    | lst x _ => exact x
    | tup _ y => exact absurd ⟨ty.at fun o e => hk _ o e, y⟩ lt_apart
  | false =>
    have ty : h.IsTuple l xs := ty
    cases q with
    | tup x _ => exact x
    | lst _ y => exact absurd ⟨y, ty.at fun o e => hk _ o e⟩ lt_apart
theorem pi_zipG {X : Cx} {e e2 : Expr} {ta : TA} {p pos tpos : Pos} {elts : List Expr} {kk : Nat} (hg : Gl X "zip") (hm : X.mg "zip" = none) (ha : PA X [e, e2] ta)
    (hs : starEach [e, e2] X.env = (false, eval e X.env) :: starEach [e2] X.env) (hpl : (backTo pos (starEach [e2] X.env)).any (·.1) = false) :
    PI X (.Tuple elts kk tpos) (.Call (.Name "zip" p) [e, e2] [] pos) (iZipG X.K ta) := by
  refine ⟨fun pins s σ H R I h => ?_⟩
  refine Call_ (ld_blt I hg hm PyProof.Rows.boot_zip (PyProof.Rows.callWith_type1 (thn (ha.run pos pins s σ H _ I h) fun us s1 ⟨vs, H1, I1, r1, q1⟩ => ?_) hs hpl))
  obtain ⟨a, b, k1, k2, xs, ys, ex, hqx, hqy, q⟩ := q1
  subst ex
  cases r1 with
  | cons r rr =>
    cases rr with
    | cons r' rr =>
      cases rr
      cases r
      cases r'
      obtain ⟨us, rx, sx, lx, tx⟩ := sqB_sq I1 hqx
      obtain ⟨ws, ry, sy, ly, ty⟩ := sqB_sq I1 hqy
      refine Gz.call_zipG sx sy fun h' hz hTI hTO h1 h2 hsz hk => wpAny_pyIter_zip hz ?_
      have I2 : L2.Inv X pins σ H1 { s1 with heap := h' } := I1.kept (t' := s1.toks) hk
      refine ⟨s1.heap.objs.size + 4, [s1.heap.objs.size + 4, s1.heap.objs.size + 2, s1.heap.objs.size + 3, s1.heap.objs.size, s1.heap.objs.size + 1], _, _, H1, rfl, I2, turn_zipG (PySem.W.ktu_apart s1.heap.objs.size a b lx ly), ⟨hz, hTI, ⟨_, _, hTO⟩, itB_new tx hk h1, itB_new ty hk h2⟩, fun c hcm => ?_, q⟩
      have e' : c = s1.heap.objs.size + 4 ∨ c = s1.heap.objs.size + 2 ∨ c = s1.heap.objs.size + 3 ∨ c = s1.heap.objs.size ∨ c = s1.heap.objs.size + 1 := by simpa using hcm
      have hle : s1.heap.objs.size ≤ c := by
        rcases e' with z | z | z | z | z
        · rw [z]; exact Nat.le_add_right _ _
        · rw [z]; exact Nat.le_add_right _ _
        · rw [z]; exact Nat.le_add_right _ _
        · rw [z]; exact Nat.le_refl _
        · rw [z]; exact Nat.le_add_right _ _
      exact I1.fpOk hle (I1.hok.fresh hle)
/-- a list or a tuple, at any later state -/
theorem later_sq {P : Pm} {H : Hp} {d : D} {v : V} {l : List D} (h : RD P H d v) (e : itemsD d = some l) : ∃ p k vs, v = .ref p ∧ ∀ P' H', Ext P H P' H' → SqB P.K H' k p vs ∧ RDs P' H' l vs := by
  cases d <;> simp only [itemsD, Option.some.injEq, reduceCtorEq] at e
  · subst e
    obtain ⟨p, vs, rfl, h1, t⟩ := h
    exact ⟨p, false, vs, rfl, fun P' H' ex => ⟨h1.elim (fun h1 => .inl (ex.tup _ _ h1)) .inr, t.mono ex⟩⟩
  · subst e
    obtain ⟨p, vs, rfl, n, h1, t⟩ := h
    exact ⟨p, true, vs, rfl, fun P' H' ex => ⟨.inl (ex.rd rfl h1 n), t.mono ex⟩⟩
theorem wk_zipG {P : Pm} {H : Hp} {x y : List D} {vs ws : List V} {p q : Addr} {k1 k2 : Bool} (at1 : ∀ P' H', Ext P H P' H' → SqB P.K H' k1 p vs ∧ RDs P' H' x vs) (at2 : ∀ P' H', Ext P H P' H' → SqB P.K H' k2 q ws ∧ RDs P' H' y ws) (ma : ∀ x, P.mu x → P.av x) : Wk P H (ItzG P.K k1 k2 p q) (zipL x y) := by
  have l1 := (at1 P H (Ext.refl ma)).2.length
  have l2 := (at2 P H (Ext.refl ma)).2.length
  refine ⟨fun P' H' i e hi => ?_, fun P' H' e => ?_, fun P' H' i d z H'' e ma hd hy => ?_⟩
  · rw [zipL_len] at hi
    have i1 : i < vs.length := by omega
    have i2 : i < ws.length := by omega
    exact ⟨vs, ws, vs[i], ws[i], (at1 P' H' e).1, (at2 P' H' e).1, List.getElem?_eq_getElem i1, List.getElem?_eq_getElem i2⟩
  · refine ⟨vs, ws, (at1 P' H' e).1, (at2 P' H' e).1, ?_⟩
    rw [zipL_len]; omega
  · obtain ⟨T, v, w, rfl, hn, rfl, f1, f2⟩ := hy
    obtain ⟨a, b, g1, g2, rfl⟩ := zipL_get hd
    obtain ⟨v', e1, r1⟩ := (at1 P' H' e).2.get g1
    obtain ⟨w', e2, r2⟩ := (at2 P' H' e).2.get g2
    cases (f1 _ (at1 P' H' e).1).symm.trans e1
    cases (f2 _ (at2 P' H' e).1).symm.trans e2
    exact pair_gr ma hn r1 r2
section
variable {X : Cx} {W : Option WX} {a b : Expr} {pos p1 tpos : Pos} {kk : Nat} {elts : List Expr} {fa fb : Fr → Sto → R D}
theorem gi_zip (hg : Gl X "zip") (hm : X.mg "zip" = none) (ha : GE X W a fa) (hb : GE X W b fb) (hs : starEach [a, b] X.env = (false, eval a X.env) :: starEach [b] X.env) (hs2 : starEach [b] X.env = (false, eval b X.env) :: starEach [] X.env) (hpl : (backTo pos (starEach [b] X.env)).any (·.1) = false) :
    GI X W (.Tuple elts kk tpos) (.Call (.Name "zip" p1) [a, b] [] pos) (fun φ S => (fa φ S).bind fun x φ S => (fb φ S).bind fun y φ S => ofO (zipD x y) φ S) := by
  refine (pi_zipG hg hm (pa_cons ha (pa_cons hb pa_nil hs2) hs) hs hpl).imp fun σ H Rr ⟨F, μ, φ, S, rl, po⟩ => ?_
  refine ⟨F, μ, φ, S, rl, PoI.fst po fun x φ1 S1 μ1 H1 v n1 r1 po1 => ?_⟩
  refine ⟨F, μ1, φ1, S1, n1.rl, PoI.fst po1 fun y φ2 S2 μ2 H2 w n2 r2 po2 => ?_⟩
  obtain ⟨l, e, po2⟩ := PoI.opt1 po2
  have r1 := n2.rx r1
  obtain ⟨lx, ex, e⟩ := Option.bind_eq_some_iff.mp e
  obtain ⟨ly, ey, rfl⟩ := Option.map_eq_some_iff.mp e
  have kx : keepD x = true := by cases x <;> simp [itemsD] at ex <;> rfl
  have ky : keepD y = true := by cases y <;> simp [itemsD] at ey <;> rfl
  obtain ⟨p, k1, vs, rfl, at1⟩ := later_sq (r1.keep kx) ex
  obtain ⟨q, k2, ws, rfl, at2⟩ := later_sq (r2.keep ky) ey
  have ma : ∀ x, (pm X F μ2 φ2 σ).mu x → (pm X F μ2 φ2 σ).av x := fun _ z => .inl z
  exact ⟨p, q, k1, k2, vs, ws, rfl, (at1 _ H2 (Ext.refl ma)).1, (at2 _ H2 (Ext.refl ma)).1, po2.val n2.rl (wk_zipG at1 at2 ma)⟩
end
end Gx
set_option Elab.async false
set_option linter.all false
set_option maxRecDepth 100000
set_option maxHeartbeats 2000000
/-! Gx28: enumerate of a list or a tuple in loops. -/
namespace Gx
open PySem PySem.Spec PyProof.Rows L2
def IteG (K : PySem.W.Frag) (k : Bool) (a : Addr) : L2.It :=
  ⟨fun i H => ∃ (xs : List V) (x : V), SqB K H k a xs ∧ xs[i]? = some x, fun i H v H' => ∃ T x, v = .ref T ∧ H T = none ∧ H' = upd H T (.tup [.int (i : Nat), x]) ∧ ∀ xs, SqB K H k a xs → xs[i]? = some x, fun i H => ∃ xs : List V, SqB K H k a xs ∧ xs.length = i⟩
theorem pyNextE_item {prog : Program} {w : World} {A : Around} {E : Value → Shared → Prop} {s : Shared} {e it l : Addr} {i : Nat} {items : Array Value} {x old : Value} {Q : Option Value → Shared → Prop} (hh : A.handled = none)
    (he : IsEnum s.heap e it i old) (hs : Gz.Src s.heap it l items i) (hx : items[i]? = some x) (hne : e ≠ it) (hel : e ≠ l) (hl : l ≠ it)
    (hQ : ∀ h' tk, IsEnumOut h' e it ((i : Int) + 1) x s.heap.objs.size → Gz.Src h' it l items (i + 1) → h'.get? s.heap.objs.size = some { cls := .type "tuple", data := .seq #[.int i tk, x] } → h'.objs.size = s.heap.objs.size + 1 →
      (∀ b o, b ≠ e → b ≠ it → s.heap.get? b = some o → h'.get? b = some o) → Q (some (.ref s.heap.objs.size)) { s with heap := h', toks := tk + 1 }) : wpAny (model prog w) A (pyNext (.ref e)) Q E s := by
  have hi : i < items.size := (Array.getElem?_eq_some_iff.mp hx).1
  cases hs with
  | lst a b =>
    refine wpAny_pyNext_enum_itemD (Draws.list (A := A.in1) hh it l hl items) he ⟨a, b⟩ hi hne (by simp; exact ⟨hne, hel⟩) fun y h' tk hP ho st hT hsz hk => ?_
    have : y = x := Option.some.inj (hP.symm.trans hx)
    subst this
    exact hQ h' tk ho (.lst st.1 st.2) hT hsz hk
  | tup a b =>
    refine wpAny_pyNext_enum_itemD (Draws.tuple (A := A.in1) hh it l hl items) he ⟨a, b⟩ hi hne (by simp; exact ⟨hne, hel⟩) fun y h' tk hP ho st hT hsz hk => ?_
    have : y = x := Option.some.inj (hP.symm.trans hx)
    subst this
    exact hQ h' tk ho (.tup st.1 st.2) hT hsz hk
theorem pyNextE_end {prog : Program} {w : World} {A : Around} {E : Value → Shared → Prop} {s : Shared} {e it l : Addr} {i : Nat} {items : Array Value} {old : Value} {Q : Option Value → Shared → Prop} (hh : A.handled = none)
    (he : IsEnum s.heap e it i old) (hs : Gz.Src s.heap it l items items.size) (hl : l ≠ it) (hQ : ∀ h', Heap.ExtBut it s.heap h' → Q none { s with heap := h' }) : wpAny (model prog w) A (pyNext (.ref e)) Q E s := by
  cases hs with
  | lst a b => exact wpAny_pyNext_enum_endD (Draws.list (A := A.in1) hh it l hl items) he ⟨a, b⟩ hQ
  | tup a b => exact wpAny_pyNext_enum_endD (Draws.tuple (A := A.in1) hh it l hl items) he ⟨a, b⟩ hQ

theorem turn_enumG {P : Program} {w : World} {K : PySem.W.Frag} {elts : List Expr} {kk : Nat} {tpos : Pos} {k : Bool} (a e it : Addr) :
    Turn P w K (.Tuple elts kk tpos) (IteG K k a) [e, it] e (fun i h => (∃ old, IsEnum h e it ((i : Nat) : Int) old) ∧ ItB h k it a i ∧ e ≠ it ∧ e ≠ a ∧ a ≠ it) where
  mem := by simp
  obj := fun i h st b hb => by
    obtain ⟨⟨old, he⟩, hi, _⟩ := st
    have e' : b = e ∨ b = it := by simpa using hb
    rcases e' with z | z
    · rw [z]; exact ⟨_, he, fun v q => nomatch q⟩
    · rw [z]; exact hi.obj
  keep := fun i h h' st k => let ⟨⟨old, he⟩, hi, hne⟩ := st; ⟨⟨old, k e (by simp) _ he⟩, hi.at fun o q => k it (by simp) o q, hne⟩
  item := by
    intro X hP hw hK hc i pins s σ H E I hf st hg
    subst hP hw hK
    obtain ⟨⟨old, he⟩, hit, hne, hea, hai⟩ := st
    obtain ⟨xs, x, hq, hx⟩ := hg
    obtain ⟨its, rv, s1⟩ := srcB I hq hit
    obtain ⟨u, hu, ru⟩ := rv.get hx
    have hel : e < s.heap.objs.size := Heap.lt_size he
    have hil : it < s.heap.objs.size := by obtain ⟨_, q, _⟩ := hit.obj; exact Heap.lt_size q
    refine pyNextE_item (I.ok.hd hc) he s1 (x := u) (by simpa using hu) hne hea hai fun h' tk ho s1' hT hsz hk => ?_
    refine ⟨_, rfl, wpAny_letOwnedTupleGo_enum (s := { s with heap := h', toks := tk + 1 }) ho fun h'' he' sb => ?_⟩
    have hT2 : h''.get? s.heap.objs.size = some { cls := .type "tuple", data := .seq #[.int i tk, u] } := (sb.2 _ (Nat.ne_of_gt hel)).trans hT
    have new : ObjOk X.prog X.w (upd H s.heap.objs.size (.tup [.int (i : Nat), x])) h'' s.heap.objs.size (.tup [.int (i : Nat), x]) :=
      ⟨by show 2 ≤ sizeLine; decide, [.int i tk, u], .cons ⟨_, rfl⟩ (.cons ru .nil), ⟨_, hT2, rfl, _, rfl⟩⟩
    have I1 : L2.Inv X pins σ (upd H s.heap.objs.size (.tup [.int (i : Nat), x])) { s with heap := h'', toks := tk + 1 } :=
      I.turnedNew (ch := [e, it]) (fun b ob hb q => (sb.2 b (fun z => hb (by simp [z]))).trans (hk b ob (fun z => hb (by simp [z])) (fun z => hb (by simp [z])) q)) hf (Nat.le_refl _) new
    have kd : ItB h' k it a (i + 1) := by
      refine srcB_of hit h' s1' ?_ lt_apart
      unfold SqB at hq
      cases k with
      | true =>
        obtain ⟨us', rv', p, _⟩ := I.list hq
        cases s1' with
        | lst _ y => exact y
        | tup _ y =>
          obtain ⟨o, e1, e2, _⟩ := p.isList
          obtain ⟨o', e3, e4, _⟩ := y
          rw [hk a o hea.symm hai e1] at e3
          cases e3
          rw [e2] at e4
          exact absurd (Value.type.inj e4) (by decide)
      | false =>
        obtain ⟨us', rv', p, _⟩ := I.tuple hq
        cases s1' with
        | tup _ y => exact y
        | lst _ y =>
          obtain ⟨o, e1, e2, _⟩ := id p
          obtain ⟨o', e3, e4, _⟩ := y
          rw [hk a o hea.symm hai e1] at e3
          cases e3
          rw [e2] at e4
          exact absurd (Value.type.inj e4) (by decide)
    refine ⟨.ref s.heap.objs.size, _, I1, rfl, ⟨_, x, rfl, I.hok.fresh (Nat.le_refl _), rfl, fun ys hy => by rw [sqB_inj I hy hq]; exact hx⟩, ⟨⟨u, ?_⟩, kd.at fun o q => (sb.2 it (Ne.symm hne)).trans q, hne, hea, hai⟩, fun b hb => ?_⟩
    · have e1 : ((i + 1 : Nat) : Int) = (i : Int) + 1 := by omega
      rw [e1]; exact he'
    · have hb' : b < s.heap.objs.size := by
        have e' : b = e ∨ b = it := by simpa using hb
        rcases e' with z | z
        · rw [z]; exact hel
        · rw [z]; exact hil
      rw [upd_ne (Nat.ne_of_lt hb')]
      exact (hf b hb).1
  done := by
    intro X hP hw hK hc i pins s σ H E I hf st hg
    subst hP hw hK
    obtain ⟨⟨old, he⟩, hit, hne, hea, hai⟩ := st
    obtain ⟨xs, hq, hx⟩ := hg
    obtain ⟨its, rv, s1⟩ := srcB I hq hit
    obtain ⟨f0, f1, f2, f3, f4, f5⟩ := hf it (by simp)
    have hl := rv.length
    have e1 : i = its.toArray.size := by rw [List.size_toArray, ← hl]; exact hx.symm
    exact pyNextE_end (I.ok.hd hc) he (by rw [← e1]; exact s1) hai fun h' eb => ⟨rfl, I.turned (t' := s.toks) (fun b o hb q => eb b o hb q) f0 f1 f3 f4 f5⟩
  self := fun A i s Q E st h => let ⟨⟨_, he⟩, _⟩ := st; wpAny_pyIter_enum he h
theorem meets_enumT (l : Addr) (items : Array Value) :
    Meets (Builtin.«enumerate.__new__» ⟨[.type "enumerate", .ref l], []⟩) (fun _ R s => s.heap.IsTuple l items ∧
      R (.ok (.ret (.ref (s.heap.push { cls := .type "tuple_iterator", data := .fields #[.ref l, .int 0 0] }).objs.size)))
        { s with heap := (s.heap.push { cls := .type "tuple_iterator", data := .fields #[.ref l, .int 0 0] }).push { cls := .type "enumerate", data := .fields #[.none, .bool false, .ref s.heap.objs.size, rawInt 0, .none, .none] } }) :=
  .of_wp fun prog w A R s h => by
    obtain ⟨hp, g, d, tk, os⟩ := s; obtain ⟨hL, h⟩ := h
    have hL : Heap.IsTuple (Shared.heap ⟨hp, g, d, tk, os⟩) l items := hL
    have hsub := sub_enumerate
    obtain ⟨o, hl, hrest⟩ := id hL
    wp_walk using wpAny_loadPart' hl
    refine wpAny_stack_any fun st => wpAny_pure ?_
    split
    · rename_i c _ _ _ _ _
      cases (c == Value.type "enumerate")
      · wp_walk using wpAny_loadPart' hl, wpAny_pyIter_tuple hL
        exact ⟨_, rfl, h⟩
      · wp_walk using wpAny_loadPart' hl, wpAny_pyIter_tuple hL
        exact ⟨_, rfl, h⟩
    · wp_walk using wpAny_loadPart' hl, wpAny_pyIter_tuple hL
      exact ⟨_, rfl, h⟩
theorem call_enumT {prog : Program} {w : World} {A : Around} {E : Value → Shared → Prop} {s : Shared} {l : Addr} {items : Array Value} {Q : Value → Shared → Prop} (hL : s.heap.IsTuple l items)
    (h : ∀ h', IsEnum h' (s.heap.objs.size + 1) s.heap.objs.size 0 .none → h'.IsTupleIter s.heap.objs.size l 0 → h'.objs.size = s.heap.objs.size + 2 →
      (∀ b o, s.heap.get? b = some o → h'.get? b = some o) → Q (.ref (s.heap.objs.size + 1)) { s with heap := h' }) :
    wpAny (model prog w) A (call (.type "enumerate") [.ref l]) Q E s := by
  refine callType_new F.called_enumerate (by decide) (F.typeCall_enumerate_1 _) (F.newCall_enumerate_1 _) (fun obj => F.args_object_init_2 obj _) F.entry_enumerate_new
    (meets_enumT l items) ⟨hL, ?_⟩
  have hz : (s.heap.push { cls := .type "tuple_iterator", data := .fields #[.ref l, .int 0 0] }).objs.size = s.heap.objs.size + 1 := Heap.size_push ..
  show _ ∧ _
  rw [hz]
  have he : IsEnum ((s.heap.push { cls := .type "tuple_iterator", data := .fields #[.ref l, .int 0 0] }).push
      { cls := .type "enumerate", data := .fields #[.none, .bool false, .ref s.heap.objs.size, rawInt 0, .none, .none] }) (s.heap.objs.size + 1) s.heap.objs.size 0 .none := by
    have := Heap.get?_push_size (s.heap.push { cls := .type "tuple_iterator", data := .fields #[.ref l, .int 0 0] })
      (o := { cls := .type "enumerate", data := .fields #[.none, .bool false, .ref s.heap.objs.size, rawInt 0, .none, .none] }) rfl
    rw [hz] at this; exact this
  refine ⟨⟨_, he, rfl⟩, h _ he ⟨_, Heap.get?_push_of_some _ (Heap.get?_push_size _ rfl), rfl, rfl⟩ (by rw [Heap.size_push, hz]) fun b o x => Heap.get?_push_of_some _ (Heap.get?_push_of_some _ x)⟩
def iEnumG (K : PySem.W.Frag) (ta : TA) : TI := fun σ H R => ta σ H fun vs H1 => ∃ a k xs, vs = [.ref a] ∧ SqB K H1 k a xs ∧ R (IteG K k a) H1
theorem pi_enumG {X : Cx} {e : Expr} {ta : TA} {p pos tpos : Pos} {elts : List Expr} {kk : Nat} (hg : Gl X "enumerate") (hm : X.mg "enumerate" = none) (ha : PA X [e] ta) (hs : starEach [e] X.env = [(false, eval e X.env)]) :
    PI X (.Tuple elts kk tpos) (.Call (.Name "enumerate" p) [e] [] pos) (iEnumG X.K ta) := by
  refine ⟨fun pins s σ H R I h => ?_⟩
  refine Call_ (ld_blt I hg hm boot_enumerate (PyProof.Rows.callWith_type1 (thn (ha.run pos pins s σ H _ I h) fun us s1 ⟨vs, H1, I1, r1, q1⟩ => ?_) hs rfl))
  obtain ⟨a, k, xs, ex, hq, q⟩ := q1
  subst ex
  cases r1 with
  | cons r rr =>
    cases rr
    cases r
    obtain ⟨us, rx, sx, lx, tx⟩ := sqB_sq I1 hq
    have fin : ∀ h', IsEnum h' (s1.heap.objs.size + 1) s1.heap.objs.size 0 .none → ItB h' k s1.heap.objs.size a 0 → (∀ b o, s1.heap.get? b = some o → h'.get? b = some o) → wpAny (model X.prog X.w) X.A (pyIter (.ref (s1.heap.objs.size + 1))) (PIE X pins σ (.Tuple elts kk tpos) R) X.xe { s1 with heap := h' } := fun h' he hit hk => by
      refine wpAny_pyIter_enum he ?_
      have I2 : L2.Inv X pins σ H1 { s1 with heap := h' } := I1.kept (t' := s1.toks) hk
      refine ⟨s1.heap.objs.size + 1, [s1.heap.objs.size + 1, s1.heap.objs.size], _, _, H1, rfl, I2, turn_enumG a (s1.heap.objs.size + 1) s1.heap.objs.size, ⟨⟨.none, he⟩, hit, Nat.succ_ne_self _, Nat.ne_of_gt (Nat.lt_succ_of_lt lx), Nat.ne_of_lt lx⟩, fun b hb => ?_, q⟩
      have e' : b = s1.heap.objs.size + 1 ∨ b = s1.heap.objs.size := by simpa using hb
      have hle : s1.heap.objs.size ≤ b := by
        rcases e' with z | z
        · rw [z]; exact Nat.le_add_right _ _
        · rw [z]; exact Nat.le_refl _
      exact I1.fpOk hle (I1.hok.fresh hle)
    cases k with
    | true => exact call_enumerate_list tx fun h' he hit hsz hk => fin h' he hit hk
    | false => exact call_enumT tx fun h' he hit hsz hk => fin h' he hit hk
theorem wk_enumG {P : Pm} {H : Hp} {x : List D} {vs : List V} {p : Addr} {k : Bool} (at1 : ∀ P' H', Ext P H P' H' → SqB P.K H' k p vs ∧ RDs P' H' x vs) (ma : ∀ x, P.mu x → P.av x) : Wk P H (IteG P.K k p) (enumD x) := by
  have l1 := (at1 P H (Ext.refl ma)).2.length
  refine ⟨fun P' H' i e hi => ?_, fun P' H' e => ?_, fun P' H' i d z H'' e ma hd hy => ?_⟩
  · rw [enumD_len] at hi
    have i1 : i < vs.length := by omega
    exact ⟨vs, vs[i], (at1 P' H' e).1, List.getElem?_eq_getElem i1⟩
  · exact ⟨vs, (at1 P' H' e).1, by rw [enumD_len]; exact l1.symm⟩
  · obtain ⟨T, v, rfl, hn, rfl, f1⟩ := hy
    obtain ⟨b, g1, rfl⟩ := enumD_get hd
    obtain ⟨v', e1, r1⟩ := (at1 P' H' e).2.get g1
    cases (f1 _ (at1 P' H' e).1).symm.trans e1
    exact pair_gr ma hn rfl r1
section
variable {X : Cx} {W : Option WX} {a : Expr} {pos p1 tpos : Pos} {kk : Nat} {elts : List Expr} {fa : Fr → Sto → R D}
theorem gi_enum (hg : Gl X "enumerate") (hm : X.mg "enumerate" = none) (ha : GE X W a fa) (hs : starEach [a] X.env = (false, eval a X.env) :: starEach [] X.env) :
    GI X W (.Tuple elts kk tpos) (.Call (.Name "enumerate" p1) [a] [] pos) (fun φ S => (fa φ S).bind fun x φ S => (ofO (itemsD x) φ S).bind fun l φ S => .ok (enumD l) φ S) := by
  refine (pi_enumG hg hm (pa_cons ha pa_nil hs) hs).imp fun σ H Rr ⟨F, μ, φ, S, rl, po⟩ => ?_
  refine ⟨F, μ, φ, S, rl, PoI.fst po fun x φ1 S1 μ1 H1 v n1 r1 po1 => ?_⟩
  cases ex : itemsD x with
  | none => rw [ex] at po1; exact po1.elim
  | some l =>
    rw [ex] at po1
    have po1 : PoI X W F μ1 φ1 σ H1 (.ok (enumD l) φ1 S1) Rr := po1
    have kx : keepD x = true := by cases x <;> simp [itemsD] at ex <;> rfl
    obtain ⟨p, k, vs, rfl, at1⟩ := later_sq (r1.keep kx) ex
    have ma : ∀ x, (pm X F μ1 φ1 σ).mu x → (pm X F μ1 φ1 σ).av x := fun _ z => .inl z
    exact ⟨p, k, vs, rfl, (at1 _ H1 (Ext.refl ma)).1, po1.val n1.rl (wk_enumG at1 ma)⟩
end
end Gx
set_option Elab.async false
set_option linter.all false
set_option maxRecDepth 100000
set_option maxHeartbeats 2000000
/-! Gy1: super().__init__(..) within an exception's __init__, by the heap. -/
namespace Gy
open PySem PySem.Spec PySem.W PySem.Calls PyProof.Rows
abbrev eO (C : Addr) (d : Option Addr) (t : Addr) : Obj := { cls := .ref C, dict := d, data := .fields #[.ref t, .none, .none, .none, .bool false, .none] }
section
variable {prog : Program} {w : World} {A : Around} {E : Value → Shared → Prop} {h : Heap} {g : Array GenState} {d : Drawn} {t : Nat} {os : OsState}
variable {nm q : Str} {C N : Addr} {bs bm : List Value} {hdct : Bool} {sn : List Str} {sub : List Value} {ab : Bool} {col : Option Bool} {dd : Option Addr} {k0 k1 k2 k3 k5 : Option Value}
/-- the wrapper called: the args are laid anew -/
theorem call_mw {u e t0 : Addr} {rest : List Value} {Q : Value → Shared → Prop}
    (hC : h.get? C = some (excClassObj nm q C N bs bm hdct sn sub ab col dd k0 k1 k2 k3 k5 "ValueError.__new__")) (he : h.get? e = some (eO C none t0)) (hu : h.get? u = some (kxs_mw "ValueError.__init__" e)) (hrest : rest.length ≤ sizeLine)
    (hq : ∀ h' t1, (∀ b o, b ≠ e → h.get? b = some o → h'.get? b = some o) → h'.get? e = some (eO C none t1) → Q .none ⟨h', g, d, t, os⟩) :
    wpAny (model prog w) A (call (.ref u) rest) Q E ⟨h, g, d, t, os⟩ := by
  have FB := F.excBase_ValueError
  refine wpAny_call (codeAny_of_tree ?_)
  show wpAny _ A.in1 (callAny (.ref u) ⟨rest, []⟩) _ _ _
  simp only [callAny]
  refine wpAny_bind (wpAny_load hu ?_)
  simp only [kxs_mw, show (Value.type "method-wrapper" == Value.type "method" || Value.type "method-wrapper" == Value.type "builtin_function_or_method" || Value.type "method-wrapper" == Value.type "method-wrapper") = true by decide, if_true]
  refine KFB.if_so (by decide) ?_
  refine wpAny_bind (check_bound_init FB.toExcCallFacts hC he rfl ?_)
  refine wpAny_bind (wpAny_pure (wpAny_pure ?_))
  refine ⟨plainId_quiet FB.init.plain _, codeAny_builtin FB.initEntry ?_⟩
  exact exc_init_tree (cls := .ref C) (t0 := t0) (dv := none) (c2 := .none) (c3 := .none) (b4 := .bool false) he hrest fun h' k e' _ => hq h' _ k e'
end

/-- names as arguments -/
abbrev nmsE (l : List (Str × Pos)) : List PySem.Expr := l.map fun p => .Name p.1 p.2
section
variable {M : Model} {A : Around} {E : Value → Shared → Prop} {s : Shared} {env : Env} {m : Str → Option Value}
theorem spl_names {pos : Pos} (hk : env.scope.kind = .function) (hL : s.heap.Ns env.locals m) : ∀ (l : List (Str × Pos)) (us : List Value) (Q : List Value → Shared → Prop),
    l.map (fun p => m p.1) = us.map some → (∀ p ∈ l, env.kindOf p.1 = some .local ∧ (p.1 == ("__debug__" : Str)) = false) → Q us s → wpAny M A (spliced (backTo pos (starEach (nmsE l) env))) Q E s
  | [], [], Q, _, _, h => Calls.spliced_nil h
  | [], _ :: _, Q, e, _, _ => by simp at e
  | _ :: _, [], Q, e, _, _ => by simp at e
  | p :: l, u :: us, Q, e, k, h => by
    simp only [List.map_cons, List.cons.injEq] at e
    show wpAny _ _ (spliced ((false, eval (.Name p.1 p.2) env) :: backTo pos (starEach (nmsE l) env))) _ _ s
    obtain ⟨k1, k2⟩ := k p List.mem_cons_self
    refine Calls.spliced_cons (wpAny_Name (wpAny_loadName_local hk k1 hL e.1 ?_) k2)
    exact spl_names hk hL l us _ e.2 (fun q hq => k q (List.mem_cons_of_mem _ hq)) h
theorem plain_names {pos : Pos} : ∀ l : List (Str × Pos), (backTo pos (starEach (nmsE l) env)).any (·.1) = false
  | [] => rfl
  | p :: l => by
    show (false || (backTo pos (starEach (nmsE l) env)).any (·.1)) = false
    rw [plain_names l]; rfl
end

/-- what the written part says of the __init__ of the class at C -/
structure SupC (P : Program) (K : Frag) (mg : Str → Option Value) (C : Addr) (fd : FuncData) : Prop where
  gl : fd.globals = mainGlobals
  bl : fd.builtins = builtinsNs
  kind : fd.scope.kind = .function
  ks : fd.scope.names.lookup ("super" : Str) = some .globalImplicit
  kc : fd.scope.names.lookup ("__class__" : Str) = some .free
  clo : ∃ cc cl cld csl, fd.closure.lookup ("__class__" : Str) = some cc ∧ K.lookup cc = some ⟨cl, cld, .cell (some (.ref C)), csl⟩
  code : ∃ (cda : Addr) (ccl : Value) (cdd : Option Addr) (vs : Array Value) (ccs : Array (Option Value)) (file : Str) (tf : Tok), fd.code = .ref cda ∧ K.lookup cda = some ⟨ccl, cdd, .fields vs, ccs⟩ ∧ vs[2]? = some (.str file tf) ∧ ((P.main.file : Str) == file) = true
  top : (P.main.scope.names.lookup ("super" : Str)).isSome = false
  sup : mg "super" = none
  init : ks_superIn K C C "__init__" = some (some (.builtin "ValueError.__init__"))
  hB : subIn K (.ref C) (.type "ValueError") = some true
  any : nsIn K cStatics "thirdparty.any" = some none
  sub : mroIn K C (.ref C) = some true

section
variable {P : Program} {w : World} {A : Around} {E : Value → Shared → Prop} {s : Shared} {K : Frag} {mg m : Str → Option Value} {base : Heap} {C e t0 fI L : Addr} {fd : FuncData} {fo : Obj} {body : List Stmt} {slf : Arg} {p0 p1 p2 p3 p4 : Pos} {u0 : Value} {us : List Value} {l0 : Str × Pos} {l : List (Str × Pos)} {Q : Flow → Shared → Prop}
theorem sup_stmt (T : L2.OexC K C) (S : SupC P K mg C fd) (M0 : L2.Mod K mg base) (bk : ∀ b o, base.get? b = some o → s.heap.get? b = some o)
    (hf : s.heap.get? fI = some fo) (hfd : fo.data = .func fd) (hp : (fd.params.posonlyargs ++ fd.params.args).head? = some slf) (hsl : fd.scope.names.lookup slf.arg = some .local) (hsd : (slf.arg == ("__debug__" : Str)) = false)
    (hL : s.heap.Ns L m) (hv : m slf.arg = some (.ref e)) (he : s.heap.get? e = some (eO C none t0))
    (hn : (l0 :: l).map (fun p => m p.1) = (u0 :: us).map some) (hnl : ∀ p ∈ l0 :: l, fd.scope.names.lookup p.1 = some .local ∧ (p.1 == ("__debug__" : Str)) = false) (hz : (u0 :: us).length ≤ sizeLine)
    {pl : Sem Bool} (hev : eval (.Call (.Attribute (.Call (.Name "super" p0) [] [] p1) "__init__" p2) (nmsE (l0 :: l)) [] p3) (callEnv fd L fI) = (do
      let ov ← attributeBase (.Call (.Name "super" p0) [] [] p1) "__init__" (callEnv fd L fI) (eval (.Call (.Name "super" p0) [] [] p1) (callEnv fd L fI))
      standAt p2.atName
      let (f, first) ← holding [ov] (getMethod ov "__init__" pl)
      callWith p3 f first (backTo p3 (starEach (nmsE (l0 :: l)) (callEnv fd L fI))) []))
    (hq : ∀ h' tk' t1, (∀ b o, b ≠ e → s.heap.get? b = some o → h'.get? b = some o) → h'.get? e = some (eO C none t1) → Q .next { s with heap := h', toks := tk' }) :
    _root_.PySem.wpAt (model P w) A (.func body (callEnv fd L fI)) (exec (.Expr (.Call (.Attribute (.Call (.Name "super" p0) [] [] p1) "__init__" p2) (nmsE (l0 :: l)) [] p3) p4) (callEnv fd L fI)) Q E s := by
  obtain ⟨nm, q, N, bs, bm, sn, sub, ab, col, dd, k0, k1, k2, k3, k5, hC, hbm⟩ := T.cls
  obtain ⟨cc, cl, cld, csl, hcc, hcell⟩ := S.clo
  obtain ⟨cda, ccl, cdd, vs, ccs, file, tf, hco, hcode, hvs, hfile⟩ := S.code
  obtain ⟨mb, hb1, hb2⟩ := M0.blt
  have X : K.In s.heap := M0.kin.keeps bk
  have hcl : clsIn K C = some { name := nm, bases := bs, mro := .ref C :: bm, ns := N, qualname := q, hasDict := true, slotNames := sn, subclasses := sub, abstract := ab, collection := col, hasDel := false } := by unfold clsIn; rw [hC] <;> rfl
  have hCo := X _ _ hC
  have I : InstAt s.heap e (eO C none t0) C none := ⟨he, rfl, rfl, trivial⟩
  have heC : e ≠ C := ks_ne X I hcl
  have hkind : (callEnv fd L fI).scope.kind = .function := S.kind
  have hint : interactive (callEnv fd L fI) = false := by
    first
      | rfl
      | (unfold interactive; rw [hkind]; rfl)
      | (simp [interactive, hkind])
  refine ks_wpAt_Expr_any (Q := Q) ?_ hint
  refine ks_wpAt_MethodCall (pl := pl) ?_ hev
  obtain ⟨hh, g, d, t, os⟩ := s
  refine ks_wpAt_super_base (env := callEnv fd L fI) S.ks S.kc (by decide +kernel) rfl hf hfd hp hco (X _ _ hcode) rfl hvs hfile S.top ?_
  refine ks_loadName_global hkind S.ks (Calls.loadGlobal_builtin (env := callEnv fd L fI) (by show Heap.Ns _ fd.globals _; rw [S.gl]; exact M0.glob.keeps bk) S.sup (by show Heap.Ns _ fd.builtins _; rw [S.bl]; exact hb1.keeps bk) ((hb2 _ (by decide)).trans Boot.«super») ⟨rfl, ?_⟩)
  refine wpAny_loadName_free hkind S.kc hcc ⟨_, X _ _ hcell, rfl⟩ ?_
  refine wpAny_loadName_local hkind hsl hL hv ?_
  refine ks_wpAny_isType_cls hCo rfl ⟨rfl, ?_⟩
  refine ks_wpAny_call_super hCo rfl he rfl (fun c z => by cases z) (looks_mroIn X S.sub) (fun h1 e1 b1 => ?_)
  have X1 : K.In h1 := X.keeps b1
  have I1 : InstAt h1 e (eO C none t0) C none := ⟨b1 _ _ he, rfl, rfl, trivial⟩
  have hin := S.init
  unfold ks_superIn at hin
  rw [hcl] at hin
  refine kxs_getMethod kxs_ValueError e1 (looks_opaque X1 S.any) (l₀ := .ref C :: bm) ?_ rfl X1 hin (I1.type.andThen (looks_subIn X1 S.hB)) heC (by decide +kernel) ?_
  · exact fun A Q E s k q => wpAny_bind ((looks_clsIn X1 hcl) A _ E s k (wpAny_pure q))
  have k2 : ∀ b o, hh.get? b = some o → (h1.push (kxs_mw "ValueError.__init__" e)).get? b = some o := fun b o z => Heap.get?_push_of_some _ (b1 b o z)
  have hu : (h1.push (kxs_mw "ValueError.__init__" e)).get? h1.objs.size = some (kxs_mw "ValueError.__init__" e) := Heap.get?_push_at rfl rfl
  show wpAny _ _ (callWith p3 (.ref h1.objs.size) [] (backTo p3 (starEach (nmsE (l0 :: l)) (callEnv fd L fI))) []) _ _ _
  have hL2 : (h1.push (kxs_mw "ValueError.__init__" e)).Ns L m := hL.keeps k2
  refine kxs_callWith (i := "ValueError.__init__") (x := e) (plain_names _) (Calls.evalArgs_plain (f := .ref h1.objs.size) (spl_names (pos := p3) hkind hL2 (l0 :: l) (u0 :: us) _ hn hnl ⟨hu, ?_⟩))
  refine call_mw (k2 _ _ hCo) (k2 _ _ he) hu hz fun h' t1 k e' => ?_
  exact hq h' _ t1 (fun b o hb z => k b o hb (k2 b o z)) e'
end
end Gy
set_option Elab.async false
set_option linter.all false
set_option maxRecDepth 100000
set_option maxHeartbeats 2000000
/-! Gy2: self.f = x within an exception's __init__, by the heap. -/
namespace Gy
open PySem PySem.Spec PySem.W PySem.Calls PyProof.Rows
section
variable {P : Program} {w : World} {A : Around} {E : Value → Shared → Prop} {s : Shared} {K : Frag} {m : Str → Option Value} {C e t1 dx L fI : Addr} {fd : FuncData} {f x slf : Str} {q1 q2 q3 q4 : Pos} {u : Value} {Q : Flow → Shared → Prop}
theorem st_base (hkind : fd.scope.kind = .function) (hL : s.heap.Ns L m) (hsl : fd.scope.names.lookup slf = some .local) (hsd : (slf == ("__debug__" : Str)) = false) (hv : m slf = some (.ref e))
    (hxl : fd.scope.names.lookup x = some .local) (hxd : (x == ("__debug__" : Str)) = false) (hx : m x = some u)
    (h : wpAny (model P w) A (setAttr (.ref e) f u) (fun _ => Q .next) E s) (hs : swapsWith (.Name x q4) (some (.Attribute (.Name slf q1) f q2)) q3.line (callEnv fd L fI) = pure false := by rfl) :
    wpAny (model P w) A (exec (.Assign [.Attribute (.Name slf q1) f q2] (.Name x q4) q3) (callEnv fd L fI)) Q E s := by
  refine plainObj_wpAny_Assign_Attribute (wpAny_Name (wpAny_loadName_local hkind hxl hL hx ?_) hxd) hs
  exact wpAny_Name (wpAny_loadName_local hkind hsl hL hv h) hsd
theorem st_new (T : L2.OexC K C) (X : K.In s.heap) (he : s.heap.get? e = some (eO C none t1)) (hno : findIn K (.ref C) f = some none)
    {Q : Unit → Shared → Prop}
    (h : ∀ h' tk' dx, (∀ b o, b ≠ e → s.heap.get? b = some o → h'.get? b = some o) → s.heap.objs.size ≤ dx → dx ≠ e → h'.get? e = some (eO C (some dx) t1) → h'.Ns1 dx (fun y => if y = f then some u else none) → Q () { s with heap := h', toks := tk' }) :
    wpAny (model P w) A (setAttr (.ref e) f u) Q E s := by
  obtain ⟨nm, q, N, bs, bm, sn, sub, ab, col, dd, k0, k1, k2, k3, k5, hC, hbm⟩ := T.cls
  have hcl : clsIn K C = some { name := nm, bases := bs, mro := .ref C :: bm, ns := N, qualname := q, hasDict := true, slotNames := sn, subclasses := sub, abstract := ab, collection := col, hasDel := false } := by unfold clsIn; rw [hC] <;> rfl
  obtain ⟨hp, g, d, t, os⟩ := s
  refine set_plain X (ox := eO C none t1) (od := none) ⟨he, rfl, rfl, trivial⟩ T.sa ?_
  exact PySem.HandSPX.exc_osa X he hcl (show PySem.HandSPX.refsVE (.ref C :: bm) = true from hbm) rfl hno fun h' tk' dx k dn dne hx hn => h h' tk' dx k dn dne hx hn
theorem st_old (T : L2.OexC K C) (X : K.In s.heap) (he : s.heap.get? e = some (eO C (some dx) t1)) {m0 : Str → Option Value} {nl : List Str} (hns : s.heap.Ns1 dx m0) (hw : Within m0 nl) (hz : nl.length ≤ 1000) (hno : findIn K (.ref C) f = some none)
    {Q : Unit → Shared → Prop}
    (h : ∀ h' tk', (∀ b o, b ≠ dx → s.heap.get? b = some o → h'.get? b = some o) → h'.Ns1 dx (fun y => if y = f then some u else m0 y) → Q () { s with heap := h', toks := tk' }) :
    wpAny (model P w) A (setAttr (.ref e) f u) Q E s := by
  obtain ⟨nm, q, N, bs, bm, sn, sub, ab, col, dd, k0, k1, k2, k3, k5, hC, hbm⟩ := T.cls
  have hcl : clsIn K C = some { name := nm, bases := bs, mro := .ref C :: bm, ns := N, qualname := q, hasDict := true, slotNames := sn, subclasses := sub, abstract := ab, collection := col, hasDel := false } := by unfold clsIn; rw [hC] <;> rfl
  obtain ⟨hp, g, d, t, os⟩ := s
  obtain ⟨oD, _, _, hoD, _, _⟩ := hns.count hw
  refine set_plain X (ox := eO C (some dx) t1) (od := some oD) ⟨he, rfl, rfl, hoD⟩ T.sa ?_
  exact PySem.OEX.osa_old X he hns hw hz hcl (show PySem.HandSPX.refsVE (.ref C :: bm) = true from hbm) rfl hno fun h' tk' k hn => h h' tk' k hn
end
end Gy
set_option Elab.async false
set_option linter.all false
set_option maxRecDepth 100000
set_option maxHeartbeats 2000000
/-! Gy3: the fields of an exception, one after the other. -/
namespace Gy
open PySem PySem.Spec PySem.W PySem.Calls PyProof.Rows
/-- self.f = x; .. : field, its parameter, places -/
structure As where
  f : Str
  x : Str
  q1 : Pos
  q2 : Pos
  q3 : Pos
  q4 : Pos
abbrev As.st (slf : Str) (a : As) : Stmt := .Assign [.Attribute (.Name slf a.q1) a.f a.q2] (.Name a.x a.q4) a.q3
/-- what the dict says behind them -/
def putAs (m : Str → Option Value) : (Str → Option Value) → List As → Str → Option Value
  | m0, [] => m0
  | m0, a :: r => putAs m (fun y => if y = a.f then m a.x else m0 y) r
section
variable {P : Program} {w : World} {A : Around} {E : Value → Shared → Prop} {K : Frag} {m : Str → Option Value} {base : Heap} {C e t1 dx L fI : Addr} {fd : FuncData} {slf : Str}
theorem sts_old (T : L2.OexC K C) (kin : K.In base) (hkind : fd.scope.kind = .function) (hsl : fd.scope.names.lookup slf = some .local) (hsd : (slf == ("__debug__" : Str)) = false) (hv : m slf = some (.ref e)) (hLe : L ≠ dx) {Q : Flow → Shared → Prop} :
    ∀ (as : List As) (m0 : Str → Option Value) (nl : List Str) (s : Shared), (∀ b o, base.get? b = some o → s.heap.get? b = some o) → (∀ o, base.get? dx ≠ some o) → s.heap.Ns L m → s.heap.get? e = some (eO C (some dx) t1) → e ≠ dx →
      s.heap.Ns1 dx m0 → Within m0 nl → nl.length + as.length ≤ 1000 →
      (∀ a ∈ as, findIn K (.ref C) a.f = some none ∧ fd.scope.names.lookup a.x = some .local ∧ (a.x == ("__debug__" : Str)) = false ∧ (∃ u, m a.x = some u) ∧ swapsWith (.Name a.x a.q4) (some (.Attribute (.Name slf a.q1) a.f a.q2)) a.q3.line (callEnv fd L fI) = pure false) →
      (∀ h' tk', (∀ b o, b ≠ dx → s.heap.get? b = some o → h'.get? b = some o) → h'.Ns1 dx (putAs m m0 as) → Q .next { s with heap := h', toks := tk' }) →
      wpAny (model P w) A (execs (as.map (As.st slf)) (callEnv fd L fI)) Q E s
  | [], m0, nl, s, bk, nb, hL, he, ne, hns, hw, hz, ha, hq => wpAny_execs_nil (hq s.heap s.toks (fun b o _ z => z) hns)
  | a :: as, m0, nl, s, bk, nb, hL, he, ne, hns, hw, hz, ha, hq => by
    obtain ⟨hno, hxl, hxd, ⟨u, hu⟩, hsw⟩ := ha a List.mem_cons_self
    refine wpAny_execs_cons (st_base hkind hL hsl hsd hv hxl hxd hu (st_old T (kin.keeps bk) he hns hw (by omega) hno fun h' tk' k hn => ?_) hsw)
    show wpAny _ _ (execs (as.map (As.st slf)) _) _ _ _
    have e1 : (fun y => if y = a.f then some u else m0 y) = fun y => if y = a.f then m a.x else m0 y := by funext y; rw [hu]
    have hw2 : Within (fun y => if y = a.f then m a.x else m0 y) (a.f :: nl) := by rw [← e1]; exact Within.cons a.f u hw
    obtain ⟨oL, es, ep, hoL, hr⟩ := hL
    refine sts_old T kin hkind hsl hsd hv hLe as _ (a.f :: nl) _ (fun b o z => k b o (fun y => nb o (y ▸ z)) (bk b o z)) nb ⟨oL, es, ep, k L oL hLe hoL, hr⟩ (k e _ ne he) ne (by rw [← e1]; exact hn) hw2
      (by simp only [List.length_cons] at hz ⊢; omega) (fun b hb => ha b (List.mem_cons_of_mem _ hb)) fun h2 tk2 k2 hn2 => ?_
    exact hq h2 tk2 (fun b o hb z => k2 b o hb (k b o hb z)) hn2
end
end Gy
set_option Elab.async false
set_option linter.all false
set_option maxRecDepth 100000
set_option maxHeartbeats 2000000
/-! Gy4: the fields as values. -/
namespace Gy
open PySem PySem.Spec PySem.W PySem.Calls PyProof.Rows
open L2 (V Vals RelV RelO)
def fsOf : List (Str × V) → List As → List V → List (Str × V)
  | acc, a :: as, w :: ws => fsOf ((a.f, w) :: acc) as ws
  | acc, _, _ => acc
theorem fsOf_rel {m : Str → Option Value} : ∀ (as : List As) (acc : List (Str × V)) (m0 : Str → Option Value) (ws : List V) (us : List Value), (∀ g, RelO (acc.lookup g) (m0 g)) → Vals ws us → as.map (fun a => m a.x) = us.map some →
    ∀ g, RelO ((fsOf acc as ws).lookup g) (putAs m m0 as g)
  | [], acc, m0, ws, us, r, _, _ => by intro g; simpa [fsOf, putAs] using r g
  | a :: as, acc, m0, [], us, r, v, e => by cases v; simp at e
  | a :: as, acc, m0, w :: ws, us, r, v, e => by
    cases v with
    | @cons _ u _ ur ru rr =>
      simp only [List.map_cons, List.cons.injEq] at e
      show ∀ g, RelO ((fsOf ((a.f, w) :: acc) as ws).lookup g) (putAs m (fun y => if y = a.f then m a.x else m0 y) as g)
      refine fsOf_rel as _ _ ws ur (fun g => ?_) rr e.2
      rw [e.1]
      exact L2.relO_put ru r g
end Gy
set_option Elab.async false
set_option linter.all false
set_option maxRecDepth 100000
set_option maxHeartbeats 2000000
/-! Gy5: the promise of an exception's __init__ that says super().__init__(..) and keeps its arguments. -/
namespace Gy
open PySem PySem.Spec PySem.W PySem.Calls PyProof.Rows
open L2 (V Vals RelV RelO Hp HO FnOk Room Env0 CXT XK VK exo exd upd upd_same upd_ne)
structure InitC (P : Program) (K : Frag) (mg : Str → Option Value) (fI C : Addr) (fd : FuncData) (slf : Str) (nms : List (Str × Pos)) (p0 p1 p2 p3 p4 : Pos) (a0 : As) (as : List As) (ps : List Str) : Prop where
  oex : L2.OexC K C
  sup : SupC P K mg C fd
  lk : ∃ oc od osl, K.lookup fI = some ⟨oc, od, .func fd, osl⟩
  rec_ : codeIn K fd.code fd.qualname = true
  co : fd.scope.isCoroutine = false
  gen : fd.scope.isGenerator = false
  cell : ∀ x ∈ fd.scope.names, x.2 ≠ .cell
  pse : ps = slf :: nms.map (·.1)
  nd : ps.Nodup
  loc : ∀ x ∈ ps, fd.scope.names.lookup x = some .local ∧ (x == ("__debug__" : Str)) = false
  hd : ∃ ar, (fd.params.posonlyargs ++ fd.params.args).head? = some ar ∧ ar.arg = slf
  body : fd.body = .stmts (.Expr (.Call (.Attribute (.Call (.Name "super" p0) [] [] p1) "__init__" p2) (nmsE nms) [] p3) p4 :: (a0 :: as).map (As.st slf))
  flds : (a0 :: as).map As.x = nms.map (·.1)
  fno : ∀ a ∈ a0 :: as, findIn K (.ref C) a.f = some none
  few : as.length ≤ 100
  ev : ∀ L, ∃ pl : Sem Bool, eval (.Call (.Attribute (.Call (.Name "super" p0) [] [] p1) "__init__" p2) (nmsE nms) [] p3) (callEnv fd L fI) = (do
      let ov ← attributeBase (.Call (.Name "super" p0) [] [] p1) "__init__" (callEnv fd L fI) (eval (.Call (.Name "super" p0) [] [] p1) (callEnv fd L fI))
      standAt p2.atName
      let (f, first) ← holding [ov] (getMethod ov "__init__" pl)
      callWith p3 f first (backTo p3 (starEach (nmsE nms) (callEnv fd L fI))) [])
  sw : ∀ L, ∀ a ∈ a0 :: as, swapsWith (.Name a.x a.q4) (some (.Attribute (.Name slf a.q1) a.f a.q2)) a.q3.line (callEnv fd L fI) = pure false
/-- the promise -/
def spInit (C : Addr) (as : List As) : L2.Sp := fun vs H Q _ => ∃ (e : Addr) (ws : List V), vs = .ref e :: ws ∧ ws.length = as.length ∧ H e = some (exo e C none) ∧
  ∀ d, H d = none → d ≠ e → Q .non (upd (upd H d (exd d (fsOf [] as ws))) e (exo e C (some d)))

theorem lk_app : ∀ (l r : List (Str × Value)) (x : Str), (∀ p ∈ l, p.1 ≠ x) → (l ++ r).lookup x = r.lookup x
  | [], _, _, _ => rfl
  | p :: l, r, x, h => by
    obtain ⟨y, v⟩ := p
    have hy : y ≠ x := h (y, v) List.mem_cons_self
    have e : (x == y) = false := by simpa using fun z => hy z.symm
    show (match x == y with | true => some v | false => (l ++ r).lookup x) = _
    rw [e]
    exact lk_app l r x fun p hp => h p (List.mem_cons_of_mem _ hp)
theorem lk_app2 : ∀ (l r : List (Str × Value)) (x : Str) (v : Value), l.lookup x = some v → (l ++ r).lookup x = some v
  | [], _, _, _, h => by cases h
  | (y, u) :: l, r, x, v, h => by
    show (match x == y with | true => some u | false => (l ++ r).lookup x) = _
    have h' : (match x == y with | true => some u | false => l.lookup x) = some v := h
    cases e : (x == y) with
    | true => rw [e] at h'; exact h'
    | false => rw [e] at h'; exact lk_app2 l r x v h'
theorem zip_lookup : ∀ (ps : List Str) (us : List Value), ps.length = us.length → ps.Nodup → ps.map (fun x => (ps.zip us).reverse.lookup x) = us.map some
  | [], [], _, _ => rfl
  | [], _ :: _, h, _ => by simp at h
  | _ :: _, [], h, _ => by simp at h
  | p :: ps, u :: us, h, nd => by
    have nd' := List.nodup_cons.mp nd
    have ih := zip_lookup ps us (by simpa using h) nd'.2
    simp only [List.zip_cons_cons, List.reverse_cons, List.map_cons]
    congr 1
    · rw [lk_app _ _ _ fun q hq z => nd'.1 (by rw [← z]; exact (List.of_mem_zip (List.mem_reverse.mp hq)).1)]
      simp [List.lookup]
    · rw [← ih]
      refine List.map_congr_left fun x hx => ?_
      have hx2 : ∃ v, (ps.zip us).reverse.lookup x = some v := by
        have : some ((ps.zip us).reverse.lookup x) ∈ (us.map some).map some := by
          rw [← ih]
          exact List.mem_map.mpr ⟨_, List.mem_map.mpr ⟨x, hx, rfl⟩, rfl⟩
        obtain ⟨y, hy, e⟩ := List.mem_map.mp this
        obtain ⟨v, _, e2⟩ := List.mem_map.mp hy
        exact ⟨v, by rw [← Option.some.inj e, e2]⟩
      obtain ⟨v, hv⟩ := hx2
      rw [hv]
      exact lk_app2 _ _ _ _ hv
theorem init_fn {P : Program} {w : World} {K : Frag} {mg : Str → Option Value} {base : Heap} {CX : CXT} {k : Nat} {fI C : Addr} {fd : FuncData} {slf : Str} {nms : List (Str × Pos)} {p0 p1 p2 p3 p4 : Pos} {a0 : As} {as : List As} {ps : List Str}
    (I : InitC P K mg fI C fd slf nms p0 p1 p2 p3 p4 a0 as ps) : FnOk P w K mg base CX k fI fd ps (spInit C (a0 :: as)) := by
  have hlen : nms.length = as.length + 1 := by
    have := congrArg List.length I.flds
    simpa using this.symm
  refine ⟨fun vs H Q E ⟨e, ws, ev, hl, _⟩ => by rw [ev, I.pse, List.length_cons, List.length_cons, hl, List.length_map, List.length_cons, hlen], fun A outer s H args us vs Q E hr e0 hb r hsp => ?_⟩
  obtain ⟨e, ws, rfl, hl, hH, hq⟩ := hsp
  obtain ⟨oc, od, osl, lk⟩ := I.lk
  have KX : K.In s.heap := e0.mod.kin.keeps fun b o z => (e0.bs b o z).1
  have lim : s.heap.NoLimit := e0.mod.nolimit.keeps fun b o z => (e0.bs b o z).1
  cases r with
  | @cons _ u0 _ ur r0 rr =>
  obtain rfl : u0 = Value.ref e := r0
  obtain ⟨t1, he⟩ := L2.exo_at e0.hok hH
  have hus : ur.length = nms.length := by rw [← Paired.length rr, hl, List.length_cons, hlen]
  have hpl : ps.length = (Value.ref e :: ur).length := by rw [I.pse]; simp [hus]
  have hm := zip_lookup ps (Value.ref e :: ur) hpl I.nd
  generalize hmm : (fun x => (ps.zip (Value.ref e :: ur)).reverse.lookup x) = m at hm
  have hm2 : m slf = some (.ref e) ∧ (nms.map (·.1)).map m = ur.map some := by
    rw [I.pse] at hm
    simp only [List.map_cons, List.cons.injEq] at hm
    exact hm
  have hmn : nms.map (fun p => m p.1) = ur.map some := by rw [← hm2.2, List.map_map]; rfl
  have hma : (a0 :: as).map (fun a => m a.x) = ur.map some := by rw [← hm2.2, ← I.flds, List.map_map]; rfl
  have hslf := I.loc slf (by rw [I.pse]; exact List.mem_cons_self)
  have hnl : ∀ p ∈ nms, fd.scope.names.lookup p.1 = some .local ∧ (p.1 == ("__debug__" : Str)) = false := fun p hp => I.loc p.1 (by rw [I.pse]; exact List.mem_cons_of_mem _ (List.mem_map.mpr ⟨p, hp, rfl⟩))
  have hax : ∀ a ∈ a0 :: as, a.x ∈ ps := fun a ha => by
    rw [I.pse, ← I.flds]
    exact List.mem_cons_of_mem _ (List.mem_map.mpr ⟨a, ha, rfl⟩)
  have hau : ∀ a ∈ a0 :: as, ∃ u, m a.x = some u := fun a ha => by
    have : m a.x ∈ ur.map some := by rw [← hma]; exact List.mem_map.mpr ⟨a, ha, rfl⟩
    obtain ⟨v, _, e2⟩ := List.mem_map.mp this
    exact ⟨v, e2.symm⟩
  obtain ⟨ar, hhd, har⟩ := I.hd
  have hkind := I.sup.kind
  refine ks_codeAny_call_defAt hr.depth (KX _ _ lk) rfl lim (codeRec_of KX I.rec_) I.body hb I.cell (fun x hx => (I.loc x.1 (List.of_mem_zip (show (x.1, x.2) ∈ _ from hx)).1).1) (fun h₀ hns hk => ?_) I.co I.gen I.sup.kind
  rw [hmm] at hns
  have bk0 : ∀ b o, base.get? b = some o → h₀.get? b = some o := fun b o z => hk b o (e0.bs b o z).1
  obtain ⟨n0, nr, enms⟩ : ∃ n0 nr, nms = n0 :: nr := by
    cases hc : nms with
    | nil => rw [hc] at hlen; cases hlen
    | cons a b => exact ⟨a, b, rfl⟩
  obtain ⟨v0, vr, eur⟩ : ∃ v0 vr, ur = v0 :: vr := by
    cases hc : ur with
    | nil => rw [hc, hlen] at hus; cases hus
    | cons a b => exact ⟨a, b, rfl⟩
  obtain ⟨pl, hev⟩ := I.ev s.heap.objs.size
  refine ks_wpAt_execs_cons ?_
  have hbne : ∀ o, base.get? e ≠ some o := fun o z => by
    have := (e0.bs e o z).2
    rw [hH] at this
    cases this
  have lt : ∀ {b : Addr} {o : Obj}, s.heap.get? b = some o → b < s.heap.objs.size := fun z => Heap.lt_size z
  rw [enms] at hev hmn hnl ⊢
  rw [eur] at hmn
  refine sup_stmt (m := m) (slf := ar) I.oex I.sup e0.mod bk0 (hk _ _ (KX _ _ lk)) rfl hhd (by rw [har]; exact hslf.1) (by rw [har]; exact hslf.2) hns (by rw [har]; exact hm2.1) (hk _ _ he) hmn hnl ?_ hev fun h1 tk1 t2 k1 e1 => ?_
  · rw [← eur, hus, hlen, sizeLine_eq]
    have := I.few
    omega
  show _root_.PySem.wpAt _ _ _ (execs ((a0 :: as).map (As.st slf)) _) _ _ _
  refine _root_.PySem.wpAt_of_wpAny ?_
  obtain ⟨oL, es, ep, hoL, hr2⟩ := hns
  have hLe : s.heap.objs.size ≠ e := fun z => Nat.lt_irrefl _ (by have := lt he; rw [z] at this; exact this)
  have hL1 : h1.Ns s.heap.objs.size m := ⟨oL, es, ep, k1 _ _ hLe hoL, hr2⟩
  have bk1 : ∀ b o, base.get? b = some o → h1.get? b = some o := fun b o z => k1 b o (fun y => hbne o (y ▸ z)) (bk0 b o z)
  have ha0 := hau a0 List.mem_cons_self
  obtain ⟨ua, hua⟩ := ha0
  have hx0 := I.loc _ (hax a0 List.mem_cons_self)
  refine wpAny_execs_cons (st_base hkind hL1 hslf.1 hslf.2 hm2.1 hx0.1 hx0.2 hua (st_new I.oex (e0.mod.kin.keeps bk1) e1 (I.fno a0 List.mem_cons_self) fun h2 tk2 dx k2 dge dne e2 hn2 => ?_) (I.sw _ a0 List.mem_cons_self))
  show wpAny _ _ (execs (as.map (As.st slf)) _) _ _ _
  have sz1 : s.heap.objs.size < h1.objs.size := Heap.lt_size (k1 _ _ hLe hoL)
  have hLdx : s.heap.objs.size ≠ dx := Nat.ne_of_lt (Nat.lt_of_lt_of_le sz1 dge)
  have hL2 : h2.Ns s.heap.objs.size m := ⟨oL, es, ep, k2 _ _ hLe (k1 _ _ hLe hoL), hr2⟩
  have bk2 : ∀ b o, base.get? b = some o → h2.get? b = some o := fun b o z => k2 b o (fun y => hbne o (y ▸ z)) (bk1 b o z)
  have sdx : ∀ {o : Obj}, s.heap.get? dx = some o → False := fun z => Nat.lt_irrefl _ (Nat.lt_of_lt_of_le (Nat.lt_trans (lt z) sz1) dge)
  have nbdx : ∀ o, base.get? dx ≠ some o := fun o z => sdx (e0.bs dx o z).1
  have eq0 : (fun y => if y = a0.f then some ua else none) = fun y => if y = a0.f then m a0.x else none := by funext y; rw [hua]
  refine sts_old I.oex e0.mod.kin hkind hslf.1 hslf.2 hm2.1 hLdx as (fun y => if y = a0.f then m a0.x else none) [a0.f] _ bk2 nbdx hL2 e2 (Ne.symm dne) (by rw [← eq0]; exact hn2)
    (by rw [← eq0]; exact Within.cons a0.f ua Within.nil) (by have := I.few; simp only [List.length_cons, List.length_nil]; omega)
    (fun a ha => ⟨I.fno a (List.mem_cons_of_mem _ ha), (I.loc _ (hax a (List.mem_cons_of_mem _ ha))).1, (I.loc _ (hax a (List.mem_cons_of_mem _ ha))).2, hau a (List.mem_cons_of_mem _ ha), I.sw _ a (List.mem_cons_of_mem _ ha)⟩) fun h3 tk3 k3 hn3 => ?_
  have all : ∀ b o, b ≠ e → s.heap.get? b = some o → h3.get? b = some o := fun b o hb z => k3 b o (fun y => sdx (y ▸ z)) (k2 b o hb (k1 b o hb (hk b o z)))
  have e3 : h3.get? e = some (eO C (some dx) t2) := k3 e _ (Ne.symm dne) e2
  have hnd : H dx = none := e0.hok.fresh (Nat.le_trans (Nat.le_of_lt sz1) dge)
  have rel : ∀ g, RelO ((fsOf [] (a0 :: as) ws).lookup g) (putAs m (fun _ => none) (a0 :: as) g) := fsOf_rel (a0 :: as) [] _ ws ur (fun g => True.intro) rr hma
  have na : ∀ {b : Addr}, H b = none → b ≠ e := fun {b} n z => by rw [z, hH] at n; cases n
  have nd : ∀ {b : Addr} {o : Obj}, s.heap.get? b = some o → b ≠ dx := fun {b o} z y => sdx (y ▸ z)
  refine ⟨.non, upd (upd H dx (exd dx (fsOf [] (a0 :: as) ws))) e (exo e C (some dx)), rfl, e0.bare, ?_, fun b o q => ?_, rfl, hq dx hnd dne⟩
  · exact {
      keep := fun b o q n _ _ => all b o (na n) q
      slot := fun b o q n _ _ => ⟨o.slots, all b o (na n) q⟩
      free := fun b o q n _ => by rw [upd_ne (na n), upd_ne (nd q)]; exact n
      there := fun b o q _ => by
        by_cases hb : b = e
        · exact ⟨_, by rw [hb]; exact e3⟩
        · exact ⟨o, all b o hb q⟩
      tups := fun b xs q => by rw [upd_ne (L2.at_ne hH q L2.exo_tup), upd_ne (L2.ne_of_none q hnd)]; exact q
      frzs := fun b o v q => by rw [upd_ne (L2.at_ne hH q L2.exo_frz), upd_ne (L2.ne_of_none q hnd)]; exact q
      tbls := fun b ps q => ⟨#[], by rw [upd_ne (L2.at_ne hH q L2.exo_tbl), upd_ne (L2.ne_of_none q hnd), q]; simp⟩ }
  · by_cases hbe : b = e
    · subst hbe
      rw [upd_same] at q
      cases q
      exact L2.exo_ok e3
    · rw [upd_ne hbe] at q
      by_cases hbd : b = dx
      · subst hbd
        rw [upd_same] at q
        cases q
        exact L2.exd_ok hn3 rel
      · rw [upd_ne hbd] at q
        exact (e0.hok b o q).stay (fun c v hc z => all c v (by
            rcases hc with hc | hc
            · rw [hc]
              exact hbe
            · exact L2.at_ne hH hc L2.exo_own) z)
          (fun c hc => by rw [upd_ne (L2.at_ne hH hc L2.exo_own), upd_ne (L2.ne_of_none hc hnd)]; exact hc) (fun c xs hc => by rw [upd_ne (L2.at_ne hH hc L2.exo_tup), upd_ne (L2.ne_of_none hc hnd)]; exact hc)
end Gy
set_option Elab.async false
set_option linter.all false
set_option maxRecDepth 100000
set_option maxHeartbeats 2000000
/-! Gy6: errors as values: made by a call of their class, their fields, isinstance. -/
namespace Gy
open PySem PySem.Spec PyProof.Rows
open L2
theorem lay3 {H : Hp} {a d : Addr} {x y z : HO} (h : d ≠ a) : upd (upd (upd H a x) d y) a z = upd (upd H d y) a z := by
  funext b
  by_cases hb : b = a
  · rw [hb, upd_same, upd_same]
  · rw [upd_ne hb, upd_ne hb]
    by_cases hd : b = d
    · rw [hd, upd_same, upd_same]
    · rw [upd_ne hd, upd_ne hb, upd_ne hd]
section
variable {X : Cx} {e : Expr} {es : List Expr} {ta : TA} {te : TE} {p pos : Pos}
/-- C(e, ..), C's __init__ keeping its arguments: a new error -/
theorem pe_mk {x : Str} {C fI : Addr} {k : Nat} {fd : FuncData} {ps : List Str} {as : List As} (T : OexC X.K C) (iC : PySem.W.findIn X.K (.ref C) "__init__" = some (some (.ref fI))) (tI : PySem.W.typeIn X.K (.ref fI) = some (.type "function"))
    (F1 : FnOk X.prog X.w X.K X.mg X.base CX0 k fI fd ps (spInit C as)) (hr : Room (k + 1) X.A) (hb : Binds X.K fd ps []) (hg : Gl X x) (hm : X.mg x = some (.ref C)) (ha : PA X (e :: es) ta)
    (hdb : (x == ("__debug__" : Str)) = false) (he : starEach (e :: es) X.env = (false, eval e X.env) :: starEach es X.env) (hpl : (backTo pos (starEach es X.env)).any (·.1) = false) :
    PE X (.Call (.Name x p) (e :: es) [] pos) (fun σ H Q => ta σ H fun vs H1 => vs.length = as.length ∧ as.length ≤ 1000 ∧ ∀ a d, H1 a = none → H1 d = none → d ≠ a → Q (.ref a) (upd (upd H1 d (exd d (fsOf [] as vs))) a (exo a C (some d)))) := by
  refine ⟨fun pins s σ H Q I h => ?_⟩
  obtain ⟨nm, q, N, bs, bm, sn, sub, ab, col, dd, k0, k1, k2, k3, k5, hC, hbm⟩ := T.cls
  refine wpAny_Call_Name_kw (ld_glob I hg hm ?_ hdb)
  refine PySem.W.callWith_K (h₀ := X.base) I.ok.mod.kin T.kC (thn (ha.run pos pins s σ H _ I h) fun us s1 ⟨vs, H1, I1, r1, hz, hz2, q1⟩ => ⟨I1.kIn, ?_⟩) he hpl
  show wpAny _ _ (call (.ref C) us) _ _ _
  obtain ⟨hp, g, dr, tk, os⟩ := s1
  have hsz : hp.objs.size ≤ hp.objs.size + 1 := Nat.le_succ _
  have hn : H1 (hp.objs.size + 1) = none := I1.hok.fresh hsz
  have kk : ∀ b o, hp.get? b = some o → ((hp.push (PySem.W.kdv_tup us)).push (PySem.HandSPX.excO C hp.objs.size)).get? b = some o := fun b o e => Heap.get?_push_of_some _ (Heap.get?_push_of_some _ e)
  have hget : ((hp.push (PySem.W.kdv_tup us)).push (PySem.HandSPX.excO C hp.objs.size)).get? (hp.objs.size + 1) = some (PySem.HandSPX.excO C hp.objs.size) := by heap_get
  have I2 : Inv X pins σ (upd H1 (hp.objs.size + 1) (exo (hp.objs.size + 1) C none)) ⟨(hp.push (PySem.W.kdv_tup us)).push (PySem.HandSPX.excO C hp.objs.size), g, dr, tk, os⟩ :=
    I1.laid (t' := tk) (a := hp.objs.size + 1) (o := exo (hp.objs.size + 1) C none) (h' := (hp.push (PySem.W.kdv_tup us)).push (PySem.HandSPX.excO C hp.objs.size)) kk hsz (exo_ok hget)
  have r2 : Vals (V.ref (hp.objs.size + 1) :: (vs ++ [])) (Value.ref (hp.objs.size + 1) :: (us ++ [])) := .cons rfl (r1.append .nil)
  have hq : spInit C as (V.ref (hp.objs.size + 1) :: (vs ++ [])) (upd H1 (hp.objs.size + 1) (exo (hp.objs.size + 1) C none)) (fun v H2 => v = .non ∧ Q (.ref (hp.objs.size + 1)) H2) E0 := by
    refine ⟨hp.objs.size + 1, vs, by rw [List.append_nil], hz, upd_same, fun d hd hda => ⟨rfl, ?_⟩⟩
    rw [lay3 hda]
    exact q1 _ d hn (by rw [upd_ne hda] at hd; exact hd) hda
  have hl : (Value.ref (hp.objs.size + 1) :: us ++ []).length = ps.length := by
    have e := r2.length
    rw [F1.len _ _ _ _ hq] at e
    exact e.symm
  have hus : us.length ≤ sizeLine := by
    rw [← Paired.length r1, sizeLine_eq]
    omega
  have hbb := hb ⟨(hp.push (PySem.W.kdv_tup us)).push (PySem.HandSPX.excO C hp.objs.size), g, dr, tk, os⟩ (Value.ref (hp.objs.size + 1) :: us) I2.kIn hl
  rw [List.cons_append] at hbb
  refine wpAny_call (PySem.HandSPX.call_own F.excBase_ValueError (fun Y => PySem.HandSPX.refsVE_contains Y bm hbm) (I1.kIn _ _ hC) (PySem.W.looks_findIn I1.kIn iC) (fun self => PySem.W.bind_fn I1.kIn self tI) hus
    (codeAny_mono (F1.run _ X.stack _ _ ⟨Value.ref (hp.objs.size + 1) :: us, []⟩ (Value.ref (hp.objs.size + 1) :: (us ++ [])) _ _ E0 (hr.make C us []) (I2.env0.make C us []) hbb r2 hq) fun r s' hq' => ?_))
  cases r with
  | error er => exact hq'.elim
  | ok fl =>
    cases fl with
    | ret u =>
      obtain ⟨v, H2, I3, rv, ev, q2⟩ := I2.after hq'
      subst ev
      exact ⟨rv, .ref (hp.objs.size + 1), H2, I3, rfl, q2⟩
    | next => exact False.elim hq'
    | brk => exact False.elim hq'
    | cont => exact False.elim hq'
/-- C(), C without an __init__ of its own -/
theorem pe_mk0 {C : Addr} {bmB : List Value} {B newId initId : String} {x : Str} (F : ExcBaseFacts B newId initId bmB) (q : PySem.W.excIn X.K C bmB newId = true) (hm : X.mg x = some (.ref C)) (kC : PySem.W.keepIn X.K (.ref C) = true) (hg : Gl X x)
    (hdb : (x == ("__debug__" : Str)) = false) : PE X (.Call (.Name x p) [] [] pos) (fun σ H Q => ∀ a, H a = none → Q (.ref a) (upd H a (exo a C none))) := by
  refine ⟨fun pins s σ H Q I h => ?_⟩
  refine wpAny_Call_Name_kw (ld_glob I hg hm ?_ hdb)
  refine PySem.W.callWith_K0 I.kIn kC ?_
  show wpAny _ _ (call (.ref C) []) _ _ _
  obtain ⟨bm, N, nm, qn, bs, hdct, sn, sub, ab, col, dd, k0, k1, k2, k3, k5, mN, hC, hN, hni, T⟩ := exc_obj I.kIn q
  obtain ⟨hp, g, dr, tk, os⟩ := s
  refine wpAny_call_exc_subT F T hC hN hni (fun h' a hm => ?_) (Nat.zero_le _)
  have hn : H a = none := I.hok.gone hm.new
  obtain ⟨t, ht, _, _⟩ := hm.there
  exact ⟨.ref a, upd H a (exo a C none), I.laidN hm.keeps hm.new hn (exo_ok ht), rfl, h a hn⟩
/-- e.f of such an error -/
theorem pe_fldE {f : Str} (he : PE X e te) (hb : attributeBase e f X.env (eval e X.env) = eval e X.env) :
    PE X (.Attribute e f pos) (fun σ H Q => te σ H fun x H1 => ∃ a C dx kvs v, x = .ref a ∧ XfC X.K C ∧ PySem.W.findIn X.K (.ref C) f = some none ∧ Rd H1 a (exo a C (some dx)) ∧ Rd H1 dx (exd dx kvs) ∧ kvs.lookup f = some v ∧ Q v H1) := by
  refine ⟨fun pins s σ H Q I h => ?_⟩
  refine attr_of hb (thn (he.run pins s σ H _ I h) fun u s1 hh => ?_)
  obtain ⟨x, H1, I1, rx, a, C, dx, kvs, v, ex, T, hno, r1, r2, l, q⟩ := hh
  subst ex
  obtain rfl : u = Value.ref a := rx
  obtain ⟨⟨t1, ho⟩, _, _⟩ := r1.ok I1.hok
  obtain ⟨⟨mA, hns, hr⟩, _, _⟩ := r2.ok I1.hok
  obtain ⟨od, hod, hl⟩ := lookIn_ns hns
  obtain ⟨u, hu, ru⟩ := RelO.some_of (v := v) (o := mA f) (by rw [← l]; exact hr f)
  have J : PySem.W.InstAt s1.heap a { cls := .ref C, dict := some dx, data := .fields #[.ref t1, .none, .none, .none, .bool false, .none] } C (some od) := ⟨ho, rfl, rfl, hod⟩
  exact HandSPX.exc_get I1.kIn J T.ga T.gg T.exC (PySem.W.findObj_own T.hdC hno rfl (by rw [hl, hu])) (handed_of ru) ⟨v, H1, I1.tok _, ru, q⟩
/-- isinstance(e, c) of such an error -/
def rIsV (K : PySem.W.Frag) : List V → Hp → VK → Prop := fun xs H Q => ∃ (a C : Addr) (o : Option Addr) (c : V) (cv : Value) (b : Bool), xs = [.ref a, c] ∧ ClsV c cv ∧ ExcC K C ∧ (PySem.W.clsIn K C).isSome = true ∧ Rd H a (exo a C o) ∧ (∀ dx, o = some dx → ∃ kvs, Rd H dx (exd dx kvs)) ∧ PySem.W.kitOne K (.ref C) cv = some b ∧ Q (.bl b) H
theorem call_isV : CallR X (.builtin "isinstance") (rIsV X.K) := by
  intro pins s σ H xs us Q I r h
  obtain ⟨a, C, o, c, cv, b, rfl, k, T, hcl, ra, rd, e, q⟩ := h
  obtain ⟨u1, u2, rfl, r1, r2⟩ := vals2 r
  have e2 := k.eq r2
  subst e2
  obtain rfl : u1 = Value.ref a := r1
  obtain ⟨⟨t1, ho⟩, _, _⟩ := ra.ok I.hok
  have J : ∃ od, PySem.W.InstAt s.heap a { cls := .ref C, dict := o, data := .fields #[.ref t1, .none, .none, .none, .bool false, .none] } C od := by
    cases o with
    | none => exact ⟨none, ho, rfl, rfl, True.intro⟩
    | some dx =>
      obtain ⟨kvs, r⟩ := rd dx rfl
      obtain ⟨⟨mA, ⟨od, _, _, hod, _⟩, _⟩, _, _⟩ := r.ok I.hok
      exact ⟨some od, ho, rfl, rfl, hod⟩
  obtain ⟨od, J⟩ := J
  exact PySem.W.kia_one (PySem.W.kitx_exc hcl T.hg T.hk T.hs T.ha T.hn T.ht T.hm) I.kIn J e (fun z => nomatch z) fun tk => ⟨.bl b, H, I.kept (t' := tk) fun _ _ z => z, rfl, q⟩
end
end Gy
set_option Elab.async false
set_option linter.all false
set_option maxRecDepth 100000
set_option maxHeartbeats 2000000
/-! Gy7: several except clauses, each with a name or without. -/
namespace Gy
open PySem PySem.Spec PyProof.Rows
open L2
/-- a clause: its class, the slot of its name, its suite's reading -/
structure Cl where
  c : Value
  i : Option Nat
  ts : Addr → Value → Option Addr → TS
/-- behind a suite the name is gone -/
def endN (i : Nat) (D : Ends) : Ends :=
  { nx := fun σ H => D.nx (σ.set i none) H, rt := D.rt, bk := fun σ H => D.bk (σ.set i none) H, ct := fun σ H => D.ct (σ.set i none) H }
def suiteW (k : Cl) (D : Ends) : WX := fun cls d σ H => ∀ a, H a = none → match k.i with
  | none => k.ts a cls d D σ H
  | some i => k.ts a cls d (endN i D) (σ.set i (some (.ref a))) H
def wCls (K : PySem.W.Frag) (Wout : WX) (D : Ends) : List Cl → WX
  | [] => Wout
  | k :: r => fun cls d σ H => ∃ b, PySem.W.exmOne K cls k.c = some b ∧ (b = true → suiteW k D cls d σ H) ∧ (b = false → wCls K Wout D r cls d σ H)
/-- the clauses as they are written -/
inductive ClsOk (X : Cx) : List ExceptHandler → List Cl → Prop
  | nil : ClsOk X [] []
  | bare {x : Str} {k : Cl} {st : Stmt} {su : List Stmt} {p1 p2 : Pos} {hs : List ExceptHandler} {ks : List Cl} (hi : k.i = none) (nm : Names X x k.c)
      (rd : ∀ a oe cls d pn, Zc cls d oe → (∃ vs, oe.data = .fields vs) → PSs (X.suite a ((a, oe) :: pn)) (st :: su) (k.ts a cls d)) (tl : ClsOk X hs ks) :
      ClsOk X (.ExceptHandler (some (.Name x p1)) none (st :: su) p2 :: hs) (k :: ks)
  | named {x n : Str} {i : Nat} {k : Cl} {st : Stmt} {su : List Stmt} {p1 p2 : Pos} {hs : List ExceptHandler} {ks : List Cl} (hi : k.i = some i) (hn : X.N[i]? = some n) (hl : X.env.kindOf n = some .local) (nm : Names X x k.c)
      (rd : ∀ a oe cls d pn, Zc cls d oe → (∃ vs, oe.data = .fields vs) → PSs (X.suite a ((a, oe) :: pn)) (st :: su) (k.ts a cls d)) (tl : ClsOk X hs ks) :
      ClsOk X (.ExceptHandler (some (.Name x p1)) (some n) (st :: su) p2 :: hs) (k :: ks)
section
variable {X : Cx} {pins : List (Addr × Obj)} {D : Ends} {f : Flow} {s : Shared}
theorem sp_ofTry {xe : Value → Shared → Prop} (ok : X.Ok) (h : SP (X.tr (X.pn ++ pins) xe) [] D f s) : SP X pins D f s := by
  cases f with
  | ret u => exact h.elim fun v h => h.elim fun σ h => h.elim fun H h => ⟨v, σ, H, h.1.ofTry ok, h.2⟩
  | next => exact h.elim fun σ h => h.elim fun H h => ⟨σ, H, h.1.ofTry ok, h.2⟩
  | brk => exact h.elim fun σ h => h.elim fun H h => ⟨σ, H, h.1.ofTry ok, h.2⟩
  | cont => exact h.elim fun σ h => h.elim fun H h => ⟨σ, H, h.1.ofTry ok, h.2⟩
theorem sp_unsuite {a : Addr} {q : Addr × Obj} (ok : X.Ok) (h : SP (X.suite a (q :: (X.pn ++ pins))) [] D f s) : SP X pins D f s := by
  cases f with
  | ret u => exact h.elim fun v h => h.elim fun σ h => h.elim fun H h => ⟨v, σ, H, h.1.unsuite ok, h.2⟩
  | next => exact h.elim fun σ h => h.elim fun H h => ⟨σ, H, h.1.unsuite ok, h.2⟩
  | brk => exact h.elim fun σ h => h.elim fun H h => ⟨σ, H, h.1.unsuite ok, h.2⟩
  | cont => exact h.elim fun σ h => h.elim fun H h => ⟨σ, H, h.1.unsuite ok, h.2⟩
/-- the name of the clause goes, whichever way the suite ends -/
theorem sp_gone {a : Addr} {q : Addr × Obj} {i : Nat} {n : Str} {p : Pos} (ok : X.Ok) (nd : X.N.Nodup) (hn : X.N[i]? = some n) (hl : X.env.kindOf n = some .local) (h : SP (X.suite a (q :: (X.pn ++ pins))) [] (endN i D) f s) :
    wpAny (model X.prog X.w) X.A (do bindName X.env n .none; unbindBehindTheSuite X.env n p) (fun _ s' => SP X pins D f s') X.xe s := by
  have key : ∀ {σ : L2.St} {H : Hp}, Inv (X.suite a (q :: (X.pn ++ pins))) [] σ H s → (∀ s', Inv X pins (σ.set i none) H s' → SP X pins D f s') → wpAny (model X.prog X.w) X.A (do bindName X.env n .none; unbindBehindTheSuite X.env n p) (fun _ s' => SP X pins D f s') X.xe s :=
    fun J g => gone_ok (J.unsuite ok) nd hn hl g
  cases f with
  | ret u => exact h.elim fun v h => h.elim fun σ h => h.elim fun H h => key h.1 fun s' J => ⟨v, _, H, J, h.2⟩
  | next => exact h.elim fun σ h => h.elim fun H h => key h.1 fun s' J => ⟨_, H, J, h.2⟩
  | brk => exact h.elim fun σ h => h.elim fun H h => key h.1 fun s' J => ⟨_, H, J, h.2⟩
  | cont => exact h.elim fun σ h => h.elim fun H h => key h.1 fun s' J => ⟨_, H, J, h.2⟩
end
section
variable {X : Cx} {body : List Stmt} {h₀ : ExceptHandler} {hds : List ExceptHandler} {l : List Cl} {pos : Pos} {tb : WX → TS} {Wout : WX}
theorem ps_tryN (hs : X.stack = X.env :: X.outer) (hf : X.env.frame = some X.env.locals) (nd : X.N.Nodup) (tk : Takes X Wout)
    (hb : ∀ (W : WX) (pn : List (Addr × Obj)) (xe : Value → Shared → Prop), Takes (X.tr pn xe) W → PassesOwn (model X.prog X.w) X.A X.env xe → PSs (X.tr pn xe) body (tb W))
    (hh : ClsOk X (h₀ :: hds) l) : PS X (.Try body (h₀ :: hds) [] [] pos) (fun D σ H => tb (wCls X.K Wout D l) D σ H) := by
  refine ⟨fun pins s σ H D I h => ?_⟩
  have ok := I.ok
  have hfr : X.A.frames = some (X.env :: X.outer) := by rw [ok.frames, hs]
  let xe1 : Value → Shared → Prop := fun e s₁ => wpAny (model X.prog X.w) X.A (noteFrame e X.env) (fun _ s₂ => wpAny (model X.prog X.w) X.A (setFlight e none) (fun _ s₃ => wpAny (model X.prog X.w) X.A (handleBy e X.env (h₀ :: hds)) (SP X pins D) X.xe s₃) X.xe s₂) X.xe s₁
  refine wpAny_Try_except ?_
  have tk1 : Takes (X.tr (X.pn ++ pins) xe1) (wCls X.K Wout D l) := by
    rintro u s' ⟨a, B, sI, pins', σ', H', cls, d, rfl, J', nb, up, sky, na, os, ag, w⟩
    have J : Inv X pins σ' H' sI := J'.ofTry ok
    have sky' : Sky B (X.env :: X.outer) a (Zc cls d) X.env.locals s'.heap := hs ▸ sky
    refine Sky.land Zc.steady hfr hf sky' fun h3 fl3 up3 => ?_
    have J3 : Inv X pins σ' H' { s' with heap := h3 } := J.landed nb fl3.1 (up.trans up3) os ag
    obtain ⟨oe3, vs3, he3, hz3, hd3⟩ := fl3.there
    have nfr : a ∉ frs (X.env :: X.outer) := fun hm => by
      obtain ⟨_, o', e', hnf⟩ := fl3.2.2.1.mem hm
      cases he3.symm.trans e'
      exact hnf _ hd3
    have nL : a ≠ X.env.locals := fun z => nfr (List.mem_filterMap.mpr ⟨X.env, List.mem_cons_self, hf.trans (congrArg some z.symm)⟩)
    have nF : a ∉ X.fs := fun hm => by
      obtain ⟨e, he, q⟩ := List.mem_filterMap.mp hm
      exact nfr (List.mem_filterMap.mpr ⟨e, List.mem_cons_of_mem _ he, q⟩)
    have S3 := J3.suite he3 hd3 na nL nF
    have LT : PySem.W.Looks (model X.prog X.w) h3 (typeOf (.ref a)) cls := fun A Q E s k q => wpAny_typeOf_ref (k _ _ he3) (hz3.1.symm ▸ q)
    have test : ∀ {x : Str} {c : Value} {np : Pos} {Q : Value → Shared → Prop} {E : Value → Shared → Prop}, Names X x c → Q c { s' with heap := h3 } → wpAny (model X.prog X.w) (X.A.mark (some (.ref a))) (eval (.Name x np) X.env) Q E { s' with heap := h3 } := by
      rintro x c np Q E ⟨hg, hdbg, hm | ⟨hm, hv, hnn⟩⟩ q
      · exact ld_glob (X := X.suite a ((a, oe3) :: (X.pn ++ pins))) S3 hg hm q hdbg
      · exact ld_blt (X := X.suite a ((a, oe3) :: (X.pn ++ pins))) S3 hg hm hv q hnn hdbg
    have go : ∀ {hs' : List ExceptHandler} {ks : List Cl}, ClsOk X hs' ks → wCls X.K Wout D ks cls d σ' H' → wpAny (model X.prog X.w) X.A (handleBy (.ref a) X.env hs') (SP X pins D) X.xe { s' with heap := h3 } := by
      intro hs' ks hk
      induction hk with
      | nil =>
        intro w
        refine wpAny_handleBy_nil ?_
        obtain ⟨k1, k2, k3, oe, vs, T, oT, ts', he, hz, hd, h1, hr⟩ := id fl3
        unfold PySem.passOn
        refine wpAny_bind (wpAny_field he hd h1 ?_)
        rw [if_neg (show ¬ ((Value.ref T == Value.none) = true) by simp)]
        have fin : wpAny (model X.prog X.w) X.A (setFlight (.ref a) X.env.frame) (fun _ s4 => wpAny (model X.prog X.w) X.A (throw (.ref a) : Sem Flow) (SP X pins D) X.xe s4) X.xe { s' with heap := h3 } := by
          rw [hf]
          exact HandSPX.setFlight_upZ fl3 fun h4 hh4 up4 => wpAny_throw (tk _ _ ⟨a, B, sI, pins, σ', H', cls, d, rfl, J, nb, (up.trans up3).trans up4, .inr (.inr (hs.symm ▸ hh4)), na, os, ag, w⟩)
        first
          | exact wpAny_bind (wpAny_pure (wpAny_bind fin))
          | exact wpAny_bind fin
      | @bare x k st su p1 p2 hs2 ks2 hi nm rd tl ih =>
        rintro ⟨b, hb1, hyes, hno⟩
        refine wpAny_handleBy_cons (codeAny_handlers_test ?_) (by intro q; cases q)
        refine test nm ((PySem.W.exm_one (M := model X.prog X.w) J3.kIn LT hb1).here ?_)
        cases b with
        | false => exact ih (hno rfl)
        | true =>
          refine codeAny_handlers_suite (HandSPX.lands_againZ fl3 fun h4 fl4 up4 => ?_)
          have J4 : Inv X pins σ' H' { s' with heap := h4 } := J.landed nb fl4.1 ((up.trans up3).trans up4) os ag
          obtain ⟨oe4, vs4, he4, hz4, hd4⟩ := fl4.there
          have hy := hyes rfl a na
          rw [hi] at hy
          exact wpAny_mono ((rd a oe4 cls d (X.pn ++ pins) hz4 ⟨_, hd4⟩).run [] _ _ H' _ (J4.suite he4 hd4 na nL nF) hy) (fun f s6 hsp => sp_unsuite ok hsp) (fun _ _ z => z.elim)
      | @named x n i k st su p1 p2 hs2 ks2 hi hn hl nm rd tl ih =>
        rintro ⟨b, hb1, hyes, hno⟩
        refine wpAny_handleBy_cons (codeAny_handlers_test ?_) (by intro q; cases q)
        refine test nm ((PySem.W.exm_one (M := model X.prog X.w) J3.kIn LT hb1).here ?_)
        cases b with
        | false => exact ih (hno rfl)
        | true =>
          refine codeAny_handlers_suite_as (HandSPX.lands_againZ fl3 fun h4 fl4 up4 => ?_)
          have J4 : Inv X pins σ' H' { s' with heap := h4 } := J.landed nb fl4.1 ((up.trans up3).trans up4) os ag
          obtain ⟨oe4, vs4, he4, hz4, hd4⟩ := fl4.there
          have hy := hyes rfl a na
          rw [hi] at hy
          refine store_ok (X := X.suite a ((a, oe4) :: (X.pn ++ pins))) (v := .ref a) (J4.suite he4 hd4 na nL nF) nd hn (.inl hl) rfl (fun s5 S5 => ?_) (.inr hl)
          exact wpAny_mono ((rd a oe4 cls d (X.pn ++ pins) hz4 ⟨_, hd4⟩).run [] s5 _ H' _ S5 hy) (fun f s6 hsp => sp_gone ok nd hn hl hsp) (fun _ _ z => z.elim)
    exact go hh w
  refine wpAny_mono ((hb (wCls X.K Wout D l) (X.pn ++ pins) xe1 tk1 PassesOwn.looking).run [] s σ H D (I.toTry _) h) (fun f s1 hsp => ?_) (fun e s1 he => he)
  cases f with
  | next => exact (sp_ofTry ok hsp).elim fun σ' q => q.elim fun H' q => wpAny_execs_nil ⟨σ', H', q⟩
  | brk => exact sp_ofTry ok hsp
  | cont => exact sp_ofTry ok hsp
  | ret u => exact sp_ofTry ok hsp
end
end Gy
set_option Elab.async false
set_option linter.all false
set_option maxRecDepth 100000
set_option maxHeartbeats 2000000
/-! Gy8: errors raised; what an except suite tells of the error. -/
namespace Gy
open PySem PySem.Spec PyProof.Rows
open L2
theorem _root_.L2.PA.imp' {X : Cx} {e : List Expr} {t t' : TA} (h : PA X e t) (k : ∀ σ H Q, t' σ H Q → t σ H Q) : PA X e t' := ⟨fun pos pins s σ H Q I q => h.run pos pins s σ H Q I (k σ H Q q)⟩
section
variable {X : Cx} {e : Expr} {es : List Expr} {ta : TA} {te : TE} {p pos : Pos}
/-- C(), C without an __init__ of its own, raised -/
theorem pmk0 {C : Addr} {bmB : List Value} {B newId initId : String} {x : Str} (F : ExcBaseFacts B newId initId bmB) (q : PySem.W.excIn X.K C bmB newId = true) (hm : X.mg x = some (.ref C)) (kC : PySem.W.keepIn X.K (.ref C) = true) (r : Raises X (.ref C)) (hg : Gl X x)
    (hdb : (x == ("__debug__" : Str)) = false) : PMk X (.Call (.Name x p) [] [] pos) (fun _ H Q => Q (.ref C) none H) := by
  intro pins s σ H Q I h
  refine wpAny_Call_Name_kw (ld_glob I hg hm ?_ hdb)
  refine PySem.W.callWith_K0 I.kIn kC ?_
  show wpAny _ _ (call (.ref C) []) _ _ _
  obtain ⟨bm, N, nm, qn, bs, hdct, sn, sub, ab, col, dd, k0, k1, k2, k3, k5, mN, hC, hN, hni, T⟩ := exc_obj I.kIn q
  exact wpAny_call_exc_subT F T hC hN hni (fun h' a hm => mk_of I hm r h (I.hok.gone hm.new)) (Nat.zero_le _)
/-- what C(e, ..) asks behind its arguments, when it is raised -/
theorem mkO_of {C : Addr} {as : List As} {vs : List V} {H1 : Hp} {Q : XK} (hl : vs.length = as.length) (hz : as.length ≤ 1000) (q : ∀ d, H1 d = none → Q (.ref C) (some d) (upd H1 d (.xd (fsOf [] as vs)))) :
    vs.length ≤ 1000 ∧ ∀ a, H1 a = none → spInit C as (.ref a :: (vs ++ [])) (upd H1 a (exo a C none))
      (fun v H2 => v = .non ∧ ∃ (d : Addr) (fs : List (Str × V)), H2 a = some (exo a C (some d)) ∧ H2 d = some (exd d fs) ∧ H1 d = none ∧ Q (.ref C) (some d) (upd (L2.del H2 a) d (.xd fs))) (fun _ _ _ => False) := by
  refine ⟨by omega, fun a ha => ⟨a, vs, by rw [List.append_nil], hl, upd_same, fun d hd hda => ⟨rfl, d, fsOf [] as vs, upd_same, ?_, ?_, ?_⟩⟩⟩
  · rw [upd_ne hda, upd_same]
  · rw [upd_ne hda] at hd; exact hd
  · have hd1 : H1 d = none := by rw [upd_ne hda] at hd; exact hd
    have eH : upd (L2.del (upd (upd (upd H1 a (exo a C none)) d (exd d (fsOf [] as vs))) a (exo a C (some d))) a) d (.xd (fsOf [] as vs)) = upd H1 d (.xd (fsOf [] as vs)) := by
      funext b
      by_cases h1 : b = d
      · rw [h1, upd_same, upd_same]
      · rw [upd_ne h1, upd_ne h1]
        by_cases h2 : b = a
        · rw [h2, L2.del_same, ha]
        · rw [L2.del_ne h2, upd_ne h2, upd_ne h1, upd_ne h2]
    rw [eH]
    exact q d hd1
/-- isinstance of the error that a suite holds, with fields or without -/
theorem call_isS {a D : Addr} {oe : Obj} {od : Option Addr} {pn : List (Addr × Obj)} (C : ExcC X.K D) (hcl : (PySem.W.clsIn X.K D).isSome = true) (hz : Zc (.ref D) od oe) (hf : ∃ vs, oe.data = .fields vs) :
    CallR (X.suite a ((a, oe) :: pn)) (.builtin "isinstance") (fun xs H Q => ∃ (c : V) (cv : Value) (b : Bool), xs = [.ref a, c] ∧ ClsV c cv ∧ (∀ dd, od = some dd → ∃ fs, H dd = some (.xd fs)) ∧ PySem.W.kitOne X.K (.ref D) cv = some b ∧ Q (.bl b) H) := by
  intro pins s σ H xs us Q I r h
  obtain ⟨c, cv, b, rfl, k, hd, e, q⟩ := h
  obtain ⟨u1, u2, rfl, r1, r2⟩ := vals2 r
  obtain rfl : u1 = Value.ref a := r1
  cases k.eq r2
  obtain ⟨hget, _⟩ := I.pin (a, oe) (List.mem_append_left _ List.mem_cons_self)
  obtain ⟨vs, hv⟩ := hf
  have J : ∃ o, PySem.W.InstAt s.heap a oe D o := by
    cases od with
    | none => exact ⟨none, hget, hz.1, by unfold PySem.W.notCls; rw [hv] <;> rfl, by rw [hz.2]; exact True.intro⟩
    | some dd =>
      obtain ⟨fs, hdd⟩ := hd dd rfl
      obtain ⟨mA, ⟨o, _, _, ho, _⟩, _⟩ := (show ObjOk X.prog X.w H s.heap dd (.xd fs) from I.hok dd _ hdd)
      exact ⟨some o, hget, hz.1, by unfold PySem.W.notCls; rw [hv] <;> rfl, by rw [hz.2]; exact ho⟩
  obtain ⟨o, J⟩ := J
  exact PySem.W.kia_one (PySem.W.kitx_exc hcl C.hg C.hk C.hs C.ha C.hn C.ht C.hm) I.kIn J e (fun z => nomatch z) fun tk => ⟨.bl b, H, I.kept (t' := tk) fun _ _ z => z, rfl, q⟩
/-- e.f, e.g, .. of the error that a suite holds -/
def attE (e : Str) : List Str → List Expr → Bool
  | [], [] => true
  | f :: fs, .Attribute (.Name y _) g _ :: es => decide (y = e) && decide (g = f) && attE e fs es
  | _, _ => false
theorem pa_att {a D : Addr} {oe : Obj} {od : Option Addr} {pn : List (Addr × Obj)} {i : Nat} {e : Str} (T : XfC X.K D) (hz : Zc (.ref D) od oe) (hf : ∃ vs, oe.data = .fields vs) (hN : X.N[i]? = some e) (hv : Vis X.env.scope e) (d1 : (e == ("__debug__" : Str)) = false) (d2 : (e == ("__classdict__" : Str)) = false) :
    ∀ {fs : List Str} {es : List Expr}, attE e fs es = true → (∀ f ∈ fs, PySem.W.findIn X.K (.ref D) f = some none) →
      PA (X.suite a ((a, oe) :: pn)) es (fun σ H Q => σ[i]? = some (some (.ref a)) ∧ ∃ vs : List V, (∃ (dd : Addr) (kvs : List (Str × V)), (fs = [] ∨ (od = some dd ∧ H dd = some (.xd kvs))) ∧ fs.map (fun f => kvs.lookup f) = vs.map some) ∧ Q vs H)
  | [], es, h, _ => by
    have ee : es = [] := by
      cases es with
      | nil => rfl
      | cons x es => simp [attE] at h
    subst ee
    refine pa_nil.imp' fun σ H Q ⟨_, vs, ⟨_, _, _, hl⟩, q⟩ => ?_
    cases vs with
    | nil => exact q
    | cons _ _ => simp at hl
  | f :: fs, es, h, hno => by
    cases es with
    | nil => simp [attE] at h
    | cons x es =>
      cases x <;> try (simp [attE] at h; done)
      rename_i o g pos1
      cases o <;> try (simp [attE] at h; done)
      rename_i y p1
      unfold attE at h
      simp only [Bool.and_eq_true, decide_eq_true_eq] at h
      obtain ⟨⟨rfl, rfl⟩, h3⟩ := h
      have pe := pe_xf (pos := pos1) (X := X) (a := a) (d := od) (pn := pn) T (hno g List.mem_cons_self) hz hf (pe_var (X := X.suite a ((a, oe) :: pn)) (pos := p1) hN hv d1 d2)
      have ih := pa_att (a := a) (od := od) (pn := pn) T hz hf hN hv d1 d2 h3 fun k hk => hno k (List.mem_cons_of_mem _ hk)
      refine (pa_cons pe ih rfl).imp' fun σ H Q ⟨hs, vs, ⟨dd, kvs, hd, hl⟩, q⟩ => ?_
      cases vs with
      | nil => simp at hl
      | cons v vs =>
        simp only [List.map_cons, List.cons.injEq] at hl
        rcases hd with hd | ⟨hd, hk⟩
        · cases hd
        · exact ⟨.ref a, hs, rfl, rfl, dd, kvs, v, hd, hk, hl.1, hs, vs, ⟨dd, kvs, .inr ⟨hd, hk⟩, hl.2⟩, q⟩
end
end Gy
set_option Elab.async false
set_option linter.all false
set_option maxRecDepth 100000
set_option maxHeartbeats 2000000
/-! Gy9: a def that calls what it got and tells what came: a value, or an error's class and fields. -/
namespace Gy
open PySem PySem.Spec PyProof.Rows
open L2
def retB (e tag : Str) (fs : List Str) : Expr → Bool
  | .Tuple (.Constant (.str t) _ _ :: es) _ _ => decide (t = tag) && attE e fs es
  | _ => false
def isiB (e T : Str) : Expr → Bool
  | .Call (.Name f _) [.Name y _, .Name U _] [] _ => decide (f = ("isinstance" : Str)) && decide (y = e) && decide (U = T)
  | _ => false
def suB (e : Str) : Su → List Stmt → Bool
  | .ret tag fs, [.Return (some x) _] => retB e tag fs x
  | .tst T tag fs r, .If c [.Return (some x) _] [] _ :: sts => isiB e T c && retB e tag fs x && suB e r sts
  | .ife T tag fs tag2 fs2, [.Return (some (.IfExp c x y _)) _] => isiB e T c && retB e tag fs x && retB e tag2 fs2 y
  | _, _ => false
def Su.names : Su → List Str
  | .ret _ _ => []
  | .tst T _ _ r => T :: r.names
  | .ife T _ _ _ _ => [T]
def Su.bare : Su → Bool
  | .ret _ fs => fs.isEmpty
  | _ => false
/-- the values of the fields -/
def tgR (K : PySem.W.Frag) (tag : Str) (fs : List Str) (cls : Value) (d : Option Addr) (H : Hp) (Q : VK) : Prop := ∃ D, cls = .ref D ∧ XfC K D ∧ (∀ f ∈ fs, PySem.W.findIn K (.ref D) f = some none) ∧
  ∃ vs : List V, (∃ (dd : Addr) (kvs : List (Str × V)), (fs = [] ∨ (d = some dd ∧ H dd = some (.xd kvs))) ∧ fs.map (fun f => kvs.lookup f) = vs.map some) ∧ vs.length ≤ 1000 ∧ ∀ t, H t = none → Q (.ref t) (upd H t (.tup (.str tag :: vs)))
def isR (K : PySem.W.Frag) (mg : Str → Option Value) (T : Str) (cls : Value) (d : Option Addr) (H : Hp) (b : Bool) : Prop := ∃ (D : Addr) (c : V) (cv : Value), cls = .ref D ∧ ExcC K D ∧ (PySem.W.clsIn K D).isSome = true ∧ ClsV c cv ∧ RelV c cv ∧ mg T = some cv ∧
  (∀ dd, d = some dd → ∃ fs, H dd = some (.xd fs)) ∧ PySem.W.kitOne K (.ref D) cv = some b
def suR (K : PySem.W.Frag) (mg : Str → Option Value) : Su → Value → Option Addr → Hp → VK → Prop
  | .ret tag fs, cls, d, H, Q => tgR K tag fs cls d H Q
  | .tst T tag fs r, cls, d, H, Q => ∃ b, isR K mg T cls d H b ∧ if b = true then tgR K tag fs cls d H Q else suR K mg r cls d H Q
  | .ife T tag fs tag2 fs2, cls, d, H, Q => ∃ b, isR K mg T cls d H b ∧ if b = true then tgR K tag fs cls d H Q else tgR K tag2 fs2 cls d H Q
section
variable {X : Cx} {a : Addr} {oe : Obj} {d : Option Addr} {pn : List (Addr × Obj)} {i : Nat} {e : Str} {cls : Value}
/-- the suite's name stands in its slot -/
structure NmOk (X : Cx) (i : Nat) (e : Str) : Prop where
  n : X.N[i]? = some e
  v : Vis X.env.scope e
  d1 : (e == ("__debug__" : Str)) = false
  d2 : (e == ("__classdict__" : Str)) = false
theorem pe_tg {tag : Str} {fs : List Str} {x : Expr} (hz : Zc cls d oe) (hf : ∃ vs, oe.data = .fields vs) (nm : fs ≠ [] → NmOk X i e) (h : retB e tag fs x = true) :
    PE (X.suite a ((a, oe) :: pn)) x (fun σ H Q => (fs ≠ [] → σ[i]? = some (some (.ref a))) ∧ tgR X.K tag fs cls d H Q) := by
  unfold retB at h
  split at h <;> try (cases h; done)
  rename_i t j p1 es k p2
  simp only [Bool.and_eq_true, decide_eq_true_eq] at h
  obtain ⟨rfl, h⟩ := h
  refine ⟨fun pins s σ H Q I ⟨hs, D, ec, T, hno, vs, hv, hl, q⟩ => ?_⟩
  subst ec
  have hl' : vs.length + 1 ≤ sizeLine := by rw [sizeLine_eq]; omega
  cases fs with
  | nil =>
    have ee : es = [] := by
      cases es with
      | nil => rfl
      | cons x es => simp [attE] at h
    subst ee
    obtain ⟨dd, kvs, _, hm⟩ := hv
    have ev : vs = [] := by cases vs with | nil => rfl | cons _ _ => simp at hm
    subst ev
    exact (pe_tup (X := X.suite a ((a, oe) :: pn)) (pa_cons pe_str pa_nil rfl)).run pins s σ H Q I ⟨hl', q⟩
  | cons f fs =>
    obtain ⟨n1, n2, n3, n4⟩ := nm (by simp)
    exact (pe_tup (X := X.suite a ((a, oe) :: pn)) (pa_cons pe_str (pa_att T hz hf n1 n2 n3 n4 h hno) rfl)).run pins s σ H Q I ⟨hs (by simp), vs, hv, hl', q⟩
theorem pt_isi {T : Str} {c : Expr} (hz : Zc cls d oe) (hf : ∃ vs, oe.data = .fields vs) (nm : NmOk X i e) (hgi : Gl X "isinstance") (hmi : X.mg "isinstance" = none) (hgT : Gl X T) (hdT : (T == ("__debug__" : Str)) = false) (h : isiB e T c = true) :
    PT (X.suite a ((a, oe) :: pn)) c (fun σ H Q => σ[i]? = some (some (.ref a)) ∧ ∃ b, isR X.K X.mg T cls d H b ∧ Q b H) := by
  unfold isiB at h
  split at h <;> try (cases h; done)
  rename_i f p1 y p2 U p3 p4
  simp only [Bool.and_eq_true, decide_eq_true_eq] at h
  obtain ⟨⟨rfl, rfl⟩, rfl⟩ := h
  refine ⟨fun pins s σ H Q I ⟨hs, b, ⟨D, cc, cv, ec, T, hcl, k, rv, hm, hd, hk⟩, q⟩ => ?_⟩
  subst ec
  exact (pt_val (pe_callB (X := X.suite a ((a, oe) :: pn)) (call_isS T hcl hz hf) hgi hmi PyProof.Rows.boot_isinstance (pa_cons (pe_var (X := X.suite a ((a, oe) :: pn)) nm.n nm.v nm.d1 nm.d2) (pa_cons (pe_glob (X := X.suite a ((a, oe) :: pn)) hgT hm rv hdT) pa_nil rfl) rfl))).run pins s σ H Q I
    ⟨.ref a, hs, cc, cv, b, rfl, k, hd, hk, b, rfl, q⟩
theorem ps_su (hz : Zc cls d oe) (hf : ∃ vs, oe.data = .fields vs) (hmi : X.mg "isinstance" = none) : ∀ {u : Su} {sts : List Stmt}, (u.names ≠ [] → Gl X "isinstance") → (u.bare = false → NmOk X i e) → (∀ T ∈ u.names, Gl X T ∧ (T == ("__debug__" : Str)) = false) → suB e u sts = true →
    PSs (X.suite a ((a, oe) :: pn)) sts (fun D σ H => (u.bare = false → σ[i]? = some (some (.ref a))) ∧ suR X.K X.mg u cls d H D.rt)
  | .ret tag fs, sts, hgi, nm, hT, h => by
    unfold suB at h
    split at h <;> try (cases h; done)
    all_goals (try (rename_i e; cases e; done))
    rename_i heq
    cases heq
    have nb : fs ≠ [] → (Su.ret tag fs).bare = false := fun hn => by cases fs with | nil => exact absurd rfl hn | cons _ _ => rfl
    refine ⟨fun pins s σ H D I ⟨hs, q⟩ => (pss_one (ps_ret (pe_tg hz hf (fun hn => nm (nb hn)) h))).run pins s σ H D I ⟨fun hn => hs (nb hn), q⟩⟩
  | .tst T tag fs r, sts, hgi, nm, hT, h => by
    have hgi := hgi (by simp [Su.names])
    unfold suB at h
    split at h <;> try (cases h; done)
    all_goals (try (rename_i e; cases e; done))
    rename_i heq
    cases heq
    simp only [Bool.and_eq_true] at h
    have n := nm rfl
    have hT0 := hT T List.mem_cons_self
    have ih := ps_su (u := r) hz hf hmi (fun _ => hgi) (fun _ => n) (fun U hU => hT U (List.mem_cons_of_mem _ hU)) h.2
    refine ⟨fun pins s σ H D I ⟨hs, b, hb, q⟩ => ?_⟩
    refine (pss_cons (ps_if (pt_isi hz hf n hgi hmi hT0.1 hT0.2 h.1.1) (pss_one (ps_ret (pe_tg hz hf (fun _ => n) h.1.2))) pss_nil) ih).run pins s σ H D I ⟨hs rfl, b, hb, ?_⟩
    cases b with
    | true => exact ⟨fun _ => hs rfl, q⟩
    | false => exact ⟨fun _ => hs rfl, q⟩
  | .ife T tag fs tag2 fs2, sts, hgi, nm, hT, h => by
    have hgi := hgi (by simp [Su.names])
    unfold suB at h
    split at h <;> try (cases h; done)
    all_goals (try (rename_i e; cases e; done))
    rename_i heq
    cases heq
    simp only [Bool.and_eq_true] at h
    have n := nm rfl
    have hT0 := hT T List.mem_cons_self
    refine ⟨fun pins s σ H D I ⟨hs, b, hb, q⟩ => ?_⟩
    refine (pss_one (ps_ret (pe_ifExp (pt_isi hz hf n hgi hmi hT0.1 hT0.2 h.1.1) (pe_tg hz hf (fun _ => n) h.1.2) (pe_tg hz hf (fun _ => n) h.2)))).run pins s σ H D I ⟨hs rfl, b, hb, ?_⟩
    cases b with
    | true => exact ⟨fun _ => hs rfl, q⟩
    | false => exact ⟨fun _ => hs rfl, q⟩
end
def hcB (Ng : List Str) (sg : Scope) : Hc → ExceptHandler → Bool
  | ⟨x, none, su⟩, .ExceptHandler (some (.Name y _)) none (st :: sts) _ => decide (y = x) && su.bare && suB "" su (st :: sts)
  | ⟨x, some i, su⟩, .ExceptHandler (some (.Name y _)) (some n) (st :: sts) _ => decide (y = x) && decide (Ng[i]? = some n) && decide (sg.names.lookup n = some .local) && !(n == ("__debug__" : Str)) && !(n == ("__classdict__" : Str)) && suB n su (st :: sts)
  | _, _ => false
def hcsB (Ng : List Str) (sg : Scope) : List Hc → List ExceptHandler → Bool
  | [], [] => true
  | k :: ks, h :: hs => hcB Ng sg k h && hcsB Ng sg ks hs
  | _, _ => false
def hdB (Ng : List Str) (sg : Scope) (a : Str) (hd : Hd) : List Stmt → Bool
  | [.Try [.Return (some (.Tuple [.Constant (.str t) _ _, .Call (.Name b _) [] [] _] _ _)) _] (h :: hs) [] [] _] => decide (t = hd.told) && decide (b = a) && hcsB Ng sg hd.cl (h :: hs)
  | _ => false
/-- what is wished of an error -/
def hcR (K : PySem.W.Frag) (mg : Str → Option Value) (Q : VK) : List Hc → XK
  | [] => fun _ _ _ => False
  | k :: r => fun cls d H => ∃ b, PySem.W.exmOne K cls ((mg k.x).getD .none) = some b ∧ (b = true → suR K mg k.su cls d H Q) ∧ (b = false → hcR K mg Q r cls d H)
def hdR (K : PySem.W.Frag) (mg : Str → Option Value) (hd : Hd) : (XK → Hp → VK → Prop) → Hp → VK → Prop := fun tl H Q =>
  tl (hcR K mg Q hd.cl) H (fun v H1 => ([.str hd.told, v] : List V).length ≤ sizeLine ∧ ∀ t, H1 t = none → Q (.ref t) (upd H1 t (.tup [.str hd.told, v])))
def clOf (K : PySem.W.Frag) (mg : Str → Option Value) (n : Nat) (k : Hc) : Cl :=
  ⟨(mg k.x).getD .none, k.i, fun a cls d D σ H => σ.length = n → (k.su.bare = false → σ[k.i.getD 0]? = some (some (.ref a))) ∧ suR K mg k.su cls d H D.rt⟩
theorem hcR_w {K : PySem.W.Frag} {mg : Str → Option Value} {D : Ends} {n : Nat} : ∀ {ks : List Hc}, (∀ k ∈ ks, (k.i = none → k.su.bare = true) ∧ ∀ i, k.i = some i → i < n) → ∀ {cls d σ H}, hcR K mg D.rt ks cls d H → wCls K (fun _ _ _ _ => False) D (ks.map (clOf K mg n)) cls d σ H
  | [], _, _, _, _, _, h => h.elim
  | k :: ks, hk, cls, d, σ, H, ⟨b, h1, h2, h3⟩ => by
    refine ⟨b, h1, fun e a na => ?_, fun e => hcR_w (fun k hh => hk k (List.mem_cons_of_mem _ hh)) (h3 e)⟩
    obtain ⟨k1, k2⟩ := hk k List.mem_cons_self
    unfold clOf
    obtain ⟨x, i, su⟩ := k
    cases i with
    | none => exact fun hl => ⟨(fun z => by rw [k1 rfl] at z; cases z), h2 e⟩
    | some i =>
      intro hl
      have hl' : σ.length = n := by rw [List.length_set] at hl; exact hl
      have hi : i < σ.length := by rw [hl']; exact k2 i rfl
      exact ⟨fun _ => by show (σ.set i _)[i]? = _; rw [List.getElem?_set_self hi], h2 e⟩
section
variable {X : Cx}
/-- what a clause list asks of the names -/
structure HcOk (X : Cx) (sg : Scope) (k : Hc) : Prop where
  c : ∃ c, X.mg k.x = some c
  g : sg.names.lookup k.x = some .globalImplicit
  d : (k.x == ("__debug__" : Str)) = false
  T : ∀ T ∈ k.su.names, sg.names.lookup T = some .globalImplicit ∧ (T == ("__debug__" : Str)) = false
  isi : k.su.names ≠ [] → sg.names.lookup ("isinstance" : Str) = some .globalImplicit
theorem cls_ok {Y : Cx} {Ng : List Str} {sg : Scope} (hN : Y.N = Ng) (hs : Y.env.scope = sg) (hmi : Y.mg "isinstance" = none) : ∀ {ks : List Hc} {hs' : List ExceptHandler}, hcsB Ng sg ks hs' = true → (∀ k ∈ ks, HcOk Y sg k) → ClsOk Y hs' (ks.map (clOf Y.K Y.mg Ng.length))
  | [], [], _, _ => .nil
  | [], _ :: _, h, _ => by simp [hcsB] at h
  | _ :: _, [], h, _ => by simp [hcsB] at h
  | k :: ks, h' :: hs', h, ok => by
    simp only [hcsB, Bool.and_eq_true] at h
    have tl := cls_ok hN hs hmi h.2 fun k hk => ok k (List.mem_cons_of_mem _ hk)
    have o := ok k List.mem_cons_self
    obtain ⟨c, hc⟩ := o.c
    have nm : Names Y k.x ((Y.mg k.x).getD .none) := ⟨by show Y.env.scope.names.lookup k.x = _; rw [hs]; exact o.g, o.d, .inl (by rw [hc]; rfl)⟩
    have hT : ∀ T ∈ k.su.names, Gl Y T ∧ (T == ("__debug__" : Str)) = false := fun T hT => ⟨by show Y.env.scope.names.lookup T = _; rw [hs]; exact (o.T T hT).1, (o.T T hT).2⟩
    have hgi : k.su.names ≠ [] → Gl Y "isinstance" := fun z => by show Y.env.scope.names.lookup _ = _; rw [hs]; exact o.isi z
    obtain ⟨x, i, su⟩ := k
    have h1 := h.1
    unfold hcB at h1
    split at h1 <;> try (cases h1; done)
    · rename_i heq
      cases heq
      simp only [Bool.and_eq_true, decide_eq_true_eq] at h1
      obtain ⟨⟨rfl, hb⟩, hsu⟩ := h1
      refine .bare rfl nm (fun a oe cls d pn hz hf => ?_) tl
      refine ⟨fun pins s σ H D I q => (ps_su (i := 0) hz hf hmi hgi (fun z => by rw [hb] at z; cases z) hT hsu).run pins s σ H D I ?_⟩
      exact q (I.len.trans (by show Y.N.length = _; rw [hN]))
    · rename_i x i su y np n st sts p2 heq
      cases heq
      simp only [Bool.and_eq_true, decide_eq_true_eq, Bool.not_eq_true'] at h1
      obtain ⟨⟨⟨⟨⟨rfl, hn⟩, hl⟩, hd1⟩, hd2⟩, hsu⟩ := h1
      have hn' : Y.N[i]? = some n := by rw [hN]; exact hn
      have hl' : Y.env.scope.names.lookup n = some .local := by rw [hs]; exact hl
      refine .named rfl hn' hl' nm (fun a oe cls d pn hz hf => ?_) tl
      refine ⟨fun pins s σ H D I q => (ps_su hz hf hmi hgi (fun _ => ⟨hn', .inl hl', hd1, hd2⟩) hT hsu).run pins s σ H D I ?_⟩
      exact q (I.len.trans (by show Y.N.length = _; rw [hN]))
theorem hcs_slots {Ng : List Str} {sg : Scope} : ∀ {ks : List Hc} {hs : List ExceptHandler}, hcsB Ng sg ks hs = true → ∀ k ∈ ks, (k.i = none → k.su.bare = true) ∧ ∀ i, k.i = some i → i < Ng.length
  | [], _, _, _, h => by simp at h
  | _ :: _, [], h, _, _ => by simp [hcsB] at h
  | k :: ks, h' :: hs', h, k2, hk => by
    simp only [hcsB, Bool.and_eq_true] at h
    rcases List.mem_cons.mp hk with rfl | hk
    · obtain ⟨x, i, su⟩ := k2
      have h1 := h.1
      unfold hcB at h1
      split at h1 <;> try (cases h1; done)
      · rename_i heq
        cases heq
        simp only [Bool.and_eq_true] at h1
        exact ⟨fun _ => h1.1.2, fun i z => by cases z⟩
      · rename_i heq
        cases heq
        simp only [Bool.and_eq_true, decide_eq_true_eq] at h1
        exact ⟨(fun z => by cases z), fun i z => by cases z; exact (List.getElem?_eq_some_iff.mp h1.1.1.1.1.2).1⟩
    · exact hcs_slots h.2 k2 hk
theorem hd_gives {Ng : List Str} {x a q : Str} {sg : Scope} {g : Addr} {cdg : Value} {bg : List Stmt} {hd : Hd} (nd : Ng.Nodup) (h : hdB Ng sg a hd bg = true) (hmi : X.mg "isinstance" = none) (ok : ∀ k ∈ hd.cl, HcOk X sg k) (h0 : ∀ f : Addr, (L2.start Ng [V.ref f])[0]? = some (some (V.ref f))) :
    LamX.GivesTo X Ng x sg g cdg bg a q (hdR X.K X.mg hd) := by
  intro f c' s H Q tl act hc ht
  unfold hdB at h
  split at h <;> try (cases h; done)
  rename_i t j p1 b p2 p3 k p4 p5 h1 hs pos
  simp only [Bool.and_eq_true, decide_eq_true_eq] at h
  obtain ⟨⟨rfl, rfl⟩, hh⟩ := h
  have key := ps_tryN (X := (cxOf C8.CX0 X.prog X.w X.K X.mg X.base Ng x sg g cdg X.A X.stack s H C8.E0).nox) (pos := pos) (Wout := fun _ _ _ _ => False) (l := hd.cl.map (clOf X.K X.mg Ng.length)) (h₀ := h1) (hds := hs)
    (body := [.Return (some (.Tuple [.Constant (.str hd.told) j p1, .Call (.Name b p2) [] [] p3] k p4)) p5])
    (tb := fun W D σ H => ∃ E : XK, (∀ cls d σ' H', E cls d H' → W cls d σ' H') ∧ σ[0]? = some (some (.ref f)) ∧ H c' = some (LamX.CodeO c' q) ∧ tl E H (fun v H1 => ([.str hd.told, v] : List V).length ≤ sizeLine ∧ ∀ t, H1 t = none → D.rt (.ref t) (upd H1 t (.tup [.str hd.told, v]))))
    rfl rfl nd LamX.takes0 (fun W pn xe tk _ => ?_) (cls_ok (Y := (cxOf C8.CX0 X.prog X.w X.K X.mg X.base Ng x sg g cdg X.A X.stack s H C8.E0).nox) rfl rfl hmi hh fun k hk => ⟨(ok k hk).c, (ok k hk).g, (ok k hk).d, (ok k hk).T, (ok k hk).isi⟩)
  · refine ⟨_, pss_one key, ?_⟩
    exact ⟨hcR X.K X.mg Q hd.cl, fun cls d σ' H' e => hcR_w (D := { nx := fun _ H' => Q .non H', rt := Q }) (hcs_slots hh) e, h0 f, hc, ht⟩
  · refine ⟨fun pins s' σ H' D I ⟨E, hW, g1, g2, g3⟩ => ?_⟩
    have hp := act W pn xe E p2 p3 tk hW
    exact (pss_one (ps_ret (pe_tup (pa_cons pe_str (pa_cons hp pa_nil rfl) rfl)))).run pins s' σ H' D I ⟨g1, g2, g3⟩
end
end Gy
set_option Elab.async false
set_option linter.all false
set_option maxRecDepth 100000
set_option maxHeartbeats 2000000
/-! Gx29: errors as values: made, their fields, isinstance; list(zip(..)) of what is looked up. -/
namespace Gx
open PySem PySem.Spec PyProof.Rows L2
/-- what is known of the error class x at C: its fields fl -/
structure ErrC (P : Program) (K : PySem.W.Frag) (mg : Str → Option Value) (x : Str) (C : Addr) (fl : List Str) : Prop where
  g : mg x = some (.ref C)
  db : (x == ("__debug__" : Str)) = false
  xf : XfC K C
  ex : ExcC K C
  cl : (PySem.W.clsIn K C).isSome = true
  ty : PySem.W.typeIn K (.ref C) = some (.type "type")
  no : ∀ f ∈ fl, PySem.W.findIn K (.ref C) f = some none
  made : (fl = [] ∧ PySem.W.excIn K C [.type "ValueError", .type "Exception", .type "BaseException", .type "object"] "ValueError.__new__" = true ∧ PySem.W.keepIn K (.ref C) = true) ∨
    ∃ (fI : Addr) (fd : FuncData) (ps : List Str) (as : List Gy.As), OexC K C ∧ PySem.W.findIn K (.ref C) "__init__" = some (some (.ref fI)) ∧ PySem.W.typeIn K (.ref fI) = some (.type "function") ∧ L2.Binds K fd ps [] ∧ as.map Gy.As.f = fl ∧ as ≠ [] ∧ as.length ≤ 1000 ∧ ∀ w base, FnOk P w K mg base CX0 0 fI fd ps (Gy.spInit C as)
section
variable {X : Cx} {W : Option WX} {F : Addr → Prop} {μ : List Addr} {φ : Fr} {S : Sto} {σ : L2.St} {H : Hp} {P : Pm} {a b e : Expr} {es : List Expr} {p1 p2 pos q : Pos} {fa fb : Fr → Sto → R D} {fr : Fr → Sto → R (List D)}
theorem RDf.lookup : ∀ {fs : List (Str × D)} {kvs : List (Str × V)} {f : Str} {d : D}, RDf P H fs kvs → fs.lookup f = some d → ∃ v, kvs.lookup f = some v ∧ RD P H d v
  | [], _, _, _, _, h => by cases h
  | (g, d') :: r, _, f, d, ⟨v, vr, e, h1, t⟩, h => by
    subst e
    rw [List.lookup] at h ⊢
    cases c : (f == g) with
    | true => rw [c] at h; cases h; exact ⟨v, rfl, h1⟩
    | false => rw [c] at h; exact RDf.lookup t h
theorem errF_rd : ∀ (as : List Gy.As) {acc : List (Str × D)} {kacc : List (Str × V)} {ds : List D} {vs : List V}, RDf P H acc kacc → RDs P H ds vs → RDf P H (errF acc (as.map Gy.As.f) ds) (Gy.fsOf kacc as vs)
  | [], acc, kacc, ds, vs, h, _ => by simpa [errF, Gy.fsOf] using h
  | x :: as, acc, kacc, [], vs, h, t => by rw [RDs.nil t]; simpa [errF, Gy.fsOf] using h
  | x :: as, acc, kacc, d :: ds, _, h, ⟨v, vr, e, h1, t⟩ => by
    subst e
    exact errF_rd as (acc := (x.f, d) :: acc) (kacc := (x.f, v) :: kacc) ⟨v, kacc, rfl, h1, h⟩ t
/-- C(e, ..) -/
theorem ge_mke {x : Str} {C : Addr} {fl : List Str} (T : ErrC X.prog X.K X.mg x C fl) (hfl : fl ≠ []) (hr : Room 1 X.A) (hg : Gl X x) (ha : GA X W (e :: es) fr) (hs : starEach (e :: es) X.env = (false, eval e X.env) :: starEach es X.env) (hpl : (backTo pos (starEach es X.env)).any (·.1) = false) :
    GE X W (.Call (.Name x p1) (e :: es) [] pos) (fun φ S => (fr φ S).bind fun ds φ S => if ds.all keepD && decide (ds.length = fl.length) then .ok (.err x (errF [] fl ds)) φ S else .no) := by
  rcases T.made with ⟨h0, _⟩ | ⟨fI, fd, ps, as, oex, iC, tI, hb, ef, _, hl, F1⟩
  · exact absurd h0 hfl
  · subst ef
    refine PE.to (Gy.pe_mk oex iC tI (F1 X.w X.base) hr hb hg T.g ha T.db hs hpl) fun F μ φ S σ H Q rl po => ?_
    refine ⟨F, μ, φ, S, rl, PoE.fstA po fun xs φ1 S1 μ1 H1 vs n1 r1 po1 => ?_⟩
    split at po1
    · rename_i h
      simp only [Bool.and_eq_true, decide_eq_true_eq, List.length_map] at h
      have t := r1.keep h.1
      refine ⟨by rw [← t.length]; exact h.2, hl, fun a d h1 h2 h3 => ?_⟩
      have nx1 := Nx.new (o := exd d (Gy.fsOf [] as vs)) n1.rl h2
      have h4 : upd H1 d (exd d (Gy.fsOf [] as vs)) a = none := by rw [upd_ne (Ne.symm h3)]; exact h1
      have nx := nx1.trans (Nx.new (o := exo a C (some d)) nx1.rl h4)
      have sm : ∀ {p : Addr}, H1 p = none → ¬ (muOf μ1 φ1 σ p ∨ F p) := fun {p} hp z => by
        rcases z with z | z
        · exact n1.rl.muSome z hp
        · exact n1.rl.f1 p z hp
      exact po1 μ1 _ _ nx (RD.rx (d := .err _ _) ⟨a, C, some d, rfl, T.g, sm h1, .inl upd_same, .inr ⟨d, _, rfl, sm h2, .inl (by rw [upd_ne h3, upd_same]), errF_rd as (kacc := []) rfl (t.mono nx.ext)⟩⟩)
    · exact po1.elim
theorem ge_mke0 {x : Str} {C : Addr} (T : ErrC X.prog X.K X.mg x C []) (hg : Gl X x) :
    GE X W (.Call (.Name x p1) [] [] pos) (fun φ S => .ok (.err x []) φ S) := by
  rcases T.made with ⟨h0, q, kC⟩ | ⟨fI, fd, ps, as, oex, iC, tI, hb, ef, h0, hl, F1⟩
  · refine PE.to (Gy.pe_mk0 PySem.F.excBase_ValueError q T.g kC hg T.db) fun F μ φ S σ H Q rl po => fun a ha => ?_
    have nx := Nx.new (o := exo a C none) rl ha
    have sm : ¬ (muOf μ φ σ a ∨ F a) := fun z => by
      rcases z with z | z
      · exact rl.muSome z ha
      · exact rl.f1 a z ha
    exact po μ _ _ nx (RD.rx (d := .err _ _) ⟨a, C, none, rfl, T.g, sm, .inl upd_same, .inl ⟨rfl, rfl⟩⟩)
  · exact absurd (List.map_eq_nil_iff.mp ef) h0
/-- e.f -/
theorem ge_fld {f : Str} {cs : List Str} (hc : ∀ x ∈ cs, ∃ C fl, ErrC X.prog X.K X.mg x C fl ∧ f ∈ fl) (ha : GE X W e fa) (hb : attributeBase e f X.env (eval e X.env) = eval e X.env) :
    GE X W (.Attribute e f pos) (fun φ S => (fa φ S).bind fun x φ S => ofO (fldD x f cs) φ S) := by
  refine PE.to (Gy.pe_fldE ha hb) fun F μ φ S σ H Q rl po => ?_
  refine ⟨F, μ, φ, S, rl, PoE.fst po fun x φ1 S1 μ1 H1 v n1 r1 po1 => ?_⟩
  obtain ⟨d, e, po2⟩ := PoE.opt1 po1
  clear po1
  unfold fldD at e
  split at e
  · rename_i c fs
    split at e
    · rename_i hm
      obtain ⟨C, fl, T, hf⟩ := hc c hm
      obtain ⟨a, C', o, e1, g, n, h, q⟩ := r1
      have eC : C' = C := by
        have := g.symm.trans T.g
        exact Value.ref.inj (Option.some.inj this)
      subst eC
      rcases q with ⟨_, rfl⟩ | ⟨dx, kvs, rfl, n2, h2, t⟩
      · cases e
      · obtain ⟨w, hw, rw'⟩ := t.lookup e
        exact ⟨a, C', dx, kvs, w, e1, T.xf, T.no f hf, h, h2, hw, PoE.val po2 n1.rl rw'.rx⟩
    · cases e
  · cases e
/-- the class in isinstance(e, c) -/
structure SubOk (P : Program) (K : PySem.W.Frag) (mg : Str → Option Value) (T : Str) (us ns : List Str) : Prop where
  ex : ∃ (c : V) (cv : Value), ClsV c cv ∧ RelV c cv ∧ (mg T = some cv ∨ (mg T = none ∧ bootBuiltins T = some cv ∧ T ≠ "__name__")) ∧
    (∀ u ∈ us, ∃ C fl, ErrC P K mg u C fl ∧ PySem.W.kitOne K (.ref C) cv = some true) ∧ (∀ u ∈ ns, ∃ C fl, ErrC P K mg u C fl ∧ PySem.W.kitOne K (.ref C) cv = some false)
  db : (T == ("__debug__" : Str)) = false
theorem ge_isx {T : Str} {us ns : List Str} {p2 : Pos} (hT : SubOk X.prog X.K X.mg T us ns) (ha : GE X W a fa) (hg : Gl X "isinstance") (hm : X.mg "isinstance" = none) (hgT : Gl X T) (hs : starEach [a, .Name T p2] X.env = (false, eval a X.env) :: starEach [.Name T p2] X.env) :
    GE X W (.Call (.Name "isinstance" p1) [a, .Name T p2] [] pos) (fun φ S => (fa φ S).bind fun x φ S => (ofO (isxD us ns x) φ S).bind fun t φ S => .ok (.bl t) φ S) := by
  obtain ⟨c, cv, k, rv, hl, hu, hn⟩ := hT.ex
  have pT : PE X (.Name T p2) (tC c) := by
    rcases hl with hl | ⟨hl, hb, hne⟩
    · exact pe_glob hgT hl rv hT.db
    · exact pe_bltn hgT hl hb rv hne hT.db
  refine PE.to (pe_callB Gy.call_isV hg hm PyProof.Rows.boot_isinstance (pa_cons ha (pa_cons pT pa_nil) hs) (by decide) (by decide) hs rfl) fun F μ φ S σ H Q rl po => ?_
  refine ⟨F, μ, φ, S, rl, PoE.fst po fun x φ1 S1 μ1 H1 v n1 r1 po1 => ?_⟩
  obtain ⟨t, e, po1⟩ := PoE.opt po1
  have fin : Q (.bl t) H1 := PoE.val po1 n1.rl (RD.rx (d := .bl _) rfl)
  unfold isxD at e
  split at e
  · rename_i cn fs
    obtain ⟨a', C', o, e1, g, n, h, q⟩ := r1
    have go : ∀ {C fl}, ErrC X.prog X.K X.mg cn C fl → PySem.W.kitOne X.K (.ref C) cv = some t → ∃ (a C : Addr) (o : Option Addr) (c' : V) (cv : Value) (b : Bool), [v, c] = [.ref a, c'] ∧ ClsV c' cv ∧ ExcC X.K C ∧ (PySem.W.clsIn X.K C).isSome = true ∧ Rd H1 a (exo a C o) ∧ (∀ dx, o = some dx → ∃ kvs, Rd H1 dx (exd dx kvs)) ∧ PySem.W.kitOne X.K (.ref C) cv = some b ∧ Q (.bl b) H1 := fun {C fl} T hk => by
      have eC : C' = C := Value.ref.inj (Option.some.inj (g.symm.trans T.g))
      subst eC
      refine ⟨a', C', o, c, cv, t, by rw [e1], k, T.ex, T.cl, h, fun dx ed => ?_, hk, fin⟩
      rcases q with ⟨e2, _⟩ | ⟨dx', kvs, e2, _, h2, _⟩
      · rw [e2] at ed; cases ed
      · rw [e2] at ed; cases ed; exact ⟨kvs, h2⟩
    split at e
    · rename_i hm
      cases e
      obtain ⟨C, fl, T, hk⟩ := hu cn hm
      exact go T hk
    · split at e
      · rename_i hm
        cases e
        obtain ⟨C, fl, T, hk⟩ := hn cn hm
        exact go T hk
      · cases e
  · cases e
/-- list(zip(a, b)) -/
theorem gf_lz (hc : X.calm = true) (hg : Gl X "list") (hm : X.mg "list" = none) (hg2 : Gl X "zip") (hm2 : X.mg "zip" = none) (ha : GE X W a fa) (hb : GE X W b fb)
    (hs : starEach [a, b] X.env = (false, eval a X.env) :: starEach [b] X.env) (hs2 : starEach [b] X.env = (false, eval b X.env) :: starEach [] X.env) (hpl : (backTo q (starEach [b] X.env)).any (·.1) = false) :
    GF X W (.Call (.Name "list" p1) [.Call (.Name "zip" p2) [a, b] [] q] [] pos) (fun φ S => (fa φ S).bind fun x φ S => (fb φ S).bind fun y φ S => (ofO (zipD (look φ S x) (look φ S y)) φ S).bind fun l φ S => if l.length ≤ sizeLine then .ok (.lst l) φ S else .no) := by
  refine (pe_listzip hc hg hm hg2 hm2 (pa_cons ha (pa_cons hb pa_nil hs2) hs) hs hpl).imp fun σ H Q ⟨F, μ, φ, S, rl, po⟩ => ?_
  refine ⟨F, μ, φ, S, rl, PoF.fst po fun x φ1 S1 μ1 H1 v n1 r1 po1 => ?_⟩
  refine ⟨F, μ1, φ1, S1, n1.rl, PoF.fst po1 fun y φ2 S2 μ2 H2 w n2 r2 po2 => ?_⟩
  have r1 := n2.rl.look (n2.rx r1)
  have r2 := n2.rl.look r2
  revert po2
  cases ex : itemsD (Gx.look φ2 S2 x) with
  | none => unfold zipD; rw [ex]; exact fun po2 => po2.elim
  | some l =>
  cases ey : itemsD (Gx.look φ2 S2 y) with
  | none => unfold zipD; rw [ex, ey]; exact fun po2 => po2.elim
  | some m =>
  unfold zipD
  rw [ex, ey]
  intro po2
  have po2 : PoF X W F μ2 φ2 σ H2 (if (zipL l m).length ≤ sizeLine then .ok (.lst (zipL l m)) φ2 S2 else .no) Q := po2
  obtain ⟨a', vs, rfl, g1, t1⟩ := items_rt r1 ex
  obtain ⟨b', ws, rfl, g2, t2⟩ := items_rt r2 ey
  split at po2
  · rename_i hz
    rw [zipL_len, t1.length, t2.length] at hz
    refine ⟨a', b', vs, ws, rfl, g1.symm, g2.symm, hz, fun L Ts hL nL nd lT fr => ?_⟩
    have gr := layP_gr Ts vs ws H2 nd fr
    have nx := gr.nx n2.rl
    have hL2 : layP Ts vs ws H2 L = none := by rw [layP_out Ts vs ws H2 nL]; exact hL
    refine PoF.lst (PoF.re po2 nx) nx.rl hL2 ?_
    exact zipG_rd (t1.mono nx.ext) (t2.mono nx.ext) lT fun j T v w q1 q2 q3 => layP_at Ts vs ws H2 j T v w nd q1 q2 q3
  · exact po2.elim
end
end Gx
set_option Elab.async false
set_option linter.all false
set_option maxRecDepth 100000
set_option maxHeartbeats 2000000
/-! Gx31: errors that leave: raised, and heard by a def that calls a lambda. -/
namespace Gx
open PySem PySem.Spec PyProof.Rows L2
section
variable {X : Cx} {W : Option WX} {F : Addr → Prop} {μ : List Addr} {φ : Fr} {S : Sto} {σ : L2.St} {H H1 : Hp} {P : Program} {K : PySem.W.Frag} {mg : Str → Option Value} {a b e : Expr} {es : List Expr} {p1 p2 pos pos2 q : Pos} {fa fb fe : Fr → Sto → R D} {fr : Fr → Sto → R (List D)}
/-- all but the tables stay -/
theorem Nx.extN (rl : Rl X F μ φ S σ H) (e : LamX.ExtN H H1) (t : TabOk H1) : Nx X F μ φ σ H μ φ S H1 := by
  have same : ∀ a, nt H a → H1 a = H a := fun a h => by
    obtain ⟨o, e1, e2⟩ := h.ex
    exact (e a o e1 e2).trans e1.symm
  have rd : ∀ a o, (∀ ps, o ≠ .tbl ps) → Rd H a o → Rd H1 a o := fun a o f h => by
    rcases h with h | ⟨ob, h⟩
    · exact .inl (e a o h f)
    · exact .inr ⟨ob, e a _ h fun _ z => nomatch z⟩
  have ex : Ext (pm X F μ φ σ) H (pm X F μ φ σ) H1 := ⟨rfl, rfl, fun a o f h _ => rd a o (fun ps z => by subst z; cases f) h, fun a xs h => rd a _ (fun _ z => nomatch z) h, fun _ _ h => h, fun _ _ h => h, fun _ _ h => h, fun _ z => .inl z, fun a h => h.eq (same a h), fun _ => t⟩
  exact ⟨rl.carry ex fun a m => same a (rl.muNt m), ex, fun i w d h => ⟨d, h⟩, ⟨fun a q => same a (rl.f1 a q), fun i d h => ⟨h, fun a hx => same a (rl.muNt (.inr ⟨i, false, d, h, hx⟩))⟩⟩⟩
/-- an own class: which of the error classes lie under it -/
structure SubC (P : Program) (K : PySem.W.Frag) (mg : Str → Option Value) (T : Str) (us ns : List Str) : Prop where
  ex : ∃ C, mg T = some (.ref C) ∧ (∀ u ∈ us, ∃ D fl, ErrC P K mg u D fl ∧ PySem.W.kitOne K (.ref D) (.ref C) = some true ∧ PySem.W.exmOne K (.ref D) (.ref C) = some true) ∧
    (∀ u ∈ ns, ∃ D fl, ErrC P K mg u D fl ∧ PySem.W.kitOne K (.ref D) (.ref C) = some false ∧ PySem.W.exmOne K (.ref D) (.ref C) = some false)
section
variable {cl : List (Str × List Str)} {sb : List (Str × List Str × List Str)} {x : Ex} {cls : Value} {dx : Option Addr} {Pm0 : Pm}
theorem subD_ok (hs : ∀ p ∈ sb, SubC P K mg p.1 p.2.1 p.2.2) {T c : Str} {t : Bool} (h : subD sb T c = some t) : ∃ C D fl, mg T = some (.ref C) ∧ ErrC P K mg c D fl ∧ PySem.W.kitOne K (.ref D) (.ref C) = some t ∧ PySem.W.exmOne K (.ref D) (.ref C) = some t := by
  unfold subD at h
  split at h
  · rename_i us ns e
    obtain ⟨C, hm, hu, hn⟩ := (hs _ (PySem.mem_of_lookup e)).ex
    split at h
    · rename_i hc
      cases h
      obtain ⟨D, fl, T, k1, k2⟩ := hu c hc
      exact ⟨C, D, fl, hm, T, k1, k2⟩
    · split at h
      · rename_i hc
        cases h
        obtain ⟨D, fl, T, k1, k2⟩ := hn c hc
        exact ⟨C, D, fl, hm, T, k1, k2⟩
      · cases h
  · cases h
theorem mapM_look {kvs : List (Str × V)} : ∀ {fs : List Str} {l : List (Str × D)} {ds : List D}, RDf Pm0 H l kvs → fs.mapM (fun f => l.lookup f) = some ds → ∃ vs : List V, fs.map (fun f => kvs.lookup f) = vs.map some ∧ RDs Pm0 H ds vs
  | [], l, ds, _, h => by
    simp at h; subst h
    exact ⟨[], rfl, rfl⟩
  | f :: fs, l, ds, r, h => by
    rw [List.mapM_cons] at h
    cases e1 : l.lookup f with
    | none => rw [e1] at h; cases h
    | some d =>
      cases e2 : fs.mapM (fun f => l.lookup f) with
      | none => rw [e1, e2] at h; cases h
      | some ds' =>
        rw [e1, e2] at h
        cases h
        obtain ⟨v, hv, rv⟩ := r.lookup e1
        obtain ⟨vs, h1, h2⟩ := mapM_look r e2
        exact ⟨v :: vs, by rw [List.map_cons, List.map_cons, hv, h1], v, vs, rfl, rv, h2⟩
/-- what is told of the error, told of its heap -/
theorem tg_ok {tag : Str} {fs : List Str} {d : D} {Q : VK} (hcl : ∀ p ∈ cl, ∃ C, ErrC P K mg p.1 C p.2) (hg : Pm0.mg = mg) (ex : ExOk Pm0 H x cls dx) (h : tgD cl tag fs x = some d)
    (fin : ∀ (l : List D) (vs : List V) t, d = .tup l → H t = none → RDs Pm0 H l vs → Q (.ref t) (upd H t (.tup vs))) : Gy.tgR K tag fs cls dx H Q := by
  unfold tgD at h
  split at h
  · rename_i fl e
    split at h
    · rename_i hc
      simp only [Bool.and_eq_true, List.all_eq_true, decide_eq_true_eq] at hc
      obtain ⟨ds, e2, rfl⟩ := Option.map_eq_some_iff.mp h
      obtain ⟨C, T⟩ := hcl _ (PySem.mem_of_lookup e)
      obtain ⟨D, rfl, hD, hx⟩ := ex
      have eC : D = C := Value.ref.inj (Option.some.inj (hD.symm.trans (by rw [hg]; exact T.g)))
      subst eC
      refine ⟨D, rfl, T.xf, fun f hf => T.no f (hc.1 f hf), ?_⟩
      have lst : ∀ {vs : List V} {g : Str → Option V}, fs.map g = vs.map some → vs.length ≤ 1000 := fun {vs g} r => by
        have l1 := congrArg List.length r
        rw [List.length_map, List.length_map] at l1
        rw [← l1]; exact hc.2
      cases dx with
      | none =>
        have hx : x.fs = [] := hx
        rw [hx] at e2
        cases fs with
        | cons f fs => rw [List.mapM_cons] at e2; cases e2
        | nil =>
          simp at e2; subst e2
          exact ⟨[], ⟨0, [], .inl rfl, rfl⟩, by simp, fun t ht => fin _ [.str tag] t rfl ht ⟨_, _, rfl, rfl, rfl⟩⟩
      | some dd =>
        obtain ⟨kvs, hk, rk⟩ := hx
        obtain ⟨vs, h1, h2⟩ := mapM_look rk e2
        exact ⟨vs, ⟨dd, kvs, .inr ⟨rfl, hk⟩, h1⟩, lst h1, fun t ht => fin _ (.str tag :: vs) t rfl ht ⟨_, _, rfl, rfl, h2⟩⟩
    · cases h
  · cases h
theorem is_ok (hs : ∀ p ∈ sb, SubC P K mg p.1 p.2.1 p.2.2) (hg : Pm0.mg = mg) (ex : ExOk Pm0 H x cls dx) {T : Str} {t : Bool} (h : subD sb T x.cls = some t) : Gy.isR K mg T cls dx H t ∧ PySem.W.exmOne K cls ((mg T).getD .none) = some t := by
  obtain ⟨C, D, fl, hm, TT, k1, k2⟩ := subD_ok hs h
  obtain ⟨D', rfl, hD, hx⟩ := ex
  have eC : D' = D := Value.ref.inj (Option.some.inj (hD.symm.trans (by rw [hg]; exact TT.g)))
  subst eC
  refine ⟨⟨D', .ref C, .ref C, rfl, TT.ex, TT.cl, .own C, rfl, hm, fun dd e => ?_, k1⟩, by rw [hm]; exact k2⟩
  subst e
  obtain ⟨kvs, hk, _⟩ := hx
  exact ⟨kvs, hk⟩
theorem su_ok {d : D} {Q : VK} (hcl : ∀ p ∈ cl, ∃ C, ErrC P K mg p.1 C p.2) (hs : ∀ p ∈ sb, SubC P K mg p.1 p.2.1 p.2.2) (hg : Pm0.mg = mg) (ex : ExOk Pm0 H x cls dx)
    (fin : ∀ (l : List D) (vs : List V) t, d = .tup l → H t = none → RDs Pm0 H l vs → Q (.ref t) (upd H t (.tup vs))) : ∀ {u : Gy.Su}, suD cl sb u x = some d → Gy.suR K mg u cls dx H Q
  | .ret tag fs, h => tg_ok hcl hg ex h fin
  | .tst T tag fs r, h => by
    obtain ⟨t, h1, h2⟩ := Option.bind_eq_some_iff.mp h
    refine ⟨t, (is_ok hs hg ex h1).1, ?_⟩
    cases t with
    | true => exact tg_ok hcl hg ex h2 fin
    | false => exact su_ok hcl hs hg ex fin h2
  | .ife T tag fs tag2 fs2, h => by
    obtain ⟨t, h1, h2⟩ := Option.bind_eq_some_iff.mp h
    refine ⟨t, (is_ok hs hg ex h1).1, ?_⟩
    cases t with
    | true => exact tg_ok hcl hg ex h2 fin
    | false => exact tg_ok hcl hg ex h2 fin
theorem hc_ok {d : D} {Q : VK} (hcl : ∀ p ∈ cl, ∃ C, ErrC P K mg p.1 C p.2) (hs : ∀ p ∈ sb, SubC P K mg p.1 p.2.1 p.2.2) (hg : Pm0.mg = mg) (ex : ExOk Pm0 H x cls dx)
    (fin : ∀ (l : List D) (vs : List V) t, d = .tup l → H t = none → RDs Pm0 H l vs → Q (.ref t) (upd H t (.tup vs))) : ∀ {ks : List Gy.Hc}, hcD cl sb ks x = some d → Gy.hcR K mg Q ks cls dx H
  | [], h => by cases h
  | k :: r, h => by
    obtain ⟨t, h1, h2⟩ := Option.bind_eq_some_iff.mp h
    refine ⟨t, (is_ok hs hg ex h1).2, fun e => ?_, fun e => ?_⟩
    · subst e; exact su_ok hcl hs hg ex fin h2
    · subst e; exact hc_ok hcl hs hg ex fin h2
end
/-- a def that calls what it got and tells what came -/
structure HdOk (K : PySem.W.Frag) (mg : Str → Option Value) (x : Str) (hd : Gy.Hd) : Prop where
  ex : ∃ (g : Addr) (st : Stmt) (fd : FuncData) (a : Str) (Ng : List Str), Fun K x x st g fd ∧ mg x = some (.ref g) ∧ L2.Binds K fd [a] [] ∧ FnScope Ng [a] (defScope st) ∧ Vis (defScope st) a ∧ Gy.hdB Ng (defScope st) a hd (defBody st) = true ∧ (∀ X : Cx, X.mg = mg → ∀ k ∈ hd.cl, Gy.HcOk X (defScope st) k) ∧
    (a == ("__debug__" : Str)) = false ∧ (a == ("__classdict__" : Str)) = false
  isi : mg "isinstance" = none
  db : (x == ("__debug__" : Str)) = false
/-- what the making of a lambda asks here -/
def LamOk (X : Cx) : Prop := ∃ c P, LamX.TabB X.base X.mg c P ∧ X.env.code = .ref c ∧ (P, X.env.qual ++ "<lambda>") ∈ tabsL ∧ ∀ p ∈ tabsL, p.1 = P → p.2 = X.env.qual ++ "<lambda>"
theorem start0 {Ng : List Str} {a : Str} {sc : Scope} (S : FnScope Ng [a] sc) (f : Addr) : Ng[0]? = some a ∧ (L2.start Ng [V.ref f])[0]? = some (some (V.ref f)) := by
  refine ⟨?_, rfl⟩
  have h := S.pre
  cases Ng with
  | nil => cases h
  | cons y r => cases h; rfl
theorem ge_hrd {x : Str} {hd : Gy.Hd} {cl : List (Str × List Str)} {sb : List (Str × List Str × List Str)} {R : Nat} {scope : Scope} {body : Expr} {lpos : Pos} (o : HdOk X.K X.mg x hd) (hg : Gl X x) (hcl : ∀ p ∈ cl, ∃ C, ErrC X.prog X.K X.mg p.1 C p.2) (hs : ∀ p ∈ sb, SubC X.prog X.K X.mg p.1 p.2.1 p.2.2)
    (hr : Room (R + 2) X.A) (lo : LamOk X) (L : LamX.LamS X.env.scope scope)
    (hbody : ∀ (A : Around) (outer : List Env) (s : Shared) (H : Hp) (E : XK) (f c' : Addr), Room R (A.deeper (LamX.lamEnv X scope s.heap.objs.size f c')) → GE (LamX.lamCx X A outer s H E scope f c') (some fun cls d _ H => E cls d H) body fe) :
    GE X W (.Call (.Name x p1) [.Lambda ⟨[], [], none, [], [], none, []⟩ body scope lpos] [] pos) (fun φ S => hrdR hd cl sb (fe φ S)) := by
  obtain ⟨g, st, fd, a, Ng, fn, hm, hb, Sg, hva, hh, hk, ha1, ha2⟩ := o.ex
  obtain ⟨c, P, TB, hcode, hmT, hu⟩ := lo
  obtain ⟨⟨oc, od, kV, doc, pm', an, cdv, ct, osl, rfl, lk, hcg⟩, kp⟩ := fn
  have base := LamX.pe_lamcall (X := X) (T := tabsL) (params := ⟨[], [], none, [], [], none, []⟩) (body := body) (scope := scope) (TT := Gy.hdR X.K X.mg hd) (t := fun E => tE X (some fun cls d _ H => E cls d H) fe) (p := p1) (lpos := lpos) (pos := pos) hg hm kp lk hcg hb Sg (start0 Sg 0).1 hva
    (Gy.hd_gives Sg.nd hh o.isi (hk X rfl) fun f => (start0 Sg f).2) TB hcode hmT hu hr L rfl (fun _ _ _ _ _ => rfl)
    (fun A outer s H' E f c' hr' => (hbody A outer s H' E f c' hr').imp fun σ H Q h => tE_cx (X := X) (Y := LamX.lamCx X A outer s H' E scope f c') rfl rfl h) o.db ha1 ha2
  refine PE.to base fun F μ φ S σ H Q rl po => ⟨rl.tab, fun H1 e1 t1 => ?_⟩
  have n0 := Nx.extN rl e1 t1
  refine ⟨F, μ, φ, S, n0.rl, ?_⟩
  revert po
  cases fe φ S with
  | no => exact fun po => po
  | ok d φ1 S1 =>
    intro po μ1 H2 v n1 r1
    have po : PoE X W F μ φ σ H (if keepD d then .ok (.tup [.str hd.told, d]) φ1 S1 else .no) Q := po
    split at po
    · rename_i kd
      refine ⟨(by show 2 ≤ sizeLine; decide), fun t ht => ?_⟩
      have nn := Nx.new (o := .tup [.str hd.told, v]) n1.rl ht
      exact po μ1 _ _ ((n0.trans n1).trans nn) (RD.rx (rd_tup upd_same ⟨_, _, rfl, rfl, _, _, rfl, RD.mono nn.ext (r1.keep kd), rfl⟩))
    · exact po.elim
  | exc x' φ1 S1 =>
    intro po
    have po : PoE X W F μ φ σ H (ofO (hcD cl sb hd.cl x') φ1 S1) Q := po
    refine ⟨by simp, fun μ1 H2 cls dx n1 ex => ?_⟩
    obtain ⟨d, e, po⟩ : ∃ d, hcD cl sb hd.cl x' = some d ∧ PoE X W F μ φ σ H (.ok d φ1 S1) Q := by
      cases e : hcD cl sb hd.cl x' with
      | none => rw [e] at po; exact po.elim
      | some d => rw [e] at po; exact ⟨d, rfl, po⟩
    refine hc_ok (P := X.prog) (Pm0 := Gx.pm X F μ1 φ1 σ) hcl hs rfl ex (fun l vs t ed ht r => ?_) e
    subst ed
    have nn := Nx.new (o := .tup vs) n1.rl ht
    exact po μ1 _ _ ((n0.trans n1).trans nn) (RD.rx (rd_tup upd_same (r.mono nn.ext)))
/-- raise C(..) -/
theorem gs_rse {x : Str} {C : Addr} {fl : List Str} (T : ErrC X.prog X.K X.mg x C fl) (tk : ∀ W1, W = some W1 → Takes X W1) (hc : X.calm = true) (hr : Room 1 X.A) (hg : Gl X x) (ha : GA X W es fr)
    (h0 : es = [] ↔ fl = []) (hs : ∀ e r, es = e :: r → starEach es X.env = (false, eval e X.env) :: starEach r X.env ∧ (backTo pos (starEach r X.env)).any (·.1) = false) (hnil : es = [] → ∀ φ S, fr φ S = .ok [] φ S) :
    GS X W (.Raise (some (.Call (.Name x p1) es [] pos)) none pos2) (fun φ S => (fr φ S).bind fun ds φ S => if ds.all keepD && decide (ds.length = fl.length) then .exc ⟨x, errF [] fl ds⟩ φ S else .no) := by
  cases W with
  | none =>
    refine ps_never.imp fun Z σ H ⟨F, μ, φ, S, rl, po⟩ => ?_
    have po : PoS X none F μ φ σ H ((fr φ S).bind fun ds φ S => if ds.all keepD && decide (ds.length = fl.length) then .exc ⟨x, errF [] fl ds⟩ φ S else .no) Z := po
    show False
    revert po
    cases fr φ S with
    | no => exact fun po => po
    | exc _ _ _ => exact fun po => po.1 rfl
    | ok ds φ1 S1 =>
      intro po
      have po : PoS X none F μ φ σ H (if ds.all keepD && decide (ds.length = fl.length) then .exc ⟨x, errF [] fl ds⟩ φ1 S1 else .no) Z := po
      split at po
      · exact po.1 rfl
      · exact po
  | some W1 =>
    have tk := tk W1 rfl
    rcases T.made with ⟨ef, q, kC⟩ | ⟨fI, fd, ps, as, oex, iC, tI, hb, ef, h1, hl, F1⟩
    · subst ef
      have e0 := h0.mpr rfl
      subst e0
      refine (ps_raise hc tk (Gy.pmk0 PySem.F.excBase_ValueError q T.g kC (raises_own T.xf.exC T.ty) hg T.db)).imp fun Z σ H ⟨F, μ, φ, S, rl, po⟩ => ?_
      have po : PoS X (some W1) F μ φ σ H ((fr φ S).bind fun ds φ S => if ds.all keepD && decide (ds.length = 0) then .exc ⟨x, errF [] [] ds⟩ φ S else .no) Z := po
      rw [hnil rfl] at po
      exact po.2 μ σ H _ _ (Sx.refl rl) ⟨C, rfl, T.g, rfl⟩
    · subst ef
      cases es with
      | nil => exact absurd (h0.mp rfl) (by simpa using h1)
      | cons e r =>
        obtain ⟨g1, g2⟩ := hs e r rfl
        refine (ps_raise hc tk (pmk_oex oex iC tI (F1 X.w X.base) hr hb .nil pass0 hg T.g ha T.db g1 g2)).imp fun Z σ H ⟨F, μ, φ, S, rl, po⟩ => ?_
        refine ⟨F, μ, φ, S, rl, PoS.fstA po fun ds φ1 S1 μ1 H1 vs n1 r1 po1 => ?_⟩
        split at po1
        · rename_i h
          simp only [Bool.and_eq_true, decide_eq_true_eq, List.length_map] at h
          have t := r1.keep h.1
          refine Gy.mkO_of (C := C) (H1 := H1) (Q := fun cls d H' => W1 cls d σ H') (by rw [← t.length]; exact h.2) hl fun d hd => ?_
          have nx := Nx.new (o := .xd (Gy.fsOf [] as vs)) n1.rl hd
          exact po1.2 μ1 σ _ _ _ nx.sx ⟨C, rfl, T.g, _, upd_same, errF_rd as (kacc := []) rfl (t.mono nx.ext)⟩
        · exact po1.elim
end
end Gx
set_option Elab.async false
set_option linter.all false
set_option maxRecDepth 100000
set_option maxHeartbeats 2000000
/-! Gx32: a module's names; calls of what a name holds; sorted(set(..)); x[::-1]. -/
namespace Gx
open PySem PySem.Spec PyProof.Rows L2
section
variable {X : Cx} {W : Option WX} {F : Addr → Prop} {μ : List Addr} {φ : Fr} {S : Sto} {σ : L2.St} {H H1 : Hp} {Q : VK} {a b e : Expr} {es : List Expr} {p1 p2 p3 pos : Pos} {fa : Fr → Sto → R D} {fr : Fr → Sto → R (List D)}
/-- what the module's name x holds -/
structure GloOk (mg : Str → Option Value) (x : Str) (g : Gv) : Prop where
  ex : ∃ cv, mg x = some cv ∧ match g with
    | .int i => RelV (.int i) cv
    | .str s => RelV (.str s) cv
    | .fn => ∃ a, cv = .ref a
  db : (x == ("__debug__" : Str)) = false
theorem ge_glo {x : Str} {g : Gv} {glob : Str → Option D} (o : GloOk X.mg x g) (hg : Gl X x) : GE X W (.Name x pos) (fun φ S => .ok (Gv.at (glob x) (g.d x)) φ S) := by
  obtain ⟨cv, hm, hv⟩ := o.ex
  cases g with
  | int i => exact (pe_glob (v := .int i) hg hm hv o.db).imp fun σ H Q ⟨F, μ, φ, S, rl, po⟩ => po μ H _ (Nx.refl rl) (RD.rx (d := .int i) rfl)
  | str s => exact (pe_glob (v := .str s) hg hm hv o.db).imp fun σ H Q ⟨F, μ, φ, S, rl, po⟩ => po μ H _ (Nx.refl rl) (RD.rx (d := .str s) rfl)
  | fn =>
    obtain ⟨a, rfl⟩ := hv
    exact ge_glob hg hm o.db
/-- x(e, ..), x a name that holds a def -/
theorem ge_appl {c : Call} {i : Nat} {x : Str} {fs : List Str} (hc : ∀ f ∈ fs, CallP X W c f) (hN : X.N[i]? = some x) (hv : Vis X.env.scope x) (hd : (x == ("__debug__" : Str)) = false) (hcd : (x == ("__classdict__" : Str)) = false)
    (ha : GA X W (e :: es) fr) (he : starEach (e :: es) X.env = (false, eval e X.env) :: starEach es X.env) (hpl : (backTo pos (starEach es X.env)).any (·.1) = false) :
    GE X W (.Call (.Name x p1) (e :: es) [] pos) (fun φ S => (ofO (φ.get i) φ S).bind fun g φ S => match g with
      | .fn f => if f ∈ fs then (fr φ S).bind fun ds φ S => if ds.all keepD then ofRC (c f ds S) φ else .no else .no
      | _ => .no) := by
  refine ⟨fun pins s σ H Q I h => ?_⟩
  obtain ⟨F, μ, φ, S, rl, po⟩ := h
  obtain ⟨d, eg, po⟩ := PoE.opt po
  cases d <;> try (exact po.elim)
  rename_i f
  obtain ⟨v, h1, h2⟩ := rl.get eg
  obtain ⟨a', rfl, hm'⟩ := h2
  have po : PoE X W F μ φ σ H (if f ∈ fs then (fr φ S).bind fun ds φ S => if ds.all keepD then ofRC (c f ds S) φ else .no else .no) Q := po
  split at po
  · rename_i hf
    obtain ⟨⟨x', hm, hk, run⟩, hdb⟩ := hc f hf
    have ea : a' = x' := Value.ref.inj (Option.some.inj ((show X.mg f = some (.ref a') from hm').symm.trans hm))
    subst ea
    refine wpAny_Call_Name_kw (thn ((pe_var (pos := p1) (i := i) hN hv hd hcd).run pins s σ H (fun v H1 => v = .ref a' ∧ H1 = H) I ⟨.ref a', h1, rfl, rfl⟩) fun u s1 ⟨v, H1, I1, r1, q1⟩ => ?_)
    obtain ⟨ev, eH⟩ := q1
    subst ev
    rw [eH] at I1
    obtain rfl : u = Value.ref a' := r1
    refine PySem.W.callWith_K (h₀ := X.base) I1.ok.mod.kin hk (thn (ha.run pos pins s1 σ H _ I1 ⟨F, μ, φ, S, rl, PoE.fstA (Q1 := fun vs H1 => spRun X.K X.mg (W ≠ none) c f vs H1 Q (fun cls dx H' => Wi W cls dx σ H')) po fun ds φ1 S1 μ1 H1 vs n1 r1 po1 => call_read n1.rl r1 po1⟩) fun us s2 ⟨vs, H2, I2, r, q⟩ => ⟨I2.kIn, ?_⟩) he hpl
    exact run pins s2 σ H2 vs us Q I2 r q
  · exact po.elim
/-- rising lists with the same members are the same -/
theorem rise_same : ∀ {l m : List Int}, l.Pairwise (· < ·) → m.Pairwise (· < ·) → (∀ k, k ∈ l ↔ k ∈ m) → l = m
  | [], [], _, _, _ => rfl
  | [], y :: m, _, _, h => absurd ((h y).mpr List.mem_cons_self) (by simp)
  | x :: l, [], _, _, h => absurd ((h x).mp List.mem_cons_self) (by simp)
  | x :: l, y :: m, h1, h2, h => by
    rw [List.pairwise_cons] at h1 h2
    have e : x = y := by
      rcases List.mem_cons.mp ((h x).mp List.mem_cons_self) with q | q
      · exact q
      · have a := h2.1 x q
        rcases List.mem_cons.mp ((h y).mpr List.mem_cons_self) with q2 | q2
        · exact q2.symm
        · have b := h1.1 y q2
          omega
    subst e
    congr 1
    refine rise_same h1.2 h2.2 fun k => ⟨fun hk => ?_, fun hk => ?_⟩
    · rcases List.mem_cons.mp ((h k).mp (List.mem_cons_of_mem _ hk)) with q | q
      · have := h1.1 k hk; omega
      · exact q
    · rcases List.mem_cons.mp ((h k).mpr (List.mem_cons_of_mem _ hk)) with q | q
      · have := h2.1 k hk; omega
      · exact q
theorem insU_mem {x k : Int} : ∀ {l : List Int}, k ∈ insU x l ↔ k = x ∨ k ∈ l
  | [] => by simp [insU]
  | y :: r => by
    unfold insU
    split
    · simp
    · split
      · rename_i h; subst h; simp
      · rw [List.mem_cons, insU_mem, List.mem_cons]
        constructor
        · rintro (h | h | h)
          · exact .inr (.inl h)
          · exact .inl h
          · exact .inr (.inr h)
        · rintro (h | h | h)
          · exact .inr (.inl h)
          · exact .inl h
          · exact .inr (.inr h)
theorem insU_rise {x : Int} : ∀ {l : List Int}, l.Pairwise (· < ·) → (insU x l).Pairwise (· < ·)
  | [], _ => by simp [insU]
  | y :: r, h => by
    rw [List.pairwise_cons] at h
    unfold insU
    split
    · rename_i q
      exact List.pairwise_cons.mpr ⟨fun z hz => by
        rcases List.mem_cons.mp hz with e | hz
        · rw [e]; exact q
        · have := h.1 z hz; omega, List.pairwise_cons.mpr h⟩
    · split
      · exact List.pairwise_cons.mpr h
      · refine List.pairwise_cons.mpr ⟨fun z hz => ?_, insU_rise h.2⟩
        rcases insU_mem.mp hz with e | hz
        · rw [e]; omega
        · exact h.1 z hz
theorem uniqI_mem {k : Int} : ∀ {l : List Int}, k ∈ uniqI l ↔ k ∈ l
  | [] => by simp [uniqI]
  | x :: l => by
    show k ∈ insU x (uniqI l) ↔ _
    rw [insU_mem, uniqI_mem, List.mem_cons]
theorem uniqI_rise : ∀ (l : List Int), (uniqI l).Pairwise (· < ·)
  | [] => .nil
  | x :: l => insU_rise (uniqI_rise l)
theorem uniq_rd {P : Pm} : ∀ (ns : List Int), RDs P H (ns.map D.int) (ns.map V.int)
  | [] => rfl
  | n :: ns => ⟨.int n, _, rfl, rfl, uniq_rd ns⟩
/-- sorted(set(e)) -/
theorem ge_srs (hc : X.calm = true) (hg : Gl X "sorted") (hm : X.mg "sorted" = none) (hg2 : Gl X "set") (hm2 : X.mg "set" = none) (ha : GE X W a fa)
    (hs : starEach [a] X.env = (false, eval a X.env) :: starEach [] X.env) :
    GF X W (.Call (.Name "sorted" p1) [.Call (.Name "set" p2) [a] [] p3] [] pos) (fun φ S => (fa φ S).bind fun x φ S => (ofO (srsD (look φ S x)) φ S).bind fun l φ S => .ok l φ S) := by
  have p0 := pe_callTy (pos := p3) (p := p2) (Gz.cr_setOfI hc) hg2 hm2 (boot_bi .set) (pa_cons ha pa_nil hs) (by decide) (by decide) hs rfl
  have p1' := pe_callB (pos := pos) (p := p1) (cr_sortedSet hc) hg hm (boot_bi .sorted) (pa_cons p0 pa_nil rfl) (by decide) (by decide) rfl rfl
  refine p1'.imp fun σ H Q ⟨F, μ, φ, S, rl, po⟩ => ?_
  refine ⟨F, μ, φ, S, rl, PoF.fst po fun x φ1 S1 μ1 H1 v n1 r1 po1 => ?_⟩
  have rt := n1.rl.look r1
  revert po1 rt
  generalize Gx.look φ1 S1 x = y
  intro po1 rt
  cases y <;> try (exact po1.elim)
  rename_i l
  cases e : intsOf l with
  | none =>
    have : srsD (.lst l) = none := by simp [srsD, e]
    rw [this] at po1; exact po1.elim
  | some ns =>
    by_cases hz : ns.length < 64
    · have : srsD (.lst l) = some (.lst ((uniqI ns).map .int)) := by simp [srsD, e, hz]
      rw [this] at po1
      have po1 : PoF X W F μ1 φ1 σ H1 (.ok (.lst ((uniqI ns).map .int)) φ1 S1) Q := po1
      obtain ⟨p, vs, rfl, h1, t1⟩ := rt
      rw [intsOf_vals t1 e] at h1
      refine ⟨p, ns, rfl, h1, hz, fun q n hq hn => ?_⟩
      refine ⟨q, _, n, rfl, upd_same, by omega, fun ms r hms hmem hlen hr => ?_⟩
      have em : ms = uniqI ns := rise_same hms (uniqI_rise ns) fun k => by rw [hmem k, uniqI_mem]; simp
      subst em
      have nx := Nx.new (o := SetO X.w q (fun j => decide (j ∈ ns)) n) n1.rl hq
      exact PoF.lst (PoF.re po1 nx) nx.rl hr (uniq_rd _)
    · have : srsD (.lst l) = none := by simp [srsD, e, hz]
      rw [this] at po1; exact po1.elim
/-- x[::-1] -/
theorem ge_rev {k : Nat} {p0 : Pos} (ha : GE X W a fa) : GE X W (.Subscript a (.Slice none none (some (.UnaryOp .USub (.Constant (.int 1) k p1) p2)) p3) pos) (fun φ S => (fa φ S).bind fun x φ S => match look φ S x with
    | .lst l => .ok (.lst l.reverse) φ S
    | .tup l => .ok (.tup l.reverse) φ S
    | _ => .no) := by
  refine PE.to (Gz.pe_revA ha) fun F μ φ S σ H Q rl po => ?_
  refine ⟨F, μ, φ, S, rl, PoE.fst po fun x φ1 S1 μ1 H1 v n1 r1 po1 => ?_⟩
  have rt := n1.rl.look r1
  revert po1 rt
  generalize Gx.look φ1 S1 x = y
  intro po1 rt
  cases y <;> try (exact po1.elim)
  · obtain ⟨p, vs, rfl, h1, t1⟩ := rt
    refine ⟨p, vs, rfl, .inr ⟨h1, fun q hq => ?_⟩⟩
    have nx := Nx.new (o := .tup vs.reverse) n1.rl hq
    exact po1 μ1 _ _ nx (RD.rx (rd_tup upd_same (t1.reverse.mono nx.ext)))
  · obtain ⟨p, vs, rfl, h1, t1⟩ := rt
    refine ⟨p, vs, rfl, .inl ⟨.inl h1, fun q hq => ?_⟩⟩
    have nx := Nx.new (o := .lst vs.reverse) n1.rl hq
    exact po1 μ1 _ _ nx (RD.rx (rd_lst n1.rl hq upd_same (t1.reverse.mono nx.ext)))
/-- x.index(e) -/
def rIX (X : Cx) (W : Option WX) : V → List V → Hp → VK → Prop := fun v vs H Q => ∃ F μ φ S σ r ds d, Rl X F μ φ S σ H ∧ RX X F μ φ σ H r v ∧ RXs X F μ φ σ H ds vs ∧ indexD (look φ S r) ds = some d ∧ ∀ w, RX X F μ φ σ H d w → Q w H
theorem placeI_get : ∀ {ns : List Int} {k : Int} {j : Nat}, placeI ns k = some j → ns[j]? = some k ∧ ∀ m z, m < j → ns[m]? = some z → z ≠ k
  | x :: r, k, j, h => by
    unfold placeI at h
    split at h
    · rename_i q
      cases h
      exact ⟨by rw [q]; rfl, fun m z hm => absurd hm (by omega)⟩
    · rename_i q
      obtain ⟨i, hi, rfl⟩ := Option.map_eq_some_iff.mp h
      obtain ⟨h1, h2⟩ := placeI_get hi
      refine ⟨h1, fun m z hm hz => ?_⟩
      cases m with
      | zero =>
        have : x = z := Option.some.inj hz
        rw [← this]
        exact q
      | succ m => exact h2 m z (by omega) hz
theorem ix_ok : MtR X "list.index" (rIX X W) := by
  intro pins s σ0 H x xs v us Q I rx rxs h
  obtain ⟨F, μ, φ, S, σ, r, ds, d, rl, rr, rd, e, k⟩ := h
  have rt := rl.look rr
  unfold indexD at e
  split at e <;> try (simp only [reduceCtorEq] at e)
  rename_i l0 k0 e0
  rw [e0] at rt
  obtain ⟨a, ws, rfl, h1, t⟩ := rt
  split at e <;> try (simp only [reduceCtorEq] at e)
  rename_i ns en
  obtain ⟨j, hj, rfl⟩ := Option.map_eq_some_iff.mp e
  rw [intsOf_vals t en] at h1
  obtain ⟨w, rfl, hw⟩ := rxs1 rd
  cases hw
  obtain ⟨p1, p2⟩ := placeI_get hj
  refine mt_index pins s σ0 H _ _ v us Q I rx rxs ⟨a, ns.map V.int, .int k0, j, .int k0, rfl, rfl, .inl h1, rfl, List.all_eq_true.mpr fun y hy => ?_, by rw [List.getElem?_map, p1]; rfl, by show (k0 == k0) = true; exact beq_self_eq_true k0, fun m z' hm hz' => ?_, k _ (RD.rx (d := .int j) rfl)⟩
  · obtain ⟨n, _, rfl⟩ := List.mem_map.mp hy
    rfl
  · rw [List.getElem?_map] at hz'
    obtain ⟨n, hn, rfl⟩ := Option.map_eq_some_iff.mp hz'
    exact beq_eq_false_iff_ne.mpr (p2 m n hm hn)
theorem ge_idx {apos cpos : Pos} (ho : GE X W a fa) (ha : GA X W (e :: es) fr)
    (hbase : attributeBase a "index" X.env (eval a X.env) = eval a X.env)
    (hfew : ((backTo cpos (starEach (e :: es) X.env)).all (fun x => !x.1) && (backToKw cpos (keywordEach [] X.env)).all (fun x => x.1.isSome)
      && decide ((e :: es).length + ([] : List Keyword).length + (if ([] : List Keyword).isEmpty then 0 else 1) < 30)) = true)
    (hline : (apos.endLine == cpos.line) = true) (hs : starEach (e :: es) X.env = (false, eval e X.env) :: starEach es X.env) (hplain : (backTo cpos (starEach es X.env)).any (·.1) = false) :
    GE X W (.Call (.Attribute a "index" apos) (e :: es) [] cpos) (fun φ S => (fa φ S).bind fun r φ S => if !isLst (look φ S r) then .no else (fr φ S).bind fun ds φ S => ofO (indexD (look φ S r) ds) φ S) := by
  refine (pe_bm PySem.F.plainAttrs_list PySem.F.slot_list_index PySem.F.type_list_index (ix_ok (X := X) (W := W)) ho ha hbase hfew hline hs hplain).imp fun σ H Q h => ?_
  obtain ⟨F, μ, φ, S, rl, po⟩ := h
  refine ⟨F, μ, φ, S, rl, PoE.fst po fun r φ1 S1 μ1 H1 v n1 r1 po1 => ?_⟩
  cases hl : isLst (look φ1 S1 r) with
  | false => rw [hl] at po1; exact po1.elim
  | true =>
    rw [hl] at po1
    have rt := n1.rl.look r1
    have ty : tyV X.K "list" v H1 := by
      cases e : look φ1 S1 r <;> rw [e] at hl <;> simp only [isLst, reduceCtorEq] at hl
      rw [e] at rt
      obtain ⟨b, ws, rfl, h1, _⟩ := rt
      exact .inl ⟨rfl, ws, .inl h1⟩
    refine ⟨ty, F, μ1, φ1, S1, n1.rl, PoE.fstA po1 fun ds φ2 S2 μ2 H2 vs n2 r2 po2 => ?_⟩
    obtain ⟨d, e1, po2⟩ := PoE.opt1 po2
    exact ⟨F, μ2, φ2, S2, σ, r, ds, d, n2.rl, n2.rx r1, r2, e1, fun w rw' => po2 μ2 H2 w (Nx.refl n2.rl) rw'⟩
end
end Gx
set_option Elab.async false
set_option linter.all false
set_option maxRecDepth 100000
/-! Gx18: a written text and its form in the small language: the check. -/
namespace Gx
open PySem PySem.Spec PyProof.Rows L2

structure Ct where
  sc : Scope
  N : List Str
  fns : List Str
  bns : List Str
  /-- error classes with their fields; what isinstance asks: under it, not under it -/
  cls : List (Str × List Str) := []
  sub : List (Str × List Str × List Str) := []
  /-- may a lambda be made here; defs that hear; own classes that they ask for -/
  lam : Bool := false
  hds : List (Str × Gy.Hd) := []
  sbo : List (Str × List Str × List Str) := []
  /-- what names of the module hold -/
  gls : List (Str × Gv) := []
def visB (sc : Scope) (x : Str) : Bool := match sc.names.lookup x with
  | some .local => true
  | some .cell => true
  | some .free => true
  | _ => false
def locB (sc : Scope) (x : Str) : Bool := match sc.names.lookup x with
  | some .local => true
  | some .cell => true
  | _ => false
def isLoc (sc : Scope) (x : Str) : Bool := match sc.names.lookup x with
  | some .local => true
  | _ => false
def glB (sc : Scope) (x : Str) : Bool := decide (sc.names.lookup x = some .globalImplicit)
def nameB (ct : Ct) (i : Nat) (x : Str) : Bool := decide (ct.N[i]? = some x) && visB ct.sc x && !(x == ("__debug__" : Str)) && !(x == ("__classdict__" : Str))
def blt (ct : Ct) (x : Str) : Bool := glB ct.sc x && decide (x ∈ ct.bns)
def fnB (ct : Ct) (x : Str) : Bool := glB ct.sc x && decide (x ∈ ct.fns)
def starB : Expr → Bool
  | .Starred _ _ => true
  | _ => false
def noStars (es : List Expr) : Bool := es.all fun e => !starB e
def compB : Expr → Bool
  | .ListComp _ _ _ _ => true
  | .SetComp _ _ _ _ => true
  | .DictComp _ _ _ _ _ => true
  | _ => false
def plainB : Expr → Bool
  | .Name _ _ => true | .Call _ _ _ _ => true | .Subscript _ _ _ => true | .Attribute _ _ _ => true | .Constant _ _ _ => true | .BinOp _ _ _ _ => true | .List _ _ => true | .Tuple _ _ _ => true
  | _ => false
def ixB : Expr → Bool
  | .Slice _ _ _ _ => false
  | _ => true
def setB : Expr → Bool
  | .Set _ _ _ => true
  | _ => false
def objB : Expr → Bool
  | .Name _ _ => true
  | .Subscript _ _ _ => true
  | _ => false
def tupB : Expr → Bool
  | .Tuple _ _ _ => true
  | _ => false
def conB : D → Const → Bool
  | .non, .none => true
  | .bl b, .bool b' => b == b'
  | .int i, .int j => decide (i = j)
  | .str s, .str s' => decide (s = s')
  | _, _ => false
def tyNames (ct : Ct) : List String → List Expr → Bool
  | [], [] => true
  | t :: ts, .Name x _ :: es => decide (x = Str.ofString t) && decide (t ∈ tyNms) && blt ct x && tyNames ct ts es
  | _, _ => false
/- targets -/
mutual
def chkG (ct : Ct) : Tg → Expr → Bool
  | .nm i, .Name x _ => decide (ct.N[i]? = some x) && locB ct.sc x
  | .tp ts, .Tuple es _ _ => chkGs ct ts es
  | _, _ => false
def chkGs (ct : Ct) : List Tg → List Expr → Bool
  | [], [] => true
  | t :: ts, e :: es => chkG ct t e && !starB e && chkGs ct ts es
  | _, _ => false
end
/-- how a target is stored within a block: its names are its own -/
def fnOf (ct : Ct) (scope : Scope) (x : Str) : Bool := scope.names.lookup x == some .cell
mutual
def chkGb (N : List Str) (sc0 : Scope) (sc : Scope) : Tg → Expr → Bool
  | .nm i, .Name x _ => decide (N[i]? = some x) && locB sc x && (isLoc sc x || (sc0.names.lookup x == some .cell))
  | .tp ts, .Tuple es _ _ => chkGbs N sc0 sc ts es
  | _, _ => false
def chkGbs (N : List Str) (sc0 : Scope) (sc : Scope) : List Tg → List Expr → Bool
  | [], [] => true
  | t :: ts, e :: es => chkGb N sc0 sc t e && !starB e && chkGbs N sc0 sc ts es
  | _, _ => false
end
def trueB : E → Bool
  | .con (.bl true) => true
  | _ => false
def ownOf (N : List Str) (own : List Nat) : List (Str × Nat) := own.map fun i => (N.getD i "", i)
mutual
def chkE (ct : Ct) : Nat → E → Expr → Bool
  | 0, _, _ => false
  | n + 1, e, e' => match e, e' with
    | .var i, .Name x _ => nameB ct i x
    | .con d, .Constant k _ _ => conB d k
    | .bin o a b, .BinOp a' op b' _ => decide (op = pyOp o) && chkE ct n a a' && chkE ct n b b'
    | .neg a, .UnaryOp op a' _ => decide (op = .USub) && chkE ct n a a'
    | .not_ a, .UnaryOp op a' _ => decide (op = .Not) && chkE ct n a a'
    | .and_ a b, .BoolOp op es _ => decide (op = .And) && chkB ct n op (.and_ a b) es
    | .or_ a b, .BoolOp op es _ => decide (op = .Or) && chkB ct n op (.or_ a b) es
    | .cmp o a b, .Compare a' [op] [b'] _ => decide (op = pyCmp o) && !behindInMarks op b' && chkE ct n a a' && chkE ct n b b'
    | .chain o p a b c, .Compare a' [op, op2] [b', c'] _ => decide (op = pyCmp o) && decide (op2 = pyCmp p) && !lastMarks [op, op2] [b', c'] && chkE ct n a a' && chkE ct n b b' && chkE ct n c c'
    | .ite t a b, .IfExp t' a' b' _ => chkT ct n t t' && chkE ct n a a' && chkE ct n b b'
    | .app f as, .Call (.Name x _) args [] _ => decide (x = f) && fnB ct f && chkEs ct n as args && noStars args
    | .bi p as, .Call (.Name x _) (a' :: args) [] _ => decide (x = nmBi p) && blt ct x && chkEs ct n as (a' :: args) && noStars (a' :: args)
    | .isi a ts, .Call (.Name x _) [a', T] [] _ => decide (x = ("isinstance" : Str)) && blt ct x && !starB a' && chkE ct n a a' && (match ts, T with
      | [t], .Name y _ => decide (y = Str.ofString t) && decide (t ∈ tyNms) && blt ct y
      | ts, .Tuple es _ _ => tyNames ct ts es && decide (ts.length ≤ 20)
      | _, _ => false)
    | .mu m o as, .Call (.Attribute o' x apos) args [] cpos => decide (x = nmMu m) && (apos.endLine == cpos.line) && objB o' && chkE ct n o o' && chkEs ct n as args && noStars args && decide (args.length < 20) && (match m, args with
      | .pop, [] => true
      | _, [] => false
      | _, _ => true)
    | .ix a b, .Subscript a' b' _ => ixB b' && chkE ct n a a' && chkE ct n b b'
    | .sl a l h, .Subscript a' (.Slice l' h' none _) _ => chkE ct n a a' && chkO ct n l l' && chkO ct n h h'
    | .li (.zip a b), .Call (.Name x _) [.Call (.Name y _) [a', b'] [] _] [] _ => decide (x = ("list" : Str)) && decide (y = ("zip" : Str)) && blt ct x && blt ct y && noStars [a', b'] && chkE ct n a a' && chkE ct n b b'
    | .lz a b, .Call (.Name x _) [.Call (.Name y _) [a', b'] [] _] [] _ => decide (x = ("list" : Str)) && decide (y = ("zip" : Str)) && blt ct x && blt ct y && noStars [a', b'] && chkE ct n a a' && chkE ct n b b'
    | .mke x fl as, .Call (.Name y _) args [] _ => decide (y = x) && glB ct.sc x && decide ((x, fl) ∈ ct.cls) && chkEs ct n as args && noStars args && decide (fl.isEmpty = args.isEmpty)
    | .fld a f cs, .Attribute a' f' _ => decide (f' = f) && objB a' && chkE ct n a a' && cs.all fun c => ct.cls.any fun p => decide (p.1 = c) && decide (f ∈ p.2)
    | .isx a us ns, .Call (.Name x _) [a', .Name T _] [] _ => decide (x = ("isinstance" : Str)) && blt ct x && !starB a' && chkE ct n a a' && glB ct.sc T && decide ((T, us, ns) ∈ ct.sub)
    | .glo x g, .Name y _ => decide (y = x) && glB ct.sc x && decide ((x, g) ∈ ct.gls)
    | .appl i fs as, .Call (.Name x _) (a' :: args) [] _ => nameB ct i x && (fs.all fun f => decide (f ∈ ct.fns)) && chkEs ct n as (a' :: args) && noStars (a' :: args)
    | .srs a, .Call (.Name x _) [.Call (.Name y _) [a'] [] _] [] _ => decide (x = ("sorted" : Str)) && decide (y = ("set" : Str)) && blt ct x && blt ct y && !starB a' && chkE ct n a a'
    | .idx a as, .Call (.Attribute a' x apos) (e' :: args) [] cpos => decide (x = ("index" : Str)) && (apos.endLine == cpos.line) && objB a' && chkE ct n a a' && chkEs ct n as (e' :: args) && noStars (e' :: args) && decide ((e' :: args).length < 20)
    | .rev a, .Subscript a' (.Slice none none (some (.UnaryOp op (.Constant (.int 1) _ _) _)) _) _ => decide (op = .USub) && chkE ct n a a'
    | .hrd f hd cl sb e, .Call (.Name x _) [.Lambda ⟨[], [], none, [], [], none, []⟩ body scope _] [] _ => decide (x = f) && glB ct.sc x && ct.lam && decide ((f, hd) ∈ ct.hds) && (cl.all fun p => decide (p ∈ ct.cls)) && (sb.all fun p => decide (p ∈ ct.sbo)) && LamX.lamSB ct.sc scope && chkE { ct with sc := scope, lam := false } n e body
    | .tup as, .Tuple es _ _ => chkEs ct n as es
    | .lst as, .List es _ => chkEs ct n as es
    | .bxl as, .List es _ => chkEs ct n as es
    | .lc t it cnd e own, .ListComp elt [⟨tg, iter, ifs, k⟩] scope _ => decide (k = 0) && !setB iter && blkC ct.N ct.sc scope (ownOf ct.N own) && chkI ct n it iter tg && chkGb ct.N scope (relS scope ct.sc) t tg && chkE { ct with sc := relS scope ct.sc, lam := false } n e elt && (match ifs with
      | [] => trueB cnd
      | [c'] => chkT { ct with sc := relS scope ct.sc, lam := false } n cnd c'
      | _ => false)
    | _, _ => false
/-- a test -/
def chkT (ct : Ct) : Nat → E → Expr → Bool
  | 0, _, _ => false
  | n + 1, e, e' => match e, e' with
    | .not_ a, .UnaryOp op a' _ => decide (op = .Not) && chkT ct n a a'
    | .cmp o a b, .Compare a' [op] [b'] _ => decide (op = pyCmp o) && !behindInMarks op b' && chkE ct n a a' && chkE ct n b b'
    | .chain o p a b c, .Compare a' [op, op2] [b', c'] _ => decide (op = pyCmp o) && decide (op2 = pyCmp p) && !lastMarks [op, op2] [b', c'] && chkE ct n a a' && chkE ct n b b' && chkE ct n c c'
    | .and_ a b, .BoolOp op es _ => decide (op = .And) && chkW ct n op (.and_ a b) es
    | .or_ a b, .BoolOp op es _ => decide (op = .Or) && chkW ct n op (.or_ a b) es
    | e, e' => plainB e' && chkE ct n e e'
/-- and, or: the operands -/
def chkB (ct : Ct) : Nat → BoolOp → E → List Expr → Bool
  | 0, _, _, _ => false
  | n + 1, op, e, es => match es with
    | [x] => chkE ct n e x
    | x :: y :: r => (match op, e with
      | .And, .and_ a b => chkE ct n a x && chkB ct n op b (y :: r)
      | .Or, .or_ a b => chkE ct n a x && chkB ct n op b (y :: r)
      | _, _ => false)
    | [] => false
def chkW (ct : Ct) : Nat → BoolOp → E → List Expr → Bool
  | 0, _, _, _ => false
  | n + 1, op, e, es => match es with
    | [x] => chkT ct n e x
    | x :: y :: r => (match op, e with
      | .And, .and_ a b => chkT ct n a x && chkW ct n op b (y :: r)
      | .Or, .or_ a b => chkT ct n a x && chkW ct n op b (y :: r)
      | _, _ => false)
    | [] => false
def chkO (ct : Ct) : Nat → Es → Option Expr → Bool
  | 0, _, _ => false
  | n + 1, es, o => match es, o with
    | .nil, none => true
    | .cons e .nil, some e' => chkE ct n e e'
    | _, _ => false
def chkEs (ct : Ct) : Nat → Es → List Expr → Bool
  | 0, _, _ => false
  | n + 1, as, l => match as, l with
    | .nil, [] => true
    | .cons e r, e' :: es => !starB e' && chkE ct n e e' && chkEs ct n r es
    | .star e r, .Starred e' _ :: es => chkE ct n e e' && chkEs ct n r es
    | _, _ => false
/-- what a loop walks; the target -/
def chkI (ct : Ct) : Nat → It → Expr → Expr → Bool
  | 0, _, _, _ => false
  | n + 1, it, iter, tg => match it, iter with
    | .rng as, .Call (.Name x _) args [] _ => decide (x = ("range" : Str)) && blt ct x && chkEs ct n as args && noStars args && decide (as.len = args.length) && decide (1 ≤ args.length ∧ args.length ≤ 3)
    | .zip a b, .Call (.Name x _) [a', b'] [] _ => decide (x = ("zip" : Str)) && blt ct x && chkE ct n a a' && chkE ct n b b' && noStars [a', b'] && tupB tg
    | .enum a, .Call (.Name x _) [a'] [] _ => decide (x = ("enumerate" : Str)) && blt ct x && chkE ct n a a' && noStars [a'] && tupB tg
    | .seq e, e' => chkE ct n e e'
    | _, _ => false
end
end Gx
set_option Elab.async false
set_option linter.all false
set_option maxRecDepth 100000
/-! Gx19: the check is sound: expressions. -/
namespace Gx
open PySem PySem.Spec PyProof.Rows L2
structure Base (X Y : Cx) : Prop where
  prog : Y.prog = X.prog
  w : Y.w = X.w
  K : Y.K = X.K
  mg : Y.mg = X.mg
  base : Y.base = X.base
/-- what is within reach here -/
structure FnR (X : Cx) (c : Call) (ct : Ct) (R : Nat) : Prop where
  one : 1 ≤ R
  rm : Room R X.A
  fn : ∀ f ∈ ct.fns, ∀ Y : Cx, Base X Y → Room R Y.A → ∀ W' : Option WX, (∀ W1, W' = some W1 → Takes Y W1) → CallP Y W' c f
  lam : ct.lam = true → Room (R + 2) X.A ∧ LamOk X
theorem okx_of {A : Around} {n : Nat} (h : Room n A) : A.units + 66 < cLine := by have := h.un; omega
structure XOk (X : Cx) (W : Option WX) (c : Call) (ct : Ct) : Prop where
  okx : Okx X
  sc : X.env.scope = ct.sc
  kind : X.env.scope.kind = .function
  N : X.N = ct.N
  nd : X.N.Nodup
  tk : ∀ W1, W = some W1 → Takes X W1
  fnr : ∃ R, FnR X c ct R
  bns : ∀ x ∈ ct.bns, X.mg x = none
  cls : ∀ p ∈ ct.cls, ∃ C, ErrC X.prog X.K X.mg p.1 C p.2
  sub : ∀ p ∈ ct.sub, SubOk X.prog X.K X.mg p.1 p.2.1 p.2.2
  hds : ∀ p ∈ ct.hds, HdOk X.K X.mg p.1 p.2
  sbo : ∀ p ∈ ct.sbo, SubC X.prog X.K X.mg p.1 p.2.1 p.2.2
  gls : ∀ p ∈ ct.gls, GloOk X.mg p.1 p.2
section
variable {X : Cx} {W : Option WX} {c : Call} {glob : Str → Option D} {ct : Ct} {n : Nat} {e o : Expr} {es : List Expr} {x : Str} {pos : Pos}
theorem XOk.gl (h : XOk X W c ct) (g : glB ct.sc x = true) : Gl X x := by
  show X.env.scope.names.lookup x = _
  rw [h.sc]; exact of_decide_eq_true g
theorem XOk.blt (h : XOk X W c ct) (g : blt ct x = true) : Gl X x ∧ X.mg x = none := by
  simp only [Gx.blt, Bool.and_eq_true, decide_eq_true_eq] at g
  exact ⟨h.gl g.1, h.bns x g.2⟩
theorem XOk.fn (h : XOk X W c ct) (g : fnB ct x = true) : Gl X x ∧ CallP X W c x := by
  simp only [fnB, Bool.and_eq_true, decide_eq_true_eq] at g
  obtain ⟨R, r⟩ := h.fnr
  exact ⟨h.gl g.1, r.fn x g.2 X ⟨rfl, rfl, rfl, rfl, rfl⟩ r.rm W h.tk⟩
theorem XOk.cp (h : XOk X W c ct) {f : Str} (g : f ∈ ct.fns) : CallP X W c f := by
  obtain ⟨R, r⟩ := h.fnr
  exact r.fn f g X ⟨rfl, rfl, rfl, rfl, rfl⟩ r.rm W h.tk
theorem XOk.rm (h : XOk X W c ct) : Room 1 X.A := by
  obtain ⟨R, r⟩ := h.fnr
  exact r.rm.mono r.one
theorem star_of (h : starB e = false) : starEach (e :: es) X.env = (false, eval e X.env) :: starEach es X.env := by
  cases e <;> first | rfl | cases h
theorem star_no (h : noStars es = true) : (backTo pos (starEach es X.env)).any (·.1) = false := by
  induction es with
  | nil => rfl
  | cons e es ih =>
    simp only [noStars, List.all_cons, Bool.and_eq_true, Bool.not_eq_true'] at h
    rw [star_of h.1]
    show (false || (backTo pos (starEach es X.env)).any (·.1)) = false
    rw [ih h.2]; rfl
theorem noStars_cons (h : noStars (e :: es) = true) : starB e = false ∧ noStars es = true := by
  simpa [noStars] using h
theorem base_of {nm : Str} (h : objB o = true) : attributeBase o nm X.env (eval o X.env) = eval o X.env := by
  cases o <;> first | rfl | cases h
theorem plainIx_of (h : ixB e = true) : PlainIx e := by
  cases e <;> first | (exact fun _ _ => rfl) | cases h
theorem fold_of (h : setB e = false) : ∀ v, foldedSetIterable e X.env v = pure v := by
  cases e <;> first | (exact fun _ => rfl) | cases h
theorem vis_of {sc : Scope} (h : visB sc x = true) : Vis sc x := by
  unfold visB at h
  split at h
  · exact .inl (by assumption)
  · exact .inr (.inl (by assumption))
  · exact .inr (.inr (by assumption))
  · cases h
theorem loc_of {sc : Scope} (h : locB sc x = true) : L2.Loc sc x := by
  unfold locB at h
  split at h
  · exact .inl (by assumption)
  · exact .inr (by assumption)
  · cases h
theorem true_of (h : plainB e = true) : ∀ whole, isTrue e X.env whole = (do let v ← whole; standAt e.pos; holding [v] (truthy v)) := by
  cases e <;> first | (exact fun _ => rfl) | cases h
theorem asg_of (h : starB e = false) : (assignEach (e :: es) X.env).map (·.2) = assign e X.env :: (assignEach es X.env).map (·.2) := by
  cases e <;> first | rfl | cases h

/-! ### targets -/
/-- how names are stored here -/
def Sto1 (X : Cx) (x : Str) : Prop := X.fn x = true ∨ X.env.scope.names.lookup x = some .local
mutual
theorem chkG_ok (hc : X.calm = true) (hN : X.N = ct.N) (nd : X.N.Nodup) (hs : X.env.scope = ct.sc) (hf : ∀ x, X.fn x = true) : ∀ {t : Tg} {e : Expr}, chkG ct t e = true → PG X e (tG X t)
  | .nm i, e, h => by
    cases e <;> simp only [chkG, Bool.false_eq_true] at h
    simp only [Bool.and_eq_true, decide_eq_true_eq] at h
    exact gg_name nd (by rw [hN]; exact h.1) (by rw [hs]; exact loc_of h.2) (.inl (hf _))
  | .tp ts, e, h => by
    cases e <;> simp only [chkG, Bool.false_eq_true] at h
    obtain ⟨h1, h2, h3⟩ := chkGs_ok hc hN nd hs hf h
    exact gg_tup hc h1 h2 h3
theorem chkGs_ok (hc : X.calm = true) (hN : X.N = ct.N) (nd : X.N.Nodup) (hs : X.env.scope = ct.sc) (hf : ∀ x, X.fn x = true) : ∀ {ts : List Tg} {es : List Expr}, chkGs ct ts es = true → PGs X es (tGs X ts) ∧ (assignEach es X.env).length = ts.length ∧ (assignEach es X.env).findIdx? (·.1) = none
  | [], es, h => by
    cases es <;> simp only [chkGs, Bool.false_eq_true] at h
    exact ⟨ggs_nil, rfl, rfl⟩
  | t :: ts, es, h => by
    cases es with
    | nil => simp [chkGs] at h
    | cons e es =>
      simp only [chkGs, Bool.and_eq_true, Bool.not_eq_true'] at h
      obtain ⟨⟨h1, h2⟩, h3⟩ := h
      have g1 := chkG_ok hc hN nd hs hf h1
      obtain ⟨g2, g3, g4⟩ := chkGs_ok hc hN nd hs hf h3
      have ea : assignEach (e :: es) X.env = (false, assign e X.env) :: assignEach es X.env := by cases e <;> first | rfl | cases h2
      refine ⟨ggs_cons g1 g2 (asg_of h2), by rw [ea, List.length_cons, List.length_cons, g3], ?_⟩
      rw [ea, List.findIdx?_cons]
      simp only [Bool.false_eq_true, if_false, g4, Option.map_none]
end
mutual
theorem chkGb_ok {N : List Str} {sc0 sc : Scope} (hc : X.calm = true) (hN : X.N = N) (nd : X.N.Nodup) (hs : X.env.scope = sc) (hf : ∀ x, X.fn x = (sc0.names.lookup x == some .cell)) : ∀ {t : Tg} {e : Expr}, chkGb N sc0 sc t e = true → PG X e (tG X t)
  | .nm i, e, h => by
    cases e <;> simp only [chkGb, Bool.false_eq_true] at h
    simp only [Bool.and_eq_true, decide_eq_true_eq, Bool.or_eq_true] at h
    refine gg_name nd (by rw [hN]; exact h.1.1) (by rw [hs]; exact loc_of h.1.2) ?_
    rcases h.2 with z | z
    · right
      rw [hs]
      unfold isLoc at z
      split at z
      · assumption
      · cases z
    · left; rw [hf]; exact z
  | .tp ts, e, h => by
    cases e <;> simp only [chkGb, Bool.false_eq_true] at h
    obtain ⟨h1, h2, h3⟩ := chkGbs_ok hc hN nd hs hf h
    exact gg_tup hc h1 h2 h3
theorem chkGbs_ok {N : List Str} {sc0 sc : Scope} (hc : X.calm = true) (hN : X.N = N) (nd : X.N.Nodup) (hs : X.env.scope = sc) (hf : ∀ x, X.fn x = (sc0.names.lookup x == some .cell)) : ∀ {ts : List Tg} {es : List Expr}, chkGbs N sc0 sc ts es = true → PGs X es (tGs X ts) ∧ (assignEach es X.env).length = ts.length ∧ (assignEach es X.env).findIdx? (·.1) = none
  | [], es, h => by
    cases es <;> simp only [chkGbs, Bool.false_eq_true] at h
    exact ⟨ggs_nil, rfl, rfl⟩
  | t :: ts, es, h => by
    cases es with
    | nil => simp [chkGbs] at h
    | cons e es =>
      simp only [chkGbs, Bool.and_eq_true, Bool.not_eq_true'] at h
      obtain ⟨⟨h1, h2⟩, h3⟩ := h
      have g1 := chkGb_ok hc hN nd hs hf h1
      obtain ⟨g2, g3, g4⟩ := chkGbs_ok hc hN nd hs hf h3
      have ea : assignEach (e :: es) X.env = (false, assign e X.env) :: assignEach es X.env := by cases e <;> first | rfl | cases h2
      refine ⟨ggs_cons g1 g2 (asg_of h2), by rw [ea, List.length_cons, List.length_cons, g3], ?_⟩
      rw [ea, List.findIdx?_cons]
      simp only [Bool.false_eq_true, if_false, g4, Option.map_none]
end

/-! ### tests by values -/
theorem tst_not (f : Fr → Sto → R D) : tst (fun φ S => (f φ S).bind fun x φ S => (ofO (truD (look φ S x)) φ S).bind fun t φ S => .ok (.bl (!t)) φ S) = fun φ S => (tst f φ S).bind fun t φ S => .ok (!t) φ S := by
  funext φ S
  unfold tst
  simp only [R.bind_assoc]
  congr
theorem tst_bl (f : Fr → Sto → R Bool) : tst (fun φ S => (f φ S).bind fun t φ S => .ok (.bl t) φ S) = f := by
  funext φ S
  unfold tst
  rw [R.bind_assoc]
  cases f φ S <;> rfl
theorem tst_and (f g : Fr → Sto → R D) : tst (fun φ S => (f φ S).bind fun x φ S => (ofO (truD (look φ S x)) φ S).bind fun t φ S => if t then g φ S else .ok x φ S) = fun φ S => (tst f φ S).bind fun t φ S => if t then tst g φ S else .ok false φ S := by
  funext φ S
  unfold tst
  rw [R.bind_assoc, R.bind_assoc]
  congr
  funext x φ S
  rw [R.bind_assoc]
  cases e : truD (look φ S x) with
  | none => rfl
  | some t =>
    cases t
    · show ofO (truD (look φ S x)) φ S = _; rw [e]; rfl
    · rfl
theorem tst_or (f g : Fr → Sto → R D) : tst (fun φ S => (f φ S).bind fun x φ S => (ofO (truD (look φ S x)) φ S).bind fun t φ S => if t then .ok x φ S else g φ S) = fun φ S => (tst f φ S).bind fun t φ S => if t then .ok true φ S else tst g φ S := by
  funext φ S
  unfold tst
  rw [R.bind_assoc, R.bind_assoc]
  congr
  funext x φ S
  rw [R.bind_assoc]
  cases e : truD (look φ S x) with
  | none => rfl
  | some t =>
    cases t
    · rfl
    · show ofO (truD (look φ S x)) φ S = _; rw [e]; rfl
end
end Gx
set_option Elab.async false
set_option linter.all false
set_option maxRecDepth 100000
set_option maxHeartbeats 4000000
/-! Gx20: the check is sound: expressions, put together. -/
namespace Gx
open PySem PySem.Spec PyProof.Rows L2
structure Snd (c : Call) (glob : Str → Option D) (n : Nat) : Prop where
  E : ∀ {ct : Ct} {X : Cx} {W : Option WX}, XOk X W c ct → ∀ {e : E} {e' : Expr}, chkE ct n e e' = true → GE X W e' (evE c glob e)
  T : ∀ {ct : Ct} {X : Cx} {W : Option WX}, XOk X W c ct → ∀ {e : Gx.E} {e' : Expr}, chkT ct n e e' = true → GT X W e' (tst (evE c glob e))
  B : ∀ {ct : Ct} {X : Cx} {W : Option WX}, XOk X W c ct → ∀ {op : BoolOp} {e : Gx.E} {es : List Expr} {pos : Pos}, chkB ct n op e es = true → GE X W (.BoolOp op es pos) (evE c glob e)
  W : ∀ {ct : Ct} {X : Cx} {W : Option WX}, XOk X W c ct → ∀ {op : BoolOp} {e : Gx.E} {es : List Expr} {pos : Pos}, chkW ct n op e es = true → GW X W (.BoolOp op es pos) (tst (evE c glob e))
  O : ∀ {ct : Ct} {X : Cx} {W : Option WX}, XOk X W c ct → ∀ {e : Es} {e' : Option Expr}, chkO ct n e e' = true → GO X W e' (evEs c glob e)
  Es : ∀ {ct : Ct} {X : Cx} {W : Option WX}, XOk X W c ct → ∀ {e : Es} {e' : List Expr}, chkEs ct n e e' = true → GA X W e' (evEs c glob e)
  I : ∀ {ct : Ct} {X : Cx} {W : Option WX}, XOk X W c ct → ∀ {e : It} {e' tg : Expr}, chkI ct n e e' tg = true → GI X W tg e' (evI c glob e)
section
variable {c : Call} {glob : Str → Option D} {ct : Ct} {X : Cx} {W : Option WX}
theorem eq_ge {X : Cx} {W : Option WX} {e : Expr} {f g : Fr → Sto → R D} (h : GE X W e f) (k : f = g) : GE X W e g := k ▸ h
theorem eq_gt {X : Cx} {W : Option WX} {e : Expr} {f g : Fr → Sto → R Bool} (h : GT X W e f) (k : f = g) : GT X W e g := k ▸ h
theorem eq_gw {X : Cx} {W : Option WX} {e : Expr} {f g : Fr → Sto → R Bool} (h : GW X W e f) (k : f = g) : GW X W e g := k ▸ h
theorem blk_ok (h : XOk X W c ct) {s : Shared} {H : Hp} {C : Addr} {cl : List (Str × Addr)} {fp : List Addr} {scope : Scope} (hk : scope.kind = .function) : XOk (X.blk s H scope (compEnvC scope cl C X.env) fp) none c { ct with sc := relS scope ct.sc, lam := false } :=
  ⟨⟨h.okx.calm, h.okx.hu⟩, by show (compEnvC scope cl C X.env).scope = _; rw [← h.sc]; rfl, hk, h.N, h.nd, (fun _ z => nomatch z), by
    obtain ⟨R, r⟩ := h.fnr
    exact ⟨R, r.one, r.rm, fun f hf Y hY => r.fn f hf Y ⟨hY.prog, hY.w, hY.K, hY.mg, hY.base⟩, (fun z => nomatch z)⟩, h.bns, h.cls, h.sub, h.hds, h.sbo, h.gls⟩
theorem lam_ok {R : Nat} (h : XOk X W c ct) (r : FnR X c ct R) {A : Around} {outer : List Env} {s : Shared} {H : Hp} {E : XK} {scope : Scope} {f c' : Addr} (L : LamX.LamS X.env.scope scope) (hr : Room R (A.deeper (LamX.lamEnv X scope s.heap.objs.size f c'))) :
    XOk (LamX.lamCx X A outer s H E scope f c') (some fun cls d _ H => E cls d H) c { ct with sc := scope, lam := false } :=
  ⟨⟨rfl, okx_of hr⟩, rfl, L.kind, h.N, h.nd, fun W1 e => by
    cases e
    exact takes_of rfl rfl rfl rfl, ⟨R, r.one, hr, fun f hf Y hY => r.fn f hf Y ⟨hY.prog, hY.w, hY.K, hY.mg, hY.base⟩, (fun z => nomatch z)⟩, h.bns, h.cls, h.sub, h.hds, h.sbo, h.gls⟩
theorem tyN_of (h : XOk X W c ct) : ∀ {ts : List String} {es : List Expr}, tyNames ct ts es = true → ∃ ps : List Pos, ps.length = ts.length ∧ es = List.zipWith (fun T p => Expr.Name (Str.ofString T) p) ts ps ∧ ∀ T ∈ ts, T ∈ tyNms ∧ Gl X (Str.ofString T) ∧ X.mg (Str.ofString T) = none
  | [], es, g => by
    cases es with
    | nil => exact ⟨[], rfl, rfl, fun T hT => by simp at hT⟩
    | cons e es => simp [tyNames] at g
  | t :: ts, es, g => by
    cases es with
    | nil => simp [tyNames] at g
    | cons e es =>
      cases e <;> simp only [tyNames, Bool.false_eq_true] at g
      simp only [Bool.and_eq_true, decide_eq_true_eq] at g
      obtain ⟨⟨⟨g1, g2⟩, g3⟩, g4⟩ := g
      obtain ⟨ps, h1, h2, h3⟩ := tyN_of h g4
      subst g1
      refine ⟨_ :: ps, by simp [h1], by rw [h2]; rfl, fun T hT => ?_⟩
      rcases List.mem_cons.mp hT with rfl | hT
      · exact ⟨g2, (h.blt g3).1, (h.blt g3).2⟩
      · exact h3 T hT
theorem con_ok {d : D} {k : Const} {j : Nat} {pos : Pos} (h : conB d k = true) : GE X W (.Constant k j pos) (evE c glob (.con d)) := by
  unfold conB at h
  split at h <;> try (cases h; done)
  · exact ge_con pe_non fun _ _ => rfl
  · rename_i b b'
    have : b = b' := by simpa using h
    subst this
    exact ge_con pe_bl fun _ _ => rfl
  · have := of_decide_eq_true h
    subst this
    exact ge_con pe_int fun _ _ => rfl
  · have := of_decide_eq_true h
    subst this
    exact ge_con pe_str fun _ _ => rfl
theorem snd_Es {n : Nat} (ih : Snd c glob n) (h : XOk X W c ct) {e : Es} {e' : List Expr} (g : chkEs ct (n + 1) e e' = true) : GA X W e' (evEs c glob e) := by
  unfold chkEs at g
  split at g <;> try (cases g; done)
  · exact ga_nil
  · simp only [Bool.and_eq_true, Bool.not_eq_true'] at g
    exact ga_cons (ih.E h g.1.2) (ih.Es h g.2) (star_of g.1.1)
  · simp only [Bool.and_eq_true] at g
    exact ga_star (ih.E h g.1) (ih.Es h g.2) rfl
theorem snd_O {n : Nat} (ih : Snd c glob n) (h : XOk X W c ct) {e : Es} {e' : Option Expr} (g : chkO ct (n + 1) e e' = true) : GO X W e' (evEs c glob e) := by
  unfold chkO at g
  split at g <;> try (cases g; done)
  · exact go_none
  · exact go_some (ih.E h g)
theorem or_ite {t : Bool} {α : Type} {a b : α} : (if t = (BoolOp.Or == BoolOp.And) then a else b) = if t then b else a := by cases t <;> rfl
theorem and_ite {t : Bool} {α : Type} {a b : α} : (if t = (BoolOp.And == BoolOp.And) then a else b) = if t then a else b := by cases t <;> rfl
theorem snd_B {n : Nat} (ih : Snd c glob n) (h : XOk X W c ct) {op : BoolOp} {e : E} {es : List Expr} {pos : Pos} (g : chkB ct (n + 1) op e es = true) : GE X W (.BoolOp op es pos) (evE c glob e) := by
  unfold chkB at g
  split at g <;> try (cases g; done)
  · exact ge_one (ih.E h g)
  · split at g <;> try (cases g; done)
    · simp only [Bool.and_eq_true] at g
      refine eq_ge (ge_boolop (ih.E h g.1) (ih.B h g.2)) ?_
      simp only [and_ite]
      rfl
    · simp only [Bool.and_eq_true] at g
      refine eq_ge (ge_boolop (ih.E h g.1) (ih.B h g.2)) ?_
      simp only [or_ite]
      rfl
theorem snd_W {n : Nat} (ih : Snd c glob n) (h : XOk X W c ct) {op : BoolOp} {e : E} {es : List Expr} {pos : Pos} (g : chkW ct (n + 1) op e es = true) : GW X W (.BoolOp op es pos) (tst (evE c glob e)) := by
  unfold chkW at g
  split at g <;> try (cases g; done)
  · cases op
    · exact gw_and1 (ih.T h g)
    · exact gw_or1 (ih.T h g)
  · split at g <;> try (cases g; done)
    · simp only [Bool.and_eq_true] at g
      exact eq_gw (gw_and (ih.T h g.1) (ih.W h g.2)) (tst_and _ _).symm
    · simp only [Bool.and_eq_true] at g
      exact eq_gw (gw_or (ih.T h g.1) (ih.W h g.2)) (tst_or _ _).symm
theorem snd_T {n : Nat} (ih : Snd c glob n) (h : XOk X W c ct) {e : E} {e' : Expr} (g : chkT ct (n + 1) e e' = true) : GT X W e' (tst (evE c glob e)) := by
  unfold chkT at g
  split at g
  · simp only [Bool.and_eq_true, decide_eq_true_eq] at g
    obtain ⟨rfl, g⟩ := g
    exact eq_gt (gt_not (ih.T h g)) (tst_not _).symm
  · simp only [Bool.and_eq_true, decide_eq_true_eq, Bool.not_eq_true'] at g
    obtain ⟨⟨⟨rfl, g1⟩, g2⟩, g3⟩ := g
    refine eq_gt (gt_cmp h.okx (ih.E h g2) (ih.E h g3) g1) (Eq.symm ?_)
    funext φ S
    unfold tst
    rw [evE, R.bind_assoc]
    congr; funext x φ S
    rw [R.bind_assoc]
    congr; funext y φ S
    rw [R.bind_assoc]
    cases cmpD _ (look φ S x) (look φ S y) <;> rfl
  · simp only [Bool.and_eq_true, decide_eq_true_eq, Bool.not_eq_true'] at g
    obtain ⟨⟨⟨⟨⟨rfl, rfl⟩, g1⟩, g2⟩, g3⟩, g4⟩ := g
    refine eq_gt (gt_chain h.okx (ih.E h g2) (ih.E h g3) (ih.E h g4) g1) (Eq.symm ?_)
    funext φ S
    unfold tst fChain
    rw [evE, R.bind_assoc]
    congr; funext x φ S
    rw [R.bind_assoc]
    congr; funext y φ S
    rw [R.bind_assoc]
    congr; funext t φ S
    cases t
    · rfl
    · show ((evE c glob _ φ S).bind _).bind _ = _
      rw [R.bind_assoc]
      show _ = (evE c glob _ φ S).bind _
      congr; funext z φ S
      rw [R.bind_assoc]
      cases cmpD _ (look φ S y) (look φ S z) <;> rfl
  · simp only [Bool.and_eq_true, decide_eq_true_eq] at g
    obtain ⟨rfl, g⟩ := g
    exact (ih.W h g).pt
  · simp only [Bool.and_eq_true, decide_eq_true_eq] at g
    obtain ⟨rfl, g⟩ := g
    exact (ih.W h g).pt
  · simp only [Bool.and_eq_true] at g
    exact gt_plain (ih.E h g.2) (true_of g.1)
theorem snd_I {n : Nat} (ih : Snd c glob n) (h : XOk X W c ct) {e : It} {e' tg : Expr} (g : chkI ct (n + 1) e e' tg = true) : GI X W tg e' (evI c glob e) := by
  unfold chkI at g
  split at g <;> try (cases g; done)
  · rename_i as x p args pos
    simp only [Bool.and_eq_true, decide_eq_true_eq] at g
    obtain ⟨⟨⟨⟨⟨rfl, g1⟩, g2⟩, g3⟩, g4⟩, g5⟩ := g
    obtain ⟨hg, hm⟩ := h.blt g1
    match args, g2, g3, g4, g5 with
    | [a], g2, g3, g4, g5 =>
      have e4 : as.len = 1 := g4
      have := gi_rng1 (tg := tg) (pos := pos) (p1 := p) hg hm (ih.Es h g2) (star_of (noStars_cons g3).1)
      rw [← e4] at this
      exact this
    | [a, b], g2, g3, g4, g5 =>
      have e4 : as.len = 2 := g4
      obtain ⟨k1, k2⟩ := noStars_cons g3
      obtain ⟨k2, k3⟩ := noStars_cons k2
      have := gi_rng2 (tg := tg) (pos := pos) (p1 := p) hg hm (ih.Es h g2) (by rw [star_of k1, star_of k2]; rfl) (star_of k2)
      rw [← e4] at this
      exact this
    | [a, b, d], g2, g3, g4, g5 =>
      have e4 : as.len = 3 := g4
      obtain ⟨k1, k2⟩ := noStars_cons g3
      have := gi_rng3 (tg := tg) (pos := pos) (p1 := p) hg hm (ih.Es h g2) (star_of k1) (star_no k2)
      rw [← e4] at this
      exact this
    | _ :: _ :: _ :: _ :: _, g2, g3, g4, g5 => simp at g5
  · rename_i a b x p a' b' pos
    simp only [Bool.and_eq_true, decide_eq_true_eq] at g
    obtain ⟨⟨⟨⟨⟨rfl, g1⟩, g2⟩, g3⟩, g4⟩, g5⟩ := g
    obtain ⟨hg, hm⟩ := h.blt g1
    obtain ⟨k1, k2⟩ := noStars_cons g4
    cases tg <;> try (cases g5; done)
    exact gi_zip hg hm (ih.E h g2) (ih.E h g3) (star_of k1) (star_of (noStars_cons k2).1) (star_no k2)
  · rename_i a x p a' pos
    simp only [Bool.and_eq_true, decide_eq_true_eq] at g
    obtain ⟨⟨⟨⟨rfl, g1⟩, g2⟩, g3⟩, g4⟩ := g
    obtain ⟨hg, hm⟩ := h.blt g1
    cases tg <;> try (cases g4; done)
    exact gi_enum hg hm (ih.E h g2) (star_of (noStars_cons g3).1)
  · exact gi_seq (ih.E h g)
end
end Gx
set_option Elab.async false
set_option linter.all false
set_option maxRecDepth 100000
set_option maxHeartbeats 4000000
/-! Gx21: the check is sound: expressions, the induction. -/
namespace Gx
open PySem PySem.Spec PyProof.Rows L2
section
variable {c : Call} {glob : Str → Option D} {ct : Ct} {X : Cx} {W : Option WX}
theorem ownOf_snd (N : List Str) (own : List Nat) : (ownOf N own).map (·.2) = own := by
  unfold ownOf
  rw [List.map_map]
  exact List.map_id own
theorem nostar_few {es : List Expr} {e : Expr} {cpos : Pos} (h : noStars (e :: es) = true) (hl : (e :: es).length < 20) :
    ((backTo cpos (starEach (e :: es) X.env)).all (fun x => !x.1) && (backToKw cpos (keywordEach [] X.env)).all (fun x => x.1.isSome) && decide ((e :: es).length + ([] : List Keyword).length + (if ([] : List Keyword).isEmpty then 0 else 1) < 30)) = true := by
  have h1 : ∀ es : List Expr, noStars es = true → (backTo cpos (starEach es X.env)).all (fun x => !x.1) = true := fun es => by
    induction es with
    | nil => exact fun _ => rfl
    | cons e es ih =>
      intro h
      obtain ⟨k1, k2⟩ := noStars_cons h
      rw [star_of k1]
      show (true && (backTo cpos (starEach es X.env)).all (fun x => !x.1)) = true
      rw [ih k2]; rfl
  rw [h1 _ h]
  simp only [Bool.true_and, Bool.and_eq_true, decide_eq_true_eq]
  refine ⟨rfl, ?_⟩
  have : (if ([] : List Keyword).isEmpty = true then 0 else 1) = 0 := rfl
  rw [this]
  simp only [List.length_nil]
  omega
theorem lc_ge (h : XOk X W c ct) {n : Nat} (ih : Snd c glob n) {t : Tg} {it : It} {cnd e : E} {own : List Nat} {elt tg iter : Expr} {ifs : List Expr} {scope : Scope}
    (g1 : setB iter = false) (g2 : blkC ct.N ct.sc scope (ownOf ct.N own) = true) (g3 : chkI ct n it iter tg = true) (g4 : chkGb ct.N scope (relS scope ct.sc) t tg = true) (g5 : chkE { ct with sc := relS scope ct.sc, lam := false } n e elt = true)
    (g6 : (match ifs with
      | [] => trueB cnd
      | [c'] => chkT { ct with sc := relS scope ct.sc, lam := false } n cnd c'
      | _ => false) = true) :
    BlkOk X.N X.env.scope scope (ownOf ct.N own) ∧ (∀ (s : Shared) (H : Hp) (C : Addr) (cl : List (Str × Addr)) (fp : List Addr), PG (X.blk s H scope (compEnvC scope cl C X.env) fp) tg (tG (X.blk s H scope (compEnvC scope cl C X.env) fp) t)) ∧
    (∀ (s : Shared) (H : Hp) (C : Addr) (cl : List (Str × Addr)) (fp : List Addr), PTs (X.blk s H scope (compEnvC scope cl C X.env) fp) ifs (tT (X.blk s H scope (compEnvC scope cl C X.env) fp) none (tst (evE c glob cnd)))) ∧
    (∀ (s : Shared) (H : Hp) (C : Addr) (cl : List (Str × Addr)) (fp : List Addr), GE (X.blk s H scope (compEnvC scope cl C X.env) fp) none elt (evE c glob e)) := by
  have hb := blkOk_by g2
  have hk : scope.kind = .function := hb.kind
  refine ⟨by rw [h.N, h.sc]; exact hb, fun s H C cl fp => ?_, fun s H C cl fp => ?_, fun s H C cl fp => ih.E (blk_ok h hk) g5⟩
  · have hx := blk_ok (s := s) (H := H) (C := C) (cl := cl) (fp := fp) h hk
    exact chkGb_ok hx.okx.calm hx.N hx.nd hx.sc (fun x => rfl) g4
  · have hx := blk_ok (s := s) (H := H) (C := C) (cl := cl) (fp := fp) h hk
    match ifs, g6 with
    | [], g6 =>
      have g6 : trueB cnd = true := g6
      have e : cnd = .con (.bl true) := by
        unfold trueB at g6
        split at g6
        · rfl
        · cases g6
      subst e
      exact (gpts_nil (W := none)).imp fun σ H Q q => q
    | [c'], g6 => exact gpts_one (ih.T hx g6)
    | _ :: _ :: _, g6 => cases g6
theorem lcF_eq (t : Tg) (own : List Nat) (it : It) (cnd e : E) : lcF t own (evI c glob it) (tst (evE c glob cnd)) (evE c glob e) = evE c glob (.lc t it cnd e own) := by
  funext φ S
  rw [evE]
  unfold lcF
  congr; funext l φ S
  split
  · rfl
  · split
    · rfl
    · congr
      funext x φ S
      unfold turnF tst
      congr; funext φ _ S
      rw [R.bind_assoc]
theorem snd_E {n : Nat} (ih : Snd c glob n) (h : XOk X W c ct) {e : E} {e' : Expr} (g : chkE ct (n + 1) e e' = true) : GE X W e' (evE c glob e) := by
  unfold chkE at g
  split at g <;> try (cases g; done)
  · rename_i i x p
    simp only [nameB, Bool.and_eq_true, decide_eq_true_eq, Bool.not_eq_true'] at g
    exact ge_var (by rw [h.N]; exact g.1.1.1) (by rw [h.sc]; exact vis_of g.1.1.2) g.1.2 g.2
  · exact con_ok g
  · simp only [Bool.and_eq_true, decide_eq_true_eq] at g
    obtain ⟨⟨rfl, g1⟩, g2⟩ := g
    exact ge_bin (ih.E h g1) (ih.E h g2)
  · simp only [Bool.and_eq_true, decide_eq_true_eq] at g
    obtain ⟨rfl, g1⟩ := g
    exact ge_neg (ih.E h g1)
  · simp only [Bool.and_eq_true, decide_eq_true_eq] at g
    obtain ⟨rfl, g1⟩ := g
    exact ge_not (ih.E h g1)
  · simp only [Bool.and_eq_true, decide_eq_true_eq] at g
    obtain ⟨rfl, g1⟩ := g
    exact ih.B h g1
  · simp only [Bool.and_eq_true, decide_eq_true_eq] at g
    obtain ⟨rfl, g1⟩ := g
    exact ih.B h g1
  · simp only [Bool.and_eq_true, decide_eq_true_eq, Bool.not_eq_true'] at g
    obtain ⟨⟨⟨rfl, g1⟩, g2⟩, g3⟩ := g
    exact ge_cmp h.okx (ih.E h g2) (ih.E h g3) g1
  · simp only [Bool.and_eq_true, decide_eq_true_eq, Bool.not_eq_true'] at g
    obtain ⟨⟨⟨⟨⟨rfl, rfl⟩, g1⟩, g2⟩, g3⟩, g4⟩ := g
    refine eq_ge (ge_chain h.okx (ih.E h g2) (ih.E h g3) (ih.E h g4) g1) ?_
    funext φ S
    unfold fChain
    rw [evE, R.bind_assoc]
    congr; funext x φ S
    rw [R.bind_assoc]
    congr; funext y φ S
    rw [R.bind_assoc]
    congr; funext t φ S
    cases t
    · rfl
    · show ((evE c glob _ φ S).bind _).bind _ = (evE c glob _ φ S).bind _
      rw [R.bind_assoc]
  · simp only [Bool.and_eq_true] at g
    obtain ⟨⟨g1, g2⟩, g3⟩ := g
    exact gt_ite (ih.T h g1) (ih.E h g2) (ih.E h g3) |> fun q => eq_ge q (by funext φ S; rw [evE]; unfold tst; rw [R.bind_assoc])
  · rename_i f as x p args pos
    simp only [Bool.and_eq_true, decide_eq_true_eq] at g
    obtain ⟨⟨⟨rfl, g1⟩, g2⟩, g3⟩ := g
    obtain ⟨hg, hc⟩ := h.fn g1
    cases args with
    | nil =>
      have ha := ih.Es h g2
      have e0 : evEs c glob as = fun φ S => .ok [] φ S := by
        cases n with
        | zero => simp [chkEs] at g2
        | succ n =>
          unfold chkEs at g2
          split at g2 <;> first | (funext φ S; rw [evEs]; done) | cases g2 | (rename_i e; cases e)
      refine eq_ge (ge_app0 hc hg) ?_
      funext φ S
      rw [evE, e0]
    | cons a args =>
      obtain ⟨k1, k2⟩ := noStars_cons g3
      exact ge_app hc hg (ih.Es h g2) (star_of k1) (star_no k2)
  · rename_i p as x p1 a' args pos
    simp only [Bool.and_eq_true, decide_eq_true_eq] at g
    obtain ⟨⟨⟨rfl, g1⟩, g2⟩, g3⟩ := g
    obtain ⟨hg, hm⟩ := h.blt g1
    obtain ⟨k1, k2⟩ := noStars_cons g3
    exact ge_bi h.okx hg hm (ih.Es h g2) (star_of k1) (star_no k2)
  · rename_i a ts x p a' T pos
    simp only [Bool.and_eq_true, decide_eq_true_eq, Bool.not_eq_true'] at g
    obtain ⟨⟨⟨⟨rfl, g1⟩, g2⟩, g3⟩, g4⟩ := g
    obtain ⟨hg, hm⟩ := h.blt g1
    split at g4
    · simp only [Bool.and_eq_true, decide_eq_true_eq] at g4
      obtain ⟨⟨rfl, g5⟩, g6⟩ := g4
      obtain ⟨hgT, hmT⟩ := h.blt g6
      exact ge_isi g5 (ih.E h g3) hg hm hgT hmT (star_of g2)
    · simp only [Bool.and_eq_true, decide_eq_true_eq] at g4
      obtain ⟨ps, hl, rfl, hT⟩ := tyN_of h g4.1
      exact ge_isiT hl (Nat.le_trans g4.2 (by decide)) hT (ih.E h g3) hg hm fun b => star_of g2
    · cases g4
  · rename_i m o as o' x apos args cpos
    simp only [Bool.and_eq_true, decide_eq_true_eq] at g
    obtain ⟨⟨⟨⟨⟨⟨⟨rfl, g1⟩, g2⟩, g3⟩, g4⟩, g5⟩, g6⟩, g7⟩ := g
    cases args with
    | nil =>
      cases m <;> try (cases g7; done)
      have e0 : evEs c glob as = fun φ S => .ok [] φ S := by
        cases n with
        | zero => simp [chkEs] at g4
        | succ n =>
          unfold chkEs at g4
          split at g4 <;> first | (funext φ S; rw [evEs]; done) | cases g4 | (rename_i e; cases e)
      refine eq_ge (ge_mu0 (ih.E h g3) (base_of g2) g1) ?_
      funext φ S
      rw [evE, e0]
      rfl
    | cons a args =>
      obtain ⟨k1, k2⟩ := noStars_cons g5
      exact ge_mu (ih.E h g3) (ih.Es h g4) (base_of g2) (nostar_few g5 g6) g1 (star_of k1) (star_no k2)
  · simp only [Bool.and_eq_true] at g
    exact ge_ix h.okx (ih.E h g.1.2) (ih.E h g.2) (plainIx_of g.1.1)
  · simp only [Bool.and_eq_true] at g
    exact ge_sl (ih.E h g.1.1) (ih.O h g.1.2) (ih.O h g.2)
  · rename_i a b x p1 y p2 a' b' q pos
    simp only [Bool.and_eq_true, decide_eq_true_eq] at g
    obtain ⟨⟨⟨⟨⟨⟨rfl, rfl⟩, g1⟩, g2⟩, g3⟩, g4⟩, g5⟩ := g
    obtain ⟨hg, hm⟩ := h.blt g1
    obtain ⟨hg2, hm2⟩ := h.blt g2
    obtain ⟨k1, k2⟩ := noStars_cons g3
    refine eq_ge (gf_listzip h.okx.calm hg hm hg2 hm2 (ih.E h g4) (ih.E h g5) (star_of k1) (star_of (noStars_cons k2).1) (star_no k2)).ge ?_
    funext φ S
    rw [evE, evI, R.bind_assoc]
    congr; funext x φ S
    rw [R.bind_assoc]
    rfl
  · rename_i a b x p1 y p2 a' b' q pos
    simp only [Bool.and_eq_true, decide_eq_true_eq] at g
    obtain ⟨⟨⟨⟨⟨⟨rfl, rfl⟩, g1⟩, g2⟩, g3⟩, g4⟩, g5⟩ := g
    obtain ⟨hg, hm⟩ := h.blt g1
    obtain ⟨hg2, hm2⟩ := h.blt g2
    obtain ⟨k1, k2⟩ := noStars_cons g3
    exact (gf_lz h.okx.calm hg hm hg2 hm2 (ih.E h g4) (ih.E h g5) (star_of k1) (star_of (noStars_cons k2).1) (star_no k2)).ge
  · rename_i x fl as y p args pos
    simp only [Bool.and_eq_true, decide_eq_true_eq] at g
    obtain ⟨⟨⟨⟨⟨rfl, g1⟩, g2⟩, g3⟩, g4⟩, g5⟩ := g
    obtain ⟨C, T⟩ := h.cls _ g2
    cases args with
    | nil =>
      have e0 : evEs c glob as = fun φ S => .ok [] φ S := by
        cases n with
        | zero => simp [chkEs] at g3
        | succ n =>
          unfold chkEs at g3
          split at g3 <;> first | (funext φ S; rw [evEs]; done) | cases g3 | (rename_i e; cases e)
      have ef : fl = [] := by simpa using g5
      subst ef
      refine eq_ge (ge_mke0 T (h.gl g1)) ?_
      funext φ S
      rw [evE, e0]
      rfl
    | cons a args =>
      obtain ⟨k1, k2⟩ := noStars_cons g4
      exact ge_mke T (fun z => by subst z; simp at g5) h.rm (h.gl g1) (ih.Es h g3) (star_of k1) (star_no k2)
  · rename_i a f cs a' f' pos
    simp only [Bool.and_eq_true, decide_eq_true_eq] at g
    obtain ⟨⟨⟨rfl, g1⟩, g2⟩, g3⟩ := g
    refine ge_fld (fun x hx => ?_) (ih.E h g2) (base_of g1)
    obtain ⟨p, hp, q⟩ := List.any_eq_true.mp (List.all_eq_true.mp g3 x hx)
    simp only [Bool.and_eq_true, decide_eq_true_eq] at q
    obtain ⟨C, T⟩ := h.cls p hp
    exact ⟨C, p.2, q.1 ▸ T, q.2⟩
  · rename_i a us ns x p a' T p2 pos
    simp only [Bool.and_eq_true, decide_eq_true_eq, Bool.not_eq_true'] at g
    obtain ⟨⟨⟨⟨⟨rfl, g1⟩, g2⟩, g3⟩, g4⟩, g5⟩ := g
    obtain ⟨hg, hm⟩ := h.blt g1
    exact ge_isx (h.sub _ g5) (ih.E h g3) hg hm (h.gl g4) (star_of g2)
  · rename_i x g' y p
    simp only [Bool.and_eq_true, decide_eq_true_eq] at g
    obtain ⟨⟨rfl, g1⟩, g2⟩ := g
    exact ge_glo (h.gls _ g2) (h.gl g1)
  · rename_i i fs as x p1 a' args pos
    simp only [nameB, Bool.and_eq_true, decide_eq_true_eq, Bool.not_eq_true', List.all_eq_true] at g
    obtain ⟨⟨⟨g1, g2⟩, g3⟩, g4⟩ := g
    obtain ⟨k1, k2⟩ := noStars_cons g4
    exact ge_appl (fun f hf => h.cp (g2 f hf)) (by rw [h.N]; exact g1.1.1.1) (by rw [h.sc]; exact vis_of g1.1.1.2) g1.1.2 g1.2 (ih.Es h g3) (star_of k1) (star_no k2)
  · rename_i a x p1 y p2 a' p3 pos
    simp only [Bool.and_eq_true, decide_eq_true_eq, Bool.not_eq_true'] at g
    obtain ⟨⟨⟨⟨⟨rfl, rfl⟩, g1⟩, g2⟩, g3⟩, g4⟩ := g
    obtain ⟨hg, hm⟩ := h.blt g1
    obtain ⟨hg2, hm2⟩ := h.blt g2
    exact (ge_srs h.okx.calm hg hm hg2 hm2 (ih.E h g4) (star_of g3)).ge
  · rename_i a as a' x apos e' args cpos
    simp only [Bool.and_eq_true, decide_eq_true_eq, Bool.not_eq_true'] at g
    obtain ⟨⟨⟨⟨⟨⟨rfl, g1⟩, g2⟩, g3⟩, g4⟩, g5⟩, g6⟩ := g
    obtain ⟨k1, k2⟩ := noStars_cons g5
    exact ge_idx (ih.E h g3) (ih.Es h g4) (base_of g2) (nostar_few g5 g6) g1 (star_of k1) (star_no k2)
  · simp only [Bool.and_eq_true, decide_eq_true_eq] at g
    obtain ⟨rfl, g1⟩ := g
    exact ge_rev (p0 := default) (ih.E h g1)
  · rename_i f hd cl sb e x p1 body scope lpos pos
    simp only [Bool.and_eq_true, decide_eq_true_eq, List.all_eq_true] at g
    obtain ⟨⟨⟨⟨⟨⟨⟨rfl, g1⟩, g2⟩, g3⟩, g4⟩, g5⟩, g6⟩, g7⟩ := g
    obtain ⟨R, r⟩ := h.fnr
    obtain ⟨l1, l2⟩ := r.lam g2
    have L : LamX.LamS X.env.scope scope := by rw [h.sc]; exact LamX.lamS_by g6
    exact ge_hrd (h.hds _ g3) (h.gl g1) (fun p hp => h.cls p (g4 p hp)) (fun p hp => h.sbo p (g5 p hp)) l1 l2 L fun A outer s H E f c' hr => ih.E (lam_ok h r L hr) g7
  · exact ge_tup (ih.Es h g)
  · exact (gf_lst (ih.Es h g)).ge
  · exact ge_bxl (ih.Es h g)
  · rename_i t it cnd e own elt tg iter ifs k scope pos
    simp only [Bool.and_eq_true, decide_eq_true_eq, Bool.not_eq_true'] at g
    obtain ⟨⟨⟨⟨⟨⟨rfl, g1⟩, g2⟩, g3⟩, g4⟩, g5⟩, g6⟩ := g
    obtain ⟨h1, h2, h3, h4⟩ := lc_ge (ifs := ifs) h ih g1 g2 g3 g4 g5 g6
    have := (gf_lc (pos := pos) h.okx.calm h.nd (ih.I h g3) h1 h2 h3 h4 (fold_of g1)).ge
    rw [ownOf_snd, lcF_eq] at this
    exact this
theorem snd (c : Call) (glob : Str → Option D) : ∀ n, Snd c glob n
  | 0 => ⟨fun _ => fun h => (Bool.false_ne_true h).elim, fun _ => fun h => (Bool.false_ne_true h).elim, fun _ => fun h => (Bool.false_ne_true h).elim, fun _ => fun h => (Bool.false_ne_true h).elim, fun _ => fun h => (Bool.false_ne_true h).elim, fun _ => fun h => (Bool.false_ne_true h).elim, fun _ => fun h => (Bool.false_ne_true h).elim⟩
  | n + 1 => have ih := snd c glob n
    ⟨fun h => snd_E ih h, fun h => snd_T ih h, fun h => snd_B ih h, fun h => snd_W ih h, fun h => snd_O ih h, fun h => snd_Es ih h, fun h => snd_I ih h⟩
end
end Gx
set_option Elab.async false
set_option linter.all false
set_option maxRecDepth 100000
set_option maxHeartbeats 4000000
/-! Gx22: the check of statements and that it is sound. -/
namespace Gx
open PySem PySem.Spec PyProof.Rows L2
/-- what a pair of displays does with its stores; none: the model has no answer -/
def swapC (sc : Scope) (ts vs : List Expr) : Option (Option (List Str)) :=
  if !(ts.length == 2 || ts.length == 3) || vs.length != ts.length then some none else
  if vs.any (fun | .Starred .. => true | _ => false) then some none else
  let line := (ts.head?.map (·.pos.line)).getD 0
  let names := ts.filterMap fun
    | .Name id pos => if sc.names.lookup id == some .local && pos.line == line then some id else none
    | _ => none
  if names.length != ts.length || names.eraseDups.length != names.length then some none else
  if vs.all (foldedForSure 8) then some none else
  if vs.all (constantsAlone 8) then none else some (some names)
theorem swapC_ok {env : Env} {sc : Scope} {ts vs : List Expr} {k k2 : Nat} {p p2 : Pos} {r : Option (List Str)} (hs : env.scope = sc) (hk : env.scope.kind = .function) (h : swapC sc ts vs = some r) : swappedStores [.Tuple ts k p] (.Tuple vs k2 p2) env = pure r := by
  subst hs
  have hb : env.blockKind = .function := by unfold Env.blockKind; rw [hk]; rfl
  have hkd : ∀ y, env.kindOf y = env.scope.names.lookup y := fun _ => rfl
  unfold swapC at h
  unfold swappedStores
  simp only [hb, bne_self_eq_false, Bool.or_false, hkd]
  split at h
  · cases h; rename_i q; exact if_pos q
  · rename_i q; refine (if_neg q).trans ?_
    split at h
    · cases h; rename_i q; exact if_pos q
    · rename_i q; refine (if_neg q).trans ?_
      dsimp only at h
      split at h
      · cases h; rename_i q; exact if_pos q
      · rename_i q; refine (if_neg q).trans ?_
        split at h
        · cases h; rename_i q; exact if_pos q
        · rename_i q; refine (if_neg q).trans ?_
          split at h
          · cases h
          · rename_i q; cases h; exact if_neg q
theorem swaps_plain {v : Expr} {t : Option Expr} {l : Nat} {env : Env} (h : compB v = false) : swapsWith v t l env = pure false := by
  cases v <;> first | rfl | cases h
theorem swaps_cell {v : Expr} {y : Str} {p : Pos} {l : Nat} {env : Env} (h : env.scope.names.lookup y = some .cell) : swapsWith v (some (.Name y p)) l env = pure false := by
  have hk : env.kindOf y = some .cell := h
  have hd : (some NameKind.cell == some NameKind.local) = false := by decide
  cases v <;> first | rfl | (unfold swapsWith; simp only [hk, hd, Bool.and_false, Bool.false_and]; try rfl)
theorem swaps_tup {v : Expr} {es : List Expr} {k : Nat} {p : Pos} {l : Nat} {env : Env} : swapsWith v (some (.Tuple es k p)) l env = pure false := by cases v <;> rfl
theorem swaps_sub {v o i : Expr} {p : Pos} {l : Nat} {env : Env} : swapsWith v (some (.Subscript o i p)) l env = pure false := by cases v <;> rfl
theorem stores_tup {v : Expr} {es : List Expr} {k : Nat} {p : Pos} {env : Env} (h : tupB v = false) : swappedStores [.Tuple es k p] v env = pure none := by cases v <;> first | rfl | cases h
theorem stores_sub {v o i : Expr} {p : Pos} {env : Env} : swappedStores [.Subscript o i p] v env = pure none := by cases v <;> rfl
theorem stores_name {v : Expr} {x : Str} {p : Pos} {env : Env} : swappedStores [.Name x p] v env = pure none := by cases v <;> rfl
/-- a new object's expression -/
def freshB : E → Bool
  | .lst _ => true
  | .bin _ _ _ => true
  | .bi p _ => decide (p = .list ∨ p = .sorted)
  | .lc _ _ _ _ _ => true
  | .srs _ => true
  | _ => false
def chkM (ct : Ct) (n : Nat) : List (Nat × Bool) → Es → List Expr → Bool
  | [], .nil, [] => true
  | (_, b) :: is, .cons e r, e' :: es => !starB e' && chkE ct n e e' && (!b || freshB e) && chkM ct n is r es
  | _, _, _ => false
def chkNs (ct : Ct) : List (Nat × Bool) → List Expr → Bool
  | [], [] => true
  | (i, _) :: is, .Name x _ :: es => decide (ct.N[i]? = some x) && locB ct.sc x && chkNs ct is es
  | _, _ => false
def cellB (sc : Scope) (x : Str) : Bool := match sc.names.lookup x with
  | some .cell => true
  | _ => false
/-- a list comprehension whose list is stored from within its block -/
def lcInB (sc : Scope) (x : Str) (px : Pos) : Expr → Bool
  | .ListComp _ [⟨_, _, _, k⟩] s p => decide (k = 0) && isLoc sc x && (px.line == p.line) && !(s.names.any fun (n, k) => n == x && (k == .local || k == .cell))
  | _ => false
mutual
def chkS (ct : Ct) : Nat → S → Stmt → Bool
  | 0, _, _ => false
  | n + 1, s, st => match s, st with
    | .asg i e, .Assign [.Name x px] e' _ => decide (ct.N[i]? = some x) && locB ct.sc x && chkE ct n e e' && (!compB e' || cellB ct.sc x || lcInB ct.sc x px e')
    | .own i e, .Assign [.Name x px] e' _ => decide (ct.N[i]? = some x) && locB ct.sc x && chkE ct n e e' && freshB e && (!compB e' || cellB ct.sc x || lcInB ct.sc x px e')
    | .par is es, .Assign [.Tuple tes _ _] (.Tuple es' _ _) _ => chkM ct n is es es' && chkNs ct is tes && decide (is.length ≤ 20) && (match swapC ct.sc tes es' with
      | some none => true
      | some (some names) => (match is, tes, es' with
        | [(i, _), (j, _)], [.Name x _, .Name y _], [_, _] => decide (names = [x, y]) && decide (i ≠ j) && isLoc ct.sc x && isLoc ct.sc y
        | [(i, _), (j, _), (l, _)], [.Name x _, .Name y _, .Name z _], [_, _, _] => decide (names = [x, y, z]) && decide (i ≠ j) && decide (i ≠ l) && decide (j ≠ l) && isLoc ct.sc x && isLoc ct.sc y && isLoc ct.sc z
        | _, _, _ => false)
      | none => false)
    | .unp t e, .Assign [.Tuple tes k p] e' _ => !tupB e' && chkG ct t (.Tuple tes k p) && chkE ct n e e'
    | .aug i o e, .AugAssign (.Name x _) op e' _ => decide (op = pyOp o) && decide (ct.N[i]? = some x) && locB ct.sc x && chkE ct n e e'
    | .six o k e, .Assign [.Subscript o' k' _] e' _ => ixB k' && chkE ct n o o' && chkE ct n k k' && chkE ct n e e'
    | .aix p o k e, .AugAssign (.Subscript o' k' _) op e' _ => decide (op = pyOp p) && ixB k' && chkE ct n o o' && chkE ct n k k' && chkE ct n e e'
    | .ex e, .Expr e' _ => !compB e' && chkE ct n e e'
    | .ifs t a b, .If t' a' b' _ => chkT ct n t t' && chkSs ct n a a' && chkSs ct n b b'
    | .for_ t it body, .For tg iter b [] _ => !setB iter && chkI ct n it iter tg && chkG ct t tg && chkSs ct n body b
    | .wh t body, .While t' b [] _ => chkT ct n t t' && chkSs ct n body b
    | .ret e, .Return (some e') _ => chkE ct n e e'
    | .ret e, .Return none _ => (match e with | .con .non => true | _ => false)
    | .brk, .Break _ => true
    | .cont, .Continue _ => true
    | .pas, .Pass _ => true
    | .never, _ => true
    | .rse x fl as, .Raise (some (.Call (.Name y _) args [] _)) none _ => decide (y = x) && glB ct.sc x && decide ((x, fl) ∈ ct.cls) && chkEs ct n as args && noStars args && decide (fl.isEmpty = args.isEmpty)
    | _, _ => false
def chkSs (ct : Ct) : Nat → List S → List Stmt → Bool
  | 0, _, _ => false
  | n + 1, ss, sts => match ss, sts with
    | .frz _ :: ss, sts => chkSs ct n ss sts
    | [], [] => true
    | s :: ss, st :: sts => chkS ct n s st && chkSs ct n ss sts
    | _, _ => false
end
structure SOk (X : Cx) (W : Option WX) (c : Call) (ct : Ct) : Prop where
  x : XOk X W c ct
  fn : ∀ y, X.fn y = true
  po : PassesOwn (model X.prog X.w) X.A X.env X.xe
section
variable {c : Call} {glob : Str → Option D} {ct : Ct} {X : Cx} {W : Option WX} {n w : Nat}
theorem gs_never {st : Stmt} : GS X W st (fun _ _ => .no) := ps_never.imp fun Z σ H ⟨F, μ, φ, S, rl, po⟩ => po.elim
theorem eq_gf {X : Cx} {W : Option WX} {e : Expr} {f g : Fr → Sto → R D} (h : GF X W e f) (k : f = g) : GF X W e g := k ▸ h
theorem eq_gs {st : Stmt} {f g : Fr → Sto → R Flow'} (h : GS X W st f) (k : f = g) : GS X W st g := k ▸ h
theorem sub_gs {st : Stmt} {f g : Fr → Sto → R Flow'} (h : GS X W st f) (k : ∀ φ S, g φ S = f φ S ∨ g φ S = .no) : GS X W st g := h.imp fun Z σ H ⟨F, μ, φ, S, rl, po⟩ => ⟨F, μ, φ, S, rl, by
  rcases k φ S with e | e
  · rw [← e]; exact po
  · rw [e] at po; exact po.elim⟩
theorem cell_of {sc : Scope} {x : Str} (h : cellB sc x = true) : sc.names.lookup x = some .cell := by
  unfold cellB at h
  split at h
  · assumption
  · cases h
theorem isLoc_of {sc : Scope} {x : Str} (h : isLoc sc x = true) : sc.names.lookup x = some .local := by
  unfold isLoc at h
  split at h
  · assumption
  · cases h
theorem fresh_ok (h : XOk X W c ct) {e : E} {e' : Expr} (g : chkE ct n e e' = true) (f : freshB e = true) : GF X W e' (evF c glob e) := by
  cases n with
  | zero => exact (Bool.false_ne_true g).elim
  | succ n =>
  have ih := snd c glob n
  cases e <;> try (cases f; done)
  case bin o a b =>
    unfold chkE at g
    split at g <;> try (cases g; done)
    all_goals (try (rename_i e; cases e; done))
    rename_i heq
    cases heq
    simp only [Bool.and_eq_true, decide_eq_true_eq] at g
    obtain ⟨⟨rfl, g1⟩, g2⟩ := g
    exact gf_bin (ih.E h g1) (ih.E h g2)
  case bi p as =>
    unfold chkE at g
    split at g <;> try (cases g; done)
    all_goals (try (rename_i e; cases e; done))
    rename_i heq
    cases heq
    simp only [Bool.and_eq_true, decide_eq_true_eq] at g
    obtain ⟨⟨⟨rfl, g1⟩, g2⟩, g3⟩ := g
    obtain ⟨hg, hm⟩ := h.blt g1
    obtain ⟨k1, k2⟩ := noStars_cons g3
    have f : p = .list ∨ p = .sorted := of_decide_eq_true f
    rcases f with rfl | rfl
    · exact gf_list hg hm (ih.Es h g2) (star_of k1) (star_no k2)
    · exact gf_sorted hg hm (boot_bi .sorted) (ih.Es h g2) (star_of k1) (star_no k2)
  case srs a =>
    unfold chkE at g
    split at g <;> try (cases g; done)
    all_goals (try (rename_i e; cases e; done))
    rename_i heq
    cases heq
    simp only [Bool.and_eq_true, decide_eq_true_eq, Bool.not_eq_true'] at g
    obtain ⟨⟨⟨⟨⟨rfl, rfl⟩, g1⟩, g2⟩, g3⟩, g4⟩ := g
    obtain ⟨hg, hm⟩ := h.blt g1
    obtain ⟨hg2, hm2⟩ := h.blt g2
    exact ge_srs h.okx.calm hg hm hg2 hm2 (ih.E h g4) (star_of g3)
  case lst as =>
    unfold chkE at g
    split at g <;> try (cases g; done)
    all_goals (try (rename_i e; cases e; done))
    rename_i heq
    cases heq
    exact gf_lst (ih.Es h g)
  case lc t it cnd e own =>
    unfold chkE at g
    split at g <;> try (cases g; done)
    all_goals (try (rename_i e; cases e; done))
    rename_i heq
    cases heq
    simp only [Bool.and_eq_true, decide_eq_true_eq, Bool.not_eq_true'] at g
    obtain ⟨⟨⟨⟨⟨⟨rfl, g1⟩, g2⟩, g3⟩, g4⟩, g5⟩, g6⟩ := g
    obtain ⟨h1, h2, h3, h4⟩ := lc_ge h ih g1 g2 g3 g4 g5 g6
    refine eq_gf (gf_lc h.okx.calm h.nd (ih.I h g3) h1 h2 h3 h4 (fold_of g1)) ?_
    rw [ownOf_snd, lcF_eq]
    rfl
theorem chkM_ok (h : XOk X W c ct) : ∀ {is : List (Nat × Bool)} {es : Es} {l : List Expr}, chkM ct n is es l = true → GM X W is l (evM c glob is es)
  | [], .nil, [], _ => gm_nil
  | [], .nil, _ :: _, g => by simp [chkM] at g
  | [], .cons _ _, _, g => by simp [chkM] at g
  | [], .star _ _, _, g => by simp [chkM] at g
  | (i, b) :: is, .nil, _, g => by simp [chkM] at g
  | (i, b) :: is, .star _ _, _, g => by simp [chkM] at g
  | (i, b) :: is, .cons e r, [], g => by simp [chkM] at g
  | (i, b) :: is, .cons e r, e' :: es, g => by
    simp only [chkM, Bool.and_eq_true, Bool.not_eq_true', Bool.or_eq_true] at g
    obtain ⟨⟨⟨g1, g2⟩, g3⟩, g4⟩ := g
    have hr := chkM_ok h g4
    cases b with
    | false => exact gm_consV ((snd c glob n).E h g2) hr (star_of g1)
    | true =>
      rcases g3 with g3 | g3
      · cases g3
      · exact gm_consF (fresh_ok h g2 g3) hr (star_of g1)
theorem chkNs_ok (h : SOk X W c ct) : ∀ {is : List (Nat × Bool)} {l : List Expr}, chkNs ct is l = true → PGs X l (gNs is) ∧ (assignEach l X.env).length = is.length ∧ (assignEach l X.env).findIdx? (·.1) = none
  | [], [], _ => ⟨pgs_nil, rfl, rfl⟩
  | [], _ :: _, g => by simp [chkNs] at g
  | _ :: _, [], g => by simp [chkNs] at g
  | (i, b) :: is, e :: es, g => by
    cases e <;> simp only [chkNs, Bool.false_eq_true] at g
    simp only [Bool.and_eq_true, decide_eq_true_eq] at g
    obtain ⟨h1, h2, h3⟩ := chkNs_ok h g.2
    rename_i x p
    refine ⟨pgs_cons (pg_name h.x.nd (by rw [h.x.N]; exact g.1.1) (by rw [h.x.sc]; exact loc_of g.1.2) (.inl (h.fn _))) h1 rfl, ?_, ?_⟩
    · show ((false, assign (.Name x p) X.env) :: assignEach es X.env).length = _
      rw [List.length_cons, List.length_cons, h2]
    · show ((false, assign (.Name x p) X.env) :: assignEach es X.env).findIdx? _ = none
      rw [List.findIdx?_cons]
      simp only [Bool.false_eq_true, if_false, h3, Option.map_none]
/-- what a comprehension's text says, opened -/
theorem lc_open (h : XOk X W c ct) {e : E} {elt : Expr} {gs : List Comprehension} {scope : Scope} {pos : Pos} (g : chkE ct n e (.ListComp elt gs scope pos) = true) : ∃ t it cnd e1 own tg iter ifs, e = .lc t it cnd e1 own ∧ gs = [⟨tg, iter, ifs, 0⟩] ∧
    GI X W tg iter (evI c glob it) ∧ BlkOk X.N X.env.scope scope (ownOf ct.N own) ∧ (∀ (s : Shared) (H : Hp) (C : Addr) (cl : List (Str × Addr)) (fp : List Addr), PG (X.blk s H scope (compEnvC scope cl C X.env) fp) tg (tG (X.blk s H scope (compEnvC scope cl C X.env) fp) t)) ∧
    (∀ (s : Shared) (H : Hp) (C : Addr) (cl : List (Str × Addr)) (fp : List Addr), PTs (X.blk s H scope (compEnvC scope cl C X.env) fp) ifs (tT (X.blk s H scope (compEnvC scope cl C X.env) fp) none (tst (evE c glob cnd)))) ∧
    (∀ (s : Shared) (H : Hp) (C : Addr) (cl : List (Str × Addr)) (fp : List Addr), GE (X.blk s H scope (compEnvC scope cl C X.env) fp) none elt (evE c glob e1)) ∧ ∀ v, foldedSetIterable iter X.env v = pure v := by
  cases n with
  | zero => exact (Bool.false_ne_true g).elim
  | succ n =>
  have ih := snd c glob n
  unfold chkE at g
  split at g <;> try (cases g; done)
  all_goals (try (rename_i e; cases e; done))
  rename_i heq
  cases heq
  simp only [Bool.and_eq_true, decide_eq_true_eq, Bool.not_eq_true'] at g
  obtain ⟨⟨⟨⟨⟨⟨rfl, g1⟩, g2⟩, g3⟩, g4⟩, g5⟩, g6⟩ := g
  obtain ⟨h1, h2, h3, h4⟩ := lc_ge h ih g1 g2 g3 g4 g5 g6
  exact ⟨_, _, _, _, _, _, _, _, rfl, rfl, ih.I h g3, h1, h2, h3, h4, fold_of g1⟩
end
end Gx
set_option Elab.async false
set_option linter.all false
set_option maxRecDepth 100000
set_option maxHeartbeats 4000000
/-! Gx23: the check of statements is sound. -/
namespace Gx
open PySem PySem.Spec PyProof.Rows L2
structure SndS (c : Call) (glob : Str → Option D) (w n : Nat) : Prop where
  S : ∀ {ct : Ct} {X : Cx} {W : Option WX}, SOk X W c ct → ∀ {s : S} {st : Stmt}, chkS ct n s st = true → GS X W st (evS c glob w s)
  Ss : ∀ {ct : Ct} {X : Cx} {W : Option WX}, SOk X W c ct → ∀ {s : List Gx.S} {st : List Stmt}, chkSs ct n s st = true → GSs X W st (evSs c glob w s)
section
variable {c : Call} {glob : Str → Option D} {ct : Ct} {X : Cx} {W : Option WX} {n w : Nat}
theorem SOk.loc (h : SOk X W c ct) {i : Nat} {x : Str} (g1 : ct.N[i]? = some x) (g2 : locB ct.sc x = true) : X.N[i]? = some x ∧ L2.Loc X.env.scope x ∧ (X.fn x = true ∨ X.env.scope.names.lookup x = some .local) := ⟨by rw [h.x.N]; exact g1, by rw [h.x.sc]; exact loc_of g2, .inl (h.fn x)⟩
theorem sole {t v : Expr} {l : Nat} {env : Env} : swapsWithSole [t] v l env = swapsWith v (some t) l env := by first | rfl | rw [swapsWithSole] | (unfold swapsWithSole; rfl)
theorem par1 {i : Nat} {b : Bool} {f : Fr → Sto → R D} (φ : Fr) (S : Sto) : parF [(i, b)] (fun φ S => (f φ S).bind fun d φ S => .ok [d] φ S) φ S = (f φ S).bind fun d φ S => if keepD d && decide (i < φ.length) then .ok .nx (φ.set i (if b then .own true d else .v d)) S else .no := by
  unfold parF
  rw [R.bind_assoc]
  congr; funext d φ S
  show (ofO (setAll [(i, b)] [d] φ) φ S).bind _ = _
  simp only [setAll]
  split <;> rfl
theorem lcIn_ok (h : SOk X W c ct) {i : Nat} {x : Str} {px pos : Pos} {e : E} {e' : Expr} {b : Bool} (g1 : ct.N[i]? = some x) (g3 : chkE ct n e e' = true) (g4 : lcInB ct.sc x px e' = true) :
    GS X W (.Assign [.Name x px] e' pos) (parF [(i, b)] fun φ S => (evE c glob e φ S).bind fun d φ S => .ok [d] φ S) := by
  unfold lcInB at g4
  split at g4 <;> try (cases g4; done)
  rename_i elt tg iter ifs k scope p
  simp only [Bool.and_eq_true, decide_eq_true_eq, Bool.not_eq_true'] at g4
  obtain ⟨⟨⟨rfl, k1⟩, k2⟩, k3⟩ := g4
  obtain ⟨t, it, cnd, e1, own, tg', iter', ifs', rfl, eg, h1, h2, h3, h4, h5, h6⟩ := lc_open (glob := glob) h.x g3
  cases eg
  have hl : X.env.scope.names.lookup x = some .local := by rw [h.x.sc]; exact isLoc_of k1
  have := gs_setLc (b := b) (i := i) (pos := p) (spos := pos) (py := px) h.x.okx.calm h.x.nd (by rw [h.x.N]; exact g1) hl (sw_true h.x.kind hl k2 k3) h1 h2 h3 h4 h5 h6
  rw [ownOf_snd, lcF_eq] at this
  exact this
theorem snd_S (ih : SndS c glob w n) (h : SOk X W c ct) {s : S} {st : Stmt} (g : chkS ct (n + 1) s st = true) : GS X W st (evS c glob w s) := by
  unfold chkS at g
  split at g <;> try (cases g; done)
  · rename_i i e x px e' pos
    simp only [Bool.and_eq_true, decide_eq_true_eq, Bool.or_eq_true, Bool.not_eq_true'] at g
    obtain ⟨⟨⟨g1, g2⟩, g3⟩, g4⟩ := g
    obtain ⟨l1, l2, l3⟩ := h.loc g1 g2
    have ge := (snd c glob n).E h.x g3
    rcases g4 with (g4 | g4) | g4
    · exact gs_set h.x.nd l1 l2 ge (swaps_plain g4) l3
    · exact gs_set h.x.nd l1 l2 ge (swaps_cell (by rw [h.x.sc]; exact cell_of g4)) l3
    · refine eq_gs (lcIn_ok (glob := glob) (b := false) h g1 g3 g4) ?_
      funext φ S
      rw [par1, evS]
      rfl
  · rename_i i e x px e' pos
    simp only [Bool.and_eq_true, decide_eq_true_eq, Bool.or_eq_true, Bool.not_eq_true'] at g
    obtain ⟨⟨⟨⟨g1, g2⟩, g3⟩, gf⟩, g4⟩ := g
    obtain ⟨l1, l2, l3⟩ := h.loc g1 g2
    have ge := fresh_ok (glob := glob) h.x g3 gf
    rcases g4 with (g4 | g4) | g4
    · exact gs_own h.x.nd l1 l2 ge (swaps_plain g4) l3
    · exact gs_own h.x.nd l1 l2 ge (swaps_cell (by rw [h.x.sc]; exact cell_of g4)) l3
    · refine sub_gs (lcIn_ok (glob := glob) (b := true) h g1 g3 g4) fun φ S => ?_
      obtain ⟨t, it, cnd, e1, own, rfl⟩ : ∃ t it cnd e1 own, e = .lc t it cnd e1 own := by
        unfold lcInB at g4
        split at g4 <;> try (cases g4; done)
        obtain ⟨t, it, cnd, e1, own, _, _, _, rfl, _⟩ := lc_open (glob := glob) h.x g3
        exact ⟨_, _, _, _, _, rfl⟩
      rw [par1, evS]
      show (evE c glob _ φ S).bind _ = _ ∨ (evE c glob _ φ S).bind _ = _
      cases evE c glob (.lc t it cnd e1 own) φ S with
      | no => exact .inl rfl
      | exc _ _ _ => exact .inl rfl
      | ok d φ1 S1 =>
        show (if ownD d && decide (i < φ1.length) then R.ok Flow'.nx (φ1.set i (.own true d)) S1 else R.no) = _ ∨ _ = R.no
        cases ho : ownD d with
        | false => exact .inr (by show (if (ownD d && decide (i < φ1.length)) = true then R.ok Flow'.nx (φ1.set i (.own true d)) S1 else R.no) = R.no; rw [ho]; rfl)
        | true =>
          have hk : keepD d = true := by cases d <;> first | rfl | cases ho
          refine .inl ?_
          simp [hk]
  · rename_i is es tes kt p es' kt2 p2 pos
    simp only [Bool.and_eq_true, decide_eq_true_eq] at g
    obtain ⟨⟨⟨g1, g2⟩, g3⟩, g4⟩ := g
    have gm := chkM_ok (glob := glob) h.x g1
    split at g4
    · rename_i hsw
      have hw := swapC_ok (k := kt) (k2 := kt2) (p := p) (p2 := p2) h.x.sc h.x.kind hsw
      obtain ⟨k1, k2, k3⟩ := chkNs_ok h g2
      exact gs_tupM h.x.okx.calm (Nat.le_trans g3 (by decide)) gm k1 k2 k3 (sole.trans swaps_tup) hw rfl
    · rename_i names hsw
      have hw := swapC_ok (k := kt) (k2 := kt2) (p := p) (p2 := p2) h.x.sc h.x.kind hsw
      split at g4 <;> try (cases g4; done)
      · simp only [Bool.and_eq_true, decide_eq_true_eq] at g4
        obtain ⟨⟨⟨rfl, k1⟩, k2⟩, k3⟩ := g4
        simp only [chkNs, Bool.and_eq_true, decide_eq_true_eq] at g2
        exact gs_par2 h.x.okx.calm h.x.nd (by rw [h.x.N]; exact g2.1.1) (by rw [h.x.N]; exact g2.2.1.1) k1 (by rw [h.x.sc]; exact isLoc_of k2) (by rw [h.x.sc]; exact isLoc_of k3) gm hw
      · simp only [Bool.and_eq_true, decide_eq_true_eq] at g4
        obtain ⟨⟨⟨⟨⟨⟨rfl, k1⟩, k2⟩, k3⟩, k4⟩, k5⟩, k6⟩ := g4
        simp only [chkNs, Bool.and_eq_true, decide_eq_true_eq] at g2
        exact gs_par3 h.x.okx.calm h.x.nd (by rw [h.x.N]; exact g2.1.1) (by rw [h.x.N]; exact g2.2.1.1) (by rw [h.x.N]; exact g2.2.2.1.1) k1 k2 k3 (by rw [h.x.sc]; exact isLoc_of k4) (by rw [h.x.sc]; exact isLoc_of k5) (by rw [h.x.sc]; exact isLoc_of k6) gm hw
    · cases g4
  · rename_i t e tes k p e' pos
    simp only [Bool.and_eq_true, Bool.not_eq_true'] at g
    obtain ⟨⟨g1, g2⟩, g3⟩ := g
    exact gs_unp ((snd c glob n).E h.x g3) (chkG_ok h.x.okx.calm h.x.N h.x.nd h.x.sc h.fn g2) (sole.trans swaps_tup) (stores_tup g1) rfl
  · rename_i i o e x p op e' pos
    simp only [Bool.and_eq_true, decide_eq_true_eq] at g
    obtain ⟨⟨⟨rfl, g1⟩, g2⟩, g3⟩ := g
    obtain ⟨l1, l2, l3⟩ := h.loc g1 g2
    exact gs_aug h.x.nd l1 l2 ((snd c glob n).E h.x g3) l3
  · rename_i o k e o' k' p e' pos
    simp only [Bool.and_eq_true] at g
    refine gs_six h.x.okx ((snd c glob n).E h.x g.2) ((snd c glob n).E h.x g.1.1.2) ((snd c glob n).E h.x g.1.2) (sole.trans swaps_sub) stores_sub rfl ?_
    have gi := g.1.1.1
    cases k' <;> first | (intro v; rfl) | cases gi
  · rename_i p o k e o' k' p1 op e' pos
    simp only [Bool.and_eq_true, decide_eq_true_eq] at g
    obtain ⟨⟨⟨⟨rfl, g1⟩, g2⟩, g3⟩, g4⟩ := g
    refine gs_aix h.x.okx ((snd c glob n).E h.x g2) ((snd c glob n).E h.x g3) ((snd c glob n).E h.x g4) ?_
    cases k' <;> first | (intros; rfl) | cases g1
  · simp only [Bool.and_eq_true, Bool.not_eq_true'] at g
    exact gs_expr ((snd c glob n).E h.x g.2) (swaps_plain g.1)
  · simp only [Bool.and_eq_true] at g
    refine eq_gs (gs_if ((snd c glob n).T h.x g.1.1) (ih.Ss h g.1.2) (ih.Ss h g.2)) ?_
    funext φ S
    rw [evS]
    unfold tst
    rw [R.bind_assoc]
  · simp only [Bool.and_eq_true, Bool.not_eq_true'] at g
    obtain ⟨⟨⟨g1, g2⟩, g3⟩, g4⟩ := g
    exact gs_for h.po h.x.okx.calm ((snd c glob n).I h.x g2) (chkG_ok h.x.okx.calm h.x.N h.x.nd h.x.sc h.fn g3) (ih.Ss h g4) (fold_of g1)
  · simp only [Bool.and_eq_true] at g
    exact gs_while h.po ((snd c glob n).T h.x g.1) (ih.Ss h g.2)
  · exact gs_ret ((snd c glob n).E h.x g)
  · split at g
    · exact gs_retN
    · cases g
  · exact gs_brk
  · exact gs_cont
  · exact gs_pass
  · exact gs_never
  · rename_i x fl as y p args pos pos2
    simp only [Bool.and_eq_true, decide_eq_true_eq] at g
    obtain ⟨⟨⟨⟨⟨rfl, g1⟩, g2⟩, g3⟩, g4⟩, g5⟩ := g
    obtain ⟨C, T⟩ := h.x.cls _ g2
    have h0 : args = [] ↔ fl = [] := by
      rw [← List.isEmpty_iff, ← List.isEmpty_iff, g5]
    refine gs_rse T h.x.tk h.x.okx.calm h.x.rm (h.x.gl g1) ((snd c glob n).Es h.x g3) h0 (fun e r e1 => ?_) fun e1 φ S => ?_
    · subst e1
      obtain ⟨k1, k2⟩ := noStars_cons g4
      exact ⟨star_of k1, star_no k2⟩
    · subst e1
      cases n with
      | zero => simp [chkEs] at g3
      | succ n =>
        unfold chkEs at g3
        split at g3 <;> first | (rw [evEs]; done) | cases g3 | (rename_i e; cases e)
theorem snd_Ss (ih : SndS c glob w n) (h : SOk X W c ct) {s : List S} {st : List Stmt} (g : chkSs ct (n + 1) s st = true) : GSs X W st (evSs c glob w s) := by
  unfold chkSs at g
  split at g <;> try (cases g; done)
  · exact gss_frz (ih.Ss h g)
  · exact gss_nil
  · simp only [Bool.and_eq_true] at g
    have := gss_cons (ih.S h g.1) (ih.Ss h g.2)
    refine this.imp fun Z σ H ⟨F, μ, φ, S, rl, po⟩ => ⟨F, μ, φ, S, rl, ?_⟩
    rw [evSs] at po
    unfold seqF
    exact po
theorem sndS (c : Call) (glob : Str → Option D) (w : Nat) : ∀ n, SndS c glob w n
  | 0 => ⟨fun _ => fun h => (Bool.false_ne_true h).elim, fun _ => fun h => (Bool.false_ne_true h).elim⟩
  | n + 1 => have ih := sndS c glob w n
    ⟨fun h => snd_S ih h, fun h => snd_Ss ih h⟩
end
end Gx
set_option Elab.async false
set_option linter.all false
set_option maxRecDepth 100000
set_option maxHeartbeats 4000000
/-! Gx24: a def keeps what the evaluator says; all defs of a text; the law. -/
namespace Gx
open PySem PySem.Spec PyProof.Rows L2
section
variable {X : Cx} {W : Option WX} {F : Addr → Prop} {μ μ' : List Addr} {φ φ' : Fr} {S S' : Sto} {σ σ' : L2.St} {H H' : Hp}
/-- a frame that owns nothing -/
def bare (φ : Fr) : Prop := ∀ (i : Nat) w d, φ[i]? ≠ some (.own w d)
theorem mu_bare (h : bare φ) : muOf μ φ σ = muOf μ [] [] := by
  funext x
  simp only [muOf, eq_iff_iff]
  constructor
  · rintro (q | ⟨i, w, d, q, _⟩)
    · exact .inl q
    · exact absurd q (h i w d)
  · rintro (q | ⟨i, q⟩)
    · exact .inl q
    · exact (own0 q).elim
theorem pm_bare (h : bare φ) : pm X F μ φ σ = pm X F μ [] [] := by
  unfold pm
  rw [mu_bare h]
theorem start_bare (n : Nat) (as : List D) : bare (startF n as) := fun i w d e => by
  unfold startF at e
  rcases Nat.lt_or_ge i as.length with q | q
  · rw [List.getElem?_append_left (by simpa using q), List.getElem?_map, List.getElem?_eq_getElem q] at e
    cases e
  · rw [List.getElem?_append_right (by simpa using q), List.getElem?_replicate] at e
    split at e <;> cases e
theorem Rl.entry {N : List Str} {as : List D} {vs : List V} (rl : Rl X F μ [] S [] H) (h : RDs (pm X F μ [] []) H as vs) : Rl X F μ (startF N.length as) S (L2.start N vs) H := by
  have hb := start_bare N.length as
  have pe : pm X F μ (startF N.length as) (L2.start N vs) = pm X F μ [] [] := pm_bare hb
  have hl := h.length
  refine ⟨rl.lenS, by unfold startF L2.start; simp [hl], fun n d a h1 h2 => by rw [pe]; exact rl.bx n d a h1 h2, fun i s w h1 h2 => ?_, rl.n1, fun n i a _ ⟨w, d, q, _⟩ => hb i w d q, fun i j a ⟨w, d, q, _⟩ => absurd q (hb i w d), rl.f1, fun a q z => rl.f2 a q (by rw [mu_bare hb] at z; exact z), rl.tab⟩
  rw [pe]
  unfold startF at h1
  unfold L2.start at h2
  rcases Nat.lt_or_ge i as.length with q | q
  · rw [List.getElem?_append_left (by simpa using q), List.getElem?_map, List.getElem?_eq_getElem q] at h1
    obtain ⟨v, e1, e2⟩ := h.get (List.getElem?_eq_getElem q)
    rw [List.getElem?_append_left (by rw [List.length_map, ← hl]; exact q), List.getElem?_map, e1] at h2
    cases h1; cases h2
    exact ⟨v, rfl, e2⟩
  · rw [List.getElem?_append_right (by simpa using q), List.getElem?_replicate] at h1
    split at h1 <;> cases h1
    trivial
theorem Sx.exit {N : List Str} {as : List D} {vs : List V} (rl : Rl X F μ [] S [] H) (n : Sx X F μ (startF N.length as) (L2.start N vs) H μ' φ' S' σ' H') : Nx X F μ [] [] H μ' [] S' H' ∧ Sim (pm X F μ' φ' σ') (pm X F μ' [] []) := by
  have pe : pm X F μ (startF N.length as) (L2.start N vs) = pm X F μ [] [] := pm_bare (start_bare N.length as)
  have mu : ∀ x, muOf μ' [] [] x → muOf μ' φ' σ' x := fun x q => .inl (mu0.mp q)
  have sm : Sim (pm X F μ' φ' σ') (pm X F μ' [] []) := ⟨rfl, rfl, fun x q => q.elim (fun q => .inl (mu x q)) .inr, fun _ _ q => q⟩
  have ex := n.ext
  rw [pe] at ex
  refine ⟨⟨⟨n.rl.lenS, rfl, fun m d x h1 h2 => (n.rl.bx m d x h1 h2).via sm, fun i s w h => by simp at h, n.rl.n1, fun m i x _ q => own0 q, fun i j x q => (own0 q).elim, n.rl.f1, fun x h1 h2 => n.rl.f2 x h1 (mu x h2), n.rl.tab⟩, ex.trans (Ext.less2 sm mu fun _ z => .inl z), fun i w d h => by simp at h, ⟨n.f, fun i d h => by simp at h⟩⟩, sm⟩
end

/-- a def as it stands behind the top, with its form; tb: its code object and the table that its lambdas fill -/
structure Ent where
  x : Str
  qual : Str
  st : Stmt
  f : Addr
  fd : FuncData
  N : List Str
  ps : List Str
  body : List S
  tb : Option (Addr × Addr) := none
/-- what the forms lean on -/
structure Lst where
  fns : List Str
  bns : List Str
  cls : List (Str × List Str)
  sub : List (Str × List Str × List Str)
  hds : List (Str × Gy.Hd)
  sbo : List (Str × List Str × List Str)
  gls : List (Str × Gv)
def Lst.ct (L : Lst) (sc : Scope) (N : List Str) (lam : Bool) : Ct := ⟨sc, N, L.fns, L.bns, L.cls, L.sub, lam, L.hds, L.sbo, L.gls⟩
structure EntOk (K : PySem.W.Frag) (mg : Str → Option Value) (L : Lst) (fuel : Nat) (e : Ent) : Prop where
  F : Fun K e.x e.qual e.st e.f e.fd
  sc : FnScope e.N e.ps (defScope e.st)
  mg : mg e.x = some (.ref e.f)
  kp : PySem.W.keepIn K (.ref e.f) = true
  bd : L2.Binds K e.fd e.ps []
  db : (e.x == ("__debug__" : Str)) = false
  ck : chkSs (L.ct (defScope e.st) e.N e.tb.isSome) fuel e.body (defBody e.st) = true
  tb : ∀ t, e.tb = some t → e.fd.code = .ref t.1 ∧ (t.2, (e.qual ++ ".<locals>.") ++ "<lambda>") ∈ tabsL ∧ ∀ p ∈ tabsL, p.1 = t.2 → p.2 = (e.qual ++ ".<locals>.") ++ "<lambda>"
/-- what is known of the classes and of the defs that hear -/
structure LstOk (P : Program) (K : PySem.W.Frag) (mg : Str → Option Value) (L : Lst) : Prop where
  bns : ∀ x ∈ L.bns, mg x = none
  cls : ∀ p ∈ L.cls, ∃ C, ErrC P K mg p.1 C p.2
  sub : ∀ p ∈ L.sub, SubOk P K mg p.1 p.2.1 p.2.2
  hds : ∀ p ∈ L.hds, HdOk K mg p.1 p.2
  sbo : ∀ p ∈ L.sbo, SubC P K mg p.1 p.2.1 p.2.2
  gls : ∀ p ∈ L.gls, GloOk mg p.1 p.2
/-- the table of the forms -/
def tbl (lib : List Ent) : Str → Option Def := fun x => (lib.find? fun e => decide (e.x = x)).map fun e => ⟨e.ps.length, e.N.length, e.body⟩
section
variable {P : Program} {w : World} {K : PySem.W.Frag} {mg : Str → Option Value} {base : Heap} {lib : List Ent} {L : Lst} {fuel wh : Nat} {glob : Str → Option D}
theorem callP_of {T : Str → Option Def} {n m : Nat} (hb : ∀ e ∈ lib, EntOk K mg L fuel e) (hf : L.fns = lib.map (·.x)) (ih : ∀ e ∈ lib, FnOk P w K mg base (L2.CX P w) m e.f e.fd e.ps (spRun K mg True (run T glob wh n) e.x))
    {X : Cx} (h1 : X.prog = P) (h2 : X.w = w) (h3 : X.K = K) (h4 : X.mg = mg) (h5 : X.base = base) (hr : Room m X.A) {W : Option WX} (tk : ∀ W1, W = some W1 → Takes X W1) : ∀ f ∈ L.fns, CallP X W (run T glob wh n) f := fun f hf' => by
  rw [hf] at hf'
  obtain ⟨e, he, rfl⟩ := List.mem_map.mp hf'
  have o := hb e he
  subst h1 h2 h3 h4 h5
  exact CallP.ofX (ih e he) hr o.mg o.kp o.bd o.db tk
theorem lib_ok {T : Str → Option Def} (hT : ∀ e ∈ lib, T e.x = some ⟨e.ps.length, e.N.length, e.body⟩) (hb : ∀ e ∈ lib, EntOk K mg L fuel e) (hf : L.fns = lib.map (·.x)) (lo : LstOk P K mg L) (hTB : ∀ e ∈ lib, ∀ t, e.tb = some t → LamX.TabB base mg t.1 t.2) : ∀ n, ∀ e ∈ lib, FnOk P w K mg base (L2.CX P w) (3 * n + 1) e.f e.fd e.ps (spRun K mg True (run T glob wh n) e.x)
  | 0 => fun e _ => ⟨fun vs H Q E ⟨_, _, _, _, _, _, _, _, _, po⟩ => po.elim, fun A outer s H args us vs Q E _ _ _ _ ⟨_, _, _, _, _, _, _, _, _, po⟩ => po.elim⟩
  | n + 1 => fun e he => by
    have o := hb e he
    have ih := lib_ok hT hb hf lo hTB n
    have te := hT e he
    have lens : ∀ vs H Q E, spRun K mg True (run T glob wh (n + 1)) e.x vs H Q E → vs.length = e.ps.length := fun vs H Q E ⟨X0, F, μ, S, as, _, _, _, rd, po⟩ => by
      rw [run_if te] at po
      split at po
      · rename_i hl; rw [← rd.length]; exact hl
      · exact po.elim
    obtain ⟨oc, od, kV, doc, pm', an, cdv, ct, osl, efd, lk, hcd⟩ := o.F.ex
    have ecd : e.fd.code = cdv := by rw [efd]
    rw [efd] at lk ⊢
    refine fn_of (k := 3 * n + 3) lk hcd o.sc lens fun A outer s H vs Q E hr hsp => ?_
    obtain ⟨X0, F, μ, S, as, k1, k2, rl0, rd0, po⟩ := hsp
    let X := cxOf (L2.CX P w) P w K mg base e.N e.qual (defScope e.st) e.f cdv A outer s H E
    have rl1 : Rl X F μ [] S [] H := rl0.cx (Y := X) k1.symm k2.symm
    have rd1 : RDs (pm X F μ [] []) H as vs := by rw [pm_cx (X := X0) (Y := X) k1.symm k2.symm]; exact rd0
    rw [run_if te] at po
    have tk : ∀ W1, (some fun cls d _ H => E cls d H) = some W1 → Takes X W1 := fun W1 z => by
      cases z
      exact takes_of rfl rfl rfl rfl
    have so : SOk X (some fun cls d _ H => E cls d H) (run T glob wh n) (L.ct (defScope e.st) e.N e.tb.isSome) := ⟨⟨⟨rfl, okx_of hr⟩, rfl, o.sc.kind, rfl, o.sc.nd, tk, ⟨3 * n + 1, by omega, hr.mono (by omega), fun f hf' Y hY hrY W' tk' => callP_of hb hf ih hY.prog hY.w hY.K hY.mg hY.base hrY tk' f hf', fun hl => ⟨hr, by
        obtain ⟨t, et⟩ := Option.isSome_iff_exists.mp hl
        obtain ⟨c1, c2, c3⟩ := o.tb t et
        exact ⟨t.1, t.2, hTB e he t et, by rw [← c1, ecd]; rfl, c2, c3⟩⟩⟩, lo.bns, lo.cls, lo.sub, lo.hds, lo.sbo, lo.gls⟩, fun _ => rfl, passes_of rfl⟩
    refine ⟨tS X (some fun cls d _ H => E cls d H) (evSs (run T glob wh n) glob wh e.body), (sndS _ glob wh fuel).Ss so o.ck, F, μ, startF e.N.length as, S, rl1.entry rd1, ?_⟩
    have conv : ∀ {φ' S' μ' σ' H'}, Sx X F μ (startF e.N.length as) (L2.start e.N vs) H μ' φ' S' σ' H' → Nx X0 F μ [] [] H μ' [] S' H' ∧ Sim (pm X F μ' φ' σ') (pm X0 F μ' [] []) := fun {φ' S' μ' σ' H'} sx => by
      obtain ⟨nx, sm⟩ := sx.exit rl1
      exact ⟨nx.cx (X := X) (Y := X0) k1 k2, by rw [pm_cx (X := X) (Y := X0) k1 k2]; exact sm⟩
    split at po
    · revert po
      cases evSs (run T glob wh n) glob wh e.body (startF e.N.length as) S with
      | no => exact fun po => po
      | exc x φ' S' => exact fun po => ⟨by simp, fun μ' σ' H' cls dx sx ex => po.2 μ' H' cls dx (conv sx).1 (ex.via (conv sx).2)⟩
      | ok f φ' S' =>
        cases f with
        | nx => exact fun po μ' σ' H' sx => po μ' H' .non (conv sx).1 rfl
        | brk => exact fun po => po.elim
        | cont => exact fun po => po.elim
        | ret d => exact fun po μ' σ' H' sx v r => po μ' H' v (conv sx).1 (RD.via (conv sx).2 r)
    · exact po.elim
end
/-- some context, for its K and mg alone -/
def cx0 (P : Program) (w : World) (K : PySem.W.Frag) (mg : Str → Option Value) (base : Heap) (s : Shared) : Cx :=
  { prog := P, w := w, K := K, mg := mg, base := base, A := {}, N := [], s_0 := s, H_0 := fun _ => none, env := default, outer := [], stack := [], ex := [], fn := fun _ => true, calm := true, pn := [], xe := fun _ _ => False }
/-- the law's promise -/
def spLaw (K : PySem.W.Frag) (x : Str) : Sp := fun vs H Q _ => ∃ (a : Addr) (ns : List Int), vs = [.ref a] ∧ SqL K H a (ns.map V.int) ∧ ns.length ≤ 63 ∧ TabOk H ∧ ∀ H', Q (.bl true) H'
theorem law_sp {P : Program} {w : World} {K : PySem.W.Frag} {mg : Str → Option Value} {base : Heap} {n m : Nat} {f : Addr} {fd : FuncData} {T : Str → Option Def} {glob : Str → Option D} {wh : Nat} {x : Str}
    (h : FnOk P w K mg base (L2.CX P w) m f fd ["script"] (spRun K mg True (run T glob wh n) x)) (hev : ∀ ns : List Int, ns.length ≤ 63 → ∃ S, run T glob wh n x [.scr ns] [] = .ok (.bl true) S) : FnOk P w K mg base (L2.CX P w) m f fd ["script"] (spLaw K x) := by
  refine ⟨fun vs H Q E ⟨a, ns, e, _⟩ => by rw [e]; rfl, fun A outer s H args us vs Q E hr he hb hv ⟨a, ns, e, hS, hl, hO, q⟩ => ?_⟩
  subst e
  refine h.run A outer s H args us [.ref a] Q E hr he hb hv ?_
  obtain ⟨S', e⟩ := hev ns hl
  refine ⟨cx0 P w K mg base s, fun _ => False, [], [], [.scr ns], rfl, rfl, ⟨rfl, rfl, fun n d a h => by simp at h, fun i s w h => by simp at h, fun n m a h => by simp at h, fun n i a h => by simp at h, fun i j a h => (own0 h).elim, fun a h => h.elim, fun a h => h.elim, hO⟩, ⟨.ref a, [], rfl, ⟨a, rfl, ?_⟩, rfl⟩, ?_⟩
  · rcases hS with h1 | h1
    · exact .inl ⟨fun z => z.elim (fun z => (mu0.mp z).elim fun n z => by simp at z) id, h1⟩
    · exact .inr (.inr h1)
  · rw [e]
    intro μ' H' v _ r
    cases (show v = .bl true from r)
    exact q H'
end Gx
set_option Elab.async false
set_option linter.all false
set_option maxRecDepth 100000
set_option maxHeartbeats 4000000
/-! Gx30: what the top has written of an error class. -/
namespace Gx
open PySem PySem.Spec PyProof.Rows L2
/-- what every error class says -/
structure ClsF (K : PySem.W.Frag) (C : Addr) : Prop where
  ga : PySem.W.findIn K (.ref C) "__getattribute__" = some (some (.builtin "BaseException.__getattribute__"))
  gg : PySem.W.findIn K (.ref C) "__getattr__" = some none
  exC : PySem.W.subIn K (.ref C) (.type "BaseException") = some true
  hdC : PySem.W.hasDictIn K C = true
  ha : PySem.W.findIn K (.ref C) "__class__" = some (some (.builtin "object.__class__"))
  hn : PySem.W.specialIn K (.builtin "object.__class__") "__get__" = some (some (.builtin "getset_descriptor.__get__"))
  ht : PySem.W.takesIn K (.builtin "object.__class__") = some true
  hm : PySem.W.mroIn K C (.type "object") = some true
  ic : PySem.W.isClsIn K C = true
  kC : PySem.W.keepIn K (.ref C) = true
section
variable {P : Program} {K : PySem.W.Frag} {mg : Str → Option Value} {x : Str} {C : Addr}
theorem ClsF.xf (f : ClsF K C) : XfC K C := ⟨f.ga, f.gg, f.exC, f.hdC⟩
theorem ClsF.ex (f : ClsF K C) : ExcC K C := ⟨f.ga, f.gg, f.exC, f.hdC, f.ha, f.hn, f.ht, f.hm⟩
/-- a class without an __init__ of its own -/
theorem err0_mk (g : mg x = some (.ref C)) (db : (x == ("__debug__" : Str)) = false) (f : ClsF K C) (q : PySem.W.excIn K C [.type "ValueError", .type "Exception", .type "BaseException", .type "object"] "ValueError.__new__" = true) (ty : PySem.W.typeIn K (.ref C) = some (.type "type")) : ErrC P K mg x C [] :=
  ⟨g, db, f.xf, f.ex, f.ic, ty, fun f h => by simp at h, .inl ⟨rfl, q, f.kC⟩⟩
/-- what is known of its __init__ -/
structure IniF (P : Program) (K : PySem.W.Frag) (mg : Str → Option Value) (C fI : Addr) (fd : FuncData) : Prop where
  oex : OexC K C
  iC : PySem.W.findIn K (.ref C) "__init__" = some (some (.ref fI))
  tI : PySem.W.typeIn K (.ref fI) = some (.type "function")
  sup : Gy.SupC P K mg C fd
  lk : ∃ oc od osl, K.lookup fI = some ⟨oc, od, .func fd, osl⟩
  rec_ : PySem.W.codeIn K fd.code fd.qualname = true
  co : fd.scope.isCoroutine = false
  gen : fd.scope.isGenerator = false
theorem ini_mk {nm q : Str} {N : Addr} {bs bm : List Value} {sn : List Str} {sub : List Value} {ab : Bool} {col : Option Bool} {dd : Option Addr} {k0 k1 k2 k3 k5 : Option Value} {fI cc cda : Addr} {fd : FuncData}
    {oc cl ccl : Value} {od cld cdd : Option Addr} {osl csl ccs : Array (Option Value)} {vs : Array Value} {file : Str} {tf : Tok} (f : ClsF K C)
    (lk : K.lookup C = some (excClassObj nm q C N bs bm true sn sub ab col dd k0 k1 k2 k3 k5 "ValueError.__new__")) (hbm : PySem.HandSPX.refsVE bm = true) (sa : PySem.W.findIn K (.ref C) "__setattr__" = some (some (.builtin "object.__setattr__"))) (tyC : PySem.W.typeIn K (.ref C) = some (.type "type"))
    (iC : PySem.W.findIn K (.ref C) "__init__" = some (some (.ref fI))) (tI : PySem.W.typeIn K (.ref fI) = some (.type "function")) (lI : K.lookup fI = some ⟨oc, od, .func fd, osl⟩) (cI : PySem.W.codeIn K fd.code fd.qualname = true)
    (gl : fd.globals = mainGlobals) (bl : fd.builtins = builtinsNs) (kind : fd.scope.kind = .function) (ks : fd.scope.names.lookup ("super" : Str) = some .globalImplicit) (kc : fd.scope.names.lookup ("__class__" : Str) = some .free)
    (clo : fd.closure.lookup ("__class__" : Str) = some cc) (lcc : K.lookup cc = some ⟨cl, cld, .cell (some (.ref C)), csl⟩) (code : fd.code = .ref cda) (lcd : K.lookup cda = some ⟨ccl, cdd, .fields vs, ccs⟩) (hvs : vs[2]? = some (.str file tf)) (hf : ((P.main.file : Str) == file) = true)
    (top : (P.main.scope.names.lookup ("super" : Str)).isSome = false) (sup : mg "super" = none) (init : PySem.W.ks_superIn K C C "__init__" = some (some (.builtin "ValueError.__init__"))) (hB : PySem.W.subIn K (.ref C) (.type "ValueError") = some true) (any : PySem.W.nsIn K cStatics "thirdparty.any" = some none)
    (sb : PySem.W.mroIn K C (.ref C) = some true) (co : fd.scope.isCoroutine = false) (gen : fd.scope.isGenerator = false) : IniF P K mg C fI fd :=
  { oex := ⟨⟨nm, q, N, bs, bm, sn, sub, ab, col, dd, k0, k1, k2, k3, k5, lk, hbm⟩, sa, f.exC, tyC, f.kC⟩, iC := iC, tI := tI,
    sup := ⟨gl, bl, kind, ks, kc, ⟨cc, cl, cld, csl, clo, lcc⟩, ⟨cda, ccl, cdd, vs, ccs, file, tf, code, lcd, hvs, hf⟩, top, sup, init, hB, any, sb⟩, lk := ⟨oc, od, osl, lI⟩, rec_ := cI, co := co, gen := gen }
theorem ev_of {o : Expr} {nm : Str} {p2 p3 : Pos} {es : List Expr} {env : Env} (h : (p2.endLine == p3.line) = true) (hf : methodCallForm (es.length + ([] : List Keyword).length) (backTo p3 (starEach es env)) (backToKw p3 (keywordEach [] env)) = true) :
    ∃ pl : Sem Bool, eval (.Call (.Attribute o nm p2) es [] p3) env = (do
      let ov ← attributeBase o nm env (eval o env)
      standAt p2.atName
      let (f, first) ← holding [ov] (getMethod ov nm pl)
      callWith p3 f first (backTo p3 (starEach es env)) []) := by
  refine ⟨(do return (← importBound o env).getD true), ?_⟩
  rw [arm_eval_Call]
  unfold methodCall
  rw [hf]
  have e : methodCallPos true o env p2 p3 = pure p3 := by unfold methodCallPos; rw [h]; rfl
  rw [e]
  rfl
/-- one field -/
theorem err1_mk {fI : Addr} {fd : FuncData} {ar : Arg} {slf f1 y1 : Str} {p0 p1 p2 p3 p4 r1 q1 q2 q3 q4 : Pos} (g : mg x = some (.ref C)) (db : (x == ("__debug__" : Str)) = false) (f : ClsF K C) (i : IniF P K mg C fI fd)
    (hcell : ∀ x ∈ fd.scope.names, x.2 ≠ .cell) (nd : ([slf, y1] : List Str).Nodup) (l0 : fd.scope.names.lookup slf = some .local ∧ (slf == ("__debug__" : Str)) = false) (l1 : fd.scope.names.lookup y1 = some .local ∧ (y1 == ("__debug__" : Str)) = false)
    (hd : (fd.params.posonlyargs ++ fd.params.args).head? = some ar) (ha : ar.arg = slf)
    (hb : fd.body = .stmts [.Expr (.Call (.Attribute (.Call (.Name "super" p0) [] [] p1) "__init__" p2) [.Name y1 r1] [] p3) p4, .Assign [.Attribute (.Name slf q1) f1 q2] (.Name y1 q4) q3])
    (hps : (p2.endLine == p3.line) = true) (n1 : PySem.W.findIn K (.ref C) f1 = some none) (bd : L2.Binds K fd [slf, y1] []) : ErrC P K mg x C [f1] := by
  refine ⟨g, db, f.xf, f.ex, f.ic, i.oex.tyC, fun z h => by simp at h; subst h; exact n1, .inr ⟨fI, fd, [slf, y1], [⟨f1, y1, q1, q2, q3, q4⟩], i.oex, i.iC, i.tI, bd, rfl, by simp, (by show 1 ≤ 1000; decide), fun w base => ?_⟩⟩
  refine Gy.init_fn (slf := slf) (nms := [(y1, r1)]) (p0 := p0) (p1 := p1) (p2 := p2) (p3 := p3) (p4 := p4) (a0 := ⟨f1, y1, q1, q2, q3, q4⟩) (as := []) ⟨i.oex, i.sup, i.lk, i.rec_, i.co, i.gen, hcell, rfl, nd, fun z h => ?_, ⟨ar, hd, ha⟩, hb, rfl, fun z h => ?_, (by show 0 ≤ 100; decide), fun L => ev_of hps rfl, fun L z h => ?_⟩
  · simp at h; rcases h with rfl | rfl <;> assumption
  · simp at h; subst h; exact n1
  · simp at h; subst h; rfl
/-- two fields -/
theorem err2_mk {fI : Addr} {fd : FuncData} {ar : Arg} {slf f1 y1 f2 y2 : Str} {p0 p1 p2 p3 p4 r1 q1 q2 q3 q4 r2 t1 t2 t3 t4 : Pos} (g : mg x = some (.ref C)) (db : (x == ("__debug__" : Str)) = false) (f : ClsF K C) (i : IniF P K mg C fI fd)
    (hcell : ∀ x ∈ fd.scope.names, x.2 ≠ .cell) (nd : ([slf, y1, y2] : List Str).Nodup) (l0 : fd.scope.names.lookup slf = some .local ∧ (slf == ("__debug__" : Str)) = false) (l1 : fd.scope.names.lookup y1 = some .local ∧ (y1 == ("__debug__" : Str)) = false) (l2 : fd.scope.names.lookup y2 = some .local ∧ (y2 == ("__debug__" : Str)) = false)
    (hd : (fd.params.posonlyargs ++ fd.params.args).head? = some ar) (ha : ar.arg = slf)
    (hb : fd.body = .stmts [.Expr (.Call (.Attribute (.Call (.Name "super" p0) [] [] p1) "__init__" p2) [.Name y1 r1, .Name y2 r2] [] p3) p4, .Assign [.Attribute (.Name slf q1) f1 q2] (.Name y1 q4) q3, .Assign [.Attribute (.Name slf t1) f2 t2] (.Name y2 t4) t3])
    (hps : (p2.endLine == p3.line) = true) (n1 : PySem.W.findIn K (.ref C) f1 = some none) (n2 : PySem.W.findIn K (.ref C) f2 = some none) (bd : L2.Binds K fd [slf, y1, y2] []) : ErrC P K mg x C [f1, f2] := by
  refine ⟨g, db, f.xf, f.ex, f.ic, i.oex.tyC, fun z h => by simp at h; rcases h with rfl | rfl <;> assumption, .inr ⟨fI, fd, [slf, y1, y2], [⟨f1, y1, q1, q2, q3, q4⟩, ⟨f2, y2, t1, t2, t3, t4⟩], i.oex, i.iC, i.tI, bd, rfl, by simp, (by show 2 ≤ 1000; decide), fun w base => ?_⟩⟩
  refine Gy.init_fn (slf := slf) (nms := [(y1, r1), (y2, r2)]) (p0 := p0) (p1 := p1) (p2 := p2) (p3 := p3) (p4 := p4) (a0 := ⟨f1, y1, q1, q2, q3, q4⟩) (as := [⟨f2, y2, t1, t2, t3, t4⟩]) ⟨i.oex, i.sup, i.lk, i.rec_, i.co, i.gen, hcell, rfl, nd, fun z h => ?_, ⟨ar, hd, ha⟩, hb, rfl, fun z h => ?_, (by show 1 ≤ 100; decide), fun L => ev_of hps rfl, fun L z h => ?_⟩
  · simp at h; rcases h with rfl | rfl | rfl <;> assumption
  · simp at h; rcases h with rfl | rfl <;> assumption
  · simp at h; rcases h with rfl | rfl <;> rfl
end
end Gx
namespace Gx
open PySem PySem.Spec PyProof.Rows L2
/-- an own class asked of another one -/
theorem subC_one {K : PySem.W.Frag} {C D : Addr} {b : Bool} (f : ClsF K C) (ty : PySem.W.typeIn K (.ref C) = some (.type "type")) (h : PySem.W.subIn K (.ref D) (.ref C) = some b) (hn : D = C → b = true) :
    PySem.W.kitOne K (.ref D) (.ref C) = some b ∧ PySem.W.exmOne K (.ref D) (.ref C) = some b := by
  have e := PySem.W.exm_ref f.exC f.hdC ty h
  refine ⟨?_, e⟩
  unfold PySem.W.kitOne
  split
  · rename_i q
    have : D = C := by simpa using q
    rw [hn this]
  · unfold PySem.W.exmOne at e
    split at e
    · exact e
    · cases e
theorem law_all {P : Program} {w : World} {K : PySem.W.Frag} {mg : Str → Option Value} {lib : List Ent} {L : Lst} {fuel wh n : Nat} {T : Str → Option Def} {glob : Str → Option D} {e : Ent} {cs : List (Addr × Addr)} {h : Heap}
    (he : e ∈ lib) (hx : e.x = ("law" : Str)) (hps : e.ps = [("script" : Str)]) (hT : ∀ e ∈ lib, T e.x = some ⟨e.ps.length, e.N.length, e.body⟩) (hb : ∀ e ∈ lib, EntOk K mg L fuel e) (hf : L.fns = lib.map (·.x)) (lo : LstOk P K mg L)
    (hcs : ∀ e ∈ lib, ∀ t, e.tb = some t → t ∈ cs) (htl : ∀ p ∈ tabsL, ∃ t ∈ cs, t.2 = p.1) (h1 : ∀ p ∈ cs, h.get? p.2 = some { cls := .none, data := .fields #[] }) (h2 : ∀ p ∈ cs, K.lookup p.2 = none) (h3 : ∀ p ∈ cs, PySem.W.CodeHd h p.1 p.2)
    (hbind : ∀ (kV doc pm : Value) (an : Option Addr) (cdv ct : Value) (v : Value), bindArgs (PySem.W.fnOf e.x e.qual (defArgs e.st) (defBody e.st) (defScope e.st) .none kV doc pm an cdv ct) ⟨[v], []⟩ = pure [(("script" : Str), v)])
    (hev : ∀ ns : List Int, ns.length ≤ 63 → ∃ S, run T glob wh n "law" [.scr ns] [] = .ok (.bl true) S) (hfa : mg "law" = some (.ref fa)) :
    ∃ (fd : FuncData) (cs : List (Addr × Addr)) (sp : Sp), (∀ p ∈ cs, h.get? p.2 = some { cls := .none, data := .fields #[] }) ∧ (∀ p ∈ cs, K.lookup p.2 = none) ∧ (∀ p ∈ cs, PySem.W.CodeHd h p.1 p.2) ∧ (∀ (s : Shared) (u : Value), BindsTo s fd ⟨[u], []⟩ [("script", u)]) ∧
    (∀ (H : Hp) (a : Addr) (ns : List Int), ns.length ≤ 63 → (∀ z ∈ ns, Builtin.Int.intBits z ≤ 1048576) → (∀ p ∈ cs, H p.2 = some (.tbl #[])) → SqL K H a (ns.map V.int) → sp [.ref a] H (fun v _ => v = .bl true) fun _ _ _ => False) ∧
    ∀ base : Heap, K.In base → base.Ns mainGlobals mg → (∀ p ∈ cs, LamX.TabB base mg p.1 p.2) → FnOk P w K mg base (L2.CX P w) (3 * n + 1) fa fd ["script"] sp := by
  have o := hb e he
  have ef : e.f = fa := by
    have := o.mg
    rw [hx, hfa] at this
    exact (Value.ref.inj (Option.some.inj this)).symm
  refine ⟨e.fd, cs, spLaw K "law", h1, h2, h3, fun s v => ?_, fun H a ns hl _ hH hS => ⟨a, ns, rfl, hS, hl, fun p hp => ?_, fun _ => rfl⟩, fun base _ _ hTB => ?_⟩
  · obtain ⟨oc, od, kV, doc, pm, an, cdv, ct, osl, efd, _, _⟩ := o.F.ex
    rw [efd]
    exact .of_eq (hbind kV doc pm an cdv ct v)
  · obtain ⟨t, ht, e⟩ := htl p hp
    exact LamX.TabS.nil (by rw [← e]; exact hH t ht)
  · have h := lib_ok (w := w) (base := base) (wh := wh) (glob := glob) (T := T) hT hb hf lo (fun e he t et => hTB t (hcs e he t et)) n e he
    rw [hx, hps, ef] at h
    exact law_sp h hev
end Gx
set_option Elab.async false
set_option linter.all false
set_option maxRecDepth 100000
/-! the forms of the defs, printed by mk.py -/
namespace GxLaw
open PySem L2 Gx
def topS (i : Nat) : Stmt := PySem.Challenge.pw_greenrounds_k10_whole_islands_of_roads.main.body.getD i (.Pass ⟨0, 0, 0, 0⟩)
def fnsL : List Str := ["is_integer", "is_within", "are_all", "are_integers", "age", "checked_walk", "begin_seconds", "may_begin", "wait", "checked_island", "there_at", "over_at", "ways", "greatest_way", "sum_of_ways", "is_through", "with_later", "best_turn", "_law_bag", "_law_take", "_law_some", "_law_alike", "_law_window", "_law_is_int", "_law_may", "_law_wait", "_law_walk", "_law_any_program", "_law_over", "_law_turned", "_law_walk_fault", "law"]
def bnsL : List Str := ["len", "abs", "max", "min", "sum", "sorted", "int", "bool", "str", "tuple", "list", "all", "any", "set", "range", "zip", "enumerate", "isinstance", "dict"]
def clsL : List (Str × List Str) := [("LightsError", []), ("Refused", ["why"]), ("Nothing", []), ("TooMany", ["what", "limit"])]
def subL : List (Str × List Str × List Str) := []
def sboL : List (Str × List Str × List Str) := [("LightsError", ["LightsError", "Refused", "Nothing", "TooMany"], []), ("Refused", ["Refused"], ["LightsError", "Nothing", "TooMany"]), ("TooMany", ["TooMany"], ["LightsError", "Refused", "Nothing"]), ("Nothing", ["Nothing"], ["LightsError", "Refused", "TooMany"])]
def hd__law_heard : Gy.Hd := ⟨"told", [⟨"LightsError", some 1, (.tst "Refused" "refused" ["why"] (.tst "TooMany" "many" ["what", "limit"] (.ife "Nothing" "nothing" [] "other" [])))⟩]⟩
def hdsL : List (Str × Gy.Hd) := [("_law_heard", hd__law_heard)]
def glsL : List (Str × Gv) := [("is_integer", .fn), ("MOST_SECONDS", (.int 60)), ("MOST_ACROSS", (.int 99))]
def lstL : Lst := ⟨fnsL, bnsL, clsL, subL, hdsL, sboL, glsL⟩
theorem hb__law_heard : Gy.hdB ["act", "error"] (defScope (topS 37)) "act" hd__law_heard (defBody (topS 37)) = true := by decide +kernel
theorem sc__law_heard : FnScope ["act", "error"] ["act"] (defScope (topS 37)) := ⟨rfl, rfl, rfl, by decide +kernel, rfl, by decide +kernel, by decide +kernel⟩
def b_is_integer : List S := [.ret (.and_ (.isi (.var 0) ["int"]) (.not_ (.isi (.var 0) ["bool"])))]
def n_is_integer : List Str := ["thing"]
theorem ck_is_integer : chkSs (lstL.ct (defScope (topS 7)) n_is_integer false) 60 b_is_integer (defBody (topS 7)) = true := by decide +kernel
theorem sc_is_integer : FnScope n_is_integer ["thing"] (defScope (topS 7)) := ⟨rfl, rfl, rfl, by decide +kernel, rfl, by decide +kernel, by decide +kernel⟩
def b_is_within : List S := [.ret (.and_ (.app "is_integer" (.cons (.var 0) .nil)) (.chain .le .le (.var 1) (.var 0) (.var 2)))]
def n_is_within : List Str := ["thing", "least", "most"]
theorem ck_is_within : chkSs (lstL.ct (defScope (topS 8)) n_is_within false) 60 b_is_within (defBody (topS 8)) = true := by decide +kernel
theorem sc_is_within : FnScope n_is_within ["thing", "least", "most"] (defScope (topS 8)) := ⟨rfl, rfl, rfl, by decide +kernel, rfl, by decide +kernel, by decide +kernel⟩
def b_are_all : List S := [.ret (.and_ (.isi (.var 0) ["tuple"]) (.bi .all (.cons (.lc (.nm 2) (.seq (.var 0)) (.con (.bl true)) (.appl 1 ["is_integer"] (.cons (.var 2) .nil)) [2]) .nil)))]
def n_are_all : List Str := ["thing", "fits", "member"]
theorem ck_are_all : chkSs (lstL.ct (defScope (topS 9)) n_are_all false) 60 b_are_all (defBody (topS 9)) = true := by decide +kernel
theorem sc_are_all : FnScope n_are_all ["thing", "fits"] (defScope (topS 9)) := ⟨rfl, rfl, rfl, by decide +kernel, rfl, by decide +kernel, by decide +kernel⟩
def b_are_integers : List S := [.ret (.app "are_all" (.cons (.var 0) (.cons (.glo "is_integer" .fn) .nil)))]
def n_are_integers : List Str := ["thing"]
theorem ck_are_integers : chkSs (lstL.ct (defScope (topS 10)) n_are_integers false) 60 b_are_integers (defBody (topS 10)) = true := by decide +kernel
theorem sc_are_integers : FnScope n_are_integers ["thing"] (defScope (topS 10)) := ⟨rfl, rfl, rfl, by decide +kernel, rfl, by decide +kernel, by decide +kernel⟩
def b_age : List S := [.ret (.bin .mod (.bin .sub (.var 2) (.ix (.ix (.ix (.var 0) (.con (.int 1))) (.var 1)) (.con (.int 0)))) (.ix (.var 0) (.con (.int 0))))]
def n_age : List Str := ["program", "stream", "second"]
theorem ck_age : chkSs (lstL.ct (defScope (topS 12)) n_age false) 60 b_age (defBody (topS 12)) = true := by decide +kernel
theorem sc_age : FnScope n_age ["program", "stream", "second"] (defScope (topS 12)) := ⟨rfl, rfl, rfl, by decide +kernel, rfl, by decide +kernel, by decide +kernel⟩
def b_checked_walk : List S := [.ifs (.or_ (.not_ (.app "are_integers" (.cons (.var 1) .nil))) (.cmp .ne (.bi .len (.cons (.var 1) .nil)) (.con (.int 3)))) [.rse "Refused" ["why"] (.cons (.con (.str (Str.ofString "form"))) .nil)] [],
  .unp (.tp [(.nm 2), (.nm 3), (.nm 4)]) (.var 1),
  .ifs (.not_ (.app "is_within" (.cons (.var 2) (.cons (.con (.int 0)) (.cons (.bin .sub (.bi .len (.cons (.ix (.var 0) (.con (.int 1))) .nil)) (.con (.int 1))) .nil))))) [.rse "Refused" ["why"] (.cons (.con (.str (Str.ofString "stream"))) .nil)] [],
  .ifs (.not_ (.app "is_within" (.cons (.var 3) (.cons (.con (.int 1)) (.cons (.glo "MOST_SECONDS" (.int 60)) .nil))))) [.rse "Refused" ["why"] (.cons (.con (.str (Str.ofString "walk"))) .nil)] [],
  .ifs (.not_ (.app "is_within" (.cons (.var 4) (.cons (.con (.int 1)) (.cons (.glo "MOST_SECONDS" (.int 60)) .nil))))) [.rse "Refused" ["why"] (.cons (.con (.str (Str.ofString "clear"))) .nil)] [],
  .ifs (.cmp .gt (.bin .add (.var 3) (.var 4)) (.ix (.ix (.ix (.var 0) (.con (.int 1))) (.var 2)) (.con (.int 1)))) [.rse "Refused" ["why"] (.cons (.con (.str (Str.ofString "long"))) .nil)] [],
  .ret (.var 1)]
def n_checked_walk : List Str := ["program", "thing", "stream", "walk", "clear"]
theorem ck_checked_walk : chkSs (lstL.ct (defScope (topS 15)) n_checked_walk false) 60 b_checked_walk (defBody (topS 15)) = true := by decide +kernel
theorem sc_checked_walk : FnScope n_checked_walk ["program", "thing"] (defScope (topS 15)) := ⟨rfl, rfl, rfl, by decide +kernel, rfl, by decide +kernel, by decide +kernel⟩
def b_begin_seconds : List S := [.ret (.bin .sub (.ix (.ix (.ix (.var 0) (.con (.int 1))) (.ix (.var 1) (.con (.int 0)))) (.con (.int 1))) (.ix (.var 1) (.con (.int 2))))]
def n_begin_seconds : List Str := ["program", "walk"]
theorem ck_begin_seconds : chkSs (lstL.ct (defScope (topS 16)) n_begin_seconds false) 60 b_begin_seconds (defBody (topS 16)) = true := by decide +kernel
theorem sc_begin_seconds : FnScope n_begin_seconds ["program", "walk"] (defScope (topS 16)) := ⟨rfl, rfl, rfl, by decide +kernel, rfl, by decide +kernel, by decide +kernel⟩
def b_may_begin : List S := [.ret (.cmp .lt (.app "age" (.cons (.var 0) (.cons (.ix (.var 1) (.con (.int 0))) (.cons (.var 2) .nil)))) (.app "begin_seconds" (.cons (.var 0) (.cons (.var 1) .nil))))]
def n_may_begin : List Str := ["program", "walk", "second"]
theorem ck_may_begin : chkSs (lstL.ct (defScope (topS 17)) n_may_begin false) 60 b_may_begin (defBody (topS 17)) = true := by decide +kernel
theorem sc_may_begin : FnScope n_may_begin ["program", "walk", "second"] (defScope (topS 17)) := ⟨rfl, rfl, rfl, by decide +kernel, rfl, by decide +kernel, by decide +kernel⟩
def b_wait : List S := [.ret (.ite (.app "may_begin" (.cons (.var 0) (.cons (.var 1) (.cons (.var 2) .nil)))) (.con (.int 0)) (.bin .sub (.ix (.var 0) (.con (.int 0))) (.app "age" (.cons (.var 0) (.cons (.ix (.var 1) (.con (.int 0))) (.cons (.var 2) .nil))))))]
def n_wait : List Str := ["program", "walk", "second"]
theorem ck_wait : chkSs (lstL.ct (defScope (topS 18)) n_wait false) 60 b_wait (defBody (topS 18)) = true := by decide +kernel
theorem sc_wait : FnScope n_wait ["program", "walk", "second"] (defScope (topS 18)) := ⟨rfl, rfl, rfl, by decide +kernel, rfl, by decide +kernel, by decide +kernel⟩
def b_checked_island : List S := [.ifs (.or_ (.not_ (.isi (.var 1) ["tuple"])) (.or_ (.cmp .ne (.bi .len (.cons (.var 1) .nil)) (.con (.int 3))) (.not_ (.app "is_integer" (.cons (.ix (.var 1) (.con (.int 2))) .nil))))) [.rse "Refused" ["why"] (.cons (.con (.str (Str.ofString "form"))) .nil)] [],
  .ex (.app "checked_walk" (.cons (.var 0) (.cons (.ix (.var 1) (.con (.int 0))) .nil))),
  .ex (.app "checked_walk" (.cons (.var 0) (.cons (.ix (.var 1) (.con (.int 1))) .nil))),
  .ifs (.not_ (.app "is_within" (.cons (.ix (.var 1) (.con (.int 2))) (.cons (.con (.int 0)) (.cons (.glo "MOST_ACROSS" (.int 99)) .nil))))) [.rse "Refused" ["why"] (.cons (.con (.str (Str.ofString "across"))) .nil)] [],
  .ret (.var 1)]
def n_checked_island : List Str := ["program", "thing"]
theorem ck_checked_island : chkSs (lstL.ct (defScope (topS 21)) n_checked_island false) 60 b_checked_island (defBody (topS 21)) = true := by decide +kernel
theorem sc_checked_island : FnScope n_checked_island ["program", "thing"] (defScope (topS 21)) := ⟨rfl, rfl, rfl, by decide +kernel, rfl, by decide +kernel, by decide +kernel⟩
def b_there_at : List S := [.unp (.tp [(.nm 3), (.nm 4), (.nm 5)]) (.var 1),
  .ret (.bin .add (.bin .add (.bin .add (.var 2) (.app "wait" (.cons (.var 0) (.cons (.var 3) (.cons (.var 2) .nil))))) (.ix (.var 3) (.con (.int 2)))) (.var 5))]
def n_there_at : List Str := ["program", "island", "second", "first", "other", "across"]
theorem ck_there_at : chkSs (lstL.ct (defScope (topS 22)) n_there_at false) 60 b_there_at (defBody (topS 22)) = true := by decide +kernel
theorem sc_there_at : FnScope n_there_at ["program", "island", "second"] (defScope (topS 22)) := ⟨rfl, rfl, rfl, by decide +kernel, rfl, by decide +kernel, by decide +kernel⟩
def b_over_at : List S := [.asg 3 (.app "there_at" (.cons (.var 0) (.cons (.var 1) (.cons (.var 2) .nil)))),
  .ret (.bin .add (.bin .add (.var 3) (.app "wait" (.cons (.var 0) (.cons (.ix (.var 1) (.con (.int 1))) (.cons (.var 3) .nil))))) (.ix (.ix (.var 1) (.con (.int 1))) (.con (.int 2))))]
def n_over_at : List Str := ["program", "island", "second", "there"]
theorem ck_over_at : chkSs (lstL.ct (defScope (topS 23)) n_over_at false) 60 b_over_at (defBody (topS 23)) = true := by decide +kernel
theorem sc_over_at : FnScope n_over_at ["program", "island", "second"] (defScope (topS 23)) := ⟨rfl, rfl, rfl, by decide +kernel, rfl, by decide +kernel, by decide +kernel⟩
def b_ways : List S := [.ret (.lc (.nm 2) (.rng (.cons (.ix (.var 0) (.con (.int 0))) .nil)) (.con (.bl true)) (.bin .sub (.app "over_at" (.cons (.var 0) (.cons (.var 1) (.cons (.var 2) .nil)))) (.var 2)) [2])]
def n_ways : List Str := ["program", "island", "second"]
theorem ck_ways : chkSs (lstL.ct (defScope (topS 24)) n_ways false) 60 b_ways (defBody (topS 24)) = true := by decide +kernel
theorem sc_ways : FnScope n_ways ["program", "island"] (defScope (topS 24)) := ⟨rfl, rfl, rfl, by decide +kernel, rfl, by decide +kernel, by decide +kernel⟩
def b_greatest_way : List S := [.ret (.bi .max (.cons (.app "ways" (.cons (.var 0) (.cons (.var 1) .nil))) .nil))]
def n_greatest_way : List Str := ["program", "island"]
theorem ck_greatest_way : chkSs (lstL.ct (defScope (topS 25)) n_greatest_way false) 60 b_greatest_way (defBody (topS 25)) = true := by decide +kernel
theorem sc_greatest_way : FnScope n_greatest_way ["program", "island"] (defScope (topS 25)) := ⟨rfl, rfl, rfl, by decide +kernel, rfl, by decide +kernel, by decide +kernel⟩
def b_sum_of_ways : List S := [.ret (.bi .sum (.cons (.app "ways" (.cons (.var 0) (.cons (.var 1) .nil))) .nil))]
def n_sum_of_ways : List Str := ["program", "island"]
theorem ck_sum_of_ways : chkSs (lstL.ct (defScope (topS 26)) n_sum_of_ways false) 60 b_sum_of_ways (defBody (topS 26)) = true := by decide +kernel
theorem sc_sum_of_ways : FnScope n_sum_of_ways ["program", "island"] (defScope (topS 26)) := ⟨rfl, rfl, rfl, by decide +kernel, rfl, by decide +kernel, by decide +kernel⟩
def b_is_through : List S := [.asg 2 (.lc (.nm 3) (.rng (.cons (.ix (.var 0) (.con (.int 0))) .nil)) (.app "may_begin" (.cons (.var 0) (.cons (.ix (.var 1) (.con (.int 0))) (.cons (.var 3) .nil)))) (.var 3) [3]),
  .ret (.bi .all (.cons (.lc (.nm 3) (.seq (.var 2)) (.con (.bl true)) (.cmp .eq (.app "wait" (.cons (.var 0) (.cons (.ix (.var 1) (.con (.int 1))) (.cons (.app "there_at" (.cons (.var 0) (.cons (.var 1) (.cons (.var 3) .nil)))) .nil)))) (.con (.int 0))) [3]) .nil))]
def n_is_through : List Str := ["program", "island", "some", "second"]
theorem ck_is_through : chkSs (lstL.ct (defScope (topS 27)) n_is_through false) 60 b_is_through (defBody (topS 27)) = true := by decide +kernel
theorem sc_is_through : FnScope n_is_through ["program", "island"] (defScope (topS 27)) := ⟨rfl, rfl, rfl, by decide +kernel, rfl, by decide +kernel, by decide +kernel⟩
def b_with_later : List S := [.unp (.tp [(.nm 3), (.nm 4)]) (.var 0),
  .unp (.tp [(.nm 5), (.nm 6)]) (.ix (.var 4) (.var 1)),
  .ret (.tup (.cons (.var 3) (.cons (.tup (.star (.sl (.var 4) .nil (.cons (.var 1) .nil)) (.cons (.tup (.cons (.bin .mod (.bin .add (.var 5) (.var 2)) (.var 3)) (.cons (.var 6) .nil))) (.star (.sl (.var 4) (.cons (.bin .add (.var 1) (.con (.int 1))) .nil) .nil) .nil)))) .nil)))]
def n_with_later : List Str := ["program", "stream", "seconds", "cycle", "windows", "begin", "long"]
theorem ck_with_later : chkSs (lstL.ct (defScope (topS 28)) n_with_later false) 60 b_with_later (defBody (topS 28)) = true := by decide +kernel
theorem sc_with_later : FnScope n_with_later ["program", "stream", "seconds"] (defScope (topS 28)) := ⟨rfl, rfl, rfl, by decide +kernel, rfl, by decide +kernel, by decide +kernel⟩
def b_best_turn : List S := [.asg 2 (.ix (.ix (.var 1) (.con (.int 1))) (.con (.int 0))),
  .asg 3 (.lc (.nm 4) (.rng (.cons (.ix (.var 0) (.con (.int 0))) .nil)) (.con (.bl true)) (.tup (.cons (.app "sum_of_ways" (.cons (.app "with_later" (.cons (.var 0) (.cons (.var 2) (.cons (.var 4) .nil)))) (.cons (.var 1) .nil))) (.cons (.var 4) .nil))) [4]),
  .ret (.ix (.bi .min (.cons (.var 3) .nil)) (.con (.int 1)))]
def n_best_turn : List Str := ["program", "island", "stream", "sums", "turn"]
theorem ck_best_turn : chkSs (lstL.ct (defScope (topS 29)) n_best_turn false) 60 b_best_turn (defBody (topS 29)) = true := by decide +kernel
theorem sc_best_turn : FnScope n_best_turn ["program", "island"] (defScope (topS 29)) := ⟨rfl, rfl, rfl, by decide +kernel, rfl, by decide +kernel, by decide +kernel⟩
def b__law_bag : List S := [.ret (.bxl (.cons (.con (.int 0)) (.cons (.con (.int 1234567891)) (.cons (.con (.int 0)) (.cons (.lc (.nm 1) (.seq (.sl (.var 0) .nil (.cons (.con (.int 63)) .nil))) (.con (.bl true)) (.bi .abs (.cons (.var 1) .nil)) [1]) .nil)))))]
def n__law_bag : List Str := ["script", "cell"]
theorem ck__law_bag : chkSs (lstL.ct (defScope (topS 31)) n__law_bag false) 60 b__law_bag (defBody (topS 31)) = true := by decide +kernel
theorem sc__law_bag : FnScope n__law_bag ["script"] (defScope (topS 31)) := ⟨rfl, rfl, rfl, by decide +kernel, rfl, by decide +kernel, by decide +kernel⟩
def b__law_take : List S := [.ifs (.cmp .eq (.ix (.var 0) (.con (.int 0))) (.con (.int 0))) [.asg 2 (.ix (.bin .add (.sl (.ix (.var 0) (.con (.int 3))) (.cons (.ix (.var 0) (.con (.int 2))) .nil) .nil) (.lst (.cons (.con (.int 0)) .nil))) (.con (.int 0))), .aix .add (.var 0) (.con (.int 2)) (.con (.int 1)), .ifs (.cmp .ge (.var 2) (.bin .pow (.con (.int 10)) (.con (.int 18)))) [.six (.var 0) (.con (.int 0)) (.var 2)] [], .asg 3 (.bin .add (.bin .add (.bin .mul (.ix (.var 0) (.con (.int 1))) (.con (.int 48271))) (.bin .mod (.bi .int (.cons (.var 2) .nil)) (.con (.int 2147483647)))) (.bin .mul (.con (.int 7919)) (.ix (.var 0) (.con (.int 2))))), .six (.var 0) (.con (.int 1)) (.bin .mod (.bi .int (.cons (.var 3) .nil)) (.con (.int 2147483647)))] [],
  .ifs (.cmp .gt (.ix (.var 0) (.con (.int 0))) (.con (.int 0))) [.asg 4 (.bin .mod (.bi .int (.cons (.ix (.var 0) (.con (.int 0))) .nil)) (.var 1)), .six (.var 0) (.con (.int 0)) (.bin .fdiv (.bi .int (.cons (.ix (.var 0) (.con (.int 0))) .nil)) (.var 1)), .ret (.var 4)] [],
  .asg 5 (.bin .mod (.bi .int (.cons (.bin .mul (.bin .add (.ix (.var 0) (.con (.int 1))) (.con (.int 1))) (.con (.int 39373))) .nil)) (.con (.int 1000000007))),
  .asg 6 (.bin .mod (.bi .int (.cons (.bin .mul (.bin .mod (.bi .int (.cons (.bin .mul (.var 5) (.var 5)) .nil)) (.con (.int 998244353))) (.con (.int 30011))) .nil)) (.con (.int 998244353))),
  .ret (.bin .mod (.bi .int (.cons (.bin .fdiv (.var 6) (.con (.int 7))) .nil)) (.var 1))]
def n__law_take : List Str := ["bag", "many", "cell", "stirred", "value", "begin", "second"]
theorem ck__law_take : chkSs (lstL.ct (defScope (topS 32)) n__law_take false) 60 b__law_take (defBody (topS 32)) = true := by decide +kernel
theorem sc__law_take : FnScope n__law_take ["bag", "many"] (defScope (topS 32)) := ⟨rfl, rfl, rfl, by decide +kernel, rfl, by decide +kernel, by decide +kernel⟩
def b__law_some : List S := [.ret (.ix (.var 1) (.app "_law_take" (.cons (.var 0) (.cons (.bi .len (.cons (.var 1) .nil)) .nil))))]
def n__law_some : List Str := ["bag", "things"]
theorem ck__law_some : chkSs (lstL.ct (defScope (topS 33)) n__law_some false) 60 b__law_some (defBody (topS 33)) = true := by decide +kernel
theorem sc__law_some : FnScope n__law_some ["bag", "things"] (defScope (topS 33)) := ⟨rfl, rfl, rfl, by decide +kernel, rfl, by decide +kernel, by decide +kernel⟩
def b__law_alike : List S := [.par [(2, true), (3, false)] (.cons (.lst (.cons (.tup (.cons (.var 0) (.cons (.var 1) .nil))) .nil)) (.cons (.con (.int 0)) .nil)),
  .wh (.cmp .lt (.var 3) (.bi .len (.cons (.var 2) .nil))) [.unp (.tp [(.nm 4), (.nm 5)]) (.ix (.var 2) (.var 3)), .aug 3 .add (.con (.int 1)), .ifs (.or_ (.cmp .ne (.isi (.var 4) ["bool"]) (.isi (.var 5) ["bool"])) (.cmp .ne (.isi (.var 4) ["str"]) (.isi (.var 5) ["str"]))) [.ret (.con (.bl false))] [], .ifs (.cmp .ne (.isi (.var 4) ["tuple", "list"]) (.isi (.var 5) ["tuple", "list"])) [.ret (.con (.bl false))] [], .ifs (.isi (.var 4) ["tuple", "list"]) [.ifs (.or_ (.cmp .ne (.isi (.var 4) ["tuple"]) (.isi (.var 5) ["tuple"])) (.cmp .ne (.bi .len (.cons (.var 4) .nil)) (.bi .len (.cons (.var 5) .nil)))) [.ret (.con (.bl false))] [], .ex (.mu .extend (.var 2) (.cons (.lz (.var 4) (.var 5)) .nil))] [.ifs (.cmp .ne (.var 4) (.var 5)) [.ret (.con (.bl false))] []]],
  .ret (.con (.bl true))]
def n__law_alike : List Str := ["found", "due", "pairs", "at", "one", "other"]
theorem ck__law_alike : chkSs (lstL.ct (defScope (topS 34)) n__law_alike false) 60 b__law_alike (defBody (topS 34)) = true := by decide +kernel
theorem sc__law_alike : FnScope n__law_alike ["found", "due"] (defScope (topS 34)) := ⟨rfl, rfl, rfl, by decide +kernel, rfl, by decide +kernel, by decide +kernel⟩
def b__law_window : List S := [.ret (.tup (.cons (.app "_law_take" (.cons (.var 0) (.cons (.var 1) .nil))) (.cons (.bin .add (.con (.int 1)) (.app "_law_take" (.cons (.var 0) (.cons (.var 1) .nil)))) .nil)))]
def n__law_window : List Str := ["bag", "cycle"]
theorem ck__law_window : chkSs (lstL.ct (defScope (topS 35)) n__law_window false) 60 b__law_window (defBody (topS 35)) = true := by decide +kernel
theorem sc__law_window : FnScope n__law_window ["bag", "cycle"] (defScope (topS 35)) := ⟨rfl, rfl, rfl, by decide +kernel, rfl, by decide +kernel, by decide +kernel⟩
def b__law_is_int : List S := [.ret (.and_ (.isi (.var 0) ["int"]) (.not_ (.isi (.var 0) ["bool"])))]
def n__law_is_int : List Str := ["thing"]
theorem ck__law_is_int : chkSs (lstL.ct (defScope (topS 36)) n__law_is_int false) 60 b__law_is_int (defBody (topS 36)) = true := by decide +kernel
theorem sc__law_is_int : FnScope n__law_is_int ["thing"] (defScope (topS 36)) := ⟨rfl, rfl, rfl, by decide +kernel, rfl, by decide +kernel, by decide +kernel⟩
def b__law_may : List S := [.unp (.tp [(.nm 3), (.nm 4)]) (.ix (.ix (.var 0) (.con (.int 1))) (.ix (.var 1) (.con (.int 0)))),
  .ret (.cmp .lt (.bin .mod (.bi .int (.cons (.bin .sub (.var 2) (.var 3)) .nil)) (.ix (.var 0) (.con (.int 0)))) (.bin .sub (.var 4) (.ix (.var 1) (.con (.int 2)))))]
def n__law_may : List Str := ["program", "walk", "second", "begin", "long"]
theorem ck__law_may : chkSs (lstL.ct (defScope (topS 38)) n__law_may false) 60 b__law_may (defBody (topS 38)) = true := by decide +kernel
theorem sc__law_may : FnScope n__law_may ["program", "walk", "second"] (defScope (topS 38)) := ⟨rfl, rfl, rfl, by decide +kernel, rfl, by decide +kernel, by decide +kernel⟩
def b__law_wait : List S := [.asg 3 (.con (.int 0)),
  .wh (.not_ (.app "_law_may" (.cons (.var 0) (.cons (.var 1) (.cons (.bin .add (.var 2) (.var 3)) .nil))))) [.aug 3 .add (.con (.int 1))],
  .ret (.var 3)]
def n__law_wait : List Str := ["program", "walk", "second", "more"]
theorem ck__law_wait : chkSs (lstL.ct (defScope (topS 39)) n__law_wait false) 60 b__law_wait (defBody (topS 39)) = true := by decide +kernel
theorem sc__law_wait : FnScope n__law_wait ["program", "walk", "second"] (defScope (topS 39)) := ⟨rfl, rfl, rfl, by decide +kernel, rfl, by decide +kernel, by decide +kernel⟩
def b__law_walk : List S := [.asg 2 (.lc (.tp [(.nm 3), (.nm 6)]) (.enum (.ix (.var 1) (.con (.int 1)))) (.cmp .gt (.ix (.var 6) (.con (.int 1))) (.con (.int 1))) (.var 3) [3, 6]),
  .ifs (.cmp .eq (.var 2) (.lst .nil)) [.ret (.con .non)] [],
  .asg 3 (.app "_law_some" (.cons (.var 0) (.cons (.var 2) .nil))),
  .asg 4 (.ix (.ix (.ix (.var 1) (.con (.int 1))) (.var 3)) (.con (.int 1))),
  .asg 5 (.bin .add (.con (.int 1)) (.app "_law_take" (.cons (.var 0) (.cons (.bin .sub (.var 4) (.con (.int 1))) .nil)))),
  .ret (.tup (.cons (.var 3) (.cons (.var 5) (.cons (.bin .add (.con (.int 1)) (.app "_law_take" (.cons (.var 0) (.cons (.bin .sub (.var 4) (.var 5)) .nil)))) .nil))))]
def n__law_walk : List Str := ["bag", "program", "some", "stream", "long", "walk", "window"]
theorem ck__law_walk : chkSs (lstL.ct (defScope (topS 40)) n__law_walk false) 60 b__law_walk (defBody (topS 40)) = true := by decide +kernel
theorem sc__law_walk : FnScope n__law_walk ["bag", "program"] (defScope (topS 40)) := ⟨rfl, rfl, rfl, by decide +kernel, rfl, by decide +kernel, by decide +kernel⟩
def b__law_any_program : List S := [.asg 1 (.bin .add (.con (.int 2)) (.app "_law_take" (.cons (.var 0) (.cons (.con (.int 20)) .nil)))),
  .ret (.tup (.cons (.var 1) (.cons (.bi .tuple (.cons (.lc (.nm 2) (.rng (.cons (.bin .add (.con (.int 1)) (.app "_law_take" (.cons (.var 0) (.cons (.con (.int 3)) .nil)))) .nil)) (.con (.bl true)) (.app "_law_window" (.cons (.var 0) (.cons (.var 1) .nil))) [2]) .nil)) .nil)))]
def n__law_any_program : List Str := ["bag", "cycle", "stream"]
theorem ck__law_any_program : chkSs (lstL.ct (defScope (topS 41)) n__law_any_program false) 60 b__law_any_program (defBody (topS 41)) = true := by decide +kernel
theorem sc__law_any_program : FnScope n__law_any_program ["bag"] (defScope (topS 41)) := ⟨rfl, rfl, rfl, by decide +kernel, rfl, by decide +kernel, by decide +kernel⟩
def b__law_over : List S := [.unp (.tp [(.nm 3), (.nm 4), (.nm 5)]) (.var 1),
  .asg 6 (.bin .add (.bin .add (.bin .add (.var 2) (.app "_law_wait" (.cons (.var 0) (.cons (.var 3) (.cons (.var 2) .nil))))) (.ix (.var 3) (.con (.int 2)))) (.var 5)),
  .ret (.bin .add (.bin .add (.var 6) (.app "_law_wait" (.cons (.var 0) (.cons (.var 4) (.cons (.var 6) .nil))))) (.ix (.var 4) (.con (.int 2))))]
def n__law_over : List Str := ["program", "island", "second", "first", "later", "across", "there"]
theorem ck__law_over : chkSs (lstL.ct (defScope (topS 42)) n__law_over false) 60 b__law_over (defBody (topS 42)) = true := by decide +kernel
theorem sc__law_over : FnScope n__law_over ["program", "island", "second"] (defScope (topS 42)) := ⟨rfl, rfl, rfl, by decide +kernel, rfl, by decide +kernel, by decide +kernel⟩
def b__law_turned : List S := [.asg 3 (.lc (.tp [(.nm 4), (.tp [(.nm 5), (.nm 6)])]) (.enum (.ix (.var 0) (.con (.int 1)))) (.con (.bl true)) (.ite (.cmp .eq (.var 4) (.var 1)) (.tup (.cons (.bin .mod (.bi .int (.cons (.bin .add (.var 5) (.var 2)) .nil)) (.ix (.var 0) (.con (.int 0)))) (.cons (.var 6) .nil))) (.tup (.cons (.var 5) (.cons (.var 6) .nil)))) [4, 5, 6]),
  .ret (.tup (.cons (.ix (.var 0) (.con (.int 0))) (.cons (.bi .tuple (.cons (.var 3) .nil)) .nil)))]
def n__law_turned : List Str := ["program", "stream", "seconds", "windows", "at", "begin", "long"]
theorem ck__law_turned : chkSs (lstL.ct (defScope (topS 43)) n__law_turned false) 60 b__law_turned (defBody (topS 43)) = true := by decide +kernel
theorem sc__law_turned : FnScope n__law_turned ["program", "stream", "seconds"] (defScope (topS 43)) := ⟨rfl, rfl, rfl, by decide +kernel, rfl, by decide +kernel, by decide +kernel⟩
def b__law_walk_fault : List S := [.ifs (.or_ (.not_ (.isi (.var 1) ["tuple"])) (.or_ (.cmp .ne (.bi .len (.cons (.var 1) .nil)) (.con (.int 3))) (.cmp .ne (.lc (.nm 2) (.seq (.var 1)) (.not_ (.app "_law_is_int" (.cons (.var 2) .nil))) (.con (.int 1)) [2]) (.lst .nil)))) [.ret (.con (.str (Str.ofString "form")))] [],
  .ifs (.not_ (.chain .le .lt (.con (.int 0)) (.ix (.var 1) (.con (.int 0))) (.bi .len (.cons (.ix (.var 0) (.con (.int 1))) .nil)))) [.ret (.con (.str (Str.ofString "stream")))] [],
  .ifs (.or_ (.not_ (.chain .le .le (.con (.int 1)) (.ix (.var 1) (.con (.int 1))) (.con (.int 60)))) (.not_ (.chain .le .le (.con (.int 1)) (.ix (.var 1) (.con (.int 2))) (.con (.int 60))))) [.ret (.ite (.not_ (.chain .le .le (.con (.int 1)) (.ix (.var 1) (.con (.int 1))) (.con (.int 60)))) (.con (.str (Str.ofString "walk"))) (.con (.str (Str.ofString "clear"))))] [],
  .ret (.ite (.cmp .gt (.bin .add (.ix (.var 1) (.con (.int 1))) (.ix (.var 1) (.con (.int 2)))) (.ix (.ix (.ix (.var 0) (.con (.int 1))) (.ix (.var 1) (.con (.int 0)))) (.con (.int 1)))) (.con (.str (Str.ofString "long"))) (.con .non))]
def n__law_walk_fault : List Str := ["program", "walk", "one"]
theorem ck__law_walk_fault : chkSs (lstL.ct (defScope (topS 44)) n__law_walk_fault false) 60 b__law_walk_fault (defBody (topS 44)) = true := by decide +kernel
theorem sc__law_walk_fault : FnScope n__law_walk_fault ["program", "walk"] (defScope (topS 44)) := ⟨rfl, rfl, rfl, by decide +kernel, rfl, by decide +kernel, by decide +kernel⟩
def b_law : List S := [.asg 1 (.app "_law_bag" (.cons (.var 0) .nil)),
  .for_ (.nm 2) (.rng (.cons (.con (.int 4)) .nil)) [.asg 3 (.app "_law_any_program" (.cons (.var 1) .nil)), .par [(4, false), (5, false)] (.cons (.app "_law_walk" (.cons (.var 1) (.cons (.var 3) .nil))) (.cons (.app "_law_walk" (.cons (.var 1) (.cons (.var 3) .nil))) .nil)), .ifs (.or_ (.cmp .is_ (.var 4) (.con .non)) (.cmp .is_ (.var 5) (.con .non))) [.cont] [], .asg 6 (.tup (.cons (.var 4) (.cons (.var 5) (.cons (.app "_law_some" (.cons (.var 1) (.cons (.lst (.cons (.con (.int 0)) (.cons (.con (.int 5)) (.cons (.app "_law_take" (.cons (.var 1) (.cons (.con (.int 30)) .nil))) .nil)))) .nil))) .nil)))), .ifs (.cmp .ne (.app "checked_island" (.cons (.var 3) (.cons (.var 6) .nil))) (.var 6)) [.ret (.con (.bl false))] [], .for_ (.nm 7) (.seq (.lst (.cons (.tup (.cons (.var 4) (.cons (.var 5) (.cons (.con (.int 100)) .nil)))) (.cons (.tup (.cons (.var 4) (.cons (.var 5) (.cons (.neg (.con (.int 1))) .nil)))) (.cons (.tup (.cons (.var 4) (.cons (.tup (.cons (.ix (.var 5) (.con (.int 0))) (.cons (.con (.int 0)) (.cons (.ix (.var 5) (.con (.int 2))) .nil)))) (.cons (.con (.int 3)) .nil)))) (.cons (.tup (.cons (.tup (.cons (.con (.int 9)) (.cons (.con (.int 1)) (.cons (.con (.int 1)) .nil)))) (.cons (.var 5) (.cons (.con (.int 3)) .nil)))) (.cons (.tup (.cons (.var 4) (.cons (.var 5) .nil))) (.cons (.lst (.cons (.var 4) (.cons (.var 5) (.cons (.con (.int 3)) .nil)))) (.cons (.tup (.cons (.var 4) (.cons (.var 5) (.cons (.con .non) .nil)))) (.cons (.tup (.cons (.var 4) (.cons (.con .non) (.cons (.con (.int 3)) .nil)))) .nil)))))))))) [.ifs (.or_ (.not_ (.isi (.var 7) ["tuple"])) (.or_ (.cmp .ne (.bi .len (.cons (.var 7) .nil)) (.con (.int 3))) (.not_ (.app "_law_is_int" (.cons (.ix (.var 7) (.con (.int 2))) .nil))))) [.asg 8 (.con (.str (Str.ofString "form")))] [.asg 8 (.app "_law_walk_fault" (.cons (.var 3) (.cons (.ix (.var 7) (.con (.int 0))) .nil))), .asg 8 (.ite (.cmp .is_ (.var 8) (.con .non)) (.app "_law_walk_fault" (.cons (.var 3) (.cons (.ix (.var 7) (.con (.int 1))) .nil))) (.var 8)), .asg 8 (.ite (.cmp .is_ (.var 8) (.con .non)) (.con (.str (Str.ofString "across"))) (.var 8))], .ifs (.cmp .ne (.hrd "_law_heard" hd__law_heard clsL sboL (.app "checked_island" (.cons (.var 3) (.cons (.var 7) .nil)))) (.tup (.cons (.con (.str (Str.ofString "refused"))) (.cons (.var 8) .nil)))) [.ret (.con (.bl false))] []], .par [(9, false), (10, false)] (.cons (.ix (.var 3) (.con (.int 0))) (.cons (.bin .sub (.app "_law_take" (.cons (.var 1) (.cons (.con (.int 90)) .nil))) (.con (.int 30))) .nil)), .ifs (.not_ (.app "_law_alike" (.cons (.app "over_at" (.cons (.var 3) (.cons (.var 6) (.cons (.var 10) .nil)))) (.cons (.app "_law_over" (.cons (.var 3) (.cons (.var 6) (.cons (.var 10) .nil)))) .nil)))) [.ret (.con (.bl false))] [], .asg 11 (.lc (.nm 13) (.rng (.cons (.var 9) .nil)) (.con (.bl true)) (.bin .sub (.app "_law_over" (.cons (.var 3) (.cons (.var 6) (.cons (.var 13) .nil)))) (.var 13)) [13]), .ifs (.not_ (.app "_law_alike" (.cons (.lst (.cons (.app "greatest_way" (.cons (.var 3) (.cons (.var 6) .nil))) (.cons (.app "sum_of_ways" (.cons (.var 3) (.cons (.var 6) .nil))) .nil))) (.cons (.lst (.cons (.bi .max (.cons (.var 11) .nil)) (.cons (.bi .sum (.cons (.var 11) .nil)) .nil))) .nil)))) [.ret (.con (.bl false))] [], .own 12 (.lst .nil), .for_ (.nm 13) (.rng (.cons (.var 9) .nil)) [.asg 14 (.bin .add (.bin .add (.bin .add (.var 13) (.app "_law_wait" (.cons (.var 3) (.cons (.var 4) (.cons (.var 13) .nil))))) (.ix (.var 4) (.con (.int 2)))) (.ix (.var 6) (.con (.int 2)))), .ex (.mu .append (.var 12) (.cons (.cmp .eq (.app "wait" (.cons (.var 3) (.cons (.var 5) (.cons (.var 14) .nil)))) (.con (.int 0))) .nil))], .ifs (.not_ (.app "_law_alike" (.cons (.app "is_through" (.cons (.var 3) (.cons (.var 6) .nil))) (.cons (.cmp .notin (.con (.bl false)) (.var 12)) .nil)))) [.ret (.con (.bl false))] [], .own 15 (.lst .nil), .for_ (.nm 16) (.rng (.cons (.var 9) .nil)) [.asg 17 (.app "_law_turned" (.cons (.var 3) (.cons (.ix (.var 5) (.con (.int 0))) (.cons (.var 16) .nil)))), .ex (.mu .append (.var 15) (.cons (.bi .sum (.cons (.lc (.nm 13) (.rng (.cons (.var 9) .nil)) (.con (.bl true)) (.bin .sub (.app "_law_over" (.cons (.var 17) (.cons (.var 6) (.cons (.var 13) .nil)))) (.var 13)) [13]) .nil)) .nil))], .ifs (.not_ (.app "_law_alike" (.cons (.app "best_turn" (.cons (.var 3) (.cons (.var 6) .nil))) (.cons (.idx (.var 15) (.cons (.bi .min (.cons (.var 15) .nil)) .nil)) .nil)))) [.ret (.con (.bl false))] []],
  .ret (.con (.bl true))]
def n_law : List Str := ["script", "bag", "turn", "program", "one", "two", "island", "thing", "fault", "cycle", "second", "ways_v", "free", "begin", "there", "sums", "seconds", "other"]
theorem ck_law : chkSs (lstL.ct (defScope (topS 45)) n_law true) 60 b_law (defBody (topS 45)) = true := by decide +kernel
theorem sc_law : FnScope n_law ["script"] (defScope (topS 45)) := ⟨rfl, rfl, rfl, by decide +kernel, rfl, by decide +kernel, by decide +kernel⟩
/-- the defs by name -/
def defsL : List (Str × Def) := [("is_integer", ⟨1, 1, b_is_integer⟩),
  ("is_within", ⟨3, 3, b_is_within⟩),
  ("are_all", ⟨2, 3, b_are_all⟩),
  ("are_integers", ⟨1, 1, b_are_integers⟩),
  ("age", ⟨3, 3, b_age⟩),
  ("checked_walk", ⟨2, 5, b_checked_walk⟩),
  ("begin_seconds", ⟨2, 2, b_begin_seconds⟩),
  ("may_begin", ⟨3, 3, b_may_begin⟩),
  ("wait", ⟨3, 3, b_wait⟩),
  ("checked_island", ⟨2, 2, b_checked_island⟩),
  ("there_at", ⟨3, 6, b_there_at⟩),
  ("over_at", ⟨3, 4, b_over_at⟩),
  ("ways", ⟨2, 3, b_ways⟩),
  ("greatest_way", ⟨2, 2, b_greatest_way⟩),
  ("sum_of_ways", ⟨2, 2, b_sum_of_ways⟩),
  ("is_through", ⟨2, 4, b_is_through⟩),
  ("with_later", ⟨3, 7, b_with_later⟩),
  ("best_turn", ⟨2, 5, b_best_turn⟩),
  ("_law_bag", ⟨1, 2, b__law_bag⟩),
  ("_law_take", ⟨2, 7, b__law_take⟩),
  ("_law_some", ⟨2, 2, b__law_some⟩),
  ("_law_alike", ⟨2, 6, b__law_alike⟩),
  ("_law_window", ⟨2, 2, b__law_window⟩),
  ("_law_is_int", ⟨1, 1, b__law_is_int⟩),
  ("_law_may", ⟨3, 5, b__law_may⟩),
  ("_law_wait", ⟨3, 4, b__law_wait⟩),
  ("_law_walk", ⟨2, 7, b__law_walk⟩),
  ("_law_any_program", ⟨1, 3, b__law_any_program⟩),
  ("_law_over", ⟨3, 7, b__law_over⟩),
  ("_law_turned", ⟨3, 7, b__law_turned⟩),
  ("_law_walk_fault", ⟨2, 3, b__law_walk_fault⟩),
  ("law", ⟨1, 18, b_law⟩)]
def tab (x : Str) : Option Def := defsL.lookup x
theorem t_is_integer : tab "is_integer" = some ⟨1, 1, b_is_integer⟩ := by rfl
theorem t_is_within : tab "is_within" = some ⟨3, 3, b_is_within⟩ := by rfl
theorem t_are_all : tab "are_all" = some ⟨2, 3, b_are_all⟩ := by rfl
theorem t_are_integers : tab "are_integers" = some ⟨1, 1, b_are_integers⟩ := by rfl
theorem t_age : tab "age" = some ⟨3, 3, b_age⟩ := by rfl
theorem t_checked_walk : tab "checked_walk" = some ⟨2, 5, b_checked_walk⟩ := by rfl
theorem t_begin_seconds : tab "begin_seconds" = some ⟨2, 2, b_begin_seconds⟩ := by rfl
theorem t_may_begin : tab "may_begin" = some ⟨3, 3, b_may_begin⟩ := by rfl
theorem t_wait : tab "wait" = some ⟨3, 3, b_wait⟩ := by rfl
theorem t_checked_island : tab "checked_island" = some ⟨2, 2, b_checked_island⟩ := by rfl
theorem t_there_at : tab "there_at" = some ⟨3, 6, b_there_at⟩ := by rfl
theorem t_over_at : tab "over_at" = some ⟨3, 4, b_over_at⟩ := by rfl
theorem t_ways : tab "ways" = some ⟨2, 3, b_ways⟩ := by rfl
theorem t_greatest_way : tab "greatest_way" = some ⟨2, 2, b_greatest_way⟩ := by rfl
theorem t_sum_of_ways : tab "sum_of_ways" = some ⟨2, 2, b_sum_of_ways⟩ := by rfl
theorem t_is_through : tab "is_through" = some ⟨2, 4, b_is_through⟩ := by rfl
theorem t_with_later : tab "with_later" = some ⟨3, 7, b_with_later⟩ := by rfl
theorem t_best_turn : tab "best_turn" = some ⟨2, 5, b_best_turn⟩ := by rfl
theorem t__law_bag : tab "_law_bag" = some ⟨1, 2, b__law_bag⟩ := by rfl
theorem t__law_take : tab "_law_take" = some ⟨2, 7, b__law_take⟩ := by rfl
theorem t__law_some : tab "_law_some" = some ⟨2, 2, b__law_some⟩ := by rfl
theorem t__law_alike : tab "_law_alike" = some ⟨2, 6, b__law_alike⟩ := by rfl
theorem t__law_window : tab "_law_window" = some ⟨2, 2, b__law_window⟩ := by rfl
theorem t__law_is_int : tab "_law_is_int" = some ⟨1, 1, b__law_is_int⟩ := by rfl
theorem t__law_may : tab "_law_may" = some ⟨3, 5, b__law_may⟩ := by rfl
theorem t__law_wait : tab "_law_wait" = some ⟨3, 4, b__law_wait⟩ := by rfl
theorem t__law_walk : tab "_law_walk" = some ⟨2, 7, b__law_walk⟩ := by rfl
theorem t__law_any_program : tab "_law_any_program" = some ⟨1, 3, b__law_any_program⟩ := by rfl
theorem t__law_over : tab "_law_over" = some ⟨3, 7, b__law_over⟩ := by rfl
theorem t__law_turned : tab "_law_turned" = some ⟨3, 7, b__law_turned⟩ := by rfl
theorem t__law_walk_fault : tab "_law_walk_fault" = some ⟨2, 3, b__law_walk_fault⟩ := by rfl
theorem t_law : tab "law" = some ⟨1, 18, b_law⟩ := by rfl
end GxLaw
set_option Elab.async false
set_option linter.all false
set_option maxRecDepth 100000
/-! Ev1: the bag and its draws, as the evaluator has them. -/
namespace Gx
open PySem L2
@[simp] theorem sz {k : Nat} (h : k ≤ 16777216) : (k ≤ sizeLine) = True := by rw [sizeLine_eq]; exact eq_true h
@[simp] theorem sz' {k : Nat} (h : k < 16777216) : (k < sizeLine) = True := by rw [sizeLine_eq]; exact eq_true h
section simps
variable {i : Int} {s : Str} {b : Bool} {l : List D} {φ : Fr} {S : Sto} {n : Nat} {d : D}
@[simp] theorem keep_int : keepD (.int i) = true := rfl
@[simp] theorem keep_str : keepD (.str s) = true := rfl
@[simp] theorem keep_bl : keepD (.bl b) = true := rfl
@[simp] theorem keep_non : keepD .non = true := rfl
@[simp] theorem keep_lst : keepD (.lst l) = true := rfl
@[simp] theorem keep_tup : keepD (.tup l) = true := rfl
@[simp] theorem keep_dik {l : List (Key × D)} : keepD (.dik l) = true := rfl
@[simp] theorem keep_box : keepD (.box n) = true := rfl
@[simp] theorem keep_scr {l : List Int} : keepD (.scr l) = true := rfl
@[simp] theorem keep_fn : keepD (.fn s) = true := rfl
@[simp] theorem keep_err {fs : List (Str × D)} : keepD (.err s fs) = true := rfl
@[simp] theorem keep_oref : keepD (.oref n) = false := rfl
@[simp] theorem look_int : look φ S (.int i) = .int i := rfl
@[simp] theorem look_str : look φ S (.str s) = .str s := rfl
@[simp] theorem look_bl : look φ S (.bl b) = .bl b := rfl
@[simp] theorem look_non : look φ S .non = .non := rfl
@[simp] theorem look_lst : look φ S (.lst l) = .lst l := rfl
@[simp] theorem look_tup : look φ S (.tup l) = .tup l := rfl
@[simp] theorem look_dik {l : List (Key × D)} : look φ S (.dik l) = .dik l := rfl
@[simp] theorem look_scr {l : List Int} : look φ S (.scr l) = .scr l := rfl
@[simp] theorem look_err {fs : List (Str × D)} : look φ S (.err s fs) = .err s fs := rfl
@[simp] theorem look_box0 : look φ (d :: S) (.box 0) = d := rfl
@[simp] theorem look_oref {i : Nat} : look φ S (.oref i) = match φ[i]? with
  | some (.own _ d) => d
  | _ => .oref i := rfl
@[simp] theorem look_box {i : Nat} : look φ S (.box i) = match S[i]? with
  | some d => d
  | none => .box i := rfl
@[simp] theorem tru_bl : truD (.bl b) = some b := rfl
section ops
variable {i j k : Int} {s t : Str} {x y : Bool} {l m : List D} {φ : Fr} {S : Sto} {n : Nat} {d e : D} {ns : List Int}
@[simp] theorem eq_ii : eqD (.int i) (.int j) = some (decide (i = j)) := rfl
@[simp] theorem eq_ss : eqD (.str s) (.str t) = some (decide (s = t)) := rfl
@[simp] theorem eq_bb : eqD (.bl x) (.bl y) = some (decide (x = y)) := rfl
@[simp] theorem cmp_eq' : cmpD .eq d e = eqD d e := rfl
@[simp] theorem cmp_ne' : cmpD .ne d e = (eqD d e).map (!·) := rfl
@[simp] theorem cmp_lt' : cmpD .lt (.int i) (.int j) = some (decide (i < j)) := rfl
@[simp] theorem cmp_le' : cmpD .le (.int i) (.int j) = some (decide (i ≤ j)) := rfl
@[simp] theorem cmp_gt' : cmpD .gt (.int i) (.int j) = some (decide (j < i)) := rfl
@[simp] theorem cmp_ge' : cmpD .ge (.int i) (.int j) = some (decide (j ≤ i)) := rfl
@[simp] theorem cmp_in' : cmpD .isin d e = inD d e := rfl
@[simp] theorem cmp_nin' : cmpD .notin d e = (inD d e).map (!·) := rfl
@[simp] theorem cmp_is' : cmpD .is_ d .non = some (isNon d) := rfl
@[simp] theorem cmp_isnt' : cmpD .isnt d .non = some (!isNon d) := rfl
@[simp] theorem bin_add : binD .add (.int i) (.int j) = some (.int (i + j)) := rfl
@[simp] theorem bin_sub : binD .sub (.int i) (.int j) = some (.int (i - j)) := rfl
@[simp] theorem bin_mul : binD .mul (.int i) (.int j) = if bigOk i j then some (.int (i * j)) else none := rfl
@[simp] theorem bin_fdiv : binD .fdiv (.int i) (.int j) = if 0 < j ∧ j < 1073741824 then some (.int (i / j)) else none := rfl
@[simp] theorem bin_mod : binD .mod (.int i) (.int j) = if 0 < j then some (.int (i % j)) else none := rfl
@[simp] theorem bin_pow : binD .pow (.int i) (.int j) = if 0 ≤ j ∧ j ≤ 1000000 ∧ i.natAbs < 2 ^ 64 then some (.int (i ^ j.toNat)) else none := rfl
@[simp] theorem bin_cat : binD .add (.lst l) (.lst m) = if l.length + m.length ≤ sizeLine then some (.lst (l ++ m)) else none := rfl
@[simp] theorem bin_catT : binD .add (.tup l) (.tup m) = if l.length + m.length ≤ sizeLine then some (.tup (l ++ m)) else none := rfl
@[simp] theorem bin_rep : binD .mul (.lst l) (.int k) = if -(2 ^ 63) ≤ k ∧ k < 2 ^ 63 ∧ l.length * k.toNat ≤ sizeLine then some (.lst (List.replicate k.toNat l).flatten) else none := rfl
@[simp] theorem aug_add : augD .add (.int i) (.int j) = some (.int (i + j)) := rfl
@[simp] theorem aug_sub : augD .sub (.int i) (.int j) = some (.int (i - j)) := rfl
@[simp] theorem ix_li : ixD (.lst l) (.int i) = atI l i := rfl
@[simp] theorem ix_ti : ixD (.tup l) (.int i) = atI l i := rfl
@[simp] theorem ixL_li : ixL (.lst l) (.int i) = atI l i := rfl
@[simp] theorem part_nil : partD [] = some none := rfl
@[simp] theorem part_int : partD [.int i] = some (some i) := rfl
@[simp] theorem sl_l {a b : Option Int} : slD (.lst l) a b = some (.lst (cut l a b)) := rfl
@[simp] theorem sl_t {a b : Option Int} : slD (.tup l) a b = some (.tup (cut l a b)) := rfl
@[simp] theorem sl_scr {a b : Option Int} : slD (.scr ns) a b = some (.lst (cut (ns.map .int) a b)) := rfl
@[simp] theorem six_l : setIxD (.lst l) (.int i) d = (ixN l.length i).map fun j => .lst (l.set j d) := rfl
@[simp] theorem put_box : putRef (.box n) d φ S = if n < S.length then some (φ, S.set n d) else none := rfl
@[simp] theorem put_box0 : putRef (.box 0) d φ (e :: S) = some (φ, d :: S) := by simp
@[simp] theorem put_oref {i : Nat} : putRef (.oref i) d φ S = match φ[i]? with
    | some (.own true _) => some (φ.set i (.own true d), S)
    | _ => none := rfl
@[simp] theorem bi_int : biD .int [.int i] = some (.int i) := rfl
@[simp] theorem bi_intb : biD .int [.bl x] = some (.int (if x then 1 else 0)) := rfl
@[simp] theorem bi_abs : biD .abs [.int i] = some (.int (if i < 0 then -i else i)) := rfl
@[simp] theorem bi_lenl : biD .len [.lst l] = some (.int l.length) := rfl
@[simp] theorem bi_lent : biD .len [.tup l] = some (.int l.length) := rfl
@[simp] theorem bi_max2 : biD .max [.int i, .int j] = some (.int (if j > i then j else i)) := rfl
@[simp] theorem bi_min2 : biD .min [.int i, .int j] = some (.int (if j < i then j else i)) := rfl
@[simp] theorem bi_tupl : biD .tuple [.lst l] = some (.tup l) := rfl
@[simp] theorem bi_tupt : biD .tuple [.tup l] = some (.tup l) := rfl
@[simp] theorem mu_app : muD .append (.lst l) [d] = if l.length < sizeLine ∧ keepD d = true then some (.lst (l ++ [d]), .non) else none := rfl
@[simp] theorem mu_ext : muD .extend (.lst l) [.lst m] = if l.length + m.length ≤ sizeLine then some (.lst (l ++ m), .non) else none := rfl
@[simp] theorem isLst_l : isLst (.lst l) = true := rfl
@[simp] theorem ty_non : tysOf .non = ["NoneType"] := rfl
@[simp] theorem ty_bl : tysOf (.bl x) = ["bool", "int"] := rfl
@[simp] theorem ty_int : tysOf (.int i) = ["int"] := rfl
@[simp] theorem ty_str : tysOf (.str s) = ["str"] := rfl
@[simp] theorem ty_tup : tysOf (.tup l) = ["tuple"] := rfl
@[simp] theorem ty_lst : tysOf (.lst l) = ["list"] := rfl
@[simp] theorem asg_nm {a : Nat} : asgT (.nm a) d φ = if keepD d && decide (a < φ.length) then some (φ.set a (.v d)) else none := rfl
@[simp] theorem asg_tp {ts : List Tg} {ds : List D} : asgT (.tp ts) (.tup ds) φ = asgTs ts ds φ := rfl
@[simp] theorem asgs_nil : asgTs [] [] φ = some φ := rfl
@[simp] theorem asgs_cons {t : Tg} {ts : List Tg} {ds : List D} : asgTs (t :: ts) (d :: ds) φ = (asgT t d φ).bind fun φ => asgTs ts ds φ := rfl
end ops
theorem atI_nat {α : Type} {xs : List α} {n : Nat} (h : n < xs.length) : atI xs (n : Int) = some xs[n] := by
  unfold atI ixN
  rw [if_pos (by omega), if_pos (by omega)]
  simp [h]
theorem atI_some {α : Type} {xs : List α} {i : Int} (h0 : 0 ≤ i) (h : i.toNat < xs.length) : atI xs i = some xs[i.toNat] := by
  unfold atI ixN
  rw [if_pos h0, if_pos (by omega)]
  simp [h]
@[simp] theorem at0 {α : Type} {a : α} {l : List α} : atI (a :: l) 0 = some a := by rw [atI_some (by omega) (by simp)]; rfl
@[simp] theorem at1 {α : Type} {a b : α} {l : List α} : atI (a :: b :: l) 1 = some b := by rw [atI_some (by omega) (by simp)]; rfl
@[simp] theorem at2 {α : Type} {a b c : α} {l : List α} : atI (a :: b :: c :: l) 2 = some c := by rw [atI_some (by omega) (by simp)]; rfl
@[simp] theorem at3 {α : Type} {a b c d : α} {l : List α} : atI (a :: b :: c :: d :: l) 3 = some d := by rw [atI_some (by omega) (by simp)]; rfl
@[simp] theorem at4 {α : Type} {a b c d e : α} {l : List α} : atI (a :: b :: c :: d :: e :: l) 4 = some e := by rw [atI_some (by omega) (by simp)]; rfl
end simps
structure Bag where
  big : Int
  seed : Int
  pos : Int
  cells : List Int
def bagD (b : Bag) : D := .lst [.int b.big, .int b.seed, .int b.pos, .lst (b.cells.map .int)]
def Bag.next (b : Bag) : Int := (((b.cells.drop b.pos.toNat) ++ [0]).headD 0)
/-- a number drawn where none was left -/
def Bag.fresh (b : Bag) : Bag :=
  ⟨if b.next ≥ 10 ^ 18 then b.next else 0, (b.seed * 48271 + b.next % 2147483647 + 7919 * (b.pos + 1)) % 2147483647, b.pos + 1, b.cells⟩
def Bag.opened (b : Bag) : Bag := if b.big = 0 then b.fresh else b
def Bag.begin (b : Bag) : Int := ((b.seed + 1) * 39373) % 1000000007
def Bag.val (b : Bag) (many : Int) : Int :=
  if b.opened.big > 0 then b.opened.big % many else ((b.opened.begin * b.opened.begin) % 998244353 * 30011 % 998244353 / 7) % many
def Bag.aft (b : Bag) (many : Int) : Bag := if b.opened.big > 0 then { b.opened with big := b.opened.big / many } else b.opened
structure Bag.Ok (b : Bag) : Prop where
  big : 0 ≤ b.big
  pos : 0 ≤ b.pos
theorem Bag.Ok.opened {b : Bag} (h : b.Ok) : b.opened.Ok := by
  have := h.pos
  have := h.big
  unfold Bag.opened
  split
  · refine ⟨?_, by show 0 ≤ b.pos + 1; omega⟩
    show 0 ≤ (if b.next ≥ 10 ^ 18 then b.next else 0)
    split <;> omega
  · exact h
theorem Bag.Ok.aft {b : Bag} (h : b.Ok) {many : Int} (hm : 0 < many) : (b.aft many).Ok := by
  have o := h.opened
  unfold Bag.aft
  split
  · exact ⟨Int.ediv_nonneg o.big (by omega), o.pos⟩
  · exact o
theorem Bag.opened_cells (b : Bag) : b.opened.cells = b.cells := by
  unfold Bag.opened
  split <;> rfl
@[simp] theorem Bag.aft_cells (b : Bag) (many : Int) : (b.aft many).cells = b.cells := by
  unfold Bag.aft
  split <;> exact b.opened_cells
theorem Bag.val_range (b : Bag) {many : Int} (hm : 0 < many) : 0 ≤ b.val many ∧ b.val many < many := by
  unfold Bag.val
  split <;> exact ⟨Int.emod_nonneg _ (by omega), Int.emod_lt_of_pos _ hm⟩

def bBag : List S := [.ret (.bxl (.cons (.con (.int 0)) (.cons (.con (.int 1234567891)) (.cons (.con (.int 0)) (.cons (.lc (.nm 1) (.seq (.sl (.var 0) .nil (.cons (.con (.int 63)) .nil))) (.con (.bl true)) (.bi .abs (.cons (.var 1) .nil)) [1]) .nil)))))]
def bTake : List S := [.ifs (.cmp .eq (.ix (.var 0) (.con (.int 0))) (.con (.int 0))) [.asg 2 (.ix (.bin .add (.sl (.ix (.var 0) (.con (.int 3))) (.cons (.ix (.var 0) (.con (.int 2))) .nil) .nil) (.lst (.cons (.con (.int 0)) .nil))) (.con (.int 0))), .aix .add (.var 0) (.con (.int 2)) (.con (.int 1)), .ifs (.cmp .ge (.var 2) (.bin .pow (.con (.int 10)) (.con (.int 18)))) [.six (.var 0) (.con (.int 0)) (.var 2)] [], .asg 3 (.bin .add (.bin .add (.bin .mul (.ix (.var 0) (.con (.int 1))) (.con (.int 48271))) (.bin .mod (.bi .int (.cons (.var 2) .nil)) (.con (.int 2147483647)))) (.bin .mul (.con (.int 7919)) (.ix (.var 0) (.con (.int 2))))), .six (.var 0) (.con (.int 1)) (.bin .mod (.bi .int (.cons (.var 3) .nil)) (.con (.int 2147483647)))] [],
  .ifs (.cmp .gt (.ix (.var 0) (.con (.int 0))) (.con (.int 0))) [.asg 4 (.bin .mod (.bi .int (.cons (.ix (.var 0) (.con (.int 0))) .nil)) (.var 1)), .six (.var 0) (.con (.int 0)) (.bin .fdiv (.bi .int (.cons (.ix (.var 0) (.con (.int 0))) .nil)) (.var 1)), .ret (.var 4)] [],
  .asg 5 (.bin .mod (.bi .int (.cons (.bin .mul (.bin .add (.ix (.var 0) (.con (.int 1))) (.con (.int 1))) (.con (.int 39373))) .nil)) (.con (.int 1000000007))),
  .asg 6 (.bin .mod (.bi .int (.cons (.bin .mul (.bin .mod (.bi .int (.cons (.bin .mul (.var 5) (.var 5)) .nil)) (.con (.int 998244353))) (.con (.int 30011))) .nil)) (.con (.int 998244353))),
  .ret (.bin .mod (.bi .int (.cons (.bin .fdiv (.var 6) (.con (.int 7))) .nil)) (.var 1))]
def bSome : List S := [.ret (.ix (.var 1) (.app "_law_take" (.cons (.var 0) (.cons (.bi .len (.cons (.var 1) .nil)) .nil))))]
section
variable {T : Str → Option Def} {glob : Str → Option D} {w n : Nat} {R : Sto}
theorem cell_first (b : Bag) (h : 0 ≤ b.pos) : atI (cut (b.cells.map D.int) (some b.pos) none ++ [D.int 0]) 0 = some (.int b.next) := by
  have e : cut (b.cells.map D.int) (some b.pos) none = (b.cells.drop b.pos.toNat).map D.int := by
    unfold cut
    rw [HT.sIx_none]
    show List.take _ (List.drop (if b.pos < 0 then _ else min b.pos.toNat (b.cells.map D.int).length) _) = _
    rw [if_neg (by omega), ← List.map_drop, ← List.map_take]
    congr 1
    rw [List.length_map]
    by_cases q : b.pos.toNat ≤ b.cells.length
    · rw [Nat.min_eq_left q]
      refine List.take_of_length_le ?_
      rw [List.length_drop]
      have e : HT.sIx b.cells.length 0 (some b.pos) = min b.pos.toNat b.cells.length := if_neg (by omega)
      rw [e]
      omega
    · rw [Nat.min_eq_right (by omega), List.drop_of_length_le (Nat.le_refl _), List.drop_of_length_le (by omega)]
      simp
  rw [e]
  unfold Bag.next
  cases b.cells.drop b.pos.toNat with
  | nil => rfl
  | cons x r => 
    rw [List.map_cons, List.cons_append, atI_some (by omega) (by simp)]
    rfl
theorem cut_len {α : Type} (xs : List α) (lo hi : Option Int) : (cut xs lo hi).length ≤ xs.length := by
  unfold cut
  rw [List.length_take, List.length_drop]
  omega
end
end Gx
set_option Elab.async false
set_option linter.all false
set_option maxRecDepth 100000
/-! Ev2: a draw, evaluated. -/
namespace Gx
open PySem L2
section
variable {T : Str → Option Def} {glob : Str → Option D} {w n : Nat} {R : Sto} {b : Bag} {many : Int} {c : Call}
theorem p18 : (10 : Int) ^ (18 : Int).toNat = 10 ^ 18 := by decide
theorem take_open (hb : b.Ok) (hz : b.cells.length + 1 ≤ sizeLine) : ∃ x y, evS c glob w (bTake.headD .pas) [.v (.box 0), .v (.int many), .em, .em, .em, .em, .em] (bagD b :: R) = .ok .nx [.v (.box 0), .v (.int many), x, y, .em, .em, .em] (bagD b.opened :: R) := by
  have hc := cell_first b hb.pos
  have hl := cut_len (b.cells.map D.int) (some b.pos) none
  rw [List.length_map] at hl
  by_cases h : b.big = 0
  · have ho : b.opened = b.fresh := if_pos h
    rw [ho]
    have hk : (cut (b.cells.map D.int) (some b.pos) none).length + 1 ≤ sizeLine := by omega
    refine ⟨.v (.int b.next), .v (.int (b.seed * 48271 + b.next % 2147483647 + 7919 * (b.pos + 1))), ?_⟩
    by_cases hn : b.next ≥ 10 ^ 18
    · have hn' : (1000000000000000000 : Int) ≤ b.next := hn
      simp [bTake, evS, evSs, evE, evEs, Fr.get, bagD, ixN, h, hk, hc, hn', bigOk, Bag.fresh]
    · have hn' : ¬ (1000000000000000000 : Int) ≤ b.next := hn
      simp [bTake, evS, evSs, evE, evEs, Fr.get, bagD, ixN, h, hk, hc, hn', bigOk, Bag.fresh]
  · have ho : b.opened = b := if_neg h
    rw [ho]
    refine ⟨.em, .em, ?_⟩
    simp [bTake, evS, evSs, evE, evEs, Fr.get, bagD, h]
theorem take_ok (hT : T "_law_take" = some ⟨2, 7, bTake⟩) (hb : b.Ok) (h0 : 0 < many) (h1 : many < 1073741824) (hz : b.cells.length + 1 ≤ sizeLine) :
    run T glob w (n + 1) "_law_take" [.box 0, .int many] (bagD b :: R) = .ok (.int (b.val many)) (bagD (b.aft many) :: R) := by
  rw [run_at hT rfl]
  obtain ⟨x, y, e⟩ := take_open (R := R) (c := run T glob w n) (glob := glob) (w := w) (many := many) hb hz
  show endR (evSs (run T glob w n) glob w bTake [.v (.box 0), .v (.int many), .em, .em, .em, .em, .em] (bagD b :: R)) = _
  have s1 : evSs (run T glob w n) glob w bTake [.v (.box 0), .v (.int many), .em, .em, .em, .em, .em] (bagD b :: R) = evSs (run T glob w n) glob w bTake.tail [.v (.box 0), .v (.int many), x, y, .em, .em, .em] (bagD b.opened :: R) := by
    rw [show bTake = bTake.headD .pas :: bTake.tail from rfl, evSs, e]
    rfl
  rw [s1]
  clear s1 e
  have ho := hb.opened
  unfold Bag.val Bag.aft
  generalize b.opened = o at ho
  by_cases h : 0 < o.big
  · rw [if_pos h, if_pos h]
    simp [bTake, evS, evSs, evE, evEs, Fr.get, bagD, ixN, h, h0, h1, endR]
  · rw [if_neg h, if_neg h]
    have hm : ((o.seed + 1) * 39373 % 1000000007) < 18446744073709551616 := by omega
    have hm2 : -18446744073709551616 < ((o.seed + 1) * 39373 % 1000000007) := by omega
    simp [bTake, evS, evSs, evE, evEs, Fr.get, bagD, ixN, h, h0, h1, endR, bigOk, hm, hm2, Bag.begin]
theorem some_ok (hT : T "_law_take" = some ⟨2, 7, bTake⟩) (hS : T "_law_some" = some ⟨2, 2, bSome⟩) (hb : b.Ok) (hz : b.cells.length + 1 ≤ sizeLine) {things : List D} {d : D} (hn : things ≠ []) (hl : things.length < 1073741824) (hk : ∀ d ∈ things, keepD d = true) :
    ∃ d, d ∈ things ∧ things[(b.val things.length).toNat]? = some d ∧ run T glob w (n + 2) "_law_some" [.box 0, .lst things] (bagD b :: R) = .ok d (bagD (b.aft things.length) :: R) := by
  have hp : 0 < things.length := List.length_pos_iff.mpr hn
  have hr := b.val_range (many := things.length) (by omega)
  have hi : (b.val things.length).toNat < things.length := by omega
  have ht := take_ok (T := T) (glob := glob) (w := w) (n := n) (R := R) (many := things.length) hT hb (by omega) (by omega) hz
  refine ⟨things[(b.val things.length).toNat], List.getElem_mem _, List.getElem?_eq_getElem _, ?_⟩
  have hk' := hk _ (List.getElem_mem hi)
  rw [run_at hS rfl]
  simp [bSome, evSs, evS, evE, evEs, Fr.get, startF, ht, atI_some hr.1 hi, hk', endR, ofRC]
end
end Gx
set_option Elab.async false
set_option linter.all false
set_option maxRecDepth 100000
/-! Ev3: _law_alike of what is equal. -/
namespace Gx
open PySem L2
def bAlikeT : List S := [.unp (.tp [(.nm 4), (.nm 5)]) (.ix (.var 2) (.var 3)), .aug 3 .add (.con (.int 1)), .ifs (.or_ (.cmp .ne (.isi (.var 4) ["bool"]) (.isi (.var 5) ["bool"])) (.cmp .ne (.isi (.var 4) ["str"]) (.isi (.var 5) ["str"]))) [.ret (.con (.bl false))] [], .ifs (.cmp .ne (.isi (.var 4) ["tuple", "list"]) (.isi (.var 5) ["tuple", "list"])) [.ret (.con (.bl false))] [], .ifs (.isi (.var 4) ["tuple", "list"]) [.ifs (.or_ (.cmp .ne (.isi (.var 4) ["tuple"]) (.isi (.var 5) ["tuple"])) (.cmp .ne (.bi .len (.cons (.var 4) .nil)) (.bi .len (.cons (.var 5) .nil)))) [.ret (.con (.bl false))] [], .ex (.mu .extend (.var 2) (.cons (.lz (.var 4) (.var 5)) .nil))] [.ifs (.cmp .ne (.var 4) (.var 5)) [.ret (.con (.bl false))] []]]
def bAlike : List S := [.par [(2, true), (3, false)] (.cons (.lst (.cons (.tup (.cons (.var 0) (.cons (.var 1) .nil))) .nil)) (.cons (.con (.int 0)) .nil)),
  .wh (.cmp .lt (.var 3) (.bi .len (.cons (.var 2) .nil))) bAlikeT,
  .ret (.con (.bl true))]
mutual
/-- a value without cycles, of a size -/
inductive Fine (S : Sto) : D → Nat → Prop
  | flat {d : D} (h : flatD d = true) : Fine S d 1
  | tup {l : List D} {k : Nat} (h : FineL S l k) : Fine S (.tup l) (k + 1)
  | lst {l : List D} {k : Nat} (h : FineL S l k) : Fine S (.lst l) (k + 1)
  | box {n : Nat} {l : List D} {k : Nat} (e : S[n]? = some (.lst l)) (h : FineL S l k) : Fine S (.box n) (k + 1)
inductive FineL (S : Sto) : List D → Nat → Prop
  | nil : FineL S [] 0
  | cons {d : D} {l : List D} {a b : Nat} (h : Fine S d a) (t : FineL S l b) : FineL S (d :: l) (a + b)
end
section
variable {T : Str → Option Def} {glob : Str → Option D} {w n : Nat} {S : Sto} {c : Call}
theorem Fine.keep {d : D} {k : Nat} (h : Fine S d k) : keepD d = true := by
  cases h with
  | flat h => cases d <;> first | rfl | cases h
  | tup _ => rfl
  | lst _ => rfl
  | box _ _ => rfl
theorem Fine.pos {d : D} {k : Nat} (h : Fine S d k) : 0 < k := by
  cases h <;> omega
theorem FineL.len : ∀ {l : List D} {k : Nat}, FineL S l k → l.length ≤ k
  | [], _, .nil => Nat.le_refl _
  | _ :: l, _, .cons h t => by
    have := h.pos
    have := t.len
    rw [List.length_cons]
    omega
theorem FineL.append : ∀ {l m : List D} {a b : Nat}, FineL S l a → FineL S m b → FineL S (l ++ m) (a + b)
  | [], m, _, b, .nil, h => by rw [Nat.zero_add]; exact h
  | d :: l, m, _, b, .cons (a := x) (b := y) h t, g => by
    rw [Nat.add_assoc]
    exact .cons h (t.append g)
theorem zipL_self : ∀ l : List D, zipL l l = l.map fun d => .tup [d, d]
  | [] => rfl
  | d :: l => by
    show D.tup [d, d] :: zipL l l = _
    rw [zipL_self l]; rfl
theorem eq_flat {d : D} (h : flatD d = true) : eqD d d = some true := by
  cases d <;> first | (simp [eqD]; done) | rfl | cases h
def twice (l : List D) : List D := l.map fun d => .tup [d, d]
theorem twice_append (l m : List D) : twice (l ++ m) = twice l ++ twice m := List.map_append
/-- what a turn leaves -/
theorem alike_turn {x a b : D} {p : Nat} {done tt : List D} {s4 s5 : Sl} (hx : Fine S x p) (hz : done.length + tt.length + p ≤ 16777216) : ∃ l k, FineL S l k ∧ k + 1 = p ∧
    evSs c glob w bAlikeT [.v a, .v b, .own true (.lst (done ++ .tup [x, x] :: tt)), .v (.int done.length), s4, s5] S = .ok .nx [.v a, .v b, .own true (.lst (done ++ .tup [x, x] :: (tt ++ twice l))), .v (.int (done.length + 1)), .v x, .v x] S := by
  have hat : atI (done ++ .tup [x, x] :: tt) (done.length : Int) = some (.tup [x, x]) := by
    rw [atI_nat (by simp)]
    simp
  have hk := hx.keep
  cases hx with
  | flat h =>
    have e := eq_flat h
    refine ⟨[], 0, .nil, rfl, ?_⟩
    cases x <;> first | (cases h; done) | skip
    all_goals simp [bAlikeT, evSs, evS, evE, evEs, Fr.get, hat, twice, e]
  | @tup m k h =>
    have hm := h.len
    have hs : done.length + (tt.length + 1) + m.length ≤ 16777216 := by omega
    refine ⟨m, k, h, rfl, ?_⟩
    simp [bAlikeT, evSs, evS, evE, evEs, Fr.get, hat, zipD, itemsD, zipL_self, twice, hs, show m.length ≤ 16777216 by omega]
  | @lst m k h =>
    have hm := h.len
    have hs : done.length + (tt.length + 1) + m.length ≤ 16777216 := by omega
    refine ⟨m, k, h, rfl, ?_⟩
    simp [bAlikeT, evSs, evS, evE, evEs, Fr.get, hat, zipD, itemsD, zipL_self, twice, hs, show m.length ≤ 16777216 by omega]
  | @box b m k e h =>
    have hm := h.len
    have hs : done.length + (tt.length + 1) + m.length ≤ 16777216 := by omega
    refine ⟨m, k, h, rfl, ?_⟩
    simp [bAlikeT, evSs, evS, evE, evEs, Fr.get, hat, zipD, itemsD, zipL_self, twice, hs, e, show m.length ≤ 16777216 by omega]
/-- the loop over pairs of equal values -/
theorem alike_loop : ∀ (n k : Nat) (todo done : List D) (a b : D) (s4 s5 : Sl), FineL S todo k → done.length + k ≤ 16777216 → k < n →
    ∃ φ', loop (fun φ S => (evE c glob (.cmp .lt (.var 3) (.bi .len (.cons (.var 2) .nil))) φ S).bind fun x φ S => ofO (truD (look φ S x)) φ S)
      (fun φ S => evSs c glob w bAlikeT φ S)
      n [.v a, .v b, .own true (.lst (done ++ twice todo)), .v (.int done.length), s4, s5] S = .ok .nx φ' S
  | 0, k, _, _, _, _, _, _, _, _, h => absurd h (Nat.not_lt_zero _)
  | n + 1, _, [], done, a, b, s4, s5, .nil, hz, hn => ⟨_, by
      rw [loop]
      simp [evE, evEs, Fr.get, twice]
      rfl⟩
  | n + 1, _, x :: todo, done, a, b, s4, s5, .cons (a := p) (b := q) hx ht, hz, hn => by
    have hp := hx.pos
    have e1 : twice (x :: todo) = .tup [x, x] :: twice todo := rfl
    have hq := ht.len
    have hlen : (twice todo).length = todo.length := List.length_map _
    obtain ⟨l, k, hl, hkp, ht2⟩ := alike_turn (c := c) (glob := glob) (w := w) (a := a) (b := b) (s4 := s4) (s5 := s5) (done := done) (tt := twice todo) hx (by omega)
    obtain ⟨φ', ih⟩ := alike_loop n (q + k) (todo ++ l) (done ++ [.tup [x, x]]) a b (.v x) (.v x) (ht.append hl) (by simp; omega) (by omega)
    refine ⟨φ', ?_⟩
    rw [loop]
    have et : (evE c glob (.cmp .lt (.var 3) (.bi .len (.cons (.var 2) .nil))) [.v a, .v b, .own true (.lst (done ++ twice (x :: todo))), .v (.int done.length), s4, s5] S).bind (fun x φ S => ofO (truD (look φ S x)) φ S) = .ok true [.v a, .v b, .own true (.lst (done ++ twice (x :: todo))), .v (.int done.length), s4, s5] S := by
      rw [e1]
      simp [evE, evEs, Fr.get]
      omega
    rw [et, R.bind_ok, if_pos rfl, e1, ht2, R.bind_ok]
    show loop _ _ n _ S = _
    rw [← ih, twice_append]
    simp
/-- _law_alike of a value and itself -/
theorem alike_self (hT : T "_law_alike" = some ⟨2, 6, bAlike⟩) {x : D} {k : Nat} (hx : Fine S x k) (hz : k ≤ 16777216) (hw : k < w) : run T glob w (n + 1) "_law_alike" [x, x] S = .ok (.bl true) S := by
  have hk := hx.keep
  obtain ⟨φ', h⟩ := alike_loop (c := run T glob w n) (glob := glob) (w := w) w k [x] [] x x .em .em (by have := FineL.cons hx .nil; rw [Nat.add_zero] at this; exact this) (by simpa using hz) hw
  rw [run_at hT rfl]
  unfold bAlike
  rw [evSs]
  have e1 : evS (run T glob w n) glob w (.par [(2, true), (3, false)] (.cons (.lst (.cons (.tup (.cons (.var 0) (.cons (.var 1) .nil))) .nil)) (.cons (.con (.int 0)) .nil))) (startF 6 [x, x]) S = .ok .nx [.v x, .v x, .own true (.lst ([] ++ twice [x])), .v (.int (([] : List D).length : Nat)), .em, .em] S := by
    simp [evS, evM, evF, evE, evEs, Fr.get, startF, hk, setAll, twice]
  rw [e1, R.bind_ok]
  simp only
  rw [evSs, evS, h, R.bind_ok]
  simp [evSs, evS, evE, endR]
end
end Gx
set_option Elab.async false
set_option linter.all false
set_option maxRecDepth 100000
/-! Ev4: loops and comprehensions, evaluated. -/
namespace Gx
open PySem L2
theorem compFil {φ0 : Fr} {f : D → Fr → Sto → R (Option D)} {S : Sto} {g : D → Option D} : ∀ (l : List D) (acc : List D), (∀ x ∈ l, ∃ φ1, f x φ0 S = .ok (g x) φ1 S) → comp φ0 f l S acc = .ok (acc.reverse ++ l.filterMap g) φ0 S
  | [], acc, _ => by simp [comp]
  | x :: l, acc, h => by
    obtain ⟨φ1, e⟩ := h x List.mem_cons_self
    have ih := fun acc => compFil l acc fun y hy => h y (List.mem_cons_of_mem _ hy)
    rw [comp, e, R.bind_ok]
    cases c : g x with
    | none => 
      show comp φ0 f l S acc = _
      rw [ih, List.filterMap_cons, c]
    | some d =>
      show comp φ0 f l S (d :: acc) = _
      rw [ih, List.filterMap_cons, c]
      simp
theorem compMap {φ0 : Fr} {f : D → Fr → Sto → R (Option D)} {S : Sto} {g : D → D} (l : List D) (acc : List D) (h : ∀ x ∈ l, ∃ φ1, f x φ0 S = .ok (some (g x)) φ1 S) : comp φ0 f l S acc = .ok (acc.reverse ++ l.map g) φ0 S := by
  rw [compFil (g := fun x => some (g x)) l acc h]
  simp
@[simp] theorem nox_ok {α : Type} (a : α) (φ : Fr) (S : Sto) : (R.ok a φ S).nox = .ok a φ S := rfl
theorem each_ind {body : D → Fr → Sto → R Flow'} {P : List D → Fr → Sto → Prop} (step : ∀ x r φ S, P (x :: r) φ S → ∃ φ' S', (body x φ S = .ok .nx φ' S' ∨ body x φ S = .ok .cont φ' S') ∧ P r φ' S') :
    ∀ l φ S, P l φ S → ∃ φ' S', each body l φ S = .ok .nx φ' S' ∧ P [] φ' S'
  | [], φ, S, h => ⟨φ, S, rfl, h⟩
  | x :: r, φ, S, h => by
    obtain ⟨φ1, S1, e, h1⟩ := step x r φ S h
    obtain ⟨φ2, S2, e2, h2⟩ := each_ind step r φ1 S1 h1
    refine ⟨φ2, S2, ?_, h2⟩
    rw [each]
    rcases e with e | e <;> rw [e] <;> exact e2
end Gx
namespace Gx
open PySem L2
theorem cut_to {α : Type} {xs : List α} {k : Int} (h : (xs.length : Int) ≤ k) : cut xs none (some k) = xs := by
  unfold cut
  have e : HT.sIx xs.length xs.length (some k) = xs.length := by
    show (if k < 0 then (k + (xs.length : Int)).toNat else min k.toNat xs.length) = xs.length
    rw [if_neg (by omega)]
    omega
  rw [e, HT.sIx_none, List.drop_zero, Nat.sub_zero, List.take_length]
def absI (i : Int) : Int := if i < 0 then -i else i
/-- the bag at the start -/
def bag0 (ns : List Int) : Bag := ⟨0, 1234567891, 0, ns.map absI⟩
theorem bag0_ok (ns : List Int) : (bag0 ns).Ok := ⟨by simp [bag0], by simp [bag0]⟩
theorem bag_ok {T : Str → Option Def} {glob : Str → Option D} {w n : Nat} {S : Sto} {ns : List Int} (hT : T "_law_bag" = some ⟨1, 2, bBag⟩) (hl : ns.length ≤ 63) :
    run T glob w (n + 1) "_law_bag" [.scr ns] [] = .ok (.box 0) [bagD (bag0 ns)] := by
  rw [run_at hT rfl]
  have hc : cut (ns.map D.int) none (some 63) = ns.map .int := cut_to (by simp; omega)
  have hlc : evE (run T glob w n) glob (.lc (.nm 1) (.seq (.sl (.var 0) .nil (.cons (.con (.int 63)) .nil))) (.con (.bl true)) (.bi .abs (.cons (.var 1) .nil)) [1]) [.v (.scr ns), .em] [] = .ok (.lst ((ns.map absI).map .int)) [.v (.scr ns), .em] [] := by
    rw [evE]
    have hI : evI (run T glob w n) glob (.seq (.sl (.var 0) .nil (.cons (.con (.int 63)) .nil))) [.v (.scr ns), .em] [] = .ok (ns.map .int) [.v (.scr ns), .em] [] := by
      simp [evI, evE, evEs, Fr.get, hc, itemsD]
    rw [hI, R.bind_ok, if_neg (by simp [plainS]), if_neg (by simp [tgS])]
    rw [compMap (g := fun d => match d with | .int k => .int (absI k) | _ => .non)]
    · have hz : ns.length ≤ 16777216 := by omega
      simp [hz]
    · intro z hz
      obtain ⟨k, _, rfl⟩ := List.mem_map.mp hz
      refine ⟨[.v (.scr ns), .v (.int k)], ?_⟩
      simp [wipeF, roS, evE, evEs, Fr.get, absI]
  have hst : startF 2 [.scr ns] = [.v (.scr ns), .em] := rfl
  rw [hst]
  unfold bBag
  rw [evSs, evS, evE, evEs, evE, R.bind_ok, evEs, evE, R.bind_ok, evEs, evE, R.bind_ok, evEs, hlc]
  simp [evEs, endR, evSs, bagD, bag0]
end Gx
set_option Elab.async false
set_option linter.all false
set_option maxRecDepth 100000
/-! Ev5: comprehensions and loops over encoded lists, evaluated. -/
namespace Gx
open PySem L2
section
variable {c : Call} {glob : Str → Option D} {w : Nat} {φ : Fr} {S : Sto} {t : Tg} {it : It} {cnd e : E} {own : List Nat}
/-- a turn of a comprehension -/
abbrev turnD (c : Call) (glob : Str → Option D) (t : Tg) (cnd e : E) : D → Fr → Sto → R (Option D) := fun x φ S => (ofO (asgT t x φ) φ S).bind fun φ _ S =>
  (evE c glob cnd φ S).bind fun b φ S => (ofO (truD (look φ S b)) φ S).bind fun b φ S => if b then (evE c glob e φ S).bind fun d φ S => if keepD d then .ok (some d) φ S else .no else .ok none φ S
theorem lc_ok {α : Type} {enc : α → D} {l : List α} {g : α → Option D} (hI : evI c glob it φ S = .ok (l.map enc) φ S) (hp : own.all (fun i => plainS φ i) = true) (ht : (tgS t).all (fun i => own.contains i) = true)
    (h : ∀ a ∈ l, ∃ φ1, turnD c glob t cnd e (enc a) ((wipeF φ own).map roS) S = .ok (g a) φ1 S) (hz : l.length ≤ 16777216) : evE c glob (.lc t it cnd e own) φ S = .ok (.lst (l.filterMap g)) φ S := by
  rw [evE, hI, R.bind_ok, if_neg (by simp only [hp, Bool.not_true]; exact Bool.false_ne_true), if_neg (by simp only [ht, Bool.not_true]; exact Bool.false_ne_true)]
  have key : comp ((wipeF φ own).map roS) (turnD c glob t cnd e) (l.map enc) S [] = .ok (l.filterMap g) ((wipeF φ own).map roS) S := by
    have : ∀ (l : List α) (acc : List D), (∀ a ∈ l, ∃ φ1, turnD c glob t cnd e (enc a) ((wipeF φ own).map roS) S = .ok (g a) φ1 S) → comp ((wipeF φ own).map roS) (turnD c glob t cnd e) (l.map enc) S acc = .ok (acc.reverse ++ l.filterMap g) ((wipeF φ own).map roS) S := by
      intro l
      induction l with
      | nil => intro acc _; simp [comp]
      | cons a l ih =>
        intro acc h
        obtain ⟨φ1, e1⟩ := h a List.mem_cons_self
        have ih := fun acc => ih acc fun b hb => h b (List.mem_cons_of_mem _ hb)
        rw [List.map_cons, comp, e1, R.bind_ok]
        cases q : g a with
        | none =>
          show comp _ _ _ S acc = _
          rw [ih, List.filterMap_cons, q]
        | some d =>
          show comp _ _ _ S (d :: acc) = _
          rw [ih, List.filterMap_cons, q]
          simp
    exact this l [] h
  rw [key, nox_ok, R.bind_ok]
  have hl : (l.filterMap g).length ≤ 16777216 := Nat.le_trans (List.length_filterMap_le _ _) hz
  rw [if_pos (by rw [sizeLine_eq]; exact hl)]
/-- without a test -/
theorem lcm_ok {α : Type} {enc : α → D} {l : List α} {g : α → D} (hI : evI c glob it φ S = .ok (l.map enc) φ S) (hp : own.all (fun i => plainS φ i) = true) (ht : (tgS t).all (fun i => own.contains i) = true)
    (h : ∀ a ∈ l, ∃ φ1, turnD c glob t cnd e (enc a) ((wipeF φ own).map roS) S = .ok (some (g a)) φ1 S) (hz : l.length ≤ 16777216) : evE c glob (.lc t it cnd e own) φ S = .ok (.lst (l.map g)) φ S := by
  rw [lc_ok (g := fun a => some (g a)) hI hp ht h hz]
  simp
theorem at_last {α : Type} (xs : List α) : atI xs (-1) = xs.getLast? := by
  unfold atI ixN
  rw [if_neg (by omega)]
  cases xs with
  | nil => rfl
  | cons a l =>
    rw [List.getLast?_eq_getElem?]
    simp
    rw [if_pos (by omega)]
    simp
    have : (-1 + ((l.length : Int) + 1)).toNat = l.length := by omega
    rw [this]
    simp [List.getLast_eq_getElem]
end
end Gx
set_option Elab.async false
set_option linter.all false
set_option maxRecDepth 100000
/-! Ev6: frames without objects of their own; loops; ranges; lists of ints. -/
namespace Ev
open PySem L2 Gx
theorem each_nx {body : D → Fr → Sto → R Flow'} {x : D} {r : List D} {φ φ' : Fr} {S S' : Sto} (h : body x φ S = .ok .nx φ' S') : each body (x :: r) φ S = each body r φ' S' := by
  rw [each, h]; rfl
theorem each_ret {body : D → Fr → Sto → R Flow'} {x v : D} {r : List D} {φ φ' : Fr} {S S' : Sto} (h : body x φ S = .ok (.ret v) φ' S') : each body (x :: r) φ S = .ok (.ret v) φ' S' := by
  rw [each, h]; rfl
def toF : Option D → Flow'
  | some d => .ret d
  | none => .nx
/-- a loop that looks for something -/
theorem each_find {α : Type} {enc : α → D} {body : D → Fr → Sto → R Flow'} {S : Sto} {P : Fr → Prop} {c : α → Option D} : ∀ (l : List α) (φ : Fr), P φ → (∀ a ∈ l, ∀ φ, P φ → ∃ φ', P φ' ∧ body (enc a) φ S = .ok (toF (c a)) φ' S) →
    ∃ φ', P φ' ∧ each body (l.map enc) φ S = .ok (toF (l.findSome? c)) φ' S
  | [], φ, hp, _ => ⟨φ, hp, rfl⟩
  | a :: l, φ, hp, h => by
    obtain ⟨φ1, h1, e1⟩ := h a List.mem_cons_self φ hp
    cases e : c a with
    | some d =>
      rw [e] at e1
      exact ⟨φ1, h1, by rw [List.map_cons, each_ret (v := d) e1, List.findSome?_cons, e]; rfl⟩
    | none =>
      rw [e] at e1
      obtain ⟨φ2, h2, e2⟩ := each_find l φ1 h1 fun x hx => h x (List.mem_cons_of_mem _ hx)
      exact ⟨φ2, h2, by rw [List.map_cons, each_nx e1, e2, List.findSome?_cons, e]⟩
/-- a loop that builds something -/
theorem each_fold {α σ : Type} {enc : α → D} {body : D → Fr → Sto → R Flow'} {S : Sto} {Q : σ → Fr → Prop} {f : σ → α → σ} : ∀ (l : List α) (s : σ) (φ : Fr), Q s φ → (∀ a ∈ l, ∀ s φ, Q s φ → ∃ φ', Q (f s a) φ' ∧ body (enc a) φ S = .ok .nx φ' S) →
    ∃ φ', Q (l.foldl f s) φ' ∧ each body (l.map enc) φ S = .ok .nx φ' S
  | [], s, φ, hp, _ => ⟨φ, hp, rfl⟩
  | a :: l, s, φ, hp, h => by
    obtain ⟨φ1, h1, e1⟩ := h a List.mem_cons_self s φ hp
    obtain ⟨φ2, h2, e2⟩ := each_fold l (f s a) φ1 h1 fun x hx => h x (List.mem_cons_of_mem _ hx)
    exact ⟨φ2, h2, by rw [List.map_cons, each_nx e1, e2]⟩
/-- a loop that builds something, told by what is done -/
theorem each_pre {α : Type} {enc : α → D} {body : D → Fr → Sto → R Flow'} {S : Sto} {Q : List α → Fr → Prop} : ∀ (r d : List α) (φ : Fr), Q d φ → (∀ d' a r', d ++ r = d' ++ a :: r' → ∀ φ, Q d' φ → ∃ φ', Q (d' ++ [a]) φ' ∧ body (enc a) φ S = .ok .nx φ' S) →
    ∃ φ', Q (d ++ r) φ' ∧ each body (r.map enc) φ S = .ok .nx φ' S
  | [], d, φ, hp, _ => ⟨φ, by rw [List.append_nil]; exact hp, rfl⟩
  | a :: r, d, φ, hp, h => by
    obtain ⟨φ1, h1, e1⟩ := h d a r rfl φ hp
    obtain ⟨φ2, h2, e2⟩ := each_pre r (d ++ [a]) φ1 h1 fun d' x r' e => h d' x r' (by rw [← e]; simp)
    exact ⟨φ2, by rw [List.append_assoc] at h2; exact h2, by rw [List.map_cons, each_nx e1, e2]⟩
theorem evSs_nx {c : Call} {gl : Str → Option D} {w : Nat} {m : List Gx.S} : ∀ {l : List Gx.S} {φ φ' : Fr} {S S' : Sto}, evSs c gl w l φ S = .ok .nx φ' S' → evSs c gl w (l ++ m) φ S = evSs c gl w m φ' S'
  | [], φ, φ', S, S', h => by
    rw [evSs] at h
    cases h
    rfl
  | s :: l, φ, φ', S, S', h => by
    rw [evSs] at h
    rw [List.cons_append, evSs]
    cases e : evS c gl w s φ S with
    | no => rw [e] at h; cases h
    | exc x a b => rw [e] at h; cases h
    | ok f φ1 S1 =>
      rw [e] at h
      rw [Gx.R.bind_ok] at h ⊢
      cases f with
      | nx => exact evSs_nx h
      | brk => cases h
      | cont => cases h
      | ret d => cases h
/-- the first statement is done -/
theorem evSs_1 {c : Call} {gl : Str → Option D} {w : Nat} {s : Gx.S} {m : List Gx.S} {φ φ' : Fr} {S S' : Sto} (h : evS c gl w s φ S = .ok .nx φ' S') : evSs c gl w (s :: m) φ S = evSs c gl w m φ' S' := by
  rw [evSs, h]; rfl
theorem evSs_r {c : Call} {gl : Str → Option D} {w : Nat} {s : Gx.S} {m : List Gx.S} {φ φ' : Fr} {S S' : Sto} {d : D} (h : evS c gl w s φ S = .ok (.ret d) φ' S') : evSs c gl w (s :: m) φ S = .ok (.ret d) φ' S' := by
  rw [evSs, h]; rfl
/-! ranges -/
theorem rng1 {n : Nat} (h : n < 2 ^ 62) : rngOf [.int (n : Int)] = some ((List.range n).map fun (k : Nat) => D.int k) := by
  show (if rngOk (n : Int) = true then some (rngD 0 (n : Int).toNat 1) else none) = _
  rw [if_pos (by unfold rngOk; exact decide_eq_true ⟨by omega, by omega⟩)]
  unfold rngD
  congr 1
  apply List.map_congr_left
  intro k _
  congr 1
  omega
theorem rng2 {i j : Int} (hi : -(2 ^ 62) ≤ i ∧ i < 2 ^ 62) (hj : -(2 ^ 62) ≤ j ∧ j < 2 ^ 62) : rngOf [.int i, .int j] = some ((List.range (j - i).toNat).map fun (k : Nat) => D.int (i + k)) := by
  show (if (rngOk i && rngOk j) = true then some (rngD i (j - i).toNat 1) else none) = _
  rw [if_pos (by unfold rngOk; rw [decide_eq_true hi, decide_eq_true hj]; rfl)]
  unfold rngD
  congr 1
  apply List.map_congr_left
  intro k _
  congr 1
  omega
section
variable {c : Call} {glob : Str → Option D} {as : Es} {φ φ' : Fr} {S S' : Sto}
theorem evI_r1 {n : Nat} (hE : evEs c glob as φ S = .ok [.int (n : Int)] φ' S') (hl : as.len = 1) (h : n < 2 ^ 62) : evI c glob (.rng as) φ S = .ok ((List.range n).map fun (k : Nat) => D.int k) φ' S' := by
  rw [evI, hE, Gx.R.bind_ok, if_pos (by rw [hl]; rfl), rng1 h]
  rfl
theorem evI_r2 {i j : Int} (hE : evEs c glob as φ S = .ok [.int i, .int j] φ' S') (hl : as.len = 2) (hi : -(2 ^ 62) ≤ i ∧ i < 2 ^ 62) (hj : -(2 ^ 62) ≤ j ∧ j < 2 ^ 62) : evI c glob (.rng as) φ S = .ok ((List.range (j - i).toNat).map fun (k : Nat) => D.int (i + k)) φ' S' := by
  rw [evI, hE, Gx.R.bind_ok, if_pos (by rw [hl]; rfl), rng2 hi hj]
  rfl
end
/-! frames -/
def pl (x : Sl) : Prop := x = .em ∨ ∃ d, x = .v d
structure Fp (φ : Fr) (m : Nat) : Prop where
  len : φ.length = m
  all : ∀ s ∈ φ, pl s
theorem Fp.set {φ : Fr} {m i : Nat} {d : D} (h : Fp φ m) : Fp (φ.set i (.v d)) m := by
  refine ⟨by rw [List.length_set]; exact h.len, fun s hs => ?_⟩
  rcases List.mem_or_eq_of_mem_set hs with h1 | h1
  · exact h.all s h1
  · exact .inr ⟨d, h1⟩
theorem Fp.plain {φ : Fr} {m : Nat} (h : Fp φ m) (i : Nat) : plainS φ i = true := by
  unfold plainS
  cases e : φ[i]? with
  | none => rfl
  | some s =>
    rcases h.all s (List.mem_of_getElem? e) with rfl | ⟨d, rfl⟩ <;> rfl
theorem get_set {φ : Fr} {i j : Nat} {d : D} (h : i < φ.length) : Fr.get (φ.set i (.v d)) j = if i = j then some d else Fr.get φ j := by
  unfold Fr.get
  by_cases e : i = j
  · subst e
    rw [if_pos rfl, List.getElem?_set_self h]
  · rw [if_neg e, List.getElem?_set_ne e]
theorem wipe_len (φ : Fr) : ∀ own : List Nat, (wipeF φ own).length = φ.length
  | [] => rfl
  | v :: vs => by rw [wipeF, List.length_set]; exact wipe_len φ vs
theorem wipe_get {φ : Fr} {j : Nat} : ∀ {own : List Nat}, j ∉ own → (wipeF φ own)[j]? = φ[j]?
  | [], _ => rfl
  | v :: vs, h => by
    rw [wipeF, List.getElem?_set_ne (fun e : v = j => h (by rw [e]; exact List.mem_cons_self))]
    exact wipe_get fun h2 => h (List.mem_cons_of_mem _ h2)
theorem wipe_all {φ : Fr} {m : Nat} (h : Fp φ m) : ∀ own : List Nat, ∀ s ∈ wipeF φ own, pl s
  | [], s, hs => h.all s hs
  | v :: vs, s, hs => by
    rw [wipeF] at hs
    rcases List.mem_or_eq_of_mem_set hs with h1 | h1
    · exact wipe_all h vs s h1
    · exact .inl h1
theorem lay_fp {φ : Fr} {m : Nat} {own : List Nat} (h : Fp φ m) : Fp ((wipeF φ own).map roS) m := by
  refine ⟨by rw [List.length_map, wipe_len]; exact h.len, fun s hs => ?_⟩
  obtain ⟨t, ht, rfl⟩ := List.mem_map.mp hs
  rcases wipe_all h own t ht with rfl | ⟨d, rfl⟩
  · exact .inl rfl
  · exact .inr ⟨d, rfl⟩
theorem lay_get {φ : Fr} {j : Nat} {own : List Nat} (h : j ∉ own) : Fr.get ((wipeF φ own).map roS) j = Fr.get φ j := by
  unfold Fr.get
  rw [List.getElem?_map, wipe_get h]
  cases φ[j]? with
  | none => rfl
  | some s => cases s <;> rfl
section
variable {c : Call} {glob : Str → Option D} {φ : Fr} {S : Sto} {it : Gx.It} {cnd e : E} {k m : Nat} {α : Type} {enc : α → D} {l : List α}
/-- a comprehension with one name, in a frame without objects of its own -/
theorem lc1 (hF : Fp φ m) (hk : k < m) (hI : evI c glob it φ S = .ok (l.map enc) φ S) (p : α → Bool) (gv : α → D) (hq : ∀ a ∈ l, keepD (enc a) = true ∧ keepD (gv a) = true)
    (h : ∀ a ∈ l, ∀ ψ : Fr, Fp ψ m → ψ.get k = some (enc a) → (∀ j, j ≠ k → ψ.get j = φ.get j) → evE c glob cnd ψ S = .ok (.bl (p a)) ψ S ∧ (p a = true → evE c glob e ψ S = .ok (gv a) ψ S)) (hz : l.length ≤ 16777216) :
    evE c glob (.lc (.nm k) it cnd e [k]) φ S = .ok (.lst ((l.filter p).map gv)) φ S := by
  have e0 : (l.filter p).map gv = l.filterMap fun a => if p a then some (gv a) else none := by
    rw [← List.filterMap_eq_map, List.filterMap_filter]
    rfl
  rw [e0]
  refine lc_ok (enc := enc) hI (by simp [hF.plain]) (by simp [tgS]) ?_ hz
  intro a ha
  have hl := lay_fp (own := [k]) hF
  obtain ⟨h1, h2⟩ := h a ha _ (hl.set (i := k) (d := enc a)) (by rw [get_set (by rw [hl.len]; exact hk), if_pos rfl]) (fun j hj => by
    rw [get_set (by rw [hl.len]; exact hk), if_neg (fun e => hj e.symm), lay_get (by simpa using hj)])
  obtain ⟨k1, k2⟩ := hq a ha
  refine ⟨((wipeF φ [k]).map roS).set k (.v (enc a)), ?_⟩
  have hkl : k < ((wipeF φ [k]).map roS).length := by rw [hl.len]; exact hk
  generalize (wipeF φ [k]).map roS = φ0 at h1 h2 hkl ⊢
  cases hp : p a with
  | true =>
    rw [hp] at h1
    simp [turnD, k1, hkl, h1, h2 hp, k2]
  | false =>
    rw [hp] at h1
    simp [turnD, k1, hkl, h1]
theorem lc1m (hF : Fp φ m) (hk : k < m) (hI : evI c glob it φ S = .ok (l.map enc) φ S) (gv : α → D) (hq : ∀ a ∈ l, keepD (enc a) = true ∧ keepD (gv a) = true)
    (h : ∀ a ∈ l, ∀ ψ : Fr, Fp ψ m → ψ.get k = some (enc a) → (∀ j, j ≠ k → ψ.get j = φ.get j) → evE c glob e ψ S = .ok (gv a) ψ S) (hz : l.length ≤ 16777216) :
    evE c glob (.lc (.nm k) it (.con (.bl true)) e [k]) φ S = .ok (.lst (l.map gv)) φ S := by
  have := lc1 (cnd := .con (.bl true)) hF hk hI (fun _ => true) gv hq (fun a ha ψ h1 h2 h3 => ⟨rfl, fun _ => h a ha ψ h1 h2 h3⟩) hz
  rw [this, List.filter_eq_self.mpr (fun _ _ => rfl)]
end
section
variable {c : Call} {glob : Str → Option D} {φ φ0 : Fr} {Z S0 : Sto} {t : Tg} {it : Gx.It} {cnd e : E} {own : List Nat} {α β : Type} {enc : α → D} {enc2 : β → D} {Q : α → β → Prop} {cs : List Int}
theorem comp_bag {f : D → Fr → Sto → R (Option D)} : ∀ (xs : List α) (b : Bag) (acc : List D), b.Ok → b.cells = cs →
    (∀ a ∈ xs, ∀ b : Bag, b.Ok → b.cells = cs → ∃ (b' : Bag) (y : β) (φ1 : Fr), b'.Ok ∧ b'.cells = cs ∧ Q a y ∧ f (enc a) φ0 (bagD b :: Z) = .ok (some (enc2 y)) φ1 (bagD b' :: Z)) →
    ∃ (b' : Bag) (ys : List β), b'.Ok ∧ b'.cells = cs ∧ ys.length = xs.length ∧ (∀ p ∈ xs.zip ys, Q p.1 p.2) ∧ comp φ0 f (xs.map enc) (bagD b :: Z) acc = .ok (acc.reverse ++ ys.map enc2) φ0 (bagD b' :: Z)
  | [], b, acc, ob, cb, _ => ⟨b, [], ob, cb, rfl, fun p hp => by simp at hp, by simp [comp]⟩
  | a :: xs, b, acc, ob, cb, h => by
    obtain ⟨b1, y, φ1, o1, c1, q1, e1⟩ := h a List.mem_cons_self b ob cb
    obtain ⟨b2, ys, o2, c2, l2, q2, e2⟩ := comp_bag xs b1 (enc2 y :: acc) o1 c1 fun x hx => h x (List.mem_cons_of_mem _ hx)
    refine ⟨b2, y :: ys, o2, c2, by simp [l2], fun p hp => ?_, ?_⟩
    · rw [List.zip_cons_cons] at hp
      rcases List.mem_cons.mp hp with rfl | hp
      · exact q1
      · exact q2 p hp
    · rw [List.map_cons, comp, e1, Gx.R.bind_ok]
      show comp _ _ _ _ (enc2 y :: acc) = _
      rw [e2]
      simp
theorem lc_bag {xs : List α} {b : Bag} (hI : evI c glob it φ S0 = .ok (xs.map enc) φ (bagD b :: Z)) (hp : own.all (fun i => plainS φ i) = true) (ht : (tgS t).all (fun i => own.contains i) = true) (ob : b.Ok) (cb : b.cells = cs)
    (h : ∀ a ∈ xs, ∀ b : Bag, b.Ok → b.cells = cs → ∃ (b' : Bag) (y : β) (φ1 : Fr), b'.Ok ∧ b'.cells = cs ∧ Q a y ∧ turnD c glob t cnd e (enc a) ((wipeF φ own).map roS) (bagD b :: Z) = .ok (some (enc2 y)) φ1 (bagD b' :: Z)) (hz : xs.length ≤ 16777216) :
    ∃ (b' : Bag) (ys : List β), b'.Ok ∧ b'.cells = cs ∧ ys.length = xs.length ∧ (∀ p ∈ xs.zip ys, Q p.1 p.2) ∧ evE c glob (.lc t it cnd e own) φ S0 = .ok (.lst (ys.map enc2)) φ (bagD b' :: Z) := by
  obtain ⟨b', ys, o1, c1, l1, q1, e1⟩ := comp_bag (Z := Z) (φ0 := (wipeF φ own).map roS) (f := turnD c glob t cnd e) xs b [] ob cb h
  refine ⟨b', ys, o1, c1, l1, q1, ?_⟩
  rw [evE, hI, Gx.R.bind_ok, if_neg (by simp only [hp, Bool.not_true]; exact Bool.false_ne_true), if_neg (by simp only [ht, Bool.not_true]; exact Bool.false_ne_true)]
  have e1 : comp ((wipeF φ own).map roS) (turnD c glob t cnd e) (xs.map enc) (bagD b :: Z) [] = .ok (ys.map enc2) ((wipeF φ own).map roS) (bagD b' :: Z) := e1
  rw [e1, nox_ok, Gx.R.bind_ok]
  rw [if_pos (by rw [sizeLine_eq, List.length_map, l1]; exact hz)]
end
theorem zip_mem_right {α β : Type} {xs : List α} {ys : List β} {Q : β → Prop} (hl : ys.length = xs.length) (h : ∀ p ∈ xs.zip ys, Q p.2) : ∀ y ∈ ys, Q y := fun y hy => by
  obtain ⟨i, hi, rfl⟩ := List.getElem_of_mem hy
  have hi2 : i < xs.length := by omega
  exact h (xs[i], ys[i]) (by rw [List.mem_iff_getElem]; exact ⟨i, by rw [List.length_zip]; exact Nat.lt_min.mpr ⟨hi2, hi⟩, by simp⟩)
/-! lists of ints -/
theorem cat_ints {a b : List Int} (h : a.length + b.length ≤ 16777216) : binD .add (.lst (a.map .int)) (.lst (b.map .int)) = some (.lst ((a ++ b).map .int)) := by
  show (if (a.map D.int).length + (b.map D.int).length ≤ sizeLine then some (D.lst (a.map D.int ++ b.map D.int)) else none) = _
  rw [List.length_map, List.length_map, if_pos (by rw [sizeLine_eq]; exact h), List.map_append]
theorem fine_ints {S : Sto} : ∀ l : List Int, FineL S (l.map .int) l.length
  | [] => .nil
  | i :: l => by
    have := FineL.cons (S := S) (.flat (d := .int i) rfl) (fine_ints l)
    rw [Nat.add_comm] at this
    exact this
theorem intsOf_map' : ∀ l : List Int, intsOf (l.map .int) = some l
  | [] => rfl
  | i :: l => by
    have := intsOf_map' l
    unfold intsOf at this ⊢
    rw [List.map_cons, List.mapM_cons, this]
    rfl
theorem maxI_le {b : Int} : ∀ (l : List Int) (x : Int), maxI x l ≤ b ↔ x ≤ b ∧ ∀ y ∈ l, y ≤ b
  | [], x => by simp [maxI]
  | y :: l, x => by
    have ih := maxI_le (b := b) l (if y > x then y else x)
    show maxI (if y > x then y else x) l ≤ b ↔ _
    rw [ih]
    constructor
    · rintro ⟨h1, h2⟩
      split at h1
      · exact ⟨by omega, fun z hz => (List.mem_cons.mp hz).elim (fun e => e ▸ h1) (h2 z)⟩
      · exact ⟨h1, fun z hz => (List.mem_cons.mp hz).elim (fun e => by subst e; omega) (h2 z)⟩
    · rintro ⟨h1, h2⟩
      have := h2 y List.mem_cons_self
      exact ⟨by split <;> omega, fun z hz => h2 z (List.mem_cons_of_mem _ hz)⟩
theorem toPys_int : ∀ l : List Int, toPys (l.map D.int) = some (l.map PyData.int)
  | [] => rfl
  | x :: l => by
    rw [List.map_cons, toPys, toPys_int l]
    rfl
theorem lay_int : ∀ l : List Int, PyData.canLayAll0 (l.map PyData.int) = true ∧ PyData.depthAll (l.map PyData.int) ≤ 1
  | [] => ⟨rfl, by decide⟩
  | x :: l => by
    obtain ⟨h1, h2⟩ := lay_int l
    rw [List.map_cons]
    refine ⟨?_, ?_⟩
    · rw [PyData.canLayAll0, h1]; rfl
    · rw [PyData.depthAll]
      have : PyData.depth (.int x) = 0 := rfl
      rw [this]
      omega
theorem eq_nilI (l : List Int) : eqD (.lst (l.map D.int)) (.lst []) = some l.isEmpty := by
  have e : eqD (.lst (l.map D.int)) (.lst []) = match toPy (.lst (l.map D.int)), toPy (.lst []) with
    | some x, some y => if SeqAt.shaped x = true ∧ SeqAt.shaped y = true then some (PyData.eqv x y) else none
    | _, _ => none := rfl
  have e1 : toPy (.lst (l.map D.int)) = some (.list (l.map PyData.int)) := by rw [toPy, toPys_int]; rfl
  rw [e, e1]
  have hs : SeqAt.shaped (.list (l.map PyData.int)) = true := by
    obtain ⟨h1, h2⟩ := lay_int l
    unfold SeqAt.shaped
    rw [PyData.canLay0, h1, PyData.depth]
    simp
    omega
  show (if SeqAt.shaped (.list (l.map PyData.int)) = true ∧ SeqAt.shaped (.list []) = true then some (PyData.eqv (.list (l.map PyData.int)) (.list [])) else none) = _
  rw [if_pos ⟨hs, by rfl⟩]
  cases l <;> rfl
/-! statements in frames without objects of their own -/
section
variable {c : Call} {gl : Str → Option D} {w m : Nat} {φ : Fr} {S S' : Sto}
theorem Fp.put {i : Nat} {d : D} (h : Fp φ m) (hi : i < m) : Fp (φ.set i (.v d)) m ∧ Fr.get (φ.set i (.v d)) i = some d ∧ ∀ j, j ≠ i → Fr.get (φ.set i (.v d)) j = Fr.get φ j :=
  ⟨h.set, by rw [get_set (by rw [h.len]; exact hi), if_pos rfl], fun j hj => by rw [get_set (by rw [h.len]; exact hi), if_neg (fun e => hj e.symm)]⟩
theorem asgF {i : Nat} {e : E} {d : D} (h : Fp φ m) (hi : i < m) (he : evE c gl e φ S = .ok d φ S') (hk : keepD d = true) : ∃ ψ, Fp ψ m ∧ ψ.get i = some d ∧ (∀ j, j ≠ i → ψ.get j = φ.get j) ∧ evS c gl w (.asg i e) φ S = .ok .nx ψ S' := by
  obtain ⟨h1, h2, h3⟩ := h.put (d := d) hi
  refine ⟨_, h1, h2, h3, ?_⟩
  rw [evS, he, Gx.R.bind_ok, if_pos]
  rw [hk, h.len, decide_eq_true hi]
  rfl
theorem forT {i : Nat} {d : D} (h : Fp φ m) (hi : i < m) (hk : keepD d = true) : ∃ ψ, Fp ψ m ∧ ψ.get i = some d ∧ (∀ j, j ≠ i → ψ.get j = φ.get j) ∧ ofO (asgT (.nm i) d φ) φ S = .ok ψ φ S := by
  obtain ⟨h1, h2, h3⟩ := h.put (d := d) hi
  refine ⟨_, h1, h2, h3, ?_⟩
  rw [asg_nm, if_pos]
  · rfl
  · rw [hk, h.len, decide_eq_true hi]
    rfl
theorem ifsF {t : E} {a b : List Gx.S} (he : evE c gl t φ S = .ok (.bl false) φ S') : evS c gl w (.ifs t a b) φ S = evSs c gl w b φ S' := by
  rw [evS, he]; rfl
theorem ifsT {t : E} {a b : List Gx.S} (he : evE c gl t φ S = .ok (.bl true) φ S') : evS c gl w (.ifs t a b) φ S = evSs c gl w a φ S' := by
  rw [evS, he]; rfl
theorem notA {e1 e2 : E} {x : D} (h1 : evE c gl e1 φ S = .ok x φ S) (h2 : evE c gl e2 φ S = .ok x φ S) (hk : keepD x = true) (ha : c "_law_alike" [x, x] S = .ok (.bl true) S) : evE c gl (.not_ (.app "_law_alike" (.cons e1 (.cons e2 .nil)))) φ S = .ok (.bl false) φ S := by
  simp [evE, evEs, h1, h2, hk, ha]
theorem andF {e1 e2 : E} (h1 : evE c gl e1 φ S = .ok (.bl false) φ S') : evE c gl (.and_ e1 e2) φ S = .ok (.bl false) φ S' := by
  simp [evE, h1]
theorem andT {e1 e2 : E} (h1 : evE c gl e1 φ S = .ok (.bl true) φ S') : evE c gl (.and_ e1 e2) φ S = evE c gl e2 φ S' := by
  simp [evE, h1]
theorem orF {e1 e2 : E} (h1 : evE c gl e1 φ S = .ok (.bl false) φ S') : evE c gl (.or_ e1 e2) φ S = evE c gl e2 φ S' := by
  simp [evE, h1]
end
end Ev
set_option Elab.async false
set_option linter.all false
set_option maxRecDepth 100000
/-! Ev7: frames of which some slots may own a list; comprehensions with one and two names. -/
namespace Ev
open PySem L2 Gx
/-- a frame: its length, the slots that may own -/
structure Fo (φ : Fr) (m : Nat) (os : List Nat) : Prop where
  len : φ.length = m
  all : ∀ i, i ∉ os → plainS φ i = true
theorem Fo.set {φ : Fr} {m i : Nat} {os : List Nat} {d : D} (h : Fo φ m os) : Fo (φ.set i (.v d)) m os := by
  refine ⟨by rw [List.length_set]; exact h.len, fun j hj => ?_⟩
  unfold plainS
  by_cases e : i = j
  · subst e
    by_cases hl : i < φ.length
    · rw [List.getElem?_set_self hl]
    · rw [List.getElem?_eq_none (by rw [List.length_set]; omega)]
  · rw [List.getElem?_set_ne e]
    exact h.all j hj
theorem Fo.setO {φ : Fr} {m i : Nat} {os : List Nat} {d : D} {b : Bool} (h : Fo φ m os) (hi : i ∈ os) : Fo (φ.set i (.own b d)) m os := by
  refine ⟨by rw [List.length_set]; exact h.len, fun j hj => ?_⟩
  unfold plainS
  rw [List.getElem?_set_ne (fun e : i = j => hj (by rw [← e]; exact hi))]
  exact h.all j hj
section
variable {c : Call} {gl : Str → Option D} {w m : Nat} {os : List Nat} {φ : Fr} {S S' : Sto}
theorem Fo.put {i : Nat} {d : D} (h : Fo φ m os) (hi : i < m) : Fo (φ.set i (.v d)) m os ∧ Fr.get (φ.set i (.v d)) i = some d ∧ ∀ j, j ≠ i → (φ.set i (.v d))[j]? = φ[j]? :=
  ⟨h.set, by rw [get_set (by rw [h.len]; exact hi), if_pos rfl], fun j hj => List.getElem?_set_ne (fun e => hj e.symm)⟩
theorem get_same {ψ : Fr} {j : Nat} (h : ψ[j]? = φ[j]?) : ψ.get j = φ.get j := by
  unfold Fr.get
  rw [h]
theorem asgO {i : Nat} {e : E} {d : D} (h : Fo φ m os) (hi : i < m) (he : evE c gl e φ S = .ok d φ S') (hk : keepD d = true) : ∃ ψ, Fo ψ m os ∧ ψ.get i = some d ∧ (∀ j, j ≠ i → ψ[j]? = φ[j]?) ∧ evS c gl w (.asg i e) φ S = .ok .nx ψ S' := by
  obtain ⟨h1, h2, h3⟩ := h.put (d := d) hi
  refine ⟨_, h1, h2, h3, ?_⟩
  rw [evS, he, Gx.R.bind_ok, if_pos]
  rw [hk, h.len, decide_eq_true hi]
  rfl
theorem forO {i : Nat} {d : D} (h : Fo φ m os) (hi : i < m) (hk : keepD d = true) : ∃ ψ, Fo ψ m os ∧ ψ.get i = some d ∧ (∀ j, j ≠ i → ψ[j]? = φ[j]?) ∧ ofO (asgT (.nm i) d φ) φ S = .ok ψ φ S := by
  obtain ⟨h1, h2, h3⟩ := h.put (d := d) hi
  refine ⟨_, h1, h2, h3, ?_⟩
  rw [asg_nm, if_pos]
  · rfl
  · rw [hk, h.len, decide_eq_true hi]
    rfl
/-- slot i owns a new list -/
theorem ownO {i : Nat} {e : E} {l : List D} (h : Fo φ m os) (hi : i < m) (hio : i ∈ os) (he : evF c gl e φ S = .ok (.lst l) φ S') : ∃ ψ, Fo ψ m os ∧ ψ[i]? = some (.own true (.lst l)) ∧ (∀ j, j ≠ i → ψ[j]? = φ[j]?) ∧ evS c gl w (.own i e) φ S = .ok .nx ψ S' := by
  refine ⟨φ.set i (.own true (.lst l)), h.setO hio, by rw [List.getElem?_set_self (by rw [h.len]; exact hi)], fun j hj => List.getElem?_set_ne (fun e => hj e.symm), ?_⟩
  rw [evS, he, Gx.R.bind_ok, if_pos]
  rw [h.len, decide_eq_true hi]
  rfl
/-- appended to what slot i owns -/
theorem appO {i : Nat} {e : E} {l : List D} {d : D} (h : Fo φ m os) (hi : i < m) (hio : i ∈ os) (hg : φ[i]? = some (.own true (.lst l))) (he : evE c gl e φ S = .ok d φ S') (hk : keepD d = true) (hz : l.length < 16777216) : ∃ ψ, Fo ψ m os ∧ ψ[i]? = some (.own true (.lst (l ++ [d]))) ∧ (∀ j, j ≠ i → ψ[j]? = φ[j]?) ∧ evS c gl w (.ex (.mu .append (.var i) (.cons e .nil))) φ S = .ok .nx ψ S' := by
  refine ⟨φ.set i (.own true (.lst (l ++ [d]))), h.setO hio, by rw [List.getElem?_set_self (by rw [h.len]; exact hi)], fun j hj => List.getElem?_set_ne (fun e => hj e.symm), ?_⟩
  have hgt : φ.get i = some (.oref i) := by
    unfold Fr.get
    rw [hg]
  simp [evS, evE, evEs, hgt, hg, he, hk, hz]
end
section
variable {c : Call} {glob : Str → Option D} {φ : Fr} {S : Sto} {it : Gx.It} {cnd e : E} {k k2 : Nat} {α : Type} {enc : α → D} {l : List α}
theorem lay_len {own : List Nat} : ((wipeF φ own).map roS).length = φ.length := by rw [List.length_map, wipe_len]
/-- a comprehension with one name -/
theorem lcn (hk : k < φ.length) (hp : plainS φ k = true) (hI : evI c glob it φ S = .ok (l.map enc) φ S) (p : α → Bool) (gv : α → D) (hq : ∀ a ∈ l, keepD (enc a) = true ∧ keepD (gv a) = true)
    (h : ∀ a ∈ l, ∀ ψ : Fr, ψ.get k = some (enc a) → (∀ j, j ≠ k → ψ.get j = φ.get j) → evE c glob cnd ψ S = .ok (.bl (p a)) ψ S ∧ (p a = true → evE c glob e ψ S = .ok (gv a) ψ S)) (hz : l.length ≤ 16777216) :
    evE c glob (.lc (.nm k) it cnd e [k]) φ S = .ok (.lst ((l.filter p).map gv)) φ S := by
  have e0 : (l.filter p).map gv = l.filterMap fun a => if p a then some (gv a) else none := by
    rw [← List.filterMap_eq_map, List.filterMap_filter]
    rfl
  rw [e0]
  refine lc_ok (enc := enc) hI (by simp [hp]) (by simp [tgS]) ?_ hz
  intro a ha
  have hkl : k < ((wipeF φ [k]).map roS).length := by rw [lay_len]; exact hk
  obtain ⟨h1, h2⟩ := h a ha (((wipeF φ [k]).map roS).set k (.v (enc a))) (by rw [get_set hkl, if_pos rfl]) (fun j hj => by
    rw [get_set hkl, if_neg (fun e => hj e.symm), lay_get (by simpa using hj)])
  obtain ⟨k1, k2⟩ := hq a ha
  refine ⟨((wipeF φ [k]).map roS).set k (.v (enc a)), ?_⟩
  generalize (wipeF φ [k]).map roS = φ0 at h1 h2 hkl ⊢
  cases hp : p a with
  | true =>
    rw [hp] at h1
    simp [turnD, k1, hkl, h1, h2 hp, k2]
  | false =>
    rw [hp] at h1
    simp [turnD, k1, hkl, h1]
theorem lcnm (hk : k < φ.length) (hp : plainS φ k = true) (hI : evI c glob it φ S = .ok (l.map enc) φ S) (gv : α → D) (hq : ∀ a ∈ l, keepD (enc a) = true ∧ keepD (gv a) = true)
    (h : ∀ a ∈ l, ∀ ψ : Fr, ψ.get k = some (enc a) → (∀ j, j ≠ k → ψ.get j = φ.get j) → evE c glob e ψ S = .ok (gv a) ψ S) (hz : l.length ≤ 16777216) :
    evE c glob (.lc (.nm k) it (.con (.bl true)) e [k]) φ S = .ok (.lst (l.map gv)) φ S := by
  have := lcn (cnd := .con (.bl true)) hk hp hI (fun _ => true) gv hq (fun a ha ψ h2 h3 => ⟨rfl, fun _ => h a ha ψ h2 h3⟩) hz
  rw [this, List.filter_eq_self.mpr (fun _ _ => rfl)]
/-- a comprehension with two names, over pairs -/
theorem lcp {f g : α → D} (hk : k < φ.length) (hk2 : k2 < φ.length) (hn : k ≠ k2) (hp : plainS φ k = true) (hp2 : plainS φ k2 = true) (hI : evI c glob it φ S = .ok (l.map fun a => D.tup [f a, g a]) φ S) (p : α → Bool) (gv : α → D) (hq : ∀ a ∈ l, keepD (f a) = true ∧ keepD (g a) = true ∧ keepD (gv a) = true)
    (h : ∀ a ∈ l, ∀ ψ : Fr, ψ.get k = some (f a) → ψ.get k2 = some (g a) → (∀ j, j ≠ k → j ≠ k2 → ψ.get j = φ.get j) → evE c glob cnd ψ S = .ok (.bl (p a)) ψ S ∧ (p a = true → evE c glob e ψ S = .ok (gv a) ψ S)) (hz : l.length ≤ 16777216) :
    evE c glob (.lc (.tp [.nm k, .nm k2]) it cnd e [k, k2]) φ S = .ok (.lst ((l.filter p).map gv)) φ S := by
  have e0 : (l.filter p).map gv = l.filterMap fun a => if p a then some (gv a) else none := by
    rw [← List.filterMap_eq_map, List.filterMap_filter]
    rfl
  rw [e0]
  refine lc_ok (enc := fun a => D.tup [f a, g a]) hI (by simp [hp, hp2]) (by simp [tgS, tgsS]) ?_ hz
  intro a ha
  have hkl : k < ((wipeF φ [k, k2]).map roS).length := by rw [lay_len]; exact hk
  have hkl2 : k2 < ((wipeF φ [k, k2]).map roS).length := by rw [lay_len]; exact hk2
  have hkl3 : k2 < (((wipeF φ [k, k2]).map roS).set k (.v (f a))).length := by rw [List.length_set]; exact hkl2
  obtain ⟨h1, h2⟩ := h a ha ((((wipeF φ [k, k2]).map roS).set k (.v (f a))).set k2 (.v (g a))) (by rw [get_set hkl3, if_neg (fun e => hn e.symm), get_set hkl, if_pos rfl]) (by rw [get_set hkl3, if_pos rfl]) (fun j hj hj2 => by
    rw [get_set hkl3, if_neg (fun e => hj2 e.symm), get_set hkl, if_neg (fun e => hj e.symm), lay_get (by simp [hj, hj2])])
  obtain ⟨k1, k3, k4⟩ := hq a ha
  refine ⟨(((wipeF φ [k, k2]).map roS).set k (.v (f a))).set k2 (.v (g a)), ?_⟩
  generalize (wipeF φ [k, k2]).map roS = φ0 at h1 h2 hkl hkl2 ⊢
  cases hp : p a with
  | true =>
    rw [hp] at h1
    simp [turnD, k1, k3, hkl, hkl2, h1, h2 hp, k4]
  | false =>
    rw [hp] at h1
    simp [turnD, k1, k3, hkl, hkl2, h1]
end
/-! built-in functions of one argument; a value given back -/
section
variable {c : Call} {gl : Str → Option D} {w : Nat} {φ : Fr} {S S' : Sto}
theorem biE {e : E} {d r : D} {p : Bi} (he : evE c gl e φ S = .ok d φ S') (hb : biD p [look φ S' d] = some r) : evE c gl (.bi p (.cons e .nil)) φ S = .ok r φ S' := by
  simp [evE, evEs, he, hb]
theorem retE {e : E} {d : D} (he : evE c gl e φ S = .ok d φ S') (hk : keepD d = true) : endR (evSs c gl w [.ret e] φ S) = .ok d S' := by
  simp [evSs, evS, he, hk, endR]
theorem exE {e : E} {d : D} (he : evE c gl e φ S = .ok d φ S') : evS c gl w (.ex e) φ S = .ok .nx φ S' := by
  simp [evS, he]
end
/-! more lists of ints -/
theorem rng3 {i j k : Int} (hi : -(2 ^ 62) ≤ i ∧ i < 2 ^ 62) (hj : -(2 ^ 62) ≤ j ∧ j < 2 ^ 62) (hk : 0 < k ∧ k < 1073741824) : rngOf [.int i, .int j, .int k] = some ((List.range ((j - i + k - 1) / k).toNat).map fun (t : Nat) => D.int (i + t * k)) := by
  show (if (rngOk i && rngOk j && decide (k = -1 ∨ (0 < k ∧ k < 1073741824))) = true then some (rngD i (rngN i j k) k) else none) = _
  rw [if_pos (by unfold rngOk; rw [decide_eq_true hi, decide_eq_true hj, decide_eq_true (.inr hk)]; rfl)]
  unfold rngD rngN
  rw [if_pos hk.1]
theorem sum_ints (l : List Int) : biD .sum [.lst (l.map .int)] = some (.int l.sum) := by
  show (intsOf (l.map .int)).map _ = _
  rw [intsOf_map']; rfl
theorem len_ints {l : List Int} : biD .len [.lst (l.map .int)] = some (.int l.length) := by
  show some (D.int ((l.map D.int).length : Nat)) = _
  rw [List.length_map]
def maxL : List Int → Int
  | [] => 0
  | x :: l => maxI x l
theorem bi_max {l : List Int} (h : l ≠ []) : biD .max [.lst (l.map .int)] = some (.int (maxL l)) := by
  cases l with
  | nil => exact absurd rfl h
  | cons x l =>
    show (intsOf (l.map .int)).map _ = _
    rw [intsOf_map']; rfl
theorem maxL_le {b : Int} {l : List Int} (h : l ≠ []) : maxL l ≤ b ↔ ∀ y ∈ l, y ≤ b := by
  cases l with
  | nil => exact absurd rfl h
  | cons x l =>
    show maxI x l ≤ b ↔ _
    rw [maxI_le]
    exact (List.forall_mem_cons (p := fun y => y ≤ b)).symm
theorem in_ints {l : List Int} {x : Int} : inD (.int x) (.lst (l.map .int)) = some (decide (x ∈ l)) := by
  have hf : (l.map D.int).all flatD = true := by
    rw [List.all_eq_true]
    intro y hy
    obtain ⟨i, _, rfl⟩ := List.mem_map.mp hy
    rfl
  show (if (flatD (.int x) && (l.map D.int).all flatD) = true then some ((l.map D.int).any fun y => eqF y (.int x)) else none) = _
  rw [hf]
  show some _ = _
  congr 1
  rw [List.any_map]
  induction l with
  | nil => rfl
  | cons y l ih =>
    rw [List.any_cons, ih (by
      rw [List.map_cons, List.all_cons] at hf
      exact (Bool.and_eq_true_iff.mp hf).2)]
    have e : (((fun z => eqF z (.int x)) ∘ D.int) y) = decide (x = y) := by
      show (y == x) = _
      by_cases e : x = y
      · subst e
        simp
      · rw [decide_eq_false e]
        simp
        exact fun h => e h.symm
    rw [e]
    by_cases h1 : x = y
    · simp [h1]
    · simp [h1]
end Ev
set_option Elab.async false
set_option linter.all false
set_option maxRecDepth 100000
/-! Ma10: waits. -/
namespace GxLaw
open PySem L2 Gx Ev
abbrev gl0 : Str → Option D := fun _ => none
variable {w n : Nat} {S : Sto} {c : Call}
def wsD (ws : List (Int × Int)) : D := .tup (ws.map prDD)
def pgD (C : Int) (ws : List (Int × Int)) : D := .tup [.int C, wsD ws]
def wkD (x u m : Int) : D := .tup [.int x, .int u, .int m]
@[simp] theorem keep_ws (ws : List (Int × Int)) : keepD (wsD ws) = true := rfl
@[simp] theorem look_ws {φ : Fr} (ws : List (Int × Int)) : look φ S (wsD ws) = wsD ws := rfl
@[simp] theorem keep_pg (C : Int) (ws : List (Int × Int)) : keepD (pgD C ws) = true := rfl
@[simp] theorem look_pg {φ : Fr} (C : Int) (ws : List (Int × Int)) : look φ S (pgD C ws) = pgD C ws := rfl
@[simp] theorem keep_pp (p : Int × Int) : keepD (prDD p) = true := rfl
@[simp] theorem look_pp {φ : Fr} (p : Int × Int) : look φ S (prDD p) = prDD p := rfl
@[simp] theorem keep_wk (x u m : Int) : keepD (wkD x u m) = true := rfl
@[simp] theorem look_wk {φ : Fr} (x u m : Int) : look φ S (wkD x u m) = wkD x u m := rfl
theorem ix_pg {C : Int} {ws : List (Int × Int)} : ixD (pgD C ws) (.int 0) = some (.int C) ∧ ixD (pgD C ws) (.int 1) = some (wsD ws) := by
  unfold pgD
  simp
theorem ix_pp {p : Int × Int} : ixD (prDD p) (.int 0) = some (.int p.1) ∧ ixD (prDD p) (.int 1) = some (.int p.2) := by
  unfold prDD
  simp
theorem ix_wk {x u m : Int} : ixD (wkD x u m) (.int 0) = some (.int x) ∧ ixD (wkD x u m) (.int 1) = some (.int u) ∧ ixD (wkD x u m) (.int 2) = some (.int m) := by
  unfold wkD
  simp
/-- the wait of one who comes in t -/
def wtI (C b k t : Int) : Int := if (t - b) % C < k then 0 else C - (t - b) % C
theorem wtI_pos {C b k t : Int} (hC : 0 < C) : 0 ≤ wtI C b k t ∧ wtI C b k t ≤ C := by
  have h1 := Int.emod_nonneg (t - b) (show C ≠ 0 by omega)
  have h2 := Int.emod_lt_of_pos (t - b) hC
  unfold wtI
  split <;> omega
theorem wtI_next {C b k t : Int} (hC : 0 < C) (hk : 1 ≤ k) (h : ¬ (t - b) % C < k) : wtI C b k t = wtI C b k (t + 1) + 1 := by
  have h1 := Int.emod_nonneg (t - b) (show C ≠ 0 by omega)
  have h2 := Int.emod_lt_of_pos (t - b) hC
  have e : (t + 1 - b) % C = if (t - b) % C + 1 < C then (t - b) % C + 1 else 0 := by
    have e0 : (t + 1 - b) % C = ((t - b) % C + 1) % C := by
      rw [show t + 1 - b = (t - b) + 1 by omega, Int.add_emod, Int.add_emod ((t - b) % C) 1, Int.emod_emod]
    rw [e0]
    split
    · exact Int.emod_eq_of_lt (by omega) (by assumption)
    · rw [show (t - b) % C + 1 = C by omega, Int.emod_self]
  unfold wtI
  rw [if_neg h, e]
  split
  · rw [if_neg (by omega)]
    omega
  · rw [if_pos (by omega)]
    omega
theorem wtI_zero {C b k t : Int} (hC : 0 < C) : wtI C b k t = 0 ↔ (t - b) % C < k := by
  have h2 := Int.emod_lt_of_pos (t - b) hC
  unfold wtI
  split <;> omega
structure Wk (C : Int) (ws : List (Int × Int)) (x u m : Int) (p : Int × Int) : Prop where
  at_ : ixD (wsD ws) (.int x) = some (prDD p)
  u1 : 1 ≤ u
  m1 : 1 ≤ m
  um : u + m ≤ p.2
  pC : p.2 ≤ C
variable {C x u m t : Int} {ws : List (Int × Int)} {p : Int × Int}
theorem age_body (hC : 0 < C) (h : ixD (wsD ws) (.int x) = some (prDD p)) : endR (evSs c gl0 w b_age [.v (pgD C ws), .v (.int x), .v (.int t)] S) = .ok (.int ((t - p.1) % C)) S := by
  have a := ix_pg (C := C) (ws := ws)
  have b := ix_pp (p := p)
  simp [b_age, evSs, evS, evE, evEs, Fr.get, a, b, h, hC, endR]
theorem age_ok (hC : 0 < C) (h : ixD (wsD ws) (.int x) = some (prDD p)) : run tab gl0 w (n + 1) "age" [pgD C ws, .int x, .int t] S = .ok (.int ((t - p.1) % C)) S := by
  rw [run_at t_age rfl]
  exact age_body hC h
theorem bs_body (h : ixD (wsD ws) (.int x) = some (prDD p)) : endR (evSs c gl0 w b_begin_seconds [.v (pgD C ws), .v (wkD x u m)] S) = .ok (.int (p.2 - m)) S := by
  have a := ix_pg (C := C) (ws := ws)
  have b := ix_pp (p := p)
  have d := ix_wk (x := x) (u := u) (m := m)
  simp [b_begin_seconds, evSs, evS, evE, evEs, Fr.get, a, b, d, h, endR]
theorem bs_ok (h : ixD (wsD ws) (.int x) = some (prDD p)) : run tab gl0 w (n + 1) "begin_seconds" [pgD C ws, wkD x u m] S = .ok (.int (p.2 - m)) S := by
  rw [run_at t_begin_seconds rfl]
  exact bs_body h
theorem mb_body {a k : Int} (o1 : c "age" [pgD C ws, .int x, .int t] S = .ok (.int a) S) (o2 : c "begin_seconds" [pgD C ws, wkD x u m] S = .ok (.int k) S) : endR (evSs c gl0 w b_may_begin [.v (pgD C ws), .v (wkD x u m), .v (.int t)] S) = .ok (.bl (decide (a < k))) S := by
  have d := ix_wk (x := x) (u := u) (m := m)
  simp [b_may_begin, evSs, evS, evE, evEs, Fr.get, d, o1, o2, endR]
theorem mb_ok (hC : 0 < C) (h : ixD (wsD ws) (.int x) = some (prDD p)) : run tab gl0 w (n + 2) "may_begin" [pgD C ws, wkD x u m, .int t] S = .ok (.bl (decide ((t - p.1) % C < p.2 - m))) S := by
  rw [run_at t_may_begin rfl]
  exact mb_body (age_ok hC h) (bs_ok h)
theorem wt_body {a k : Int} (o1 : c "age" [pgD C ws, .int x, .int t] S = .ok (.int a) S) (o2 : c "may_begin" [pgD C ws, wkD x u m, .int t] S = .ok (.bl (decide (a < k))) S) : endR (evSs c gl0 w b_wait [.v (pgD C ws), .v (wkD x u m), .v (.int t)] S) = .ok (.int (if a < k then 0 else C - a)) S := by
  have a' := ix_pg (C := C) (ws := ws)
  have d := ix_wk (x := x) (u := u) (m := m)
  by_cases q : a < k
  · rw [decide_eq_true q] at o2
    simp [b_wait, evSs, evS, evE, evEs, Fr.get, d, o2, endR, q]
  · rw [decide_eq_false q] at o2
    simp [b_wait, evSs, evS, evE, evEs, Fr.get, d, a', o1, o2, endR, q]
theorem wt_ok (hC : 0 < C) (h : ixD (wsD ws) (.int x) = some (prDD p)) : run tab gl0 w (n + 3) "wait" [pgD C ws, wkD x u m, .int t] S = .ok (.int (wtI C p.1 (p.2 - m) t)) S := by
  rw [run_at t_wait rfl]
  exact wt_body (age_ok hC h) (mb_ok hC h)
/-! the law's -/
theorem lm_body (hC : 0 < C) (h : ixD (wsD ws) (.int x) = some (prDD p)) : endR (evSs c gl0 w b__law_may [.v (pgD C ws), .v (wkD x u m), .v (.int t), .em, .em] S) = .ok (.bl (decide ((t - p.1) % C < p.2 - m))) S := by
  have a := ix_pg (C := C) (ws := ws)
  have d := ix_wk (x := x) (u := u) (m := m)
  simp [b__law_may, evSs, evS, evE, evEs, Fr.get, a, d, h, hC, endR, prDD]
theorem lm_ok (hC : 0 < C) (h : ixD (wsD ws) (.int x) = some (prDD p)) : run tab gl0 w (n + 1) "_law_may" [pgD C ws, wkD x u m, .int t] S = .ok (.bl (decide ((t - p.1) % C < p.2 - m))) S := by
  rw [run_at t__law_may rfl]
  exact lm_body hC h
def wtT : E := .not_ (.app "_law_may" (.cons (.var 0) (.cons (.var 1) (.cons (.bin .add (.var 2) (.var 3)) .nil))))
theorem lw_loop (hC : 0 < C) (hk : 1 ≤ p.2 - m) (o : ∀ t, c "_law_may" [pgD C ws, wkD x u m, .int t] S = .ok (.bl (decide ((t - p.1) % C < p.2 - m))) S) : ∀ (r N : Nat) (k : Int), wtI C p.1 (p.2 - m) (t + k) = r → r < N →
    loop (fun φ S => (evE c gl0 wtT φ S).bind fun x φ S => ofO (truD (look φ S x)) φ S) (fun φ S => evSs c gl0 w [.aug 3 .add (.con (.int 1))] φ S) N [.v (pgD C ws), .v (wkD x u m), .v (.int t), .v (.int k)] S = .ok .nx [.v (pgD C ws), .v (wkD x u m), .v (.int t), .v (.int (k + r))] S
  | r, 0, _, _, h => absurd h (by omega)
  | 0, N + 1, k, hr, _ => by
    have h0 := (wtI_zero hC).mp hr
    have o1 := o (t + k)
    rw [decide_eq_true h0] at o1
    rw [loop]
    simp [wtT, evE, evEs, Fr.get, o1]
  | r + 1, N + 1, k, hr, hN => by
    have h0 : ¬ (t + k - p.1) % C < p.2 - m := fun z => by
      have := (wtI_zero hC).mpr z
      omega
    have o1 := o (t + k)
    rw [decide_eq_false h0] at o1
    have hn := wtI_next hC hk h0
    have hrec := lw_loop hC hk o r N (k + 1) (by rw [show t + (k + 1) = t + k + 1 by omega]; omega) (by omega)
    rw [loop]
    rw [show k + ((r + 1 : Nat) : Int) = k + 1 + (r : Int) by omega]
    rw [← hrec]
    simp [wtT, evE, evEs, evSs, evS, Fr.get, o1]
theorem lw_body (hC : 0 < C) (hw : C < w) (hk : 1 ≤ p.2 - m) (o : ∀ t, c "_law_may" [pgD C ws, wkD x u m, .int t] S = .ok (.bl (decide ((t - p.1) % C < p.2 - m))) S) : endR (evSs c gl0 w b__law_wait [.v (pgD C ws), .v (wkD x u m), .v (.int t), .em] S) = .ok (.int (wtI C p.1 (p.2 - m) t)) S := by
  have hb : b__law_wait = [.asg 3 (.con (.int 0)), .wh wtT [.aug 3 .add (.con (.int 1))], .ret (.var 3)] := rfl
  have hp := wtI_pos (b := p.1) (k := p.2 - m) (t := t) hC
  have hl := lw_loop (w := w) (t := t) hC hk o (wtI C p.1 (p.2 - m) t).toNat w 0 (by rw [Int.add_zero]; omega) (by omega)
  rw [show (0 : Int) + ((wtI C p.1 (p.2 - m) t).toNat : Int) = wtI C p.1 (p.2 - m) t by omega] at hl
  generalize wtI C p.1 (p.2 - m) t = z at hl ⊢
  rw [hb, evSs, evS, show evE c gl0 (.con (.int 0)) [.v (pgD C ws), .v (wkD x u m), .v (.int t), .em] S = .ok (.int 0) [.v (pgD C ws), .v (wkD x u m), .v (.int t), .em] S from rfl, Gx.R.bind_ok]
  show endR (evSs c gl0 w [.wh wtT [.aug 3 .add (.con (.int 1))], .ret (.var 3)] [.v (pgD C ws), .v (wkD x u m), .v (.int t), .v (.int 0)] S) = _
  rw [evSs, evS, hl]
  rfl
theorem lw_ok (hC : 0 < C) (hw : C < w) (h : Wk C ws x u m p) : run tab gl0 w (n + 2) "_law_wait" [pgD C ws, wkD x u m, .int t] S = .ok (.int (wtI C p.1 (p.2 - m) t)) S := by
  rw [run_at t__law_wait rfl]
  have := h.u1
  have := h.um
  exact lw_body hC hw (by omega) fun t => lm_ok hC h.at_
end GxLaw
set_option Elab.async false
set_option linter.all false
set_option maxRecDepth 100000
/-! Mb10: ways. -/
namespace GxLaw
open PySem L2 Gx Ev
variable {w n : Nat} {S : Sto} {c : Call} {C x u m t : Int} {ws : List (Int × Int)} {p q : Int × Int} {φ φ' : Fr}
/-- the seconds of a cycle -/
def secs (C : Int) : List Int := (List.range C.toNat).map fun k : Nat => (k : Int)
theorem secs_mem : t ∈ secs C ↔ 0 ≤ t ∧ t < C := by
  unfold secs
  rw [List.mem_map]
  constructor
  · rintro ⟨k, hk, rfl⟩
    have := List.mem_range.mp hk
    omega
  · intro h
    exact ⟨t.toNat, List.mem_range.mpr (by omega), by omega⟩
theorem secs_len : (secs C).length = C.toNat := by unfold secs; rw [List.length_map, List.length_range]
theorem evI_secs {as : Es} (hE : evEs c gl0 as φ S = .ok [.int C] φ S) (hl : as.len = 1) (h0 : 0 ≤ C) (h : C < 1000) : evI c gl0 (.rng as) φ S = .ok ((secs C).map D.int) φ S := by
  obtain ⟨N, rfl⟩ : ∃ N : Nat, C = (N : Int) := ⟨C.toNat, by omega⟩
  have := evI_r1 (n := N) hE hl (by omega)
  rw [this]
  unfold secs
  rw [List.map_map, Int.toNat_natCast]
  rfl
structure Is where
  x1 : Int
  u1 : Int
  m1 : Int
  x2 : Int
  u2 : Int
  m2 : Int
  ac : Int
def isD (i : Is) : D := .tup [wkD i.x1 i.u1 i.m1, wkD i.x2 i.u2 i.m2, .int i.ac]
@[simp] theorem keep_is (i : Is) : keepD (isD i) = true := rfl
@[simp] theorem look_is {φ : Fr} (i : Is) : look φ S (isD i) = isD i := rfl
theorem ix_is {i : Is} : ixD (isD i) (.int 0) = some (wkD i.x1 i.u1 i.m1) ∧ ixD (isD i) (.int 1) = some (wkD i.x2 i.u2 i.m2) ∧ ixD (isD i) (.int 2) = some (.int i.ac) := by
  unfold isD
  simp
structure Ik (C : Int) (ws : List (Int × Int)) (i : Is) (p q : Int × Int) : Prop where
  c0 : 0 < C
  c1 : C < 1000
  k1 : Wk C ws i.x1 i.u1 i.m1 p
  k2 : Wk C ws i.x2 i.u2 i.m2 q
variable {i : Is}
def thI (C : Int) (i : Is) (p : Int × Int) (t : Int) : Int := t + wtI C p.1 (p.2 - i.m1) t + i.m1 + i.ac
def ovI (C : Int) (i : Is) (p q : Int × Int) (t : Int) : Int := thI C i p t + wtI C q.1 (q.2 - i.m2) (thI C i p t) + i.m2
theorem th_body {v : Int} (o : c "wait" [pgD C ws, wkD i.x1 i.u1 i.m1, .int t] S = .ok (.int v) S) : endR (evSs c gl0 w b_there_at [.v (pgD C ws), .v (isD i), .v (.int t), .em, .em, .em] S) = .ok (.int (t + v + i.m1 + i.ac)) S := by
  have d := ix_wk (x := i.x1) (u := i.u1) (m := i.m1)
  simp [b_there_at, evSs, evS, evE, evEs, Fr.get, isD, d, o, endR]
theorem th_ok (h : Ik C ws i p q) : run tab gl0 w (n + 4) "there_at" [pgD C ws, isD i, .int t] S = .ok (.int (thI C i p t)) S := by
  rw [run_at t_there_at rfl]
  exact th_body (wt_ok h.c0 h.k1.at_)
theorem ov_body {h v : Int} (o1 : c "there_at" [pgD C ws, isD i, .int t] S = .ok (.int h) S) (o2 : c "wait" [pgD C ws, wkD i.x2 i.u2 i.m2, .int h] S = .ok (.int v) S) : endR (evSs c gl0 w b_over_at [.v (pgD C ws), .v (isD i), .v (.int t), .em] S) = .ok (.int (h + v + i.m2)) S := by
  have d := ix_wk (x := i.x2) (u := i.u2) (m := i.m2)
  have e := ix_is (i := i)
  simp [b_over_at, evSs, evS, evE, evEs, Fr.get, e, d, o1, o2, endR]
theorem ov_ok (h : Ik C ws i p q) : run tab gl0 w (n + 5) "over_at" [pgD C ws, isD i, .int t] S = .ok (.int (ovI C i p q t)) S := by
  rw [run_at t_over_at rfl]
  exact ov_body (th_ok h) (wt_ok h.c0 h.k2.at_)
theorem lo_body {v v2 : Int} (o1 : c "_law_wait" [pgD C ws, wkD i.x1 i.u1 i.m1, .int t] S = .ok (.int v) S) (o2 : c "_law_wait" [pgD C ws, wkD i.x2 i.u2 i.m2, .int (t + v + i.m1 + i.ac)] S = .ok (.int v2) S) : endR (evSs c gl0 w b__law_over [.v (pgD C ws), .v (isD i), .v (.int t), .em, .em, .em, .em] S) = .ok (.int (t + v + i.m1 + i.ac + v2 + i.m2)) S := by
  have d := ix_wk (x := i.x1) (u := i.u1) (m := i.m1)
  have e := ix_wk (x := i.x2) (u := i.u2) (m := i.m2)
  simp [b__law_over, evSs, evS, evE, evEs, Fr.get, isD, d, e, o1, o2, endR]
theorem lo_ok (h : Ik C ws i p q) (hw : 1000 < w) : run tab gl0 w (n + 3) "_law_over" [pgD C ws, isD i, .int t] S = .ok (.int (ovI C i p q t)) S := by
  have := h.c1
  rw [run_at t__law_over rfl]
  exact lo_body (lw_ok h.c0 (by omega) h.k1) (lw_ok h.c0 (by omega) h.k2)
/-! all seconds of a cycle -/
def waysL (C : Int) (i : Is) (p q : Int × Int) : List Int := (secs C).map fun t => ovI C i p q t - t
theorem ways_body (hC : 0 < C) (hC1 : C < 1000) (o : ∀ t, c "over_at" [pgD C ws, isD i, .int t] S = .ok (.int (ovI C i p q t)) S) : endR (evSs c gl0 w b_ways [.v (pgD C ws), .v (isD i), .em] S) = .ok (.lst ((waysL C i p q).map D.int)) S := by
  have a := ix_pg (C := C) (ws := ws)
  have hI : evI c gl0 (.rng (.cons (.ix (.var 0) (.con (.int 0))) .nil)) [.v (pgD C ws), .v (isD i), .em] S = .ok ((secs C).map D.int) [.v (pgD C ws), .v (isD i), .em] S :=
    evI_secs (by simp [evE, evEs, Fr.get, a]) rfl (by omega) hC1
  have := lcnm (c := c) (glob := gl0) (k := 2) (e := .bin .sub (.app "over_at" (.cons (.var 0) (.cons (.var 1) (.cons (.var 2) .nil)))) (.var 2)) (by simp) rfl hI (fun t => .int (ovI C i p q t - t)) (fun _ _ => ⟨rfl, rfl⟩) (fun t _ ψ h1 h2 => by
    have g0 : ψ.get 0 = some (pgD C ws) := h2 0 (by omega)
    have g1 : ψ.get 1 = some (isD i) := h2 1 (by omega)
    have := o t
    generalize ovI C i p q t = v at this ⊢
    simp [evE, evEs, g0, g1, h1, this]) (by rw [secs_len]; omega)
  unfold b_ways waysL
  rw [List.map_map]
  exact retE this rfl
theorem ways_ok (h : Ik C ws i p q) : run tab gl0 w (n + 6) "ways" [pgD C ws, isD i] S = .ok (.lst ((waysL C i p q).map D.int)) S := by
  rw [run_at t_ways rfl]
  exact ways_body h.c0 h.c1 fun t => ov_ok h
theorem ways_ne (hC : 0 < C) : waysL C i p q ≠ [] := fun z => by
  have := congrArg List.length z
  unfold waysL at this
  rw [List.length_map, secs_len] at this
  simp at this
  omega
theorem gw_ok (h : Ik C ws i p q) : run tab gl0 w (n + 7) "greatest_way" [pgD C ws, isD i] S = .ok (.int (maxL (waysL C i p q))) S := by
  rw [run_at t_greatest_way rfl]
  have o := ways_ok (w := w) (n := n) (S := S) h
  have hne := ways_ne (i := i) (p := p) (q := q) h.c0
  show endR (evSs (run tab gl0 w (n + 6)) gl0 w b_greatest_way [.v (pgD C ws), .v (isD i)] S) = _
  generalize run tab gl0 w (n + 6) = c at o ⊢
  unfold b_greatest_way
  exact retE (biE (d := .lst ((waysL C i p q).map D.int)) (by
    generalize (waysL C i p q).map D.int = L at o ⊢
    simp [evE, evEs, Fr.get, o]) (bi_max hne)) rfl
theorem sw_ok (h : Ik C ws i p q) : run tab gl0 w (n + 7) "sum_of_ways" [pgD C ws, isD i] S = .ok (.int (waysL C i p q).sum) S := by
  rw [run_at t_sum_of_ways rfl]
  have o := ways_ok (w := w) (n := n) (S := S) h
  show endR (evSs (run tab gl0 w (n + 6)) gl0 w b_sum_of_ways [.v (pgD C ws), .v (isD i)] S) = _
  generalize run tab gl0 w (n + 6) = c at o ⊢
  unfold b_sum_of_ways
  exact retE (biE (d := .lst ((waysL C i p q).map D.int)) (by
    generalize (waysL C i p q).map D.int = L at o ⊢
    simp [evE, evEs, Fr.get, o]) (sum_ints _)) rfl
end GxLaw
set_option Elab.async false
set_option linter.all false
set_option maxRecDepth 100000
/-! Mc10: ways through. -/
namespace GxLaw
open PySem L2 Gx Ev
variable {w n : Nat} {S : Sto} {c : Call} {C x u m t : Int} {ws : List (Int × Int)} {p q : Int × Int} {φ φ' : Fr} {i : Is}
theorem wtI_mod {b k s j : Int} (h : t = s + C * j) : wtI C b k t = wtI C b k s := by
  have e : (t - b) % C = (s - b) % C := by
    rw [h, show s + C * j - b = (s - b) + C * j by omega, Int.add_mul_emod_self_left]
  unfold wtI
  rw [e]
def wt0 (C : Int) (i : Is) (p q : Int × Int) (t : Int) : Bool := decide (wtI C q.1 (q.2 - i.m2) (thI C i p t) = 0)
theorem wt0_begin (hC : 0 < C) (hk : 1 ≤ p.2 - i.m1) (ht : t ∈ secs C) : ∃ s, s ∈ secs C ∧ (s - p.1) % C < p.2 - i.m1 ∧ wt0 C i p q t = wt0 C i p q s := by
  by_cases e : (t - p.1) % C < p.2 - i.m1
  · exact ⟨t, ht, e, rfl⟩
  · have h1 := Int.emod_nonneg (t - p.1) (show C ≠ 0 by omega)
    have h2 := Int.emod_lt_of_pos (t - p.1) hC
    have e1 : wtI C p.1 (p.2 - i.m1) t = C - (t - p.1) % C := by
      unfold wtI
      rw [if_neg e]
    have h3 := Int.emod_add_mul_ediv (t - p.1) C
    have h4 := Int.emod_add_mul_ediv p.1 C
    have h5 := Int.emod_nonneg p.1 (show C ≠ 0 by omega)
    have h6 := Int.emod_lt_of_pos p.1 hC
    have e2 : (p.1 % C - p.1) % C = 0 := by
      rw [show p.1 % C - p.1 = C * (-(p.1 / C)) by rw [Int.mul_neg]; omega, Int.mul_emod_right]
    refine ⟨p.1 % C, secs_mem.mpr ⟨h5, h6⟩, by rw [e2]; omega, ?_⟩
    have e3 : wtI C p.1 (p.2 - i.m1) (p.1 % C) = 0 := by
      unfold wtI
      rw [if_pos (by rw [e2]; omega)]
    unfold wt0
    have e4 : thI C i p t = thI C i p (p.1 % C) + C * (1 + (t - p.1) / C + p.1 / C) := by
      unfold thI
      rw [e1, e3, Int.mul_add, Int.mul_add, Int.mul_one]
      omega
    rw [wtI_mod e4]
def thruB (C : Int) (i : Is) (p q : Int × Int) : Bool := ((secs C).filter fun t => decide ((t - p.1) % C < p.2 - i.m1)).all (wt0 C i p q)
theorem thru_all (hC : 0 < C) (hk : 1 ≤ p.2 - i.m1) : thruB C i p q = (secs C).all (wt0 C i p q) := by
  unfold thruB
  rw [Bool.eq_iff_iff, List.all_eq_true, List.all_eq_true]
  constructor
  · intro h t ht
    obtain ⟨s, hs, hm, e⟩ := wt0_begin (q := q) hC hk ht
    rw [e]
    exact h s (List.mem_filter.mpr ⟨hs, decide_eq_true hm⟩)
  · intro h t ht
    exact h t (List.mem_filter.mp ht).1
theorem blsOf_map : ∀ l : List Bool, (l.map D.bl).mapM blOf = some l
  | [] => rfl
  | x :: r => by
    rw [List.map_cons, List.mapM_cons, blsOf_map r]
    rfl
theorem bi_all {l : List Bool} : biD .all [.lst (l.map .bl)] = some (.bl (l.all id)) := by
  show ((l.map D.bl).mapM blOf).map _ = _
  rw [blsOf_map]
  rfl
def thL2 : E := .lc (.nm 3) (.seq (.var 2)) (.con (.bl true)) (.cmp .eq (.app "wait" (.cons (.var 0) (.cons (.ix (.var 1) (.con (.int 1))) (.cons (.app "there_at" (.cons (.var 0) (.cons (.var 1) (.cons (.var 3) .nil)))) .nil)))) (.con (.int 0))) [3]
theorem thru_body (hC : 0 < C) (hC1 : C < 1000) (o1 : ∀ t, c "may_begin" [pgD C ws, wkD i.x1 i.u1 i.m1, .int t] S = .ok (.bl (decide ((t - p.1) % C < p.2 - i.m1))) S)
    (o2 : ∀ t, c "there_at" [pgD C ws, isD i, .int t] S = .ok (.int (thI C i p t)) S) (o3 : ∀ t, c "wait" [pgD C ws, wkD i.x2 i.u2 i.m2, .int t] S = .ok (.int (wtI C q.1 (q.2 - i.m2) t)) S) :
    endR (evSs c gl0 w b_is_through [.v (pgD C ws), .v (isD i), .em, .em] S) = .ok (.bl (thruB C i p q)) S := by
  have a := ix_pg (C := C) (ws := ws)
  have d := ix_is (i := i)
  have hI : evI c gl0 (.rng (.cons (.ix (.var 0) (.con (.int 0))) .nil)) [.v (pgD C ws), .v (isD i), .em, .em] S = .ok ((secs C).map D.int) [.v (pgD C ws), .v (isD i), .em, .em] S :=
    evI_secs (by simp [evE, evEs, Fr.get, a]) rfl (by omega) hC1
  have e1 := lcn (c := c) (glob := gl0) (k := 3) (cnd := .app "may_begin" (.cons (.var 0) (.cons (.ix (.var 1) (.con (.int 0))) (.cons (.var 3) .nil)))) (e := .var 3) (by simp) rfl hI (fun t => decide ((t - p.1) % C < p.2 - i.m1)) (fun t => .int t) (fun _ _ => ⟨rfl, rfl⟩) (fun t _ ψ h1 h2 => by
    have g0 : ψ.get 0 = some (pgD C ws) := h2 0 (by omega)
    have g1 : ψ.get 1 = some (isD i) := h2 1 (by omega)
    have := o1 t
    refine ⟨by simp [evE, evEs, g0, g1, h1, d, this], fun _ => by simp [evE, h1]⟩) (by rw [secs_len]; omega)
  unfold thruB
  have hl2 : ((secs C).filter fun t => decide ((t - p.1) % C < p.2 - i.m1)).length ≤ 16777216 := by
    have := List.length_filter_le (fun t => decide ((t - p.1) % C < p.2 - i.m1)) (secs C)
    rw [secs_len] at this
    omega
  generalize ((secs C).filter fun t => decide ((t - p.1) % C < p.2 - i.m1)) = L at e1 hl2 ⊢
  have hI2 : evI c gl0 (.seq (.var 2)) [.v (pgD C ws), .v (isD i), .v (.lst (L.map D.int)), .em] S = .ok (L.map D.int) [.v (pgD C ws), .v (isD i), .v (.lst (L.map D.int)), .em] S := by
    simp [evI, evE, Fr.get, itemsD]
  have e2 := lcnm (c := c) (glob := gl0) (k := 3) (e := .cmp .eq (.app "wait" (.cons (.var 0) (.cons (.ix (.var 1) (.con (.int 1))) (.cons (.app "there_at" (.cons (.var 0) (.cons (.var 1) (.cons (.var 3) .nil)))) .nil)))) (.con (.int 0))) (by simp) rfl hI2 (fun t => .bl (wt0 C i p q t)) (fun _ _ => ⟨rfl, rfl⟩) (fun t _ ψ h1 h2 => by
    have g0 : ψ.get 0 = some (pgD C ws) := h2 0 (by omega)
    have g1 : ψ.get 1 = some (isD i) := h2 1 (by omega)
    have w1 := o2 t
    have w2 := o3 (thI C i p t)
    unfold wt0
    generalize thI C i p t = y at w1 w2 ⊢
    generalize wtI C q.1 (q.2 - i.m2) y = z at w2 ⊢
    simp [evE, evEs, g0, g1, h1, d, w1, w2]) hl2
  have e2 : evE c gl0 thL2 _ S = _ := e2
  have em : (L.map fun t => D.bl (wt0 C i p q t)) = (L.map (wt0 C i p q)).map D.bl := by rw [List.map_map]; rfl
  rw [em] at e2
  have hb : b_is_through = [.asg 2 (.lc (.nm 3) (.rng (.cons (.ix (.var 0) (.con (.int 0))) .nil)) (.app "may_begin" (.cons (.var 0) (.cons (.ix (.var 1) (.con (.int 0))) (.cons (.var 3) .nil)))) (.var 3) [3]), .ret (.bi .all (.cons thL2 .nil))] := rfl
  rw [hb, evSs, evS, e1, Gx.R.bind_ok]
  show endR (evSs c gl0 w [.ret (.bi .all (.cons thL2 .nil))] [.v (pgD C ws), .v (isD i), .v (.lst (L.map D.int)), .em] S) = _
  refine retE (biE e2 ?_) rfl
  show biD .all [.lst _] = _
  rw [bi_all, List.all_map]
  rfl
theorem thru_ok (h : Ik C ws i p q) : run tab gl0 w (n + 5) "is_through" [pgD C ws, isD i] S = .ok (.bl ((secs C).all (wt0 C i p q))) S := by
  have := h.k1.u1
  have := h.k1.um
  rw [← thru_all h.c0 (by omega), run_at t_is_through rfl]
  exact thru_body h.c0 h.c1 (fun t => mb_ok h.c0 h.k1.at_) (fun t => th_ok h) (fun t => wt_ok h.c0 h.k2.at_)
end GxLaw
set_option Elab.async false
set_option linter.all false
set_option maxRecDepth 100000
/-! Md10: turns. -/
namespace GxLaw
open PySem L2 Gx Ev
variable {w n : Nat} {S : Sto} {c : Call} {C x u m t k : Int} {ws : List (Int × Int)} {p q : Int × Int} {φ φ' : Fr} {i : Is}
def Atw (ws : List (Int × Int)) (x : Int) (p : Int × Int) : Prop := ∃ s : Nat, x = (s : Int) ∧ ws[s]? = some p
theorem Atw.ix (h : Atw ws x p) : ixD (wsD ws) (.int x) = some (prDD p) := by
  obtain ⟨s, rfl, hs⟩ := h
  obtain ⟨hl, he⟩ := List.getElem?_eq_some_iff.mp hs
  unfold wsD
  rw [ix_ti, Gx.atI_nat (by rw [List.length_map]; exact hl), List.getElem_map, he]
/-- the windows with one of them later -/
def tw (ws : List (Int × Int)) (x C k : Int) : List (Int × Int) := match ws[x.toNat]? with
  | some p => ws.set x.toNat ((p.1 + k) % C, p.2)
  | none => ws
theorem tw_at (h : Atw ws x q) : tw ws x C k = ws.set x.toNat ((q.1 + k) % C, q.2) := by
  obtain ⟨s, rfl, hs⟩ := h
  unfold tw
  rw [Int.toNat_natCast, hs]
theorem Atw.set {y : Int} (hx : Atw ws x q) (hy : Atw ws y p) : Atw (tw ws x C k) y (if y = x then ((q.1 + k) % C, q.2) else p) := by
  rw [tw_at hx]
  obtain ⟨s, rfl, hs⟩ := hx
  obtain ⟨r, rfl, hr⟩ := hy
  refine ⟨r, rfl, ?_⟩
  rw [Int.toNat_natCast]
  by_cases e : r = s
  · subst e
    rw [if_pos rfl, List.getElem?_set_self (List.getElem?_eq_some_iff.mp hs).1]
  · rw [if_neg (by omega), List.getElem?_set_ne (fun z => e z.symm), hr]
theorem cut_pair : ∀ {ws : List (Int × Int)} {s : Nat}, ws.length ≤ 3 → s < ws.length → cut (ws.map prDD) none (some (s : Int)) = (ws.take s).map prDD ∧ cut (ws.map prDD) (some ((s : Int) + 1)) none = (ws.drop (s + 1)).map prDD
  | [], _, _, h => absurd h (by simp)
  | [a], 0, _, _ => ⟨rfl, rfl⟩
  | [a, b], 0, _, _ => ⟨rfl, rfl⟩
  | [a, b], 1, _, _ => ⟨rfl, rfl⟩
  | [a, b, c], 0, _, _ => ⟨rfl, rfl⟩
  | [a, b, c], 1, _, _ => ⟨rfl, rfl⟩
  | [a, b, c], 2, _, _ => ⟨rfl, rfl⟩
  | [a], s + 1, _, h => absurd h (by simp)
  | [a, b], s + 2, _, h => absurd h (by simp)
  | [a, b, c], s + 3, _, h => absurd h (by simp)
  | a :: b :: c :: d :: r, s, h, _ => absurd h (by simp)
theorem wl_body {A B : List D} (hC : 0 < C) (h : ixD (wsD ws) (.int x) = some (prDD p)) (h1 : cut (ws.map prDD) none (some x) = A) (h2 : cut (ws.map prDD) (some (x + 1)) none = B) (k1 : A.all keepD = true) (k2 : B.all keepD = true) (hl : A.length + B.length ≤ 100) :
    endR (evSs c gl0 w b_with_later [.v (pgD C ws), .v (.int x), .v (.int k), .em, .em, .em, .em] S) = .ok (.tup [.int C, .tup (A ++ (prDD ((p.1 + k) % C, p.2) :: B))]) S := by
  have s1 : slD (wsD ws) none (some x) = some (.tup A) := by rw [← h1]; rfl
  have s2 : slD (wsD ws) (some (x + 1)) none = some (.tup B) := by rw [← h2]; rfl
  have hl2 : A.length + (B.length + 1) ≤ 16777216 := by omega
  simp only [List.all_eq_true] at k1 k2
  have e1 : ofO (asgT (.tp [.nm 3, .nm 4]) (pgD C ws) [.v (pgD C ws), .v (.int x), .v (.int k), .em, .em, .em, .em]) [.v (pgD C ws), .v (.int x), .v (.int k), .em, .em, .em, .em] S = .ok [.v (pgD C ws), .v (.int x), .v (.int k), .v (.int C), .v (wsD ws), .em, .em] [.v (pgD C ws), .v (.int x), .v (.int k), .em, .em, .em, .em] S := by
    simp [pgD]
  simp [b_with_later, evSs, evS, evE, evEs, Fr.get, e1, h, s1, s2, hC, endR, prDD, partD, itemsD, hl2]

  have hcond : (∀ (y : D), y ∈ A ++ D.tup [D.int ((p.1 + k) % C), D.int p.2] :: B → keepD y = true) ∧ (A ++ D.tup [D.int ((p.1 + k) % C), D.int p.2] :: B).length ≤ sizeLine := by
    refine ⟨fun y hy => ?_, by rw [sizeLine_eq, List.length_append, List.length_cons]; exact hl2⟩
    rcases List.mem_append.mp hy with h' | h'
    · exact k1 y h'
    · rcases List.mem_cons.mp h' with rfl | h'
      · rfl
      · exact k2 y h'
  rw [if_pos hcond]
  simp
theorem wl_ok (hC : 0 < C) (hws : ws.length ≤ 3) (h : Atw ws x p) : run tab gl0 w (n + 1) "with_later" [pgD C ws, .int x, .int k] S = .ok (pgD C (tw ws x C k)) S := by
  rw [run_at t_with_later rfl]
  obtain ⟨s, e, hs⟩ := id h
  obtain ⟨hl, he⟩ := List.getElem?_eq_some_iff.mp hs
  have ec := cut_pair hws hl
  rw [← e] at ec
  have kp : ∀ l : List (Int × Int), (l.map prDD).all keepD = true := fun l => by
    rw [List.all_map]
    exact List.all_eq_true.mpr fun _ _ => rfl
  have := wl_body (c := run tab gl0 w n) (w := w) (S := S) (k := k) hC h.ix ec.1 ec.2 (kp _) (kp _) (by
    rw [List.length_map, List.length_map, List.length_take, List.length_drop]
    omega)
  refine this.trans ?_
  rw [tw_at h]
  unfold pgD wsD
  rw [e, Int.toNat_natCast, List.set_eq_take_append_cons_drop, if_pos hl, List.map_append, List.map_cons]
/-! the law's -/
def enP (a : Nat × Int × Int) : D := .tup [.int a.1, prDD a.2]
theorem enum_pp : ∀ (ws : List (Int × Int)) (s : Nat), (List.range' s ws.length).zipWith (fun (i : Nat) (d : D) => D.tup [.int i, d]) (ws.map prDD) = ((List.range' s ws.length).zip ws).map enP
  | [], s => rfl
  | a :: r, s => by
    rw [List.length_cons, List.range'_succ, List.map_cons, List.zipWith_cons_cons, List.zip_cons_cons, List.map_cons, enum_pp r (s + 1)]
    rfl
theorem enumD_pp : enumD (ws.map prDD) = ((List.range ws.length).zip ws).map enP := by
  unfold enumD
  rw [List.length_map, List.range_eq_range']
  exact enum_pp ws 0
theorem tw_map (h : Atw ws x p) : ((List.range ws.length).zip ws).map (fun a : Nat × Int × Int => if (a.1 : Int) = x then ((a.2.1 + k) % C, a.2.2) else a.2) = tw ws x C k := by
  rw [tw_at h]
  obtain ⟨s, rfl, hs⟩ := h
  obtain ⟨hl, he⟩ := List.getElem?_eq_some_iff.mp hs
  refine List.ext_getElem (by simp) fun j h1 h2 => ?_
  rw [List.getElem_map, List.getElem_zip, List.getElem_set]
  have hj : (List.range ws.length)[j]'(by simp at h2 ⊢; exact h2) = j := List.getElem_range _
  simp only [hj, Int.toNat_natCast]
  by_cases e : s = j
  · subst e
    rw [if_pos rfl, if_pos rfl, he]
  · rw [if_neg (by omega), if_neg e]
def ltL : E := .lc (.tp [(.nm 4), (.tp [(.nm 5), (.nm 6)])]) (.enum (.ix (.var 0) (.con (.int 1)))) (.con (.bl true)) (.ite (.cmp .eq (.var 4) (.var 1)) (.tup (.cons (.bin .mod (.bi .int (.cons (.bin .add (.var 5) (.var 2)) .nil)) (.ix (.var 0) (.con (.int 0)))) (.cons (.var 6) .nil))) (.tup (.cons (.var 5) (.cons (.var 6) .nil)))) [4, 5, 6]
theorem lt_body (hC : 0 < C) (hws : ws.length ≤ 3) (h : Atw ws x p) :
    endR (evSs c gl0 w b__law_turned [.v (pgD C ws), .v (.int x), .v (.int k), .em, .em, .em, .em] S) = .ok (pgD C (tw ws x C k)) S := by
  have a := ix_pg (C := C) (ws := ws)
  have hI : evI c gl0 (.enum (.ix (.var 0) (.con (.int 1)))) [.v (pgD C ws), .v (.int x), .v (.int k), .em, .em, .em, .em] S = .ok (((List.range ws.length).zip ws).map enP) [.v (pgD C ws), .v (.int x), .v (.int k), .em, .em, .em, .em] S := by
    rw [← enumD_pp]
    have : itemsD (wsD ws) = some (ws.map prDD) := rfl
    simp [evI, evE, Fr.get, a, this]
  have e1 := lcm_ok (c := c) (glob := gl0) (enc := enP) (own := [4, 5, 6]) (t := .tp [(.nm 4), (.tp [(.nm 5), (.nm 6)])]) (cnd := .con (.bl true)) (e := .ite (.cmp .eq (.var 4) (.var 1)) (.tup (.cons (.bin .mod (.bi .int (.cons (.bin .add (.var 5) (.var 2)) .nil)) (.ix (.var 0) (.con (.int 0)))) (.cons (.var 6) .nil))) (.tup (.cons (.var 5) (.cons (.var 6) .nil))))
    (g := fun b : Nat × Int × Int => prDD (if (b.1 : Int) = x then ((b.2.1 + k) % C, b.2.2) else b.2)) hI rfl rfl (by
    rintro ⟨j, y, z⟩ _
    generalize hjj : (j : Int) = jj
    have en : enP (j, y, z) = .tup [.int jj, .tup [.int y, .int z]] := by rw [← hjj]; rfl
    refine ⟨[.v (pgD C ws), .v (.int x), .v (.int k), .em, .v (.int jj), .v (.int y), .v (.int z)], ?_⟩
    rw [en]
    simp only [hjj]
    by_cases e : jj = x
    · simp [turnD, wipeF, roS, evE, evEs, Fr.get, a, e, hC, prDD]
    · simp [turnD, wipeF, roS, evE, evEs, Fr.get, a, e, hC, prDD]) (by rw [List.length_zip, List.length_range]; omega)
  have e1 : evE c gl0 ltL _ S = _ := e1
  have em : ((List.range ws.length).zip ws).map (fun b : Nat × Int × Int => prDD (if (b.1 : Int) = x then ((b.2.1 + k) % C, b.2.2) else b.2)) = (tw ws x C k).map prDD := by
    rw [← tw_map h, List.map_map]
    rfl
  rw [em] at e1
  have hb : b__law_turned = [.asg 3 ltL, .ret (.tup (.cons (.ix (.var 0) (.con (.int 0))) (.cons (.bi .tuple (.cons (.var 3) .nil)) .nil)))] := rfl
  rw [hb, evSs, evS, e1, Gx.R.bind_ok]
  generalize (tw ws x C k) = ws'
  show endR (evSs c gl0 w [.ret (.tup (.cons (.ix (.var 0) (.con (.int 0))) (.cons (.bi .tuple (.cons (.var 3) .nil)) .nil)))] [.v (pgD C ws), .v (.int x), .v (.int k), .v (.lst (ws'.map prDD)), .em, .em, .em] S) = _
  refine retE ?_ rfl
  have e2 := biE (c := c) (gl := gl0) (S := S) (S' := S) (e := .var 3) (d := .lst (ws'.map prDD)) (φ := [.v (pgD C ws), .v (.int x), .v (.int k), .v (.lst (ws'.map prDD)), .em, .em, .em]) (p := .tuple) (r := wsD ws') rfl rfl
  generalize (.bi .tuple (.cons (.var 3) .nil) : E) = E1 at e2 ⊢
  show _ = R.ok (D.tup [D.int C, wsD ws']) _ S
  generalize hφ : ([.v (pgD C ws), .v (.int x), .v (.int k), .v (.lst (ws'.map prDD)), .em, .em, .em] : Fr) = φ at e2 ⊢
  have g0 : Fr.get φ 0 = some (pgD C ws) := by rw [← hφ]; rfl
  simp [evE, evEs, e2, g0, a]
theorem lt_ok (hC : 0 < C) (hws : ws.length ≤ 3) (h : Atw ws x p) : run tab gl0 w (n + 1) "_law_turned" [pgD C ws, .int x, .int k] S = .ok (pgD C (tw ws x C k)) S := by
  rw [run_at t__law_turned rfl]
  exact lt_body hC hws h
end GxLaw
set_option Elab.async false
set_option linter.all false
set_option maxRecDepth 100000
/-! Me10: the best turn. -/
namespace GxLaw
open PySem L2 Gx Ev
variable {w n : Nat} {S : Sto} {c : Call} {C x u m t k : Int} {ws : List (Int × Int)} {p q : Int × Int} {φ φ' : Fr} {i : Is}
theorem minP_mem : ∀ (l : List (Int × Int)) (p : Int × Int), minP p l ∈ p :: l
  | [], p => List.mem_cons_self
  | y :: r, p => by
    show minP (if ltP y p then y else p) r ∈ _
    rcases List.mem_cons.mp (minP_mem r (if ltP y p then y else p)) with h | h
    · rw [h]
      split
      · exact List.mem_cons_of_mem _ List.mem_cons_self
      · exact List.mem_cons_self
    · exact List.mem_cons_of_mem _ (List.mem_cons_of_mem _ h)
def leP (a b : Int × Int) : Prop := a.1 < b.1 ∨ (a.1 = b.1 ∧ a.2 ≤ b.2)
theorem leP.trans {a b c : Int × Int} (h : leP a b) (g : leP b c) : leP a c := by
  unfold leP at *
  omega
theorem minP_le : ∀ (l : List (Int × Int)) (p : Int × Int), ∀ y ∈ p :: l, leP (minP p l) y
  | [], p, y, hy => by
    rw [List.mem_singleton.mp hy]
    exact .inr ⟨rfl, Int.le_refl _⟩
  | z :: r, p, y, hy => by
    show leP (minP (if ltP z p then z else p) r) y
    have ih := minP_le r (if ltP z p then z else p)
    have h0 := ih _ List.mem_cons_self
    have h1 : leP (if ltP z p then z else p) p ∧ leP (if ltP z p then z else p) z := by
      cases e : ltP z p with
      | true =>
        have := of_decide_eq_true e
        rw [if_pos rfl]
        unfold leP
        omega
      | false =>
        have := of_decide_eq_false e
        rw [if_neg (by simp)]
        unfold leP
        omega
    rcases List.mem_cons.mp hy with rfl | hy
    · exact h0.trans h1.1
    · rcases List.mem_cons.mp hy with rfl | hy
      · exact h0.trans h1.2
      · exact ih y (List.mem_cons_of_mem _ hy)
theorem pairsOf_map : ∀ l : List (Int × Int), pairsOf (l.map prDD) = some l
  | [] => rfl
  | p :: r => by
    rw [List.map_cons, pairsOf, pairsOf_map r]
    rfl
theorem bi_minP {l : List (Int × Int)} : biD .min [.lst ((p :: l).map prDD)] = some (prDD (minP p l)) := by
  have : pairsOf ((p :: l).map prDD) = some (p :: l) := pairsOf_map _
  rw [List.map_cons] at this ⊢
  show (match pairsOf (prDD p :: l.map prDD) with | some (p :: ps) => some (prDD (minP p ps)) | _ => none) = _
  rw [this]
def minL : List Int → Int
  | [] => 0
  | x :: l => minI x l
theorem bi_min {l : List Int} (h : l ≠ []) : biD .min [.lst (l.map .int)] = some (.int (minL l)) := by
  cases l with
  | nil => exact absurd rfl h
  | cons x l =>
    show (intsOf (l.map .int)).map _ = _
    rw [intsOf_map']
    rfl
theorem placeI_of : ∀ {l : List Int} {m : Int} {j : Nat}, l[j]? = some m → (∀ i, i < j → l[i]? ≠ some m) → placeI l m = some j
  | x :: r, m, 0, h, _ => by
    have : x = m := Option.some.inj h
    rw [placeI, if_pos this]
  | x :: r, m, j + 1, h, hn => by
    have h0 : x ≠ m := fun e => hn 0 (by omega) (by rw [← e]; rfl)
    rw [placeI, if_neg h0, placeI_of (l := r) (j := j) h fun i hi => hn (i + 1) (by omega)]
    rfl
theorem secs_get {j : Nat} (h : j < C.toNat) : (secs C)[j]? = some (j : Int) := by
  unfold secs
  rw [List.getElem?_map, List.getElem?_range h]
  rfl
/-- the first of the least ones, both ways -/
theorem least_first {f : Int → Int} (hC : 0 < C) : ∃ z zs j, (secs C).map (fun k => (f k, k)) = z :: zs ∧ (minP z zs).2 = ((j : Nat) : Int) ∧ placeI ((secs C).map f) (minL ((secs C).map f)) = some j := by
  obtain ⟨z, zs, e⟩ : ∃ z zs, (secs C).map (fun k => (f k, k)) = z :: zs := by
    cases e : (secs C).map (fun k => (f k, k)) with
    | nil =>
      have := congrArg List.length e
      rw [List.length_map, secs_len] at this
      simp at this
      omega
    | cons z zs => exact ⟨z, zs, rfl⟩
  have hm := minP_mem zs z
  have hl := minP_le zs z
  rw [← e] at hm hl
  obtain ⟨v, hv, ev⟩ := List.mem_map.mp hm
  obtain ⟨v0, v1⟩ := secs_mem.mp hv
  rw [← ev] at hl
  have hle : ∀ k, 0 ≤ k → k < C → leP (f v, v) (f k, k) := fun k h0 h1 => hl _ (List.mem_map.mpr ⟨k, secs_mem.mpr ⟨h0, h1⟩, rfl⟩)
  refine ⟨z, zs, v.toNat, e, by rw [← ev]; show v = _; omega, ?_⟩
  have hmin : minL ((secs C).map f) = f v := by
    obtain ⟨y, ys, ey⟩ : ∃ y ys, (secs C).map f = y :: ys := by
      cases ey : (secs C).map f with
      | nil =>
        have := congrArg List.length ey
        rw [List.length_map, secs_len] at this
        simp at this
        omega
      | cons z zs => exact ⟨z, zs, rfl⟩
    have h1 := minI_mem ys y
    have h2 := minI_le ys y (f v)
    rw [← ey] at h1 h2
    rw [ey]
    show minI y ys = _
    have h2 := h2 (List.mem_map.mpr ⟨v, hv, rfl⟩)
    obtain ⟨k, hk, ek⟩ := List.mem_map.mp h1
    obtain ⟨k0, k1⟩ := secs_mem.mp hk
    have := hle k k0 k1
    unfold leP at this
    simp only at this
    omega
  rw [hmin]
  refine placeI_of ?_ fun j hj hjv => ?_
  · rw [List.getElem?_map, secs_get (by omega), show ((v.toNat : Nat) : Int) = v by omega]
    rfl
  · rw [List.getElem?_map, secs_get (by omega)] at hjv
    have e2 : f j = f v := Option.some.inj hjv
    have := hle j (by omega) (by omega)
    unfold leP at this
    simp only at this
    omega
/-! sums of all turns -/
def pT (C : Int) (i : Is) (p q : Int × Int) (k : Int) : Int × Int := if i.x1 = i.x2 then ((q.1 + k) % C, q.2) else p
def qT (C : Int) (q : Int × Int) (k : Int) : Int × Int := ((q.1 + k) % C, q.2)
def sumT (C : Int) (i : Is) (p q : Int × Int) (k : Int) : Int := (waysL C i (pT C i p q k) (qT C q k)).sum
structure It_ (C : Int) (ws : List (Int × Int)) (i : Is) (p q : Int × Int) : Prop where
  ik : Ik C ws i p q
  a1 : Atw ws i.x1 p
  a2 : Atw ws i.x2 q
  w3 : ws.length ≤ 3
theorem It_.turn (h : It_ C ws i p q) : Ik C (tw ws i.x2 C k) i (pT C i p q k) (qT C q k) := by
  have b1 := Atw.set (C := C) (k := k) h.a2 h.a1
  have b2 := Atw.set (C := C) (k := k) h.a2 h.a2
  rw [if_pos rfl] at b2
  refine ⟨h.ik.c0, h.ik.c1, ⟨b1.ix, h.ik.k1.u1, h.ik.k1.m1, ?_, ?_⟩, ⟨b2.ix, h.ik.k2.u1, h.ik.k2.m1, h.ik.k2.um, h.ik.k2.pC⟩⟩
  · unfold pT
    split
    · rename_i e
      have e2 : p = q := by
        obtain ⟨s, es, hs⟩ := h.a1
        obtain ⟨r, er, hr⟩ := h.a2
        have : s = r := by omega
        subst this
        rw [hs] at hr
        exact Option.some.inj hr
      rw [← e2]
      exact h.ik.k1.um
    · exact h.ik.k1.um
  · unfold pT
    split
    · exact h.ik.k2.pC
    · exact h.ik.k1.pC
def btL : E := .lc (.nm 4) (.rng (.cons (.ix (.var 0) (.con (.int 0))) .nil)) (.con (.bl true)) (.tup (.cons (.app "sum_of_ways" (.cons (.app "with_later" (.cons (.var 0) (.cons (.var 2) (.cons (.var 4) .nil)))) (.cons (.var 1) .nil))) (.cons (.var 4) .nil))) [4]
theorem bt_body (h : It_ C ws i p q) (o1 : ∀ k, c "with_later" [pgD C ws, .int i.x2, .int k] S = .ok (pgD C (tw ws i.x2 C k)) S) (o2 : ∀ k, c "sum_of_ways" [pgD C (tw ws i.x2 C k), isD i] S = .ok (.int (sumT C i p q k)) S) :
    ∃ j : Nat, placeI ((secs C).map (sumT C i p q)) (minL ((secs C).map (sumT C i p q))) = some j ∧ endR (evSs c gl0 w b_best_turn [.v (pgD C ws), .v (isD i), .em, .em, .em] S) = .ok (.int j) S := by
  have a := ix_pg (C := C) (ws := ws)
  have d := ix_is (i := i)
  have dw := ix_wk (x := i.x2) (u := i.u2) (m := i.m2)
  obtain ⟨z, zs, j, e, e2, e3⟩ := least_first (f := sumT C i p q) h.ik.c0
  refine ⟨j, e3, ?_⟩
  have hI : evI c gl0 (.rng (.cons (.ix (.var 0) (.con (.int 0))) .nil)) [.v (pgD C ws), .v (isD i), .v (.int i.x2), .em, .em] S = .ok ((secs C).map D.int) [.v (pgD C ws), .v (isD i), .v (.int i.x2), .em, .em] S :=
    evI_secs (by simp [evE, evEs, Fr.get, a]) rfl (by have := h.ik.c0; omega) h.ik.c1
  have e1 := lcnm (c := c) (glob := gl0) (k := 4) (e := .tup (.cons (.app "sum_of_ways" (.cons (.app "with_later" (.cons (.var 0) (.cons (.var 2) (.cons (.var 4) .nil)))) (.cons (.var 1) .nil))) (.cons (.var 4) .nil))) (by simp) rfl hI (fun k => prDD (sumT C i p q k, k)) (fun _ _ => ⟨rfl, rfl⟩) (fun k _ ψ h1 h2 => by
    have g0 : ψ.get 0 = some (pgD C ws) := h2 0 (by omega)
    have g1 : ψ.get 1 = some (isD i) := h2 1 (by omega)
    have g2 : ψ.get 2 = some (.int i.x2) := h2 2 (by omega)
    have w1 := o1 k
    have w2 := o2 k
    generalize sumT C i p q k = y at w2 ⊢
    generalize tw ws i.x2 C k = ws' at w1 w2
    simp [evE, evEs, g0, g1, g2, h1, w1, w2, prDD]) (by rw [secs_len]; have := h.ik.c1; omega)
  have e1 : evE c gl0 btL _ S = _ := e1
  have em : ((secs C).map fun k => prDD (sumT C i p q k, k)) = (z :: zs).map prDD := by
    rw [← e, List.map_map]
    rfl
  rw [em] at e1
  have hb : b_best_turn = [.asg 2 (.ix (.ix (.var 1) (.con (.int 1))) (.con (.int 0))), .asg 3 btL, .ret (.ix (.bi .min (.cons (.var 3) .nil)) (.con (.int 1)))] := rfl
  have s1 : evS c gl0 w (.asg 2 (.ix (.ix (.var 1) (.con (.int 1))) (.con (.int 0)))) [.v (pgD C ws), .v (isD i), .em, .em, .em] S = .ok .nx [.v (pgD C ws), .v (isD i), .v (.int i.x2), .em, .em] S := by
    simp [evS, evE, Fr.get, d, dw]
  have hmin := bi_minP (p := z) (l := zs)
  have hk : ((z :: zs).map prDD).all keepD = true := by
    rw [List.all_map]
    exact List.all_eq_true.mpr fun _ _ => rfl
  generalize (z :: zs).map prDD = L at e1 hmin hk
  have s2 : evS c gl0 w (.asg 3 btL) [.v (pgD C ws), .v (isD i), .v (.int i.x2), .em, .em] S = .ok .nx [.v (pgD C ws), .v (isD i), .v (.int i.x2), .v (.lst L), .em] S := by
    rw [evS, e1]
    rfl
  rw [hb, evSs_1 s1, evSs_1 s2]
  refine retE (d := .int j) ?_ rfl
  have e5 := biE (c := c) (gl := gl0) (S := S) (S' := S) (e := .var 3) (φ := [.v (pgD C ws), .v (isD i), .v (.int i.x2), .v (.lst L), .em]) (d := .lst L) rfl hmin
  have := ix_pp (p := minP z zs)
  rw [e2] at this
  generalize minP z zs = y at e5 this
  rw [evE, e5]
  simp [evE, this]
theorem bt_ok (h : It_ C ws i p q) : ∃ j : Nat, placeI ((secs C).map (sumT C i p q)) (minL ((secs C).map (sumT C i p q))) = some j ∧ run tab gl0 w (n + 8) "best_turn" [pgD C ws, isD i] S = .ok (.int j) S := by
  obtain ⟨j, e1, e2⟩ := bt_body (w := w) (S := S) (c := run tab gl0 w (n + 7)) h (fun k => wl_ok h.ik.c0 h.w3 h.a2) (fun k => sw_ok h.turn)
  refine ⟨j, e1, ?_⟩
  rw [run_at t_best_turn rfl]
  exact e2
end GxLaw
set_option Elab.async false
set_option linter.all false
set_option maxRecDepth 100000
/-! Mf10: checks. -/
namespace GxLaw
open PySem L2 Gx Ev
variable {w n : Nat} {S : Sto} {c : Call} {C x u m t k N : Int} {ws : List (Int × Int)} {p q : Int × Int} {φ φ' : Fr} {i : Is}
def rfX (s : String) : Ex := ⟨"Refused", [("why", .str (Str.ofString s))]⟩
theorem int_ok : run tab gl0 w (n + 1) "is_integer" [.int x] S = .ok (.bl true) S := by
  rw [run_at t_is_integer rfl]
  rfl
theorem int_non : run tab gl0 w (n + 1) "is_integer" [.non] S = .ok (.bl false) S := by
  rw [run_at t_is_integer rfl]
  rfl
theorem lint_ok : run tab gl0 w (n + 1) "_law_is_int" [.int x] S = .ok (.bl true) S := by
  rw [run_at t__law_is_int rfl]
  rfl
theorem lint_non : run tab gl0 w (n + 1) "_law_is_int" [.non] S = .ok (.bl false) S := by
  rw [run_at t__law_is_int rfl]
  rfl
theorem iw_body {a b : Int} (o : c "is_integer" [.int x] S = .ok (.bl true) S) : endR (evSs c gl0 w b_is_within [.v (.int x), .v (.int a), .v (.int b)] S) = .ok (.bl (decide (a ≤ x) && decide (x ≤ b))) S := by
  by_cases e : a ≤ x
  · simp [b_is_within, evSs, evS, evE, evEs, Fr.get, o, e, endR]
  · simp [b_is_within, evSs, evS, evE, evEs, Fr.get, o, e, endR]
theorem iw_ok {a b : Int} : run tab gl0 w (n + 2) "is_within" [.int x, .int a, .int b] S = .ok (.bl (decide (a ≤ x) && decide (x ≤ b))) S := by
  rw [run_at t_is_within rfl]
  exact iw_body int_ok
def lcAl : E := .lc (.nm 2) (.seq (.var 0)) (.con (.bl true)) (.appl 1 ["is_integer"] (.cons (.var 2) .nil)) [2]
theorem al_body (o : ∀ x, c "is_integer" [.int x] S = .ok (.bl true) S) : endR (evSs c gl0 w b_are_all [.v (wkD x u m), .v (.fn "is_integer"), .em] S) = .ok (.bl true) S := by
  have hI : evI c gl0 (.seq (.var 0)) [.v (wkD x u m), .v (.fn "is_integer"), .em] S = .ok ([x, u, m].map D.int) [.v (wkD x u m), .v (.fn "is_integer"), .em] S := by
    have : itemsD (wkD x u m) = some ([x, u, m].map D.int) := rfl
    simp [evI, evE, Fr.get, this]
  have e1 := lcnm (c := c) (glob := gl0) (k := 2) (e := .appl 1 ["is_integer"] (.cons (.var 2) .nil)) (by simp) rfl hI (fun _ => .bl true) (fun _ _ => ⟨rfl, rfl⟩) (fun t _ ψ h1 h2 => by
    have g1 : ψ.get 1 = some (.fn "is_integer") := h2 1 (by omega)
    simp [evE, evEs, g1, h1, o]) (by simp)
  have e1 : evE c gl0 lcAl _ S = _ := e1
  have e2 := biE (p := .all) (r := .bl true) e1 rfl
  have hb : b_are_all = [.ret (.and_ (.isi (.var 0) ["tuple"]) (.bi .all (.cons lcAl .nil)))] := rfl
  rw [hb]
  refine retE ?_ rfl
  rw [andT (S' := S) (by rfl)]
  exact e2
theorem ai_body (o : c "are_all" [wkD x u m, .fn "is_integer"] S = .ok (.bl true) S) : endR (evSs c gl0 w b_are_integers [.v (wkD x u m)] S) = .ok (.bl true) S := by
  simp [b_are_integers, evSs, evS, evE, evEs, Fr.get, Gv.at, Gv.d, o, endR]
theorem ai_ok : run tab gl0 w (n + 3) "are_integers" [wkD x u m] S = .ok (.bl true) S := by
  rw [run_at t_are_integers rfl]
  refine ai_body ?_
  rw [run_at t_are_all rfl]
  exact al_body fun x => int_ok
theorem ai_non : run tab gl0 w (n + 3) "are_integers" [.non] S = .ok (.bl false) S := by
  rw [run_at t_are_integers rfl]
  have : run tab gl0 w (n + 2) "are_all" [.non, .fn "is_integer"] S = .ok (.bl false) S := by
    rw [run_at t_are_all rfl]
    rfl
  show endR (evSs (run tab gl0 w (n + 2)) gl0 w b_are_integers [.v .non] S) = _
  generalize run tab gl0 w (n + 2) = c at this ⊢
  simp [b_are_integers, evSs, evS, evE, evEs, Fr.get, Gv.at, Gv.d, this, endR]
/-! checked_walk -/
theorem asg_wk {a b d : Nat} : asgT (.tp [.nm a, .nm b, .nm d]) (wkD x u m) φ = asgT (.tp [.nm a, .nm b, .nm d]) (.tup [.int x, .int u, .int m]) φ := rfl
theorem len_wk : biD .len [wkD x u m] = some (.int 3) := rfl
structure Ho (c : Call) (S : Sto) : Prop where
  ai : ∀ x u m, c "are_integers" [wkD x u m] S = .ok (.bl true) S
  an : c "are_integers" [.non] S = .ok (.bl false) S
  iw : ∀ x a b, c "is_within" [.int x, .int a, .int b] S = .ok (.bl (decide (a ≤ x) && decide (x ≤ b))) S
theorem ho_run : Ho (run tab gl0 w (n + 3)) S := ⟨fun _ _ _ => ai_ok, ai_non, fun _ _ _ => iw_ok (n := n + 1)⟩
theorem cw_good (h : Ho c S) (hN : biD .len [wsD ws] = some (.int N)) (hx : 0 ≤ x ∧ x ≤ N - 1) (hu : 1 ≤ u ∧ u ≤ 60) (hm : 1 ≤ m ∧ m ≤ 60) (ha : ixD (wsD ws) (.int x) = some (prDD p)) (hl : u + m ≤ p.2) :
    endR (evSs c gl0 w b_checked_walk [.v (pgD C ws), .v (wkD x u m), .em, .em, .em] S) = .ok (wkD x u m) S := by
  have a := ix_pg (C := C) (ws := ws)
  have b := ix_pp (p := p)
  have hl2 : ¬ p.2 < u + m := by omega
  simp [b_checked_walk, evSs, evS, evE, evEs, Fr.get, h.ai, len_wk, asg_wk, a, hN, h.iw, hx, hu, hm, ha, b, hl2, Gv.at, Gv.d, endR]
theorem cw_walk (h : Ho c S) (hN : biD .len [wsD ws] = some (.int N)) (hx : 0 ≤ x ∧ x ≤ N - 1) :
    endR (evSs c gl0 w b_checked_walk [.v (pgD C ws), .v (wkD x 0 m), .em, .em, .em] S) = .exc (rfX "walk") S := by
  have a := ix_pg (C := C) (ws := ws)
  simp [b_checked_walk, evSs, evS, evE, evEs, Fr.get, h.ai, len_wk, asg_wk, a, hN, h.iw, hx, Gv.at, Gv.d, endR, errF, rfX]
theorem cw_stream (h : Ho c S) (hN : biD .len [wsD ws] = some (.int N)) (hx : N ≤ 3) :
    endR (evSs c gl0 w b_checked_walk [.v (pgD C ws), .v (wkD 9 1 1), .em, .em, .em] S) = .exc (rfX "stream") S := by
  have a := ix_pg (C := C) (ws := ws)
  have h9 : ¬ (9 : Int) ≤ N - 1 := by omega
  simp [b_checked_walk, evSs, evS, evE, evEs, Fr.get, h.ai, len_wk, asg_wk, a, hN, h.iw, h9, Gv.at, Gv.d, endR, errF, rfX]
theorem cw_non (h : Ho c S) : endR (evSs c gl0 w b_checked_walk [.v (pgD C ws), .v .non, .em, .em, .em] S) = .exc (rfX "form") S := by
  simp [b_checked_walk, evSs, evS, evE, evEs, Fr.get, h.an, endR, errF, rfX]
end GxLaw
set_option Elab.async false
set_option linter.all false
set_option maxRecDepth 100000
/-! Mg10: islands that are checked. -/
namespace GxLaw
open PySem L2 Gx Ev
variable {w n : Nat} {S : Sto} {c : Call} {C x u m t k N z : Int} {ws : List (Int × Int)} {p q : Int × Int} {φ φ' : Fr} {i : Is} {A B : D} {e : Ex}
/-- what checked_walk tells of a value -/
inductive Wf : Int → List (Int × Int) → D → Option String → Prop
  | good {C : Int} {ws : List (Int × Int)} {x u m : Int} {p : Int × Int} : Atw ws x p → 1 ≤ u → 1 ≤ m → u + m ≤ p.2 → p.2 ≤ 60 → Wf C ws (wkD x u m) none
  | walk {C : Int} {ws : List (Int × Int)} {x m : Int} {p : Int × Int} : Atw ws x p → 1 ≤ m → m ≤ 60 → Wf C ws (wkD x 0 m) (some "walk")
  | stream {C : Int} {ws : List (Int × Int)} : ws.length ≤ 3 → Wf C ws (wkD 9 1 1) (some "stream")
  | non {C : Int} {ws : List (Int × Int)} : Wf C ws .non (some "form")
theorem Wf.keep {f : Option String} (h : Wf C ws A f) : keepD A = true := by cases h <;> rfl
theorem Wf.look {f : Option String} (h : Wf C ws A f) : Gx.look φ S A = A := by cases h <;> rfl
def cwR (A : D) (f : Option String) (S : Sto) : RC := match f with
  | none => .ok A S
  | some s => .exc (rfX s) S
theorem len_ws : biD .len [wsD ws] = some (.int (ws.length : Nat)) := by
  show some (D.int ((ws.map prDD).length : Nat)) = _
  rw [List.length_map]
theorem Atw.range (h : Atw ws x p) : 0 ≤ x ∧ x ≤ (ws.length : Nat) - 1 := by
  obtain ⟨s, rfl, hs⟩ := h
  have := (List.getElem?_eq_some_iff.mp hs).1
  omega
theorem cw_ok {f : Option String} (h : Wf C ws A f) : run tab gl0 w (n + 4) "checked_walk" [pgD C ws, A] S = cwR A f S := by
  rw [run_at t_checked_walk rfl]
  have ho := ho_run (w := w) (n := n) (S := S)
  have hN := len_ws (ws := ws)
  generalize hL : ((ws.length : Nat) : Int) = N at hN
  cases h with
  | good ha hu hm hl hp => exact cw_good ho hN (by have := ha.range; omega) ⟨hu, by omega⟩ ⟨hm, by omega⟩ ha.ix hl
  | walk ha hm hm2 => exact cw_walk ho hN (by have := ha.range; omega)
  | stream h3 => exact cw_stream ho hN (by omega)
  | non => exact cw_non ho
/-! the law's -/
def optS : Option String → D
  | none => .non
  | some s => .str (Str.ofString s)
def lcWf : E := .lc (.nm 2) (.seq (.var 1)) (.not_ (.app "_law_is_int" (.cons (.var 2) .nil))) (.con (.int 1)) [2]
theorem wf_lc (o : ∀ x, c "_law_is_int" [.int x] S = .ok (.bl true) S) : evE c gl0 lcWf [.v (pgD C ws), .v (wkD x u m), .em] S = .ok (.lst []) [.v (pgD C ws), .v (wkD x u m), .em] S := by
  have hI : evI c gl0 (.seq (.var 1)) [.v (pgD C ws), .v (wkD x u m), .em] S = .ok ([x, u, m].map D.int) [.v (pgD C ws), .v (wkD x u m), .em] S := by
    have : itemsD (wkD x u m) = some ([x, u, m].map D.int) := rfl
    simp [evI, evE, Fr.get, this]
  have e1 := lcn (c := c) (glob := gl0) (k := 2) (cnd := .not_ (.app "_law_is_int" (.cons (.var 2) .nil))) (e := .con (.int 1)) (by simp) rfl hI (fun _ => false) (fun _ => .int 1) (fun _ _ => ⟨rfl, rfl⟩) (fun t _ ψ h1 h2 => by
    refine ⟨by simp [evE, evEs, h1, o], fun h => nomatch h⟩) (by simp)
  rw [List.filter_eq_nil_iff.mpr (fun _ _ => by simp)] at e1
  exact e1
def wfT : List Gx.S := [.ifs (.not_ (.chain .le .lt (.con (.int 0)) (.ix (.var 1) (.con (.int 0))) (.bi .len (.cons (.ix (.var 0) (.con (.int 1))) .nil)))) [.ret (.con (.str (Str.ofString "stream")))] [],
  .ifs (.or_ (.not_ (.chain .le .le (.con (.int 1)) (.ix (.var 1) (.con (.int 1))) (.con (.int 60)))) (.not_ (.chain .le .le (.con (.int 1)) (.ix (.var 1) (.con (.int 2))) (.con (.int 60))))) [.ret (.ite (.not_ (.chain .le .le (.con (.int 1)) (.ix (.var 1) (.con (.int 1))) (.con (.int 60)))) (.con (.str (Str.ofString "walk"))) (.con (.str (Str.ofString "clear"))))] [],
  .ret (.ite (.cmp .gt (.bin .add (.ix (.var 1) (.con (.int 1))) (.ix (.var 1) (.con (.int 2)))) (.ix (.ix (.ix (.var 0) (.con (.int 1))) (.ix (.var 1) (.con (.int 0)))) (.con (.int 1)))) (.con (.str (Str.ofString "long"))) (.con .non))]
def wfH : Gx.S := .ifs (.or_ (.not_ (.isi (.var 1) ["tuple"])) (.or_ (.cmp .ne (.bi .len (.cons (.var 1) .nil)) (.con (.int 3))) (.cmp .ne lcWf (.lst .nil)))) [.ret (.con (.str (Str.ofString "form")))] []
theorem wf_head (o : ∀ x, c "_law_is_int" [.int x] S = .ok (.bl true) S) : evS c gl0 w wfH [.v (pgD C ws), .v (wkD x u m), .em] S = .ok .nx [.v (pgD C ws), .v (wkD x u m), .em] S := by
  have e := wf_lc (C := C) (ws := ws) (x := x) (u := u) (m := m) o
  unfold wfH
  refine ifsF ?_
  have i1 : evE c gl0 (.not_ (.isi (.var 1) ["tuple"])) [.v (pgD C ws), .v (wkD x u m), .em] S = .ok (.bl false) [.v (pgD C ws), .v (wkD x u m), .em] S := rfl
  rw [orF i1]
  have i2 : evE c gl0 (.cmp .ne (.bi .len (.cons (.var 1) .nil)) (.con (.int 3))) [.v (pgD C ws), .v (wkD x u m), .em] S = .ok (.bl false) [.v (pgD C ws), .v (wkD x u m), .em] S := by
    simp [evE, evEs, Fr.get, len_wk]
  rw [orF i2, evE, e]
  rfl
theorem lwf_good (o : ∀ x, c "_law_is_int" [.int x] S = .ok (.bl true) S) (hN : biD .len [wsD ws] = some (.int N)) (hx : 0 ≤ x ∧ x < N) (hu : 1 ≤ u ∧ u ≤ 60) (hm : 1 ≤ m ∧ m ≤ 60) (ha : ixD (wsD ws) (.int x) = some (prDD p)) (hl : u + m ≤ p.2) :
    endR (evSs c gl0 w b__law_walk_fault [.v (pgD C ws), .v (wkD x u m), .em] S) = .ok .non S := by
  have hb : b__law_walk_fault = wfH :: wfT := rfl
  rw [hb, evSs_1 (wf_head o)]
  have a := ix_pg (C := C) (ws := ws)
  have b := ix_pp (p := p)
  have d := ix_wk (x := x) (u := u) (m := m)
  have hl2 : ¬ p.2 < u + m := by omega
  simp [wfT, evSs, evS, evE, evEs, Fr.get, a, hN, hx, hu, hm, ha, b, d, hl2, endR]
theorem lwf_walk (o : ∀ x, c "_law_is_int" [.int x] S = .ok (.bl true) S) (hN : biD .len [wsD ws] = some (.int N)) (hx : 0 ≤ x ∧ x < N) :
    endR (evSs c gl0 w b__law_walk_fault [.v (pgD C ws), .v (wkD x 0 m), .em] S) = .ok (.str (Str.ofString "walk")) S := by
  have hb : b__law_walk_fault = wfH :: wfT := rfl
  rw [hb, evSs_1 (wf_head o)]
  have a := ix_pg (C := C) (ws := ws)
  have d := ix_wk (x := x) (u := 0) (m := m)
  simp [wfT, evSs, evS, evE, evEs, Fr.get, a, hN, hx, d, endR]
theorem lwf_stream (o : ∀ x, c "_law_is_int" [.int x] S = .ok (.bl true) S) (hN : biD .len [wsD ws] = some (.int N)) (hx : N ≤ 3) :
    endR (evSs c gl0 w b__law_walk_fault [.v (pgD C ws), .v (wkD 9 1 1), .em] S) = .ok (.str (Str.ofString "stream")) S := by
  have hb : b__law_walk_fault = wfH :: wfT := rfl
  rw [hb, evSs_1 (wf_head o)]
  have a := ix_pg (C := C) (ws := ws)
  have d := ix_wk (x := 9) (u := 1) (m := 1)
  have h9 : ¬ (9 : Int) < N := by omega
  simp [wfT, evSs, evS, evE, evEs, Fr.get, a, hN, h9, d, endR]
theorem lwf_ok {f : Option String} (h : Wf C ws A f) : run tab gl0 w (n + 2) "_law_walk_fault" [pgD C ws, A] S = .ok (optS f) S := by
  rw [run_at t__law_walk_fault rfl]
  have hN := len_ws (ws := ws)
  generalize hL : ((ws.length : Nat) : Int) = N at hN
  cases h with
  | good ha hu hm hl hp => exact lwf_good (fun _ => lint_ok) hN (by have := ha.range; omega) ⟨hu, by omega⟩ ⟨hm, by omega⟩ ha.ix hl
  | walk ha hm hm2 => exact lwf_walk (fun _ => lint_ok) hN (by have := ha.range; omega)
  | stream h3 => exact lwf_stream (fun _ => lint_ok) hN (by omega)
  | non => rfl
/-! islands -/
/-- what checked_island tells of a value -/
inductive If : Int → List (Int × Int) → D → Option String → Prop
  | tup {C : Int} {ws : List (Int × Int)} {A B : D} {f g : Option String} {z : Int} : Wf C ws A f → Wf C ws B g → If C ws (.tup [A, B, .int z]) (match f, g with
    | some s, _ => some s
    | none, some s => some s
    | none, none => if 0 ≤ z ∧ z ≤ 99 then none else some "across")
  | two {C : Int} {ws : List (Int × Int)} {A B : D} : keepD A = true → keepD B = true → If C ws (.tup [A, B]) (some "form")
  | lst {C : Int} {ws : List (Int × Int)} {A B : D} {z : Int} : keepD A = true → keepD B = true → If C ws (.lst [A, B, .int z]) (some "form")
  | non {C : Int} {ws : List (Int × Int)} {A B : D} : keepD A = true → keepD B = true → If C ws (.tup [A, B, .non]) (some "form")
structure Hi (c : Call) (S : Sto) (C : Int) (ws : List (Int × Int)) : Prop where
  ii : ∀ x, c "is_integer" [.int x] S = .ok (.bl true) S
  inn : c "is_integer" [.non] S = .ok (.bl false) S
  iw : ∀ x a b, c "is_within" [.int x, .int a, .int b] S = .ok (.bl (decide (a ≤ x) && decide (x ≤ b))) S
  cw : ∀ A f, Wf C ws A f → c "checked_walk" [pgD C ws, A] S = cwR A f S
theorem ci_body {f : Option String} (h : If C ws A f) (o : Hi c S C ws) : endR (evSs c gl0 w b_checked_island [.v (pgD C ws), .v A] S) = cwR A f S := by
  cases h with
  | two k1 k2 => simp [b_checked_island, evSs, evS, evE, evEs, Fr.get, biD, tysOf, endR, errF, rfX, cwR]
  | lst k1 k2 => simp [b_checked_island, evSs, evS, evE, evEs, Fr.get, biD, tysOf, endR, errF, rfX, cwR]
  | non k1 k2 => simp [b_checked_island, evSs, evS, evE, evEs, Fr.get, biD, tysOf, o.inn, endR, errF, rfX, cwR]
  | @tup A B f g z h1 h2 =>
    have w1 := o.cw A f h1
    have w2 := o.cw B g h2
    have k1 := h1.keep
    have k2 := h2.keep
    cases f with
    | some s =>
      have w1 : c "checked_walk" [pgD C ws, A] S = .exc (rfX s) S := w1
      simp [b_checked_island, evSs, evS, evE, evEs, Fr.get, biD, tysOf, o.ii, w1, k1, endR, errF, cwR]
    | none =>
      have w1 : c "checked_walk" [pgD C ws, A] S = .ok A S := w1
      cases g with
      | some s =>
        have w2 : c "checked_walk" [pgD C ws, B] S = .exc (rfX s) S := w2
        simp [b_checked_island, evSs, evS, evE, evEs, Fr.get, biD, tysOf, o.ii, w1, w2, k1, k2, endR, errF, cwR]
      | none =>
        have w2 : c "checked_walk" [pgD C ws, B] S = .ok B S := w2
        have w3 := o.iw z 0 99
        by_cases e : 0 ≤ z ∧ z ≤ 99
        · rw [decide_eq_true e.1, decide_eq_true e.2] at w3
          simp [b_checked_island, evSs, evS, evE, evEs, Fr.get, biD, tysOf, o.ii, w1, w2, w3, k1, k2, endR, errF, cwR, Gv.at, Gv.d, e]
        · have w3 : c "is_within" [.int z, .int 0, .int 99] S = .ok (.bl false) S := by
            rw [w3]
            congr 2
            by_cases e1 : 0 ≤ z
            · rw [decide_eq_true e1, decide_eq_false (show ¬ z ≤ 99 by omega)]
              rfl
            · rw [decide_eq_false e1]
              rfl
          simp [b_checked_island, evSs, evS, evE, evEs, Fr.get, biD, tysOf, o.ii, w1, w2, w3, k1, k2, endR, errF, cwR, Gv.at, Gv.d, e, rfX]
theorem ci_ok {f : Option String} (h : If C ws A f) : run tab gl0 w (n + 5) "checked_island" [pgD C ws, A] S = cwR A f S := by
  rw [run_at t_checked_island rfl]
  have := ci_body (w := w) (S := S) (c := run tab gl0 w (n + 4)) h ⟨fun _ => int_ok (n := n + 3), int_non (n := n + 3), fun _ _ _ => iw_ok (n := n + 2), fun A f => cw_ok⟩
  have e : startF 2 [pgD C ws, A] = [.v (pgD C ws), .v A] := rfl
  rw [e]
  exact this
end GxLaw
set_option Elab.async false
set_option linter.all false
set_option maxRecDepth 100000
/-! Mh10: draws. -/
namespace GxLaw
open PySem L2 Gx Ev
variable {w n : Nat} {S Z : Sto} {c : Call} {cl : List Int} {C x u m t k N z : Int} {ws : List (Int × Int)} {p q : Int × Int} {φ φ' : Fr} {i : Is}
theorem hTake : tab "_law_take" = some ⟨2, 7, bTake⟩ := t__law_take
theorem hSome : tab "_law_some" = some ⟨2, 2, bSome⟩ := t__law_some
theorem hAlike : tab "_law_alike" = some ⟨2, 6, bAlike⟩ := t__law_alike
def TakeC (c : Call) (cs : List Int) : Prop := ∀ (b : Bag) (Z : Sto) (many : Int), b.Ok → b.cells = cs → 0 < many → many < 1073741824 → c "_law_take" [.box 0, .int many] (bagD b :: Z) = .ok (.int (b.val many)) (bagD (b.aft many) :: Z)
theorem takeC {cs : List Int} (hz : cs.length + 1 ≤ sizeLine) : TakeC (run tab gl0 w (n + 1)) cs := fun b Z many hb hc h0 h1 => take_ok hTake hb h0 h1 (by rw [hc]; exact hz)
def SomeC (c : Call) (cs : List Int) : Prop := ∀ (b : Bag) (Z : Sto) (things : List D), b.Ok → b.cells = cs → things ≠ [] → things.length < 1000 → (∀ d ∈ things, keepD d = true) → ∃ d b', d ∈ things ∧ b'.Ok ∧ b'.cells = cs ∧ c "_law_some" [.box 0, .lst things] (bagD b :: Z) = .ok d (bagD b' :: Z)
theorem someC {cs : List Int} (hz : cs.length + 1 ≤ sizeLine) : SomeC (run tab gl0 w (n + 2)) cs := fun b Z things hb hc h0 h1 hk => by
  obtain ⟨d, h2, _, h3⟩ := some_ok (glob := gl0) (w := w) (n := n) (R := Z) hTake hSome hb (by rw [hc]; exact hz) h0 (by omega) hk (d := .non)
  have := List.length_pos_iff.mpr h0
  exact ⟨d, _, h2, hb.aft (by omega), by rw [Bag.aft_cells]; exact hc, h3⟩
theorem win_body (ht : TakeC c cl) {bag : Bag} (hb : bag.Ok) (hc : bag.cells = cl) (hC : 0 < C) (hC1 : C < 1000) : ∃ (bag' : Bag) (p : Int × Int), bag'.Ok ∧ bag'.cells = cl ∧ 0 ≤ p.1 ∧ p.1 < C ∧ 1 ≤ p.2 ∧ p.2 ≤ C ∧
    endR (evSs c gl0 w b__law_window [.v (.box 0), .v (.int C)] (bagD bag :: Z)) = .ok (prDD p) (bagD bag' :: Z) := by
  have t1 := ht bag Z C hb hc hC (by omega)
  have r1 := bag.val_range (many := C) hC
  have o1 := hb.aft (many := C) hC
  have c1 : (bag.aft C).cells = cl := by rw [Bag.aft_cells]; exact hc
  have t2 := ht _ Z C o1 c1 hC (by omega)
  have r2 := (bag.aft C).val_range (many := C) hC
  refine ⟨(bag.aft C).aft C, (bag.val C, 1 + (bag.aft C).val C), o1.aft hC, by rw [Bag.aft_cells]; exact c1, r1.1, r1.2, by omega, by omega, ?_⟩
  unfold prDD
  generalize bag.val C = a at t1 ⊢
  generalize (bag.aft C).val C = b at t2 ⊢
  simp [b__law_window, evSs, evS, evE, evEs, Fr.get, t1, t2, endR]
def WinC (c : Call) (cs : List Int) : Prop := ∀ (bag : Bag) (Z : Sto) (C : Int), bag.Ok → bag.cells = cs → 0 < C → C < 1000 → ∃ (bag' : Bag) (p : Int × Int), bag'.Ok ∧ bag'.cells = cs ∧ 0 ≤ p.1 ∧ p.1 < C ∧ 1 ≤ p.2 ∧ p.2 ≤ C ∧ c "_law_window" [.box 0, .int C] (bagD bag :: Z) = .ok (prDD p) (bagD bag' :: Z)
theorem winC (hz : cl.length + 1 ≤ sizeLine) : WinC (run tab gl0 w (n + 2)) cl := fun bag Z C hb hc h0 h1 => by
  obtain ⟨bag', p, a, b, c, d, e, f, g⟩ := win_body (w := w) (Z := Z) (takeC (w := w) (n := n) hz) hb hc h0 h1
  exact ⟨bag', p, a, b, c, d, e, f, by rw [run_at t__law_window rfl]; exact g⟩
structure Pk (C : Int) (ws : List (Int × Int)) : Prop where
  c2 : 2 ≤ C
  c21 : C ≤ 21
  w3 : ws.length ≤ 3
  all : ∀ p ∈ ws, p.2 ≤ C
def lcPr : E := .lc (.nm 2) (.rng (.cons (.bin .add (.con (.int 1)) (.app "_law_take" (.cons (.var 0) (.cons (.con (.int 3)) .nil)))) .nil)) (.con (.bl true)) (.app "_law_window" (.cons (.var 0) (.cons (.var 1) .nil))) [2]
theorem prog_body (ht : TakeC c cl) (hw : WinC c cl) {bag : Bag} (hb : bag.Ok) (hc : bag.cells = cl) : ∃ (bag' : Bag) (C : Int) (ws : List (Int × Int)), bag'.Ok ∧ bag'.cells = cl ∧ Pk C ws ∧
    endR (evSs c gl0 w b__law_any_program [.v (.box 0), .em, .em] (bagD bag :: Z)) = .ok (pgD C ws) (bagD bag' :: Z) := by
  have t1 := ht bag Z 20 hb hc (by omega) (by omega)
  have r1 := bag.val_range (many := 20) (by omega)
  have o1 := hb.aft (many := 20) (by omega)
  have c1 : (bag.aft 20).cells = cl := by rw [Bag.aft_cells]; exact hc
  generalize bag.aft 20 = bag1 at t1 o1 c1
  obtain ⟨C, eC⟩ : ∃ C, C = 2 + bag.val 20 := ⟨_, rfl⟩
  have s1 : evS c gl0 w (.asg 1 (.bin .add (.con (.int 2)) (.app "_law_take" (.cons (.var 0) (.cons (.con (.int 20)) .nil))))) [.v (.box 0), .em, .em] (bagD bag :: Z) = .ok .nx [.v (.box 0), .v (.int C), .em] (bagD bag1 :: Z) := by
    rw [eC]
    simp [evS, evE, evEs, Fr.get, t1]
  have t2 := ht bag1 Z 3 o1 c1 (by omega) (by omega)
  have r2 := bag1.val_range (many := 3) (by omega)
  have o2 := o1.aft (many := 3) (by omega)
  have c2 : (bag1.aft 3).cells = cl := by rw [Bag.aft_cells]; exact c1
  obtain ⟨M, eM, hM⟩ : ∃ M : Nat, 1 + bag1.val 3 = (M : Int) ∧ M ≤ 3 := ⟨(1 + bag1.val 3).toNat, by omega, by omega⟩
  have hI : evI c gl0 (.rng (.cons (.bin .add (.con (.int 1)) (.app "_law_take" (.cons (.var 0) (.cons (.con (.int 3)) .nil)))) .nil)) [.v (.box 0), .v (.int C), .em] (bagD bag1 :: Z) = .ok ((List.range M).map fun (k : Nat) => D.int k) [.v (.box 0), .v (.int C), .em] (bagD (bag1.aft 3) :: Z) := by
    refine evI_r1 ?_ rfl (by omega)
    rw [← eM]
    generalize bag1.val 3 = v at t2 ⊢
    simp [evE, evEs, Fr.get, t2]
  obtain ⟨bag3, ws, o3, c3, l3, q3, e3⟩ := lc_bag (enc2 := prDD) (Q := fun _ (p : Int × Int) => p.2 ≤ C) (cs := cl) (t := .nm 2) (cnd := .con (.bl true)) (e := .app "_law_window" (.cons (.var 0) (.cons (.var 1) .nil))) (own := [2]) hI rfl rfl o2 c2 (by
    intro a _ b ob cb
    obtain ⟨b', p, o', c', _, _, _, h4, e4⟩ := hw b Z C ob cb (by omega) (by omega)
    refine ⟨b', p, ((wipeF [.v (.box 0), .v (.int C), .em] [2]).map roS).set 2 (.v (.int a)), o', c', h4, ?_⟩
    generalize (a : Int) = aa
    simp [turnD, wipeF, roS, evE, evEs, Fr.get, e4]) (by rw [List.length_range]; omega)
  rw [List.length_range] at l3
  have e3 : evE c gl0 lcPr [.v (.box 0), .v (.int C), .em] (bagD bag1 :: Z) = .ok (.lst (ws.map prDD)) [.v (.box 0), .v (.int C), .em] (bagD bag3 :: Z) := e3
  have e4 := biE (p := .tuple) e3 (r := wsD ws) rfl
  refine ⟨bag3, C, ws, o3, c3, ⟨by omega, by omega, by omega, fun p hp => zip_mem_right (Q := fun p : Int × Int => p.2 ≤ C) (by rw [List.length_range]; exact l3) q3 p hp⟩, ?_⟩
  have hbd : b__law_any_program = [.asg 1 (.bin .add (.con (.int 2)) (.app "_law_take" (.cons (.var 0) (.cons (.con (.int 20)) .nil)))), .ret (.tup (.cons (.var 1) (.cons (.bi .tuple (.cons lcPr .nil)) .nil)))] := rfl
  rw [hbd, evSs_1 s1]
  refine retE ?_ rfl
  show _ = R.ok (D.tup [D.int C, wsD ws]) _ _
  generalize (.bi .tuple (.cons lcPr .nil) : E) = E1 at e4 ⊢
  simp [evE, evEs, e4, Fr.get]
theorem prog_ok (hz : cl.length + 1 ≤ sizeLine) {bag : Bag} (hb : bag.Ok) (hc : bag.cells = cl) : ∃ (bag' : Bag) (C : Int) (ws : List (Int × Int)), bag'.Ok ∧ bag'.cells = cl ∧ Pk C ws ∧ run tab gl0 w (n + 3) "_law_any_program" [.box 0] (bagD bag :: Z) = .ok (pgD C ws) (bagD bag' :: Z) := by
  obtain ⟨bag', C, ws, a, b, d, e⟩ := prog_body (w := w) (Z := Z) (takeC (w := w) (n := n + 1) hz) (winC (n := n) hz) hb hc
  exact ⟨bag', C, ws, a, b, d, by rw [run_at t__law_any_program rfl]; exact e⟩
/-! walks -/
structure Wr (ws : List (Int × Int)) (x u m : Int) (p : Int × Int) : Prop where
  at_ : Atw ws x p
  u1 : 1 ≤ u
  m1 : 1 ≤ m
  um : u + m ≤ p.2
def lcSo : E := .lc (.tp [(.nm 3), (.nm 6)]) (.enum (.ix (.var 1) (.con (.int 1)))) (.cmp .gt (.ix (.var 6) (.con (.int 1))) (.con (.int 1))) (.var 3) [3, 6]
theorem enum_mem : ∀ a ∈ (List.range ws.length).zip ws, Atw ws (a.1 : Int) a.2 := fun a ha => by
  obtain ⟨j, hj, e⟩ := List.getElem_of_mem ha
  rw [List.getElem_zip, List.getElem_range] at e
  rw [List.length_zip, List.length_range] at hj
  rw [← e]
  exact ⟨j, rfl, List.getElem?_eq_getElem (by omega)⟩
theorem walk_body (hP : Pk C ws) (ht : TakeC c cl) (hs : SomeC c cl) {bag : Bag} (hb : bag.Ok) (hc : bag.cells = cl) : ∃ bag' : Bag, bag'.Ok ∧ bag'.cells = cl ∧
    (endR (evSs c gl0 w b__law_walk [.v (.box 0), .v (pgD C ws), .em, .em, .em, .em, .em] (bagD bag :: Z)) = .ok .non (bagD bag' :: Z) ∨ ∃ x u m p, Wr ws x u m p ∧
      endR (evSs c gl0 w b__law_walk [.v (.box 0), .v (pgD C ws), .em, .em, .em, .em, .em] (bagD bag :: Z)) = .ok (wkD x u m) (bagD bag' :: Z)) := by
  have a := ix_pg (C := C) (ws := ws)
  have hI : evI c gl0 (.enum (.ix (.var 1) (.con (.int 1)))) [.v (.box 0), .v (pgD C ws), .em, .em, .em, .em, .em] (bagD bag :: Z) = .ok (((List.range ws.length).zip ws).map fun a => D.tup [D.int a.1, prDD a.2]) [.v (.box 0), .v (pgD C ws), .em, .em, .em, .em, .em] (bagD bag :: Z) := by
    have e := enumD_pp (ws := ws)
    have e : enumD (ws.map prDD) = ((List.range ws.length).zip ws).map fun a => D.tup [D.int a.1, prDD a.2] := e
    rw [← e]
    have : itemsD (wsD ws) = some (ws.map prDD) := rfl
    simp [evI, evE, Fr.get, a, this]
  have e1 := lcp (c := c) (glob := gl0) (k := 3) (k2 := 6) (cnd := .cmp .gt (.ix (.var 6) (.con (.int 1))) (.con (.int 1))) (e := .var 3) (f := fun a : Nat × Int × Int => D.int a.1) (g := fun a => prDD a.2) (by simp) (by simp) (by omega) rfl rfl hI (fun a => decide (1 < a.2.2)) (fun a => .int a.1) (fun _ _ => ⟨rfl, rfl, rfl⟩) (fun a _ ψ h1 h2 _ => by
    have b := ix_pp (p := a.2)
    refine ⟨by simp [evE, h2, b], fun _ => by rw [evE, h1]; rfl⟩) (by rw [List.length_zip, List.length_range]; have := hP.w3; omega)
  have e1 : evE c gl0 lcSo _ _ = _ := e1
  have hmem : ∀ d ∈ (((List.range ws.length).zip ws).filter fun a => decide (1 < a.2.2)).map (fun a => D.int a.1), ∃ x p, d = .int x ∧ Atw ws x p ∧ 1 < p.2 := fun d hd => by
    obtain ⟨a, ha, rfl⟩ := List.mem_map.mp hd
    obtain ⟨h1, h2⟩ := List.mem_filter.mp ha
    exact ⟨_, a.2, rfl, enum_mem a h1, of_decide_eq_true h2⟩
  have hlen : ((((List.range ws.length).zip ws).filter fun a => decide (1 < a.2.2)).map (fun a => D.int a.1)).length ≤ 3 := by
    rw [List.length_map]
    refine Nat.le_trans (List.length_filter_le _ _) ?_
    rw [List.length_zip, List.length_range]
    have := hP.w3
    omega
  have hnil := eq_nilI ((((List.range ws.length).zip ws).filter fun a => decide (1 < a.2.2)).map fun a => (a.1 : Int))
  rw [List.map_map] at hnil
  have hnil : eqD (.lst ((((List.range ws.length).zip ws).filter fun a => decide (1 < a.2.2)).map (fun a => D.int a.1))) (.lst []) = some (((((List.range ws.length).zip ws).filter fun a => decide (1 < a.2.2)).map (fun a => D.int a.1))).isEmpty := by
    rw [List.isEmpty_map] at hnil ⊢
    exact hnil
  generalize (((List.range ws.length).zip ws).filter fun a => decide (1 < a.2.2)).map (fun a => D.int a.1) = L at e1 hmem hlen hnil
  have s1 : evS c gl0 w (.asg 2 lcSo) [.v (.box 0), .v (pgD C ws), .em, .em, .em, .em, .em] (bagD bag :: Z) = .ok .nx [.v (.box 0), .v (pgD C ws), .v (.lst L), .em, .em, .em, .em] (bagD bag :: Z) := by
    rw [evS, e1]
    rfl
  have hbd : b__law_walk = .asg 2 lcSo :: .ifs (.cmp .eq (.var 2) (.lst .nil)) [.ret (.con .non)] [] :: [.asg 3 (.app "_law_some" (.cons (.var 0) (.cons (.var 2) .nil))),
    .asg 4 (.ix (.ix (.ix (.var 1) (.con (.int 1))) (.var 3)) (.con (.int 1))),
    .asg 5 (.bin .add (.con (.int 1)) (.app "_law_take" (.cons (.var 0) (.cons (.bin .sub (.var 4) (.con (.int 1))) .nil)))),
    .ret (.tup (.cons (.var 3) (.cons (.var 5) (.cons (.bin .add (.con (.int 1)) (.app "_law_take" (.cons (.var 0) (.cons (.bin .sub (.var 4) (.var 5)) .nil)))) .nil))))] := rfl
  rw [hbd, evSs_1 s1]
  have ec : evE c gl0 (.cmp .eq (.var 2) (.lst .nil)) [.v (.box 0), .v (pgD C ws), .v (.lst L), .em, .em, .em, .em] (bagD bag :: Z) = .ok (.bl L.isEmpty) [.v (.box 0), .v (pgD C ws), .v (.lst L), .em, .em, .em, .em] (bagD bag :: Z) := by
    simp [evE, evEs, Fr.get, hnil]
  by_cases hL : L = []
  · refine ⟨bag, hb, hc, .inl ?_⟩
    subst hL
    rw [evSs, ifsT ec]
    rfl
  · obtain ⟨d, bag1, hd, o1, c1, ed⟩ := hs bag Z L hb hc hL (by omega) (fun d hd => by
      obtain ⟨x, p, rfl, _⟩ := hmem d hd
      rfl)
    obtain ⟨x, p, rfl, hx, hp⟩ := hmem d hd
    have hpC : p.2 ≤ C := by
      obtain ⟨s, _, hs⟩ := hx
      exact hP.all p (List.mem_of_getElem? hs)
    have hCC := hP.c21
    have t1 := ht bag1 Z (p.2 - 1) o1 c1 (by omega) (by omega)
    have r1 := bag1.val_range (many := p.2 - 1) (by omega)
    have o2 := o1.aft (many := p.2 - 1) (by omega)
    have c2 : (bag1.aft (p.2 - 1)).cells = cl := by rw [Bag.aft_cells]; exact c1
    generalize bag1.aft (p.2 - 1) = bag2 at t1 o2 c2
    generalize bag1.val (p.2 - 1) = v at t1 r1
    have t2 := ht bag2 Z (p.2 - (1 + v)) o2 c2 (by omega) (by omega)
    have r2 := bag2.val_range (many := p.2 - (1 + v)) (by omega)
    have o3 := o2.aft (many := p.2 - (1 + v)) (by omega)
    have c3 : (bag2.aft (p.2 - (1 + v))).cells = cl := by rw [Bag.aft_cells]; exact c2
    generalize bag2.aft (p.2 - (1 + v)) = bag3 at t2 o3 c3
    generalize bag2.val (p.2 - (1 + v)) = y at t2 r2
    refine ⟨bag3, o3, c3, .inr ⟨x, 1 + v, 1 + y, p, ⟨hx, by omega, by omega, by omega⟩, ?_⟩⟩
    have b := ix_pp (p := p)
    have hx := hx.ix
    have ef : L.isEmpty = false := by
      cases L with
      | nil => exact absurd rfl hL
      | cons d l => rfl
    rw [ef] at ec
    rw [evSs_1 ((ifsF ec).trans rfl)]
    simp [evSs, evS, evE, evEs, Fr.get, ed, a, b, hx, t1, t2, endR, wkD]
theorem walk_ok (hP : Pk C ws) (hz : cl.length + 1 ≤ sizeLine) {bag : Bag} (hb : bag.Ok) (hc : bag.cells = cl) : ∃ bag' : Bag, bag'.Ok ∧ bag'.cells = cl ∧
    (run tab gl0 w (n + 3) "_law_walk" [.box 0, pgD C ws] (bagD bag :: Z) = .ok .non (bagD bag' :: Z) ∨ ∃ x u m p, Wr ws x u m p ∧ run tab gl0 w (n + 3) "_law_walk" [.box 0, pgD C ws] (bagD bag :: Z) = .ok (wkD x u m) (bagD bag' :: Z)) := by
  rw [run_at t__law_walk rfl]
  exact walk_body (w := w) (Z := Z) hP (takeC (w := w) (n := n + 1) hz) (someC (n := n) hz) hb hc
end GxLaw
set_option Elab.async false
set_option linter.all false
set_option maxRecDepth 100000
/-! Mi10: a turn of the law. -/
namespace GxLaw
open PySem L2 Gx Ev
variable {w n : Nat} {S Z : Sto} {c : Call} {cl : List Int} {C x u m t k N z : Int} {ws : List (Int × Int)} {p q : Int × Int} {φ φ' : Fr} {i : Is}
structure Cs (c : Call) (cl : List Int) : Prop where
  take : TakeC c cl
  some_ : SomeC c cl
  alike : ∀ (S : Sto) (x : D) (k : Nat), Fine S x k → k < 100000 → c "_law_alike" [x, x] S = .ok (.bl true) S
  prog : ∀ (bag : Bag) (Z : Sto), bag.Ok → bag.cells = cl → ∃ (bag' : Bag) (C : Int) (ws : List (Int × Int)), bag'.Ok ∧ bag'.cells = cl ∧ Pk C ws ∧ c "_law_any_program" [.box 0] (bagD bag :: Z) = .ok (pgD C ws) (bagD bag' :: Z)
  walk : ∀ (bag : Bag) (Z : Sto) (C : Int) (ws : List (Int × Int)), Pk C ws → bag.Ok → bag.cells = cl → ∃ bag' : Bag, bag'.Ok ∧ bag'.cells = cl ∧
    (c "_law_walk" [.box 0, pgD C ws] (bagD bag :: Z) = .ok .non (bagD bag' :: Z) ∨ ∃ x u m p, Wr ws x u m p ∧ c "_law_walk" [.box 0, pgD C ws] (bagD bag :: Z) = .ok (wkD x u m) (bagD bag' :: Z))
  ci : ∀ (S : Sto) (C : Int) (ws : List (Int × Int)) (A : D) (f : Option String), If C ws A f → c "checked_island" [pgD C ws, A] S = cwR A f S
  lwf : ∀ (S : Sto) (C : Int) (ws : List (Int × Int)) (A : D) (f : Option String), Wf C ws A f → c "_law_walk_fault" [pgD C ws, A] S = .ok (optS f) S
  li : ∀ (S : Sto) (x : Int), c "_law_is_int" [.int x] S = .ok (.bl true) S
  ln : ∀ (S : Sto), c "_law_is_int" [.non] S = .ok (.bl false) S
  ov : ∀ (S : Sto) (C : Int) (ws : List (Int × Int)) (i : Is) (p q : Int × Int) (t : Int), Ik C ws i p q → c "over_at" [pgD C ws, isD i, .int t] S = .ok (.int (ovI C i p q t)) S
  lov : ∀ (S : Sto) (C : Int) (ws : List (Int × Int)) (i : Is) (p q : Int × Int) (t : Int), Ik C ws i p q → c "_law_over" [pgD C ws, isD i, .int t] S = .ok (.int (ovI C i p q t)) S
  lwt : ∀ (S : Sto) (C : Int) (ws : List (Int × Int)) (i : Is) (p q : Int × Int) (t : Int), Ik C ws i p q → c "_law_wait" [pgD C ws, wkD i.x1 i.u1 i.m1, .int t] S = .ok (.int (wtI C p.1 (p.2 - i.m1) t)) S
  wt : ∀ (S : Sto) (C : Int) (ws : List (Int × Int)) (i : Is) (p q : Int × Int) (t : Int), Ik C ws i p q → c "wait" [pgD C ws, wkD i.x2 i.u2 i.m2, .int t] S = .ok (.int (wtI C q.1 (q.2 - i.m2) t)) S
  gw : ∀ (S : Sto) (C : Int) (ws : List (Int × Int)) (i : Is) (p q : Int × Int), Ik C ws i p q → c "greatest_way" [pgD C ws, isD i] S = .ok (.int (maxL (waysL C i p q))) S
  sw : ∀ (S : Sto) (C : Int) (ws : List (Int × Int)) (i : Is) (p q : Int × Int), Ik C ws i p q → c "sum_of_ways" [pgD C ws, isD i] S = .ok (.int (waysL C i p q).sum) S
  thru : ∀ (S : Sto) (C : Int) (ws : List (Int × Int)) (i : Is) (p q : Int × Int), Ik C ws i p q → c "is_through" [pgD C ws, isD i] S = .ok (.bl ((secs C).all (wt0 C i p q))) S
  lt : ∀ (S : Sto) (C : Int) (ws : List (Int × Int)) (x k : Int) (p : Int × Int), 0 < C → ws.length ≤ 3 → Atw ws x p → c "_law_turned" [pgD C ws, .int x, .int k] S = .ok (pgD C (tw ws x C k)) S
  bt : ∀ (S : Sto) (C : Int) (ws : List (Int × Int)) (i : Is) (p q : Int × Int), It_ C ws i p q → ∃ j : Nat, placeI ((secs C).map (sumT C i p q)) (minL ((secs C).map (sumT C i p q))) = some j ∧ c "best_turn" [pgD C ws, isD i] S = .ok (.int j) S
theorem cs_run (hz : cl.length + 1 ≤ sizeLine) : Cs (run tab gl0 100000 (n + 8)) cl where
  take := takeC (n := n + 7) hz
  some_ := someC (n := n + 6) hz
  alike := fun S x k hx hk => alike_self (n := n + 7) hAlike hx (by omega) hk
  prog := fun bag Z hb hc => prog_ok (n := n + 5) hz hb hc
  walk := fun bag Z C ws hP hb hc => walk_ok (n := n + 5) hP hz hb hc
  ci := fun S C ws A f h => ci_ok (n := n + 3) h
  lwf := fun S C ws A f h => lwf_ok (n := n + 6) h
  li := fun S x => lint_ok (n := n + 7)
  ln := fun S => lint_non (n := n + 7)
  ov := fun S C ws i p q t h => ov_ok (n := n + 3) h
  lov := fun S C ws i p q t h => lo_ok (n := n + 5) h (by omega)
  lwt := fun S C ws i p q t h => lw_ok (n := n + 6) h.c0 (by have := h.c1; omega) h.k1
  wt := fun S C ws i p q t h => wt_ok (n := n + 5) h.c0 h.k2.at_
  gw := fun S C ws i p q h => gw_ok (n := n + 1) h
  sw := fun S C ws i p q h => sw_ok (n := n + 1) h
  thru := fun S C ws i p q h => thru_ok (n := n + 3) h
  lt := fun S C ws x k p h1 h2 h3 => lt_ok (n := n + 7) h1 h2 h3
  bt := fun S C ws i p q h => bt_ok (n := n) h
theorem Wr.wk (h : Wr ws x u m p) (hP : Pk C ws) : Wk C ws x u m p := by
  refine ⟨h.at_.ix, h.u1, h.m1, h.um, ?_⟩
  obtain ⟨s, _, hs⟩ := h.at_
  exact hP.all p (List.mem_of_getElem? hs)
theorem Wr.wf (h : Wr ws x u m p) (hP : Pk C ws) : Wf C ws (wkD x u m) none := by
  have := (h.wk hP).pC
  have := hP.c21
  exact .good h.at_ h.u1 h.m1 h.um (by omega)
/-! frames -/
structure Fa (φ : Fr) (C : Int) (ws : List (Int × Int)) (i : Is) : Prop where
  fo : Fo φ 18 [12, 15]
  g1 : φ.get 1 = some (.box 0)
  g3 : φ.get 3 = some (pgD C ws)
  g4 : φ.get 4 = some (wkD i.x1 i.u1 i.m1)
  g5 : φ.get 5 = some (wkD i.x2 i.u2 i.m2)
  g6 : φ.get 6 = some (isD i)
theorem Fa.of {ψ : Fr} {j : Nat} (t : Fa φ C ws i) (hj : 7 ≤ j) (hF : Fo ψ 18 [12, 15]) (hn : ∀ l, l ≠ j → ψ[l]? = φ[l]?) : Fa ψ C ws i :=
  ⟨hF, (get_same (hn 1 (by omega))).trans t.g1, (get_same (hn 3 (by omega))).trans t.g3, (get_same (hn 4 (by omega))).trans t.g4, (get_same (hn 5 (by omega))).trans t.g5, (get_same (hn 6 (by omega))).trans t.g6⟩
/-! things that are none -/
def refD (s : String) : D := .tup [.str (Str.ofString "refused"), .str (Str.ofString s)]
theorem hrd_rf {e : E} {s : String} (he : evE c gl0 e φ S = .exc (rfX s) φ S) : evE c gl0 (.hrd "_law_heard" hd__law_heard clsL sboL e) φ S = .ok (refD s) φ S := by
  rw [evE, he]
  rfl
def thT : E := .or_ (.not_ (.isi (.var 7) ["tuple"])) (.or_ (.cmp .ne (.bi .len (.cons (.var 7) .nil)) (.con (.int 3))) (.not_ (.app "_law_is_int" (.cons (.ix (.var 7) (.con (.int 2))) .nil))))
def thE : List Gx.S := [.asg 8 (.app "_law_walk_fault" (.cons (.var 3) (.cons (.ix (.var 7) (.con (.int 0))) .nil))), .asg 8 (.ite (.cmp .is_ (.var 8) (.con .non)) (.app "_law_walk_fault" (.cons (.var 3) (.cons (.ix (.var 7) (.con (.int 1))) .nil))) (.var 8)), .asg 8 (.ite (.cmp .is_ (.var 8) (.con .non)) (.con (.str (Str.ofString "across"))) (.var 8))]
def thB : List Gx.S := [.ifs thT [.asg 8 (.con (.str (Str.ofString "form")))] thE, .ifs (.cmp .ne (.hrd "_law_heard" hd__law_heard clsL sboL (.app "checked_island" (.cons (.var 3) (.cons (.var 7) .nil)))) (.tup (.cons (.con (.str (Str.ofString "refused"))) (.cons (.var 8) .nil)))) [.ret (.con (.bl false))] []]
theorem isn_opt {f : Option String} {e : E} (he : evE c gl0 e φ S = .ok (optS f) φ S) : evE c gl0 (.cmp .is_ e (.con .non)) φ S = .ok (.bl f.isNone) φ S := by
  cases f with
  | none =>
    have he : evE c gl0 e φ S = .ok .non φ S := he
    simp [evE, he, Gx.isNon]
  | some s =>
    have he : evE c gl0 e φ S = .ok (.str (Str.ofString s)) φ S := he
    simp [evE, he, Gx.isNon]
theorem keep_optS (f : Option String) : keepD (optS f) = true := by cases f <;> rfl
/-- one thing that is refused -/
structure Th (C : Int) (ws : List (Int × Int)) (A : D) (s : String) : Prop where
  keep : keepD A = true
  ok : PyData.strOk (Str.ofString s) = true
  if_ : If C ws A (some s)
theorem th_fault (hK : Cs c cl) {A : D} {s : String} (h : Th C ws A s) (t : Fa φ C ws i) (g7 : φ.get 7 = some A) : ∃ ψ, Fa ψ C ws i ∧ ψ.get 7 = some A ∧ ψ.get 8 = some (.str (Str.ofString s)) ∧ evS c gl0 w (.ifs thT [.asg 8 (.con (.str (Str.ofString "form")))] thE) φ S = .ok .nx ψ S := by
  have form : ∀ {A : D}, φ.get 7 = some A → evE c gl0 thT φ S = .ok (.bl true) φ S → ∃ ψ, Fa ψ C ws i ∧ ψ.get 7 = some A ∧ ψ.get 8 = some (.str (Str.ofString "form")) ∧ evS c gl0 w (.ifs thT [.asg 8 (.con (.str (Str.ofString "form")))] thE) φ S = .ok .nx ψ S := fun {A} g7 he => by
    obtain ⟨ψ, hF1, p8, m1, e1⟩ := asgO (w := w) (c := c) (gl := gl0) (S := S) (S' := S) (i := 8) (e := .con (.str (Str.ofString "form"))) (d := .str (Str.ofString "form")) t.fo (by omega) (by rw [evE]) rfl
    refine ⟨ψ, t.of (by omega) hF1 m1, (get_same (m1 7 (by omega))).trans g7, p8, ?_⟩
    rw [ifsT he, evSs_1 e1]
    rfl
  obtain ⟨hk, _, hi⟩ := h
  generalize hf : some s = f at hi
  cases hi with
  | two k1 k2 =>
    cases hf
    exact form g7 (by simp [thT, evE, evEs, g7, biD, tysOf])
  | lst k1 k2 =>
    cases hf
    exact form g7 (by simp [thT, evE, evEs, g7, biD, tysOf])
  | non k1 k2 =>
    cases hf
    exact form g7 (by simp [thT, evE, evEs, g7, biD, tysOf, hK.ln])
  | @tup A B f g z h1 h2 =>
    have w1 := hK.lwf S C ws A f h1
    have w2 := hK.lwf S C ws B g h2
    have k1 := h1.keep
    have k2 := h2.keep
    have et : evE c gl0 thT φ S = .ok (.bl false) φ S := by
      simp [thT, evE, evEs, g7, biD, tysOf, hK.li]
    have kf := keep_optS f
    have kg := keep_optS g
    obtain ⟨ψ, hF1, p8, m1, e1⟩ := asgO (w := w) (c := c) (gl := gl0) (S := S) (S' := S) (i := 8) (e := .app "_law_walk_fault" (.cons (.var 3) (.cons (.ix (.var 7) (.con (.int 0))) .nil))) (d := optS f) t.fo (by omega) (by simp [evE, evEs, t.g3, g7, w1, k1]) kf
    have t1 := t.of (by omega) hF1 m1
    have p7 := (get_same (m1 7 (by omega))).trans g7
    have i8 := isn_opt (c := c) (S := S) (φ := ψ) (e := .var 8) (f := f) (by rw [evE, p8]; rfl)
    obtain ⟨χ, hF2, q8, m2, e2⟩ := asgO (w := w) (c := c) (gl := gl0) (S := S) (S' := S) (i := 8) (e := .ite (.cmp .is_ (.var 8) (.con .non)) (.app "_law_walk_fault" (.cons (.var 3) (.cons (.ix (.var 7) (.con (.int 1))) .nil))) (.var 8)) (d := optS (f.or g)) t1.fo (by omega) (by
      rw [evE, i8]
      cases f with
      | none => simp [evE, evEs, t1.g3, p7, w2, k2]
      | some s =>
        have p8 : ψ.get 8 = some (.str (Str.ofString s)) := p8
        simp [evE, p8, optS]) (keep_optS _)
    have t2 := t1.of (by omega) hF2 m2
    have q7 := (get_same (m2 7 (by omega))).trans p7
    have j8 := isn_opt (c := c) (S := S) (φ := χ) (e := .var 8) (f := f.or g) (by rw [evE, q8]; rfl)
    have hs : (f.or g).getD "across" = s := by
      cases f with
      | some a => cases hf; rfl
      | none =>
        cases g with
        | some b => cases hf; rfl
        | none =>
          have hf : some s = if 0 ≤ z ∧ z ≤ 99 then none else some "across" := hf
          split at hf
          · cases hf
          · cases hf
            rfl
    obtain ⟨ρ, hF3, r8, m3, e3⟩ := asgO (w := w) (c := c) (gl := gl0) (S := S) (S' := S) (i := 8) (e := .ite (.cmp .is_ (.var 8) (.con .non)) (.con (.str (Str.ofString "across"))) (.var 8)) (d := .str (Str.ofString s)) t2.fo (by omega) (by
      rw [← hs, evE, j8]
      cases hfg : f.or g with
      | none => simp [evE]
      | some a =>
        rw [hfg] at q8
        have q8 : χ.get 8 = some (.str (Str.ofString a)) := q8
        simp [evE, q8]) rfl
    refine ⟨ρ, t2.of (by omega) hF3 m3, (get_same (m3 7 (by omega))).trans q7, r8, ?_⟩
    rw [ifsF et]
    unfold thE
    rw [evSs_1 e1, evSs_1 e2, evSs_1 e3]
    rfl
theorem eq_ref {s : String} (h : PyData.strOk (Str.ofString s) = true) : eqD (refD s) (refD s) = some true := by
  have h0 : PyData.strOk (Str.ofString "refused") = true := by decide +kernel
  simp [h, h0, refD, eqD, toPy, toPys, SeqAt.shaped, PyData.canLay0, PyData.canLayAll0, PyData.depth, PyData.depthAll, PyData.eqv, PyData.eqvAll]
theorem th_turn (hK : Cs c cl) {A : D} {s : String} (h : Th C ws A s) (t : Fa φ C ws i) : ∃ ψ, Fa ψ C ws i ∧ (ofO (asgT (.nm 7) A φ) φ S).bind (fun φ _ S => evSs c gl0 w thB φ S) = .ok .nx ψ S := by
  obtain ⟨ψ, hF1, p7, m1, e1⟩ := forO (S := S) (i := 7) (d := A) t.fo (by omega) h.keep
  have t1 := t.of (by omega) hF1 m1
  obtain ⟨χ, t2, q7, q8, e2⟩ := th_fault (w := w) (S := S) hK h t1 p7
  have w1 : c "checked_island" [pgD C ws, A] S = .exc (rfX s) S := hK.ci S C ws A (some s) h.if_
  have hk := h.keep
  refine ⟨χ, t2, ?_⟩
  rw [e1, Gx.R.bind_ok]
  unfold thB
  have eh := hrd_rf (c := c) (S := S) (φ := χ) (e := .app "checked_island" (.cons (.var 3) (.cons (.var 7) .nil))) (s := s) (by simp [evE, evEs, t2.g3, q7, w1, hk])
  have hq := eq_ref (s := s) h.ok
  have et : evE c gl0 (.tup (.cons (.con (.str (Str.ofString "refused"))) (.cons (.var 8) .nil))) χ S = .ok (refD s) χ S := by
    simp [evE, evEs, q8, refD]
  rw [evSs_1 e2, evSs_1 ((ifsF (by
    rw [evE, eh, Gx.R.bind_ok, et, Gx.R.bind_ok]
    show (ofO ((eqD (refD s) (refD s)).map _) χ S).bind _ = _
    rw [hq]
    rfl)).trans rfl)]
  rfl
theorem th_loop (hK : Cs c cl) : ∀ (l : List (D × String)) (φ : Fr), (∀ a ∈ l, Th C ws a.1 a.2) → Fa φ C ws i → ∃ ψ, Fa ψ C ws i ∧ each (fun x φ S => (ofO (asgT (.nm 7) x φ) φ S).bind fun φ _ S => evSs c gl0 w thB φ S) (l.map (·.1)) φ S = .ok .nx ψ S
  | [], φ, _, t => ⟨φ, t, rfl⟩
  | a :: l, φ, h, t => by
    obtain ⟨ψ, t1, e1⟩ := th_turn (w := w) (S := S) hK (h a List.mem_cons_self) t
    obtain ⟨χ, t2, e2⟩ := th_loop hK l ψ (fun b hb => h b (List.mem_cons_of_mem _ hb)) t1
    exact ⟨χ, t2, by rw [List.map_cons, each_nx e1, e2]⟩
end GxLaw
set_option Elab.async false
set_option linter.all false
set_option maxRecDepth 100000
/-! Mj10: how a turn begins. -/
namespace GxLaw
open PySem L2 Gx Ev
variable {w n : Nat} {S Z : Sto} {c : Call} {cl : List Int} {C x u m t k N z : Int} {ws : List (Int × Int)} {p q : Int × Int} {φ φ' : Fr} {i : Is}
theorem parF {i j m : Nat} {os : List Nat} {a e : E} {x y : D} {S1 S2 : Sto} (hF : Fo φ m os) (hi : i < m) (hj : j < m) (hij : i ≠ j) (h1 : evE c gl0 a φ S = .ok x φ S1) (h2 : evE c gl0 e φ S1 = .ok y φ S2) (k1 : keepD x = true) (k2 : keepD y = true) :
    ∃ ψ, Fo ψ m os ∧ ψ.get i = some x ∧ ψ.get j = some y ∧ (∀ k, k ≠ i → k ≠ j → ψ[k]? = φ[k]?) ∧ evS c gl0 w (.par [(i, false), (j, false)] (.cons a (.cons e .nil))) φ S = .ok .nx ψ S2 := by
  have f1 := hF.put (d := x) hi
  have f2 := f1.1.put (d := y) hj
  have hl := hF.len
  exact ⟨_, f2.1, by rw [get_same (f2.2.2 i hij), f1.2.1], f2.2.1, fun k a1 a2 => (f2.2.2 k a2).trans (f1.2.2 k a1), by simp [evS, evM, h1, h2, setAll, hl, hi, hj, k1, k2]⟩
def hdB : List Gx.S := [.asg 3 (.app "_law_any_program" (.cons (.var 1) .nil)), .par [(4, false), (5, false)] (.cons (.app "_law_walk" (.cons (.var 1) (.cons (.var 3) .nil))) (.cons (.app "_law_walk" (.cons (.var 1) (.cons (.var 3) .nil))) .nil))]
def ctS : Gx.S := .ifs (.or_ (.cmp .is_ (.var 4) (.con .non)) (.cmp .is_ (.var 5) (.con .non))) [.cont] []
/-- none, or a walk -/
def Wo (ws : List (Int × Int)) (A : D) : Prop := A = .non ∨ ∃ x u m p, Wr ws x u m p ∧ A = wkD x u m
theorem Wo.keep {A : D} (h : Wo ws A) : keepD A = true := by
  rcases h with rfl | ⟨_, _, _, _, _, rfl⟩ <;> rfl
theorem hd_ok (hK : Cs c cl) (hF : Fo φ 18 [12, 15]) (g1 : φ.get 1 = some (.box 0)) {bag : Bag} (hb : bag.Ok) (hc : bag.cells = cl) :
    ∃ (ψ : Fr) (bag' : Bag) (C : Int) (ws : List (Int × Int)) (A B : D), bag'.Ok ∧ bag'.cells = cl ∧ Pk C ws ∧ Wo ws A ∧ Wo ws B ∧ Fo ψ 18 [12, 15] ∧ ψ.get 1 = some (.box 0) ∧ ψ.get 3 = some (pgD C ws) ∧ ψ.get 4 = some A ∧ ψ.get 5 = some B ∧ evSs c gl0 w hdB φ (bagD bag :: Z) = .ok .nx ψ (bagD bag' :: Z) := by
  obtain ⟨bag1, C, ws, o1, c1, hP, w1⟩ := hK.prog bag Z hb hc
  obtain ⟨ψ, hF1, p3, m1, e1⟩ := asgO (w := w) (c := c) (gl := gl0) (S := bagD bag :: Z) (S' := bagD bag1 :: Z) (i := 3) (e := .app "_law_any_program" (.cons (.var 1) .nil)) (d := pgD C ws) hF (by omega) (by simp [evE, evEs, g1, w1]) rfl
  have p1 := (get_same (m1 1 (by omega))).trans g1
  have tk : ∀ bag : Bag, bag.Ok → bag.cells = cl → ∃ (bag' : Bag) (A : D), bag'.Ok ∧ bag'.cells = cl ∧ Wo ws A ∧ evE c gl0 (.app "_law_walk" (.cons (.var 1) (.cons (.var 3) .nil))) ψ (bagD bag :: Z) = .ok A ψ (bagD bag' :: Z) := fun bag hb hc => by
    obtain ⟨bag', o', c', hw⟩ := hK.walk bag Z C ws hP hb hc
    rcases hw with hw | ⟨x, u, m, p, hr, hw⟩
    · exact ⟨bag', .non, o', c', .inl rfl, by simp [evE, evEs, p1, p3, hw]⟩
    · exact ⟨bag', wkD x u m, o', c', .inr ⟨x, u, m, p, hr, rfl⟩, by simp [evE, evEs, p1, p3, hw]⟩
  obtain ⟨bag2, A, o2, c2, hA, e2⟩ := tk bag1 o1 c1
  obtain ⟨bag3, B, o3, c3, hB, e3⟩ := tk bag2 o2 c2
  obtain ⟨χ, hF2, q4, q5, m2, e4⟩ := parF (w := w) (i := 4) (j := 5) hF1 (by omega) (by omega) (by omega) e2 e3 hA.keep hB.keep
  refine ⟨χ, bag3, C, ws, A, B, o3, c3, hP, hA, hB, hF2, (get_same (m2 1 (by omega) (by omega))).trans p1, (get_same (m2 3 (by omega) (by omega))).trans p3, q4, q5, ?_⟩
  unfold hdB
  rw [evSs_1 e1, evSs_1 e4]
  rfl
/-! the island -/
def acE : E := .app "_law_some" (.cons (.var 1) (.cons (.lst (.cons (.con (.int 0)) (.cons (.con (.int 5)) (.cons (.app "_law_take" (.cons (.var 1) (.cons (.con (.int 30)) .nil))) .nil)))) .nil))
def isB : List Gx.S := [.asg 6 (.tup (.cons (.var 4) (.cons (.var 5) (.cons acE .nil)))), .ifs (.cmp .ne (.app "checked_island" (.cons (.var 3) (.cons (.var 6) .nil))) (.var 6)) [.ret (.con (.bl false))] []]
theorem eq_is : eqD (isD i) (isD i) = some true := by
  simp [isD, wkD, eqD, toPy, toPys, SeqAt.shaped, PyData.canLay0, PyData.canLayAll0, PyData.depth, PyData.depthAll, PyData.eqv, PyData.eqvAll]
structure Dr (C : Int) (ws : List (Int × Int)) (i : Is) (p q : Int × Int) : Prop where
  pk : Pk C ws
  r1 : Wr ws i.x1 i.u1 i.m1 p
  r2 : Wr ws i.x2 i.u2 i.m2 q
  ac : 0 ≤ i.ac ∧ i.ac ≤ 30
theorem Dr.ik (d : Dr C ws i p q) : Ik C ws i p q := ⟨by have := d.pk.c2; omega, by have := d.pk.c21; omega, d.r1.wk d.pk, d.r2.wk d.pk⟩
theorem Dr.it (d : Dr C ws i p q) : It_ C ws i p q := ⟨d.ik, d.r1.at_, d.r2.at_, d.pk.w3⟩
theorem is_ok (hK : Cs c cl) (hP : Pk C ws) {x1 u1 m1 x2 u2 m2 : Int} (r1 : Wr ws x1 u1 m1 p) (r2 : Wr ws x2 u2 m2 q) (hF : Fo φ 18 [12, 15]) (g1 : φ.get 1 = some (.box 0)) (g3 : φ.get 3 = some (pgD C ws)) (g4 : φ.get 4 = some (wkD x1 u1 m1)) (g5 : φ.get 5 = some (wkD x2 u2 m2)) {bag : Bag} (hb : bag.Ok) (hc : bag.cells = cl) :
    ∃ (ψ : Fr) (bag' : Bag) (i : Is), bag'.Ok ∧ bag'.cells = cl ∧ Dr C ws i p q ∧ Fa ψ C ws i ∧ evSs c gl0 w isB φ (bagD bag :: Z) = .ok .nx ψ (bagD bag' :: Z) := by
  have t1 := hK.take bag Z 30 hb hc (by omega) (by omega)
  have v1 := bag.val_range (many := 30) (by omega)
  have o1 := hb.aft (many := 30) (by omega)
  have c1 : (bag.aft 30).cells = cl := by rw [Bag.aft_cells]; exact hc
  generalize bag.aft 30 = bag1 at t1 o1 c1
  generalize bag.val 30 = v at t1 v1
  obtain ⟨d, bag2, hd, o2, c2, ed⟩ := hK.some_ bag1 Z [.int 0, .int 5, .int v] o1 c1 (by simp) (by simp) (fun d hd => by
    simp only [List.mem_cons, List.not_mem_nil, or_false] at hd
    rcases hd with rfl | rfl | rfl <;> rfl)
  obtain ⟨ac, rfl, ha⟩ : ∃ ac : Int, d = .int ac ∧ 0 ≤ ac ∧ ac ≤ 30 := by
    simp only [List.mem_cons, List.not_mem_nil, or_false] at hd
    rcases hd with rfl | rfl | rfl
    · exact ⟨0, rfl, by omega, by omega⟩
    · exact ⟨5, rfl, by omega, by omega⟩
    · exact ⟨v, rfl, by omega, by omega⟩
  have ea : evE c gl0 acE φ (bagD bag :: Z) = .ok (.int ac) φ (bagD bag2 :: Z) := by
    simp [acE, evE, evEs, g1, t1, ed]
  obtain ⟨i, ei⟩ : ∃ i : Is, i = ⟨x1, u1, m1, x2, u2, m2, ac⟩ := ⟨_, rfl⟩
  have eD : isD i = .tup [wkD x1 u1 m1, wkD x2 u2 m2, .int ac] := by rw [ei]; rfl
  have hd : Dr C ws i p q := by
    subst ei
    exact ⟨hP, r1, r2, ha⟩
  obtain ⟨ψ, hF1, p6, n1, e1⟩ := asgO (w := w) (c := c) (gl := gl0) (S := bagD bag :: Z) (S' := bagD bag2 :: Z) (i := 6) (e := .tup (.cons (.var 4) (.cons (.var 5) (.cons acE .nil)))) (d := isD i) hF (by omega) (by
    rw [eD]
    generalize acE = E1 at ea ⊢
    simp [evE, evEs, g4, g5, ea]) rfl
  have ci := hK.ci (bagD bag2 :: Z) C ws (isD i) none (by
    have := If.tup (z := ac) (r1.wf hP) (r2.wf hP)
    rw [eD]
    have e : (if 0 ≤ ac ∧ ac ≤ 99 then none else some "across") = (none : Option String) := if_pos ⟨ha.1, by omega⟩
    have h2 : If C ws (.tup [wkD x1 u1 m1, wkD x2 u2 m2, .int ac]) (if 0 ≤ ac ∧ ac ≤ 99 then none else some "across") := this
    rw [e] at h2
    exact h2)
  have ci : c "checked_island" [pgD C ws, isD i] (bagD bag2 :: Z) = .ok (isD i) (bagD bag2 :: Z) := ci
  have p1 := (get_same (n1 1 (by omega))).trans g1
  have p3 := (get_same (n1 3 (by omega))).trans g3
  have p4 := (get_same (n1 4 (by omega))).trans g4
  have p5 := (get_same (n1 5 (by omega))).trans g5
  refine ⟨ψ, bag2, i, o2, c2, hd, ⟨hF1, p1, p3, by rw [p4, ei], by rw [p5, ei], p6⟩, ?_⟩
  have hq := eq_is (i := i)
  unfold isB
  rw [evSs_1 e1, evSs_1 ((ifsF (S' := bagD bag2 :: Z) (by simp [evE, evEs, p3, p6, ci, hq])).trans rfl)]
  rfl
/-! the things -/
def thI8 : E := .lst (.cons (.tup (.cons (.var 4) (.cons (.var 5) (.cons (.con (.int 100)) .nil)))) (.cons (.tup (.cons (.var 4) (.cons (.var 5) (.cons (.neg (.con (.int 1))) .nil)))) (.cons (.tup (.cons (.var 4) (.cons (.tup (.cons (.ix (.var 5) (.con (.int 0))) (.cons (.con (.int 0)) (.cons (.ix (.var 5) (.con (.int 2))) .nil)))) (.cons (.con (.int 3)) .nil)))) (.cons (.tup (.cons (.tup (.cons (.con (.int 9)) (.cons (.con (.int 1)) (.cons (.con (.int 1)) .nil)))) (.cons (.var 5) (.cons (.con (.int 3)) .nil)))) (.cons (.tup (.cons (.var 4) (.cons (.var 5) .nil))) (.cons (.lst (.cons (.var 4) (.cons (.var 5) (.cons (.con (.int 3)) .nil)))) (.cons (.tup (.cons (.var 4) (.cons (.var 5) (.cons (.con .non) .nil)))) (.cons (.tup (.cons (.var 4) (.cons (.con .non) (.cons (.con (.int 3)) .nil)))) .nil))))))))
def things (A B : D) (x m : Int) : List (D × String) := [(.tup [A, B, .int 100], "across"), (.tup [A, B, .int (-1)], "across"), (.tup [A, wkD x 0 m, .int 3], "walk"), (.tup [wkD 9 1 1, B, .int 3], "stream"), (.tup [A, B], "form"), (.lst [A, B, .int 3], "form"), (.tup [A, B, .non], "form"), (.tup [A, .non, .int 3], "form")]
theorem things_th (d : Dr C ws i p q) : ∀ a ∈ things (wkD i.x1 i.u1 i.m1) (wkD i.x2 i.u2 i.m2) i.x2 i.m2, Th C ws a.1 a.2 := by
  have f1 := d.r1.wf d.pk
  have f2 := d.r2.wf d.pk
  have hm : i.m2 ≤ 60 := by
    have := d.ik.k2.pC
    have := d.r2.um
    have := d.r2.u1
    have := d.pk.c21
    omega
  have fw : Wf C ws (wkD i.x2 0 i.m2) (some "walk") := .walk d.r2.at_ d.r2.m1 hm
  have fs : Wf C ws (wkD 9 1 1) (some "stream") := .stream d.pk.w3
  have fn : Wf C ws .non (some "form") := .non
  have k1 : PyData.strOk (Str.ofString "across") = true := by decide +kernel
  have k2 : PyData.strOk (Str.ofString "walk") = true := by decide +kernel
  have k3 : PyData.strOk (Str.ofString "stream") = true := by decide +kernel
  have k4 : PyData.strOk (Str.ofString "form") = true := by decide +kernel
  intro a ha
  simp only [things, List.mem_cons, List.not_mem_nil, or_false] at ha
  rcases ha with rfl | rfl | rfl | rfl | rfl | rfl | rfl | rfl
  · exact ⟨rfl, k1, If.tup (z := 100) f1 f2⟩
  · exact ⟨rfl, k1, If.tup (z := -1) f1 f2⟩
  · exact ⟨rfl, k2, If.tup (z := 3) f1 fw⟩
  · exact ⟨rfl, k3, If.tup (z := 3) fs f2⟩
  · exact ⟨rfl, k4, If.two rfl rfl⟩
  · exact ⟨rfl, k4, If.lst rfl rfl⟩
  · exact ⟨rfl, k4, If.non rfl rfl⟩
  · exact ⟨rfl, k4, If.tup (z := 3) f1 fn⟩
theorem things_ok (hK : Cs c cl) (d : Dr C ws i p q) (t : Fa φ C ws i) : ∃ ψ, Fa ψ C ws i ∧ evS c gl0 w (.for_ (.nm 7) (.seq thI8) thB) φ S = .ok .nx ψ S := by
  have b := ix_wk (x := i.x2) (u := i.u2) (m := i.m2)
  have hI : evI c gl0 (.seq thI8) φ S = .ok ((things (wkD i.x1 i.u1 i.m1) (wkD i.x2 i.u2 i.m2) i.x2 i.m2).map (·.1)) φ S := by
    simp [thI8, evI, evE, evEs, t.g4, t.g5, b, itemsD, things]
    exact ⟨rfl, rfl⟩
  obtain ⟨ψ, t1, e1⟩ := th_loop (w := w) (S := S) hK _ φ (things_th d) t
  exact ⟨ψ, t1, by rw [evS, hI, Gx.R.bind_ok, e1]⟩
end GxLaw
set_option Elab.async false
set_option linter.all false
set_option maxRecDepth 100000
/-! Mk10: what a turn asks. -/
namespace GxLaw
open PySem L2 Gx Ev
variable {w n : Nat} {S Z : Sto} {c : Call} {cl : List Int} {C x u m t k N z : Int} {ws : List (Int × Int)} {p q : Int × Int} {φ φ' : Fr} {i : Is}
structure Fb (φ : Fr) (C : Int) (ws : List (Int × Int)) (i : Is) : Prop where
  fa : Fa φ C ws i
  g9 : φ.get 9 = some (.int C)
theorem Fb.of {ψ : Fr} {j : Nat} (t : Fb φ C ws i) (hj : 10 ≤ j) (hF : Fo ψ 18 [12, 15]) (hn : ∀ l, l ≠ j → ψ[l]? = φ[l]?) : Fb ψ C ws i :=
  ⟨t.fa.of (by omega) hF hn, (get_same (hn 9 (by omega))).trans t.g9⟩
/-! one second; all ways -/
def lcWy (s : Nat) : E := .lc (.nm 13) (.rng (.cons (.var 9) .nil)) (.con (.bl true)) (.bin .sub (.app "_law_over" (.cons (.var s) (.cons (.var 6) (.cons (.var 13) .nil)))) (.var 13)) [13]
def oneB : List Gx.S := [.par [(9, false), (10, false)] (.cons (.ix (.var 3) (.con (.int 0))) (.cons (.bin .sub (.app "_law_take" (.cons (.var 1) (.cons (.con (.int 90)) .nil))) (.con (.int 30))) .nil)), .ifs (.not_ (.app "_law_alike" (.cons (.app "over_at" (.cons (.var 3) (.cons (.var 6) (.cons (.var 10) .nil)))) (.cons (.app "_law_over" (.cons (.var 3) (.cons (.var 6) (.cons (.var 10) .nil)))) .nil)))) [.ret (.con (.bl false))] [],
  .asg 11 (lcWy 3),
  .ifs (.not_ (.app "_law_alike" (.cons (.lst (.cons (.app "greatest_way" (.cons (.var 3) (.cons (.var 6) .nil))) (.cons (.app "sum_of_ways" (.cons (.var 3) (.cons (.var 6) .nil))) .nil))) (.cons (.lst (.cons (.bi .max (.cons (.var 11) .nil)) (.cons (.bi .sum (.cons (.var 11) .nil)) .nil))) .nil)))) [.ret (.con (.bl false))] []]
theorem wy_ok {s : Nat} {ws' : List (Int × Int)} {p' q' : Int × Int} (hK : Cs c cl) (hC : 0 < C) (hC1 : C < 1000) (h : Ik C ws' i p' q') (hs : s ≠ 13) (hF : Fo φ 18 [12, 15]) (gs : φ.get s = some (pgD C ws')) (g6 : φ.get 6 = some (isD i)) (g9 : φ.get 9 = some (.int C)) : evE c gl0 (lcWy s) φ S = .ok (.lst ((waysL C i p' q').map D.int)) φ S := by
  have hl := hF.len
  have hI : evI c gl0 (.rng (.cons (.var 9) .nil)) φ S = .ok ((secs C).map D.int) φ S := evI_secs (by simp [evE, evEs, g9]) rfl (by omega) hC1
  have e1 := lcnm (c := c) (glob := gl0) (k := 13) (e := .bin .sub (.app "_law_over" (.cons (.var s) (.cons (.var 6) (.cons (.var 13) .nil)))) (.var 13)) (by omega) (hF.all 13 (by simp)) hI (fun t => .int (ovI C i p' q' t - t)) (fun _ _ => ⟨rfl, rfl⟩) (fun t _ ψ h1 h2 => by
    have b1 : ψ.get s = some (pgD C ws') := (h2 s hs).trans gs
    have b6 : ψ.get 6 = some (isD i) := (h2 6 (by omega)).trans g6
    have := hK.lov S C ws' i p' q' t h
    generalize ovI C i p' q' t = v at this ⊢
    simp [evE, evEs, b1, b6, h1, this]) (by rw [secs_len]; omega)
  unfold waysL
  rw [List.map_map]
  exact e1
theorem one_ok (hK : Cs c cl) (d : Dr C ws i p q) (t : Fa φ C ws i) {bag : Bag} (hb : bag.Ok) (hc : bag.cells = cl) :
    ∃ (ψ : Fr) (bag' : Bag), bag'.Ok ∧ bag'.cells = cl ∧ Fb ψ C ws i ∧ evSs c gl0 w oneB φ (bagD bag :: Z) = .ok .nx ψ (bagD bag' :: Z) := by
  have t1 := hK.take bag Z 90 hb hc (by omega) (by omega)
  have o1 := hb.aft (many := 90) (by omega)
  have c1 : (bag.aft 90).cells = cl := by rw [Bag.aft_cells]; exact hc
  generalize bag.aft 90 = bag1 at t1 o1 c1
  have a := ix_pg (C := C) (ws := ws)
  obtain ⟨v, ev⟩ : ∃ v, v = bag.val 90 - 30 := ⟨_, rfl⟩
  obtain ⟨ψ, hF1, p9, p10, m1, e1⟩ := parF (w := w) (c := c) (S := bagD bag :: Z) (S1 := bagD bag :: Z) (S2 := bagD bag1 :: Z) (i := 9) (j := 10) (x := .int C) (y := .int v) (a := .ix (.var 3) (.con (.int 0))) (e := .bin .sub (.app "_law_take" (.cons (.var 1) (.cons (.con (.int 90)) .nil))) (.con (.int 30))) t.fo (by omega) (by omega) (by omega) (by simp [evE, t.g3, a]) (by simp [evE, evEs, t.g1, t1, ev]) rfl rfl
  have t2 : Fb ψ C ws i := ⟨⟨hF1, (get_same (m1 1 (by omega) (by omega))).trans t.g1, (get_same (m1 3 (by omega) (by omega))).trans t.g3, (get_same (m1 4 (by omega) (by omega))).trans t.g4, (get_same (m1 5 (by omega) (by omega))).trans t.g5, (get_same (m1 6 (by omega) (by omega))).trans t.g6⟩, p9⟩
  have h := d.ik
  have w1 := hK.ov (bagD bag1 :: Z) C ws i p q v h
  have w2 := hK.lov (bagD bag1 :: Z) C ws i p q v h
  generalize ovI C i p q v = y at w1 w2
  have s2 := ifsF (gl := gl0) (w := w) (φ := ψ) (a := [.ret (.con (.bl false))]) (b := []) (notA (x := .int y) (e1 := .app "over_at" (.cons (.var 3) (.cons (.var 6) (.cons (.var 10) .nil)))) (e2 := .app "_law_over" (.cons (.var 3) (.cons (.var 6) (.cons (.var 10) .nil)))) (by simp [evE, evEs, t2.fa.g3, t2.fa.g6, p10, w1]) (by simp [evE, evEs, t2.fa.g3, t2.fa.g6, p10, w2]) rfl (hK.alike (bagD bag1 :: Z) (.int y) 1 (.flat rfl) (by omega)))
  obtain ⟨χ, hF2, q11, m2, e3⟩ := asgO (w := w) (i := 11) t2.fa.fo (by omega) (wy_ok (S := bagD bag1 :: Z) (s := 3) hK h.c0 h.c1 h (by omega) t2.fa.fo t2.fa.g3 t2.fa.g6 t2.g9) rfl
  have t3 := t2.of (by omega) hF2 m2
  have w3 := hK.gw (bagD bag1 :: Z) C ws i p q h
  have w4 := hK.sw (bagD bag1 :: Z) C ws i p q h
  have hne := ways_ne (i := i) (p := p) (q := q) h.c0
  have emx := biE (c := c) (gl := gl0) (S := bagD bag1 :: Z) (S' := bagD bag1 :: Z) (φ := χ) (e := .var 11) (p := .max) (d := .lst ((waysL C i p q).map D.int)) (by rw [evE, q11]; rfl) (bi_max hne)
  have esm := biE (c := c) (gl := gl0) (S := bagD bag1 :: Z) (S' := bagD bag1 :: Z) (φ := χ) (e := .var 11) (p := .sum) (d := .lst ((waysL C i p q).map D.int)) (by rw [evE, q11]; rfl) (sum_ints _)
  generalize maxL (waysL C i p q) = mx at w3 emx
  generalize (waysL C i p q).sum = sm at w4 esm
  have s4 := ifsF (gl := gl0) (w := w) (φ := χ) (a := [.ret (.con (.bl false))]) (b := []) (notA (x := .lst [.int mx, .int sm]) (e1 := .lst (.cons (.app "greatest_way" (.cons (.var 3) (.cons (.var 6) .nil))) (.cons (.app "sum_of_ways" (.cons (.var 3) (.cons (.var 6) .nil))) .nil))) (e2 := .lst (.cons (.bi .max (.cons (.var 11) .nil)) (.cons (.bi .sum (.cons (.var 11) .nil)) .nil))) (by simp [evE, evEs, t3.fa.g3, t3.fa.g6, w3, w4]) (by
    generalize (.bi .max (.cons (.var 11) .nil) : E) = E1 at emx ⊢
    generalize (.bi .sum (.cons (.var 11) .nil) : E) = E2 at esm ⊢
    simp [evE, evEs, emx, esm]) rfl (hK.alike (bagD bag1 :: Z) (.lst [.int mx, .int sm]) _ (.lst (.cons (.flat rfl) (.cons (.flat rfl) .nil))) (by omega)))
  refine ⟨χ, bag1, o1, c1, t3, ?_⟩
  unfold oneB
  rw [evSs_1 e1, evSs_1 (s2.trans rfl), evSs_1 e3, evSs_1 (s4.trans rfl)]
  rfl
/-! ways through -/
def thruS : List Gx.S := [.asg 14 (.bin .add (.bin .add (.bin .add (.var 13) (.app "_law_wait" (.cons (.var 3) (.cons (.var 4) (.cons (.var 13) .nil))))) (.ix (.var 4) (.con (.int 2)))) (.ix (.var 6) (.con (.int 2)))), .ex (.mu .append (.var 12) (.cons (.cmp .eq (.app "wait" (.cons (.var 3) (.cons (.var 5) (.cons (.var 14) .nil)))) (.con (.int 0))) .nil))]
theorem thru_loop (hK : Cs c cl) (h : Ik C ws i p q) : ∀ (l : List Int) (done : List Bool) (φ : Fr), Fb φ C ws i → φ[12]? = some (.own true (.lst (done.map .bl))) → done.length + l.length < 10000 →
    ∃ ψ, Fb ψ C ws i ∧ ψ[12]? = some (.own true (.lst ((done ++ l.map (wt0 C i p q)).map .bl))) ∧ each (fun x φ S => (ofO (asgT (.nm 13) x φ) φ S).bind fun φ _ S => evSs c gl0 w thruS φ S) (l.map .int) φ S = .ok .nx ψ S
  | [], done, φ, t, g, _ => ⟨φ, t, by simpa using g, rfl⟩
  | v :: l, done, φ, t, g, hz => by
    rw [List.length_cons] at hz
    obtain ⟨ψ, hF1, p13, m1, e1⟩ := forO (S := S) (i := 13) (d := .int v) t.fa.fo (by omega) rfl
    have t1 := t.of (by omega) hF1 m1
    have g1 := (m1 12 (by omega)).trans g
    have w1 := hK.lwt S C ws i p q v h
    have b := ix_wk (x := i.x1) (u := i.u1) (m := i.m1)
    have b2 := ix_is (i := i)
    obtain ⟨χ, hF2, q14, m2, e2⟩ := asgO (w := w) (c := c) (gl := gl0) (S := S) (S' := S) (i := 14) (e := .bin .add (.bin .add (.bin .add (.var 13) (.app "_law_wait" (.cons (.var 3) (.cons (.var 4) (.cons (.var 13) .nil))))) (.ix (.var 4) (.con (.int 2)))) (.ix (.var 6) (.con (.int 2)))) (d := .int (thI C i p v)) t1.fa.fo (by omega) (by
      unfold thI
      generalize wtI C p.1 (p.2 - i.m1) v = y at w1 ⊢
      simp [evE, evEs, t1.fa.g3, t1.fa.g4, t1.fa.g6, p13, w1, b, b2]) rfl
    have t2 := t1.of (by omega) hF2 m2
    have g2 := (m2 12 (by omega)).trans g1
    have w2 := hK.wt S C ws i p q (thI C i p v) h
    obtain ⟨ρ, hF3, r12, m3, e3⟩ := appO (w := w) (c := c) (gl := gl0) (S := S) (S' := S) (i := 12) (e := .cmp .eq (.app "wait" (.cons (.var 3) (.cons (.var 5) (.cons (.var 14) .nil)))) (.con (.int 0))) (d := .bl (wt0 C i p q v)) t2.fa.fo (by omega) (by simp) g2 (by
      unfold wt0
      generalize thI C i p v = y at w2 q14 ⊢
      generalize wtI C q.1 (q.2 - i.m2) y = y2 at w2 ⊢
      simp [evE, evEs, t2.fa.g3, t2.fa.g5, q14, w2]) rfl (by rw [List.length_map]; omega)
    have t3 := t2.of (by omega) hF3 m3
    have r12 : ρ[12]? = some (.own true (.lst ((done ++ [wt0 C i p q v]).map .bl))) := by rw [r12, List.map_append]; rfl
    obtain ⟨σ, t4, g4, e4⟩ := thru_loop hK h l (done ++ [wt0 C i p q v]) ρ t3 r12 (by rw [List.length_append, List.length_singleton]; omega)
    refine ⟨σ, t4, by rw [g4, List.append_assoc]; rfl, ?_⟩
    rw [List.map_cons, each_nx (φ' := ρ) (S' := S)]
    · exact e4
    · show (ofO (asgT (.nm 13) (.int v) φ) φ S).bind _ = _
      rw [e1, Gx.R.bind_ok]
      unfold thruS
      rw [evSs_1 e2, evSs_1 e3]
      rfl
theorem in_bls {l : List Bool} : inD (.bl false) (.lst (l.map .bl)) = some (l.any (!·)) := by
  unfold inD
  have h1 : (l.map D.bl).all flatD = true := by
    rw [List.all_map]
    exact List.all_eq_true.mpr fun _ _ => rfl
  simp only [h1, flatD, Bool.and_self, if_pos]
  rw [List.any_map]
  congr 2
  funext b
  cases b <;> rfl
theorem any_all {l : List Int} {f : Int → Bool} : (!(l.map f).any (!·)) = l.all f := by
  rw [List.any_map]
  induction l with
  | nil => rfl
  | cons a r ih =>
    rw [List.any_cons, List.all_cons, Bool.not_or, ih]
    simp
def thruP : List Gx.S := [.own 12 (.lst .nil), .for_ (.nm 13) (.rng (.cons (.var 9) .nil)) thruS, .ifs (.not_ (.app "_law_alike" (.cons (.app "is_through" (.cons (.var 3) (.cons (.var 6) .nil))) (.cons (.cmp .notin (.con (.bl false)) (.var 12)) .nil)))) [.ret (.con (.bl false))] []]
theorem thruP_ok (hK : Cs c cl) (h : Ik C ws i p q) (t : Fb φ C ws i) : ∃ ψ, Fb ψ C ws i ∧ evSs c gl0 w thruP φ S = .ok .nx ψ S := by
  obtain ⟨ψ, hF1, p12, m1, e1⟩ := ownO (w := w) (c := c) (gl := gl0) (S := S) (S' := S) (i := 12) (e := .lst .nil) (l := []) t.fa.fo (by omega) (by simp) (by simp [evF, evE, evEs])
  have t1 := t.of (by omega) hF1 m1
  have hI : evI c gl0 (.rng (.cons (.var 9) .nil)) ψ S = .ok ((secs C).map D.int) ψ S := evI_secs (by simp [evE, evEs, t1.g9]) rfl (by have := h.c0; omega) h.c1
  obtain ⟨χ, t2, q12, e2⟩ := thru_loop (w := w) (S := S) hK h (secs C) [] ψ t1 p12 (by rw [secs_len]; have := h.c1; simp; omega)
  rw [List.nil_append] at q12
  have w1 := hK.thru S C ws i p q h
  have hin := in_bls (l := (secs C).map (wt0 C i p q))
  have ha := any_all (l := secs C) (f := wt0 C i p q)
  have hal := hK.alike S (.bl ((secs C).all (wt0 C i p q))) 1 (.flat rfl) (by omega)
  have hg : χ.get 12 = some (.oref 12) := by
    unfold Fr.get
    rw [q12]
  have hlk : look χ S (.oref 12) = .lst (((secs C).map (wt0 C i p q)).map .bl) := by
    simp [Gx.look, q12]
  refine ⟨χ, t2, ?_⟩
  unfold thruP
  rw [evSs_1 e1, evSs_1 (by rw [evS, hI, Gx.R.bind_ok]; exact e2)]
  rw [← ha] at hal w1
  generalize ((secs C).map (wt0 C i p q)).map D.bl = L at hin hlk
  generalize ((secs C).map (wt0 C i p q)).any (!·) = b at hin hal w1
  rw [evSs_1 ((ifsF (notA (x := .bl (!b)) (by simp [evE, evEs, t2.fa.g3, t2.fa.g6, w1]) (by simp [evE, hg, hlk, hin]) rfl hal)).trans rfl)]
  rfl
/-! the best turn -/
def btS : List Gx.S := [.asg 17 (.app "_law_turned" (.cons (.var 3) (.cons (.ix (.var 5) (.con (.int 0))) (.cons (.var 16) .nil)))), .ex (.mu .append (.var 15) (.cons (.bi .sum (.cons (lcWy 17) .nil)) .nil))]
theorem bt_loop (hK : Cs c cl) (h : It_ C ws i p q) : ∀ (l : List Int) (done : List Int) (φ : Fr), Fb φ C ws i → φ[15]? = some (.own true (.lst (done.map .int))) → done.length + l.length < 10000 →
    ∃ ψ, Fb ψ C ws i ∧ ψ[15]? = some (.own true (.lst ((done ++ l.map (sumT C i p q)).map .int))) ∧ each (fun x φ S => (ofO (asgT (.nm 16) x φ) φ S).bind fun φ _ S => evSs c gl0 w btS φ S) (l.map .int) φ S = .ok .nx ψ S
  | [], done, φ, t, g, _ => ⟨φ, t, by simpa using g, rfl⟩
  | v :: l, done, φ, t, g, hz => by
    rw [List.length_cons] at hz
    obtain ⟨ψ, hF1, p16, m1, e1⟩ := forO (S := S) (i := 16) (d := .int v) t.fa.fo (by omega) rfl
    have t1 := t.of (by omega) hF1 m1
    have g1 := (m1 15 (by omega)).trans g
    have w1 := hK.lt S C ws i.x2 v q h.ik.c0 h.w3 h.a2
    have b := ix_wk (x := i.x2) (u := i.u2) (m := i.m2)
    obtain ⟨χ, hF2, q17, m2, e2⟩ := asgO (w := w) (c := c) (gl := gl0) (S := S) (S' := S) (i := 17) (e := .app "_law_turned" (.cons (.var 3) (.cons (.ix (.var 5) (.con (.int 0))) (.cons (.var 16) .nil)))) (d := pgD C (tw ws i.x2 C v)) t1.fa.fo (by omega) (by
      generalize tw ws i.x2 C v = ws' at w1 ⊢
      simp [evE, evEs, t1.fa.g3, t1.fa.g5, p16, w1, b]) rfl
    have t2 := t1.of (by omega) hF2 m2
    have g2 := (m2 15 (by omega)).trans g1
    have ew := wy_ok (S := S) (s := 17) hK h.ik.c0 h.ik.c1 (h.turn (k := v)) (by omega) t2.fa.fo q17 t2.fa.g6 t2.g9
    obtain ⟨ρ, hF3, r15, m3, e3⟩ := appO (w := w) (c := c) (gl := gl0) (S := S) (S' := S) (i := 15) (e := .bi .sum (.cons (lcWy 17) .nil)) (d := .int (sumT C i p q v)) t2.fa.fo (by omega) (by simp) g2 (biE ew (sum_ints _)) rfl (by rw [List.length_map]; omega)
    have t3 := t2.of (by omega) hF3 m3
    have r15 : ρ[15]? = some (.own true (.lst ((done ++ [sumT C i p q v]).map .int))) := by rw [r15, List.map_append]; rfl
    obtain ⟨σ, t4, g4, e4⟩ := bt_loop hK h l (done ++ [sumT C i p q v]) ρ t3 r15 (by rw [List.length_append, List.length_singleton]; omega)
    refine ⟨σ, t4, by rw [g4, List.append_assoc]; rfl, ?_⟩
    rw [List.map_cons, each_nx (φ' := ρ) (S' := S)]
    · exact e4
    · show (ofO (asgT (.nm 16) (.int v) φ) φ S).bind _ = _
      rw [e1, Gx.R.bind_ok]
      unfold btS
      rw [evSs_1 e2, evSs_1 e3]
      rfl
def btP : List Gx.S := [.own 15 (.lst .nil), .for_ (.nm 16) (.rng (.cons (.var 9) .nil)) btS, .ifs (.not_ (.app "_law_alike" (.cons (.app "best_turn" (.cons (.var 3) (.cons (.var 6) .nil))) (.cons (.idx (.var 15) (.cons (.bi .min (.cons (.var 15) .nil)) .nil)) .nil)))) [.ret (.con (.bl false))] []]
theorem btP_ok (hK : Cs c cl) (h : It_ C ws i p q) (t : Fb φ C ws i) : ∃ ψ, Fb ψ C ws i ∧ evSs c gl0 w btP φ S = .ok .nx ψ S := by
  obtain ⟨ψ, hF1, p15, m1, e1⟩ := ownO (w := w) (c := c) (gl := gl0) (S := S) (S' := S) (i := 15) (e := .lst .nil) (l := []) t.fa.fo (by omega) (by simp) (by simp [evF, evE, evEs])
  have t1 := t.of (by omega) hF1 m1
  have hI : evI c gl0 (.rng (.cons (.var 9) .nil)) ψ S = .ok ((secs C).map D.int) ψ S := evI_secs (by simp [evE, evEs, t1.g9]) rfl (by have := h.ik.c0; omega) h.ik.c1
  obtain ⟨χ, t2, q15, e2⟩ := bt_loop (w := w) (S := S) hK h (secs C) [] ψ t1 p15 (by rw [secs_len]; have := h.ik.c1; simp; omega)
  rw [List.nil_append] at q15
  obtain ⟨j, hj, w1⟩ := hK.bt S C ws i p q h
  have hne : (secs C).map (sumT C i p q) ≠ [] := fun z => by
    have := congrArg List.length z
    rw [List.length_map, secs_len] at this
    have := h.ik.c0
    simp at *
    omega
  have hmin := bi_min hne
  have hint := intsOf_map' ((secs C).map (sumT C i p q))
  have hg : χ.get 15 = some (.oref 15) := by
    unfold Fr.get
    rw [q15]
  have hlk : look χ S (.oref 15) = .lst (((secs C).map (sumT C i p q)).map .int) := by
    simp [Gx.look, q15]
  generalize ((secs C).map (sumT C i p q)) = L at hj hmin hint hlk q15
  have emn := biE (c := c) (gl := gl0) (S := S) (S' := S) (φ := χ) (e := .var 15) (p := .min) (d := .oref 15) (by rw [evE, hg]; rfl) (by rw [hlk]; exact hmin)
  have hix : indexD (.lst (L.map .int)) [.int (minL L)] = some (.int j) := by
    unfold indexD
    simp only [hint, hj]
    rfl
  generalize (L.map D.int) = M at hlk hix q15
  generalize minL L = mn at hix emn
  have hal := hK.alike S (.int j) 1 (.flat rfl) (by omega)
  generalize (j : Int) = jj at w1 hix hal
  refine ⟨χ, t2, ?_⟩
  unfold btP
  rw [evSs_1 e1, evSs_1 (by rw [evS, hI, Gx.R.bind_ok]; exact e2)]
  rw [evSs_1 ((ifsF (notA (x := .int jj) (by simp [evE, evEs, t2.fa.g3, t2.fa.g6, w1]) (by
    generalize (.bi .min (.cons (.var 15) .nil) : E) = E1 at emn ⊢
    simp [evE, evEs, hg, q15, emn, hix, isLst]) rfl hal)).trans rfl)]
  rfl
end GxLaw
set_option Elab.async false
set_option linter.all false
set_option maxRecDepth 100000
/-! M10: the law is true. -/
namespace GxLaw
open PySem L2 Gx Ev
variable {w n : Nat} {S Z : Sto} {c : Call} {cl : List Int} {φ : Fr} {C : Int} {ws : List (Int × Int)} {p q : Int × Int} {i : Is}
def restB : List Gx.S := isB ++ (.for_ (.nm 7) (.seq thI8) thB :: (oneB ++ (thruP ++ btP)))
def turnB : List Gx.S := hdB ++ (ctS :: restB)
theorem evSs_c {s : Gx.S} {m : List Gx.S} {φ φ' : Fr} {S S' : Sto} (h : evS c gl0 w s φ S = .ok .cont φ' S') : evSs c gl0 w (s :: m) φ S = .ok .cont φ' S' := by
  rw [evSs, h]
  rfl
theorem rest_ok (hK : Cs c cl) (hP : Pk C ws) {x1 u1 m1 x2 u2 m2 : Int} (r1 : Wr ws x1 u1 m1 p) (r2 : Wr ws x2 u2 m2 q) (hF : Fo φ 18 [12, 15]) (g1 : φ.get 1 = some (.box 0)) (g3 : φ.get 3 = some (pgD C ws)) (g4 : φ.get 4 = some (wkD x1 u1 m1)) (g5 : φ.get 5 = some (wkD x2 u2 m2)) {bag : Bag} (hb : bag.Ok) (hc : bag.cells = cl) :
    ∃ (ψ : Fr) (bag' : Bag), bag'.Ok ∧ bag'.cells = cl ∧ Fo ψ 18 [12, 15] ∧ ψ.get 1 = some (.box 0) ∧ evSs c gl0 w restB φ (bagD bag :: Z) = .ok .nx ψ (bagD bag' :: Z) := by
  obtain ⟨φ1, bag1, i, o1, c1, d, t1, e1⟩ := is_ok (w := w) (Z := Z) hK hP r1 r2 hF g1 g3 g4 g5 hb hc
  obtain ⟨φ2, t2, e2⟩ := things_ok (w := w) (S := bagD bag1 :: Z) hK d t1
  obtain ⟨φ3, bag3, o3, c3, t3, e3⟩ := one_ok (w := w) (Z := Z) hK d t2 o1 c1
  obtain ⟨φ4, t4, e4⟩ := thruP_ok (w := w) (S := bagD bag3 :: Z) hK d.ik t3
  obtain ⟨φ5, t5, e5⟩ := btP_ok (w := w) (S := bagD bag3 :: Z) hK d.it t4
  refine ⟨φ5, bag3, o3, c3, t5.fa.fo, t5.fa.g1, ?_⟩
  unfold restB
  rw [evSs_nx e1, evSs_1 e2, evSs_nx e3, evSs_nx e4]
  exact e5
theorem isnW {e : E} {x u m : Int} (he : evE c gl0 e φ S = .ok (wkD x u m) φ S) : evE c gl0 (.cmp .is_ e (.con .non)) φ S = .ok (.bl false) φ S := by
  rw [evE, he]
  rfl
theorem isnN {e : E} (he : evE c gl0 e φ S = .ok .non φ S) : evE c gl0 (.cmp .is_ e (.con .non)) φ S = .ok (.bl true) φ S := by
  rw [evE, he]
  rfl
theorem orT {e1 e2 : E} (h1 : evE c gl0 e1 φ S = .ok (.bl true) φ S) : evE c gl0 (.or_ e1 e2) φ S = .ok (.bl true) φ S := by
  rw [evE, h1]
  rfl
theorem turn_ok (hK : Cs c cl) (hF : Fo φ 18 [12, 15]) (g1 : φ.get 1 = some (.box 0)) {bag : Bag} (hb : bag.Ok) (hc : bag.cells = cl) : ∃ (ψ : Fr) (bag' : Bag), bag'.Ok ∧ bag'.cells = cl ∧ Fo ψ 18 [12, 15] ∧ ψ.get 1 = some (.box 0) ∧
    (evSs c gl0 w turnB φ (bagD bag :: Z) = .ok .nx ψ (bagD bag' :: Z) ∨ evSs c gl0 w turnB φ (bagD bag :: Z) = .ok .cont ψ (bagD bag' :: Z)) := by
  obtain ⟨ψ, bag1, C, ws, A, B, o1, c1, hP, hA, hB, hF1, p1, p3, p4, p5, e1⟩ := hd_ok (w := w) (Z := Z) hK hF g1 hb hc
  have cont : evE c gl0 (.or_ (.cmp .is_ (.var 4) (.con .non)) (.cmp .is_ (.var 5) (.con .non))) ψ (bagD bag1 :: Z) = .ok (.bl true) ψ (bagD bag1 :: Z) → evSs c gl0 w turnB φ (bagD bag :: Z) = .ok .cont ψ (bagD bag1 :: Z) := fun he => by
    unfold turnB
    rw [evSs_nx e1]
    refine evSs_c ?_
    unfold ctS
    rw [ifsT he]
    rfl
  rcases hA with rfl | ⟨x1, u1, m1, p, r1, rfl⟩
  · exact ⟨ψ, bag1, o1, c1, hF1, p1, .inr (cont (orT (isnN (by rw [evE, p4]; rfl))))⟩
  · have i4 := isnW (c := c) (S := bagD bag1 :: Z) (φ := ψ) (e := .var 4) (by rw [evE, p4]; rfl)
    rcases hB with rfl | ⟨x2, u2, m2, q, r2, rfl⟩
    · exact ⟨ψ, bag1, o1, c1, hF1, p1, .inr (cont ((orF i4).trans (isnN (by rw [evE, p5]; rfl))))⟩
    · have i5 := isnW (c := c) (S := bagD bag1 :: Z) (φ := ψ) (e := .var 5) (by rw [evE, p5]; rfl)
      obtain ⟨χ, bag2, o2, c2, hF2, q1, e2⟩ := rest_ok (w := w) (Z := Z) hK hP r1 r2 hF1 p1 p3 p4 p5 o1 c1
      refine ⟨χ, bag2, o2, c2, hF2, q1, .inl ?_⟩
      unfold turnB
      rw [evSs_nx e1, evSs_1 (by unfold ctS; exact (ifsF ((orF i4).trans i5)).trans rfl)]
      exact e2
theorem each_cont {body : D → Fr → Sto → R Flow'} {x : D} {r : List D} {φ φ' : Fr} {S S' : Sto} (h : body x φ S = .ok .cont φ' S') : each body (x :: r) φ S = each body r φ' S' := by
  rw [each, h]
  rfl
theorem turns_ok (hK : Cs c cl) : ∀ (l : List Nat) (φ : Fr) (bag : Bag), Fo φ 18 [12, 15] → φ.get 1 = some (.box 0) → bag.Ok → bag.cells = cl →
    ∃ (ψ : Fr) (bag' : Bag), each (fun x φ S => (ofO (asgT (.nm 2) x φ) φ S).bind fun φ _ S => evSs c gl0 w turnB φ S) (l.map fun (k : Nat) => D.int k) φ (bagD bag :: Z) = .ok .nx ψ (bagD bag' :: Z)
  | [], φ, bag, hF, g1, hb, hc => ⟨φ, bag, rfl⟩
  | i :: l, φ, bag, hF, g1, hb, hc => by
    obtain ⟨ξ, hF2, h2, hn, e1⟩ := forO (S := bagD bag :: Z) (i := 2) (d := .int i) hF (by omega) rfl
    obtain ⟨ψ, bag1, o1, c1, hF3, g3, e2⟩ := turn_ok (w := w) (Z := Z) hK hF2 ((get_same (hn 1 (by omega))).trans g1) hb hc
    obtain ⟨χ, bag2, e3⟩ := turns_ok hK l ψ bag1 hF3 g3 o1 c1
    refine ⟨χ, bag2, ?_⟩
    rw [List.map_cons]
    rcases e2 with e2 | e2
    · rw [each_nx (φ' := ψ) (S' := bagD bag1 :: Z)]
      · exact e3
      · show (ofO (asgT (.nm 2) (.int i) φ) φ (bagD bag :: Z)).bind _ = _
        rw [e1, Gx.R.bind_ok]
        exact e2
    · rw [each_cont (φ' := ψ) (S' := bagD bag1 :: Z)]
      · exact e3
      · show (ofO (asgT (.nm 2) (.int i) φ) φ (bagD bag :: Z)).bind _ = _
        rw [e1, Gx.R.bind_ok]
        exact e2
theorem law_true : ∀ ns : List Int, ns.length ≤ 63 → ∃ S, run tab gl0 100000 12 "law" [.scr ns] [] = .ok (.bl true) S := by
  intro ns hn
  have hbag := Gx.bag_ok (T := tab) (glob := gl0) (w := 100000) (n := 10) (S := []) (ns := ns) t__law_bag hn
  have hz0 : (ns.map absI).length + 1 ≤ sizeLine := by
    rw [sizeLine_eq, List.length_map]
    omega
  have hK := cs_run (n := 3) (cl := ns.map absI) hz0
  rw [run_at t_law rfl]
  show ∃ S, endR (evSs (run tab gl0 100000 11) gl0 100000 b_law (startF 18 [.scr ns]) []) = _
  have hK : Cs (run tab gl0 100000 11) (ns.map absI) := hK
  have hbag : run tab gl0 100000 11 "_law_bag" [.scr ns] [] = .ok (.box 0) [bagD (bag0 ns)] := hbag
  generalize run tab gl0 100000 11 = c at hK hbag ⊢
  have hb : b_law = [.asg 1 (.app "_law_bag" (.cons (.var 0) .nil)), .for_ (.nm 2) (.rng (.cons (.con (.int 4)) .nil)) turnB, .ret (.con (.bl true))] := rfl
  have hF0 : Fo (startF 18 [.scr ns]) 18 [12, 15] := by
    refine ⟨rfl, fun i _ => ?_⟩
    unfold plainS
    cases e : (startF 18 [.scr ns])[i]? with
    | none => rfl
    | some s =>
      have := List.mem_of_getElem? e
      simp [startF, List.replicate] at this
      rcases this with rfl | rfl <;> rfl
  obtain ⟨φ1, hF1, h1, _, e1⟩ := asgO (w := 100000) (c := c) (gl := gl0) (S := []) (S' := [bagD (bag0 ns)]) (i := 1) (e := .app "_law_bag" (.cons (.var 0) .nil)) (d := .box 0) hF0 (by omega) (by
    have : (startF 18 [.scr ns]).get 0 = some (.scr ns) := rfl
    simp [evE, evEs, this, hbag]) rfl
  obtain ⟨φ2, bag2, e2⟩ := turns_ok (w := 100000) (Z := []) hK (List.range 4) φ1 (bag0 ns) hF1 h1 (bag0_ok ns) rfl
  have hI : evI c gl0 (.rng (.cons (.con (.int 4)) .nil)) φ1 [bagD (bag0 ns)] = .ok ((List.range 4).map fun (k : Nat) => D.int k) φ1 [bagD (bag0 ns)] :=
    evI_r1 (n := 4) (by simp [evE, evEs]) rfl (by omega)
  refine ⟨[bagD bag2], ?_⟩
  rw [hb, evSs_1 e1, evSs, evS, hI, Gx.R.bind_ok, e2]
  rfl
end GxLaw
set_option Elab.async false
set_option linter.all false
set_option maxRecDepth 100000
set_option maxHeartbeats 4000000
set_option pp.maxSteps 300
set_option pp.deepTerms false
namespace GxLaw
open PySem L2 Gx
abbrev ent_is_integer (f : Addr) (fd : FuncData) : Ent := ⟨"is_integer", "is_integer", topS 7, f, fd, n_is_integer, ["thing"], b_is_integer, none⟩
theorem ok_is_integer {K : PySem.W.Frag} {mg : Str → Option Value} {f : Addr} {fd : FuncData} (F : Fun K "is_integer" "is_integer" (topS 7) f fd) (g : mg "is_integer" = some (.ref f)) : EntOk K mg lstL 60 (ent_is_integer f fd) :=
  ⟨F, sc_is_integer, g, F.kp, F.binds (ps := ["thing"]) fun _ _ _ _ _ _ us hl => match us, hl with | [_], _ => rfl, (by decide : (("is_integer" : Str) == ("__debug__" : Str)) = false), ck_is_integer, (fun t e => by cases e)⟩
abbrev ent_is_within (f : Addr) (fd : FuncData) : Ent := ⟨"is_within", "is_within", topS 8, f, fd, n_is_within, ["thing", "least", "most"], b_is_within, none⟩
theorem ok_is_within {K : PySem.W.Frag} {mg : Str → Option Value} {f : Addr} {fd : FuncData} (F : Fun K "is_within" "is_within" (topS 8) f fd) (g : mg "is_within" = some (.ref f)) : EntOk K mg lstL 60 (ent_is_within f fd) :=
  ⟨F, sc_is_within, g, F.kp, F.binds (ps := ["thing", "least", "most"]) fun _ _ _ _ _ _ us hl => match us, hl with | [_, _, _], _ => rfl, (by decide : (("is_within" : Str) == ("__debug__" : Str)) = false), ck_is_within, (fun t e => by cases e)⟩
abbrev ent_are_all (f : Addr) (fd : FuncData) : Ent := ⟨"are_all", "are_all", topS 9, f, fd, n_are_all, ["thing", "fits"], b_are_all, none⟩
theorem ok_are_all {K : PySem.W.Frag} {mg : Str → Option Value} {f : Addr} {fd : FuncData} (F : Fun K "are_all" "are_all" (topS 9) f fd) (g : mg "are_all" = some (.ref f)) : EntOk K mg lstL 60 (ent_are_all f fd) :=
  ⟨F, sc_are_all, g, F.kp, F.binds (ps := ["thing", "fits"]) fun _ _ _ _ _ _ us hl => match us, hl with | [_, _], _ => rfl, (by decide : (("are_all" : Str) == ("__debug__" : Str)) = false), ck_are_all, (fun t e => by cases e)⟩
abbrev ent_are_integers (f : Addr) (fd : FuncData) : Ent := ⟨"are_integers", "are_integers", topS 10, f, fd, n_are_integers, ["thing"], b_are_integers, none⟩
theorem ok_are_integers {K : PySem.W.Frag} {mg : Str → Option Value} {f : Addr} {fd : FuncData} (F : Fun K "are_integers" "are_integers" (topS 10) f fd) (g : mg "are_integers" = some (.ref f)) : EntOk K mg lstL 60 (ent_are_integers f fd) :=
  ⟨F, sc_are_integers, g, F.kp, F.binds (ps := ["thing"]) fun _ _ _ _ _ _ us hl => match us, hl with | [_], _ => rfl, (by decide : (("are_integers" : Str) == ("__debug__" : Str)) = false), ck_are_integers, (fun t e => by cases e)⟩
abbrev ent_age (f : Addr) (fd : FuncData) : Ent := ⟨"age", "age", topS 12, f, fd, n_age, ["program", "stream", "second"], b_age, none⟩
theorem ok_age {K : PySem.W.Frag} {mg : Str → Option Value} {f : Addr} {fd : FuncData} (F : Fun K "age" "age" (topS 12) f fd) (g : mg "age" = some (.ref f)) : EntOk K mg lstL 60 (ent_age f fd) :=
  ⟨F, sc_age, g, F.kp, F.binds (ps := ["program", "stream", "second"]) fun _ _ _ _ _ _ us hl => match us, hl with | [_, _, _], _ => rfl, (by decide : (("age" : Str) == ("__debug__" : Str)) = false), ck_age, (fun t e => by cases e)⟩
abbrev ent_checked_walk (f : Addr) (fd : FuncData) : Ent := ⟨"checked_walk", "checked_walk", topS 15, f, fd, n_checked_walk, ["program", "thing"], b_checked_walk, none⟩
theorem ok_checked_walk {K : PySem.W.Frag} {mg : Str → Option Value} {f : Addr} {fd : FuncData} (F : Fun K "checked_walk" "checked_walk" (topS 15) f fd) (g : mg "checked_walk" = some (.ref f)) : EntOk K mg lstL 60 (ent_checked_walk f fd) :=
  ⟨F, sc_checked_walk, g, F.kp, F.binds (ps := ["program", "thing"]) fun _ _ _ _ _ _ us hl => match us, hl with | [_, _], _ => rfl, (by decide : (("checked_walk" : Str) == ("__debug__" : Str)) = false), ck_checked_walk, (fun t e => by cases e)⟩
abbrev ent_begin_seconds (f : Addr) (fd : FuncData) : Ent := ⟨"begin_seconds", "begin_seconds", topS 16, f, fd, n_begin_seconds, ["program", "walk"], b_begin_seconds, none⟩
theorem ok_begin_seconds {K : PySem.W.Frag} {mg : Str → Option Value} {f : Addr} {fd : FuncData} (F : Fun K "begin_seconds" "begin_seconds" (topS 16) f fd) (g : mg "begin_seconds" = some (.ref f)) : EntOk K mg lstL 60 (ent_begin_seconds f fd) :=
  ⟨F, sc_begin_seconds, g, F.kp, F.binds (ps := ["program", "walk"]) fun _ _ _ _ _ _ us hl => match us, hl with | [_, _], _ => rfl, (by decide : (("begin_seconds" : Str) == ("__debug__" : Str)) = false), ck_begin_seconds, (fun t e => by cases e)⟩
abbrev ent_may_begin (f : Addr) (fd : FuncData) : Ent := ⟨"may_begin", "may_begin", topS 17, f, fd, n_may_begin, ["program", "walk", "second"], b_may_begin, none⟩
theorem ok_may_begin {K : PySem.W.Frag} {mg : Str → Option Value} {f : Addr} {fd : FuncData} (F : Fun K "may_begin" "may_begin" (topS 17) f fd) (g : mg "may_begin" = some (.ref f)) : EntOk K mg lstL 60 (ent_may_begin f fd) :=
  ⟨F, sc_may_begin, g, F.kp, F.binds (ps := ["program", "walk", "second"]) fun _ _ _ _ _ _ us hl => match us, hl with | [_, _, _], _ => rfl, (by decide : (("may_begin" : Str) == ("__debug__" : Str)) = false), ck_may_begin, (fun t e => by cases e)⟩
abbrev ent_wait (f : Addr) (fd : FuncData) : Ent := ⟨"wait", "wait", topS 18, f, fd, n_wait, ["program", "walk", "second"], b_wait, none⟩
theorem ok_wait {K : PySem.W.Frag} {mg : Str → Option Value} {f : Addr} {fd : FuncData} (F : Fun K "wait" "wait" (topS 18) f fd) (g : mg "wait" = some (.ref f)) : EntOk K mg lstL 60 (ent_wait f fd) :=
  ⟨F, sc_wait, g, F.kp, F.binds (ps := ["program", "walk", "second"]) fun _ _ _ _ _ _ us hl => match us, hl with | [_, _, _], _ => rfl, (by decide : (("wait" : Str) == ("__debug__" : Str)) = false), ck_wait, (fun t e => by cases e)⟩
abbrev ent_checked_island (f : Addr) (fd : FuncData) : Ent := ⟨"checked_island", "checked_island", topS 21, f, fd, n_checked_island, ["program", "thing"], b_checked_island, none⟩
theorem ok_checked_island {K : PySem.W.Frag} {mg : Str → Option Value} {f : Addr} {fd : FuncData} (F : Fun K "checked_island" "checked_island" (topS 21) f fd) (g : mg "checked_island" = some (.ref f)) : EntOk K mg lstL 60 (ent_checked_island f fd) :=
  ⟨F, sc_checked_island, g, F.kp, F.binds (ps := ["program", "thing"]) fun _ _ _ _ _ _ us hl => match us, hl with | [_, _], _ => rfl, (by decide : (("checked_island" : Str) == ("__debug__" : Str)) = false), ck_checked_island, (fun t e => by cases e)⟩
abbrev ent_there_at (f : Addr) (fd : FuncData) : Ent := ⟨"there_at", "there_at", topS 22, f, fd, n_there_at, ["program", "island", "second"], b_there_at, none⟩
theorem ok_there_at {K : PySem.W.Frag} {mg : Str → Option Value} {f : Addr} {fd : FuncData} (F : Fun K "there_at" "there_at" (topS 22) f fd) (g : mg "there_at" = some (.ref f)) : EntOk K mg lstL 60 (ent_there_at f fd) :=
  ⟨F, sc_there_at, g, F.kp, F.binds (ps := ["program", "island", "second"]) fun _ _ _ _ _ _ us hl => match us, hl with | [_, _, _], _ => rfl, (by decide : (("there_at" : Str) == ("__debug__" : Str)) = false), ck_there_at, (fun t e => by cases e)⟩
abbrev ent_over_at (f : Addr) (fd : FuncData) : Ent := ⟨"over_at", "over_at", topS 23, f, fd, n_over_at, ["program", "island", "second"], b_over_at, none⟩
theorem ok_over_at {K : PySem.W.Frag} {mg : Str → Option Value} {f : Addr} {fd : FuncData} (F : Fun K "over_at" "over_at" (topS 23) f fd) (g : mg "over_at" = some (.ref f)) : EntOk K mg lstL 60 (ent_over_at f fd) :=
  ⟨F, sc_over_at, g, F.kp, F.binds (ps := ["program", "island", "second"]) fun _ _ _ _ _ _ us hl => match us, hl with | [_, _, _], _ => rfl, (by decide : (("over_at" : Str) == ("__debug__" : Str)) = false), ck_over_at, (fun t e => by cases e)⟩
abbrev ent_ways (f : Addr) (fd : FuncData) : Ent := ⟨"ways", "ways", topS 24, f, fd, n_ways, ["program", "island"], b_ways, none⟩
theorem ok_ways {K : PySem.W.Frag} {mg : Str → Option Value} {f : Addr} {fd : FuncData} (F : Fun K "ways" "ways" (topS 24) f fd) (g : mg "ways" = some (.ref f)) : EntOk K mg lstL 60 (ent_ways f fd) :=
  ⟨F, sc_ways, g, F.kp, F.binds (ps := ["program", "island"]) fun _ _ _ _ _ _ us hl => match us, hl with | [_, _], _ => rfl, (by decide : (("ways" : Str) == ("__debug__" : Str)) = false), ck_ways, (fun t e => by cases e)⟩
abbrev ent_greatest_way (f : Addr) (fd : FuncData) : Ent := ⟨"greatest_way", "greatest_way", topS 25, f, fd, n_greatest_way, ["program", "island"], b_greatest_way, none⟩
theorem ok_greatest_way {K : PySem.W.Frag} {mg : Str → Option Value} {f : Addr} {fd : FuncData} (F : Fun K "greatest_way" "greatest_way" (topS 25) f fd) (g : mg "greatest_way" = some (.ref f)) : EntOk K mg lstL 60 (ent_greatest_way f fd) :=
  ⟨F, sc_greatest_way, g, F.kp, F.binds (ps := ["program", "island"]) fun _ _ _ _ _ _ us hl => match us, hl with | [_, _], _ => rfl, (by decide : (("greatest_way" : Str) == ("__debug__" : Str)) = false), ck_greatest_way, (fun t e => by cases e)⟩
abbrev ent_sum_of_ways (f : Addr) (fd : FuncData) : Ent := ⟨"sum_of_ways", "sum_of_ways", topS 26, f, fd, n_sum_of_ways, ["program", "island"], b_sum_of_ways, none⟩
theorem ok_sum_of_ways {K : PySem.W.Frag} {mg : Str → Option Value} {f : Addr} {fd : FuncData} (F : Fun K "sum_of_ways" "sum_of_ways" (topS 26) f fd) (g : mg "sum_of_ways" = some (.ref f)) : EntOk K mg lstL 60 (ent_sum_of_ways f fd) :=
  ⟨F, sc_sum_of_ways, g, F.kp, F.binds (ps := ["program", "island"]) fun _ _ _ _ _ _ us hl => match us, hl with | [_, _], _ => rfl, (by decide : (("sum_of_ways" : Str) == ("__debug__" : Str)) = false), ck_sum_of_ways, (fun t e => by cases e)⟩
abbrev ent_is_through (f : Addr) (fd : FuncData) : Ent := ⟨"is_through", "is_through", topS 27, f, fd, n_is_through, ["program", "island"], b_is_through, none⟩
theorem ok_is_through {K : PySem.W.Frag} {mg : Str → Option Value} {f : Addr} {fd : FuncData} (F : Fun K "is_through" "is_through" (topS 27) f fd) (g : mg "is_through" = some (.ref f)) : EntOk K mg lstL 60 (ent_is_through f fd) :=
  ⟨F, sc_is_through, g, F.kp, F.binds (ps := ["program", "island"]) fun _ _ _ _ _ _ us hl => match us, hl with | [_, _], _ => rfl, (by decide : (("is_through" : Str) == ("__debug__" : Str)) = false), ck_is_through, (fun t e => by cases e)⟩
abbrev ent_with_later (f : Addr) (fd : FuncData) : Ent := ⟨"with_later", "with_later", topS 28, f, fd, n_with_later, ["program", "stream", "seconds"], b_with_later, none⟩
theorem ok_with_later {K : PySem.W.Frag} {mg : Str → Option Value} {f : Addr} {fd : FuncData} (F : Fun K "with_later" "with_later" (topS 28) f fd) (g : mg "with_later" = some (.ref f)) : EntOk K mg lstL 60 (ent_with_later f fd) :=
  ⟨F, sc_with_later, g, F.kp, F.binds (ps := ["program", "stream", "seconds"]) fun _ _ _ _ _ _ us hl => match us, hl with | [_, _, _], _ => rfl, (by decide : (("with_later" : Str) == ("__debug__" : Str)) = false), ck_with_later, (fun t e => by cases e)⟩
abbrev ent_best_turn (f : Addr) (fd : FuncData) : Ent := ⟨"best_turn", "best_turn", topS 29, f, fd, n_best_turn, ["program", "island"], b_best_turn, none⟩
theorem ok_best_turn {K : PySem.W.Frag} {mg : Str → Option Value} {f : Addr} {fd : FuncData} (F : Fun K "best_turn" "best_turn" (topS 29) f fd) (g : mg "best_turn" = some (.ref f)) : EntOk K mg lstL 60 (ent_best_turn f fd) :=
  ⟨F, sc_best_turn, g, F.kp, F.binds (ps := ["program", "island"]) fun _ _ _ _ _ _ us hl => match us, hl with | [_, _], _ => rfl, (by decide : (("best_turn" : Str) == ("__debug__" : Str)) = false), ck_best_turn, (fun t e => by cases e)⟩
abbrev ent__law_bag (f : Addr) (fd : FuncData) : Ent := ⟨"_law_bag", "_law_bag", topS 31, f, fd, n__law_bag, ["script"], b__law_bag, none⟩
theorem ok__law_bag {K : PySem.W.Frag} {mg : Str → Option Value} {f : Addr} {fd : FuncData} (F : Fun K "_law_bag" "_law_bag" (topS 31) f fd) (g : mg "_law_bag" = some (.ref f)) : EntOk K mg lstL 60 (ent__law_bag f fd) :=
  ⟨F, sc__law_bag, g, F.kp, F.binds (ps := ["script"]) fun _ _ _ _ _ _ us hl => match us, hl with | [_], _ => rfl, (by decide : (("_law_bag" : Str) == ("__debug__" : Str)) = false), ck__law_bag, (fun t e => by cases e)⟩
abbrev ent__law_take (f : Addr) (fd : FuncData) : Ent := ⟨"_law_take", "_law_take", topS 32, f, fd, n__law_take, ["bag", "many"], b__law_take, none⟩
theorem ok__law_take {K : PySem.W.Frag} {mg : Str → Option Value} {f : Addr} {fd : FuncData} (F : Fun K "_law_take" "_law_take" (topS 32) f fd) (g : mg "_law_take" = some (.ref f)) : EntOk K mg lstL 60 (ent__law_take f fd) :=
  ⟨F, sc__law_take, g, F.kp, F.binds (ps := ["bag", "many"]) fun _ _ _ _ _ _ us hl => match us, hl with | [_, _], _ => rfl, (by decide : (("_law_take" : Str) == ("__debug__" : Str)) = false), ck__law_take, (fun t e => by cases e)⟩
abbrev ent__law_some (f : Addr) (fd : FuncData) : Ent := ⟨"_law_some", "_law_some", topS 33, f, fd, n__law_some, ["bag", "things"], b__law_some, none⟩
theorem ok__law_some {K : PySem.W.Frag} {mg : Str → Option Value} {f : Addr} {fd : FuncData} (F : Fun K "_law_some" "_law_some" (topS 33) f fd) (g : mg "_law_some" = some (.ref f)) : EntOk K mg lstL 60 (ent__law_some f fd) :=
  ⟨F, sc__law_some, g, F.kp, F.binds (ps := ["bag", "things"]) fun _ _ _ _ _ _ us hl => match us, hl with | [_, _], _ => rfl, (by decide : (("_law_some" : Str) == ("__debug__" : Str)) = false), ck__law_some, (fun t e => by cases e)⟩
abbrev ent__law_alike (f : Addr) (fd : FuncData) : Ent := ⟨"_law_alike", "_law_alike", topS 34, f, fd, n__law_alike, ["found", "due"], b__law_alike, none⟩
theorem ok__law_alike {K : PySem.W.Frag} {mg : Str → Option Value} {f : Addr} {fd : FuncData} (F : Fun K "_law_alike" "_law_alike" (topS 34) f fd) (g : mg "_law_alike" = some (.ref f)) : EntOk K mg lstL 60 (ent__law_alike f fd) :=
  ⟨F, sc__law_alike, g, F.kp, F.binds (ps := ["found", "due"]) fun _ _ _ _ _ _ us hl => match us, hl with | [_, _], _ => rfl, (by decide : (("_law_alike" : Str) == ("__debug__" : Str)) = false), ck__law_alike, (fun t e => by cases e)⟩
abbrev ent__law_window (f : Addr) (fd : FuncData) : Ent := ⟨"_law_window", "_law_window", topS 35, f, fd, n__law_window, ["bag", "cycle"], b__law_window, none⟩
theorem ok__law_window {K : PySem.W.Frag} {mg : Str → Option Value} {f : Addr} {fd : FuncData} (F : Fun K "_law_window" "_law_window" (topS 35) f fd) (g : mg "_law_window" = some (.ref f)) : EntOk K mg lstL 60 (ent__law_window f fd) :=
  ⟨F, sc__law_window, g, F.kp, F.binds (ps := ["bag", "cycle"]) fun _ _ _ _ _ _ us hl => match us, hl with | [_, _], _ => rfl, (by decide : (("_law_window" : Str) == ("__debug__" : Str)) = false), ck__law_window, (fun t e => by cases e)⟩
abbrev ent__law_is_int (f : Addr) (fd : FuncData) : Ent := ⟨"_law_is_int", "_law_is_int", topS 36, f, fd, n__law_is_int, ["thing"], b__law_is_int, none⟩
theorem ok__law_is_int {K : PySem.W.Frag} {mg : Str → Option Value} {f : Addr} {fd : FuncData} (F : Fun K "_law_is_int" "_law_is_int" (topS 36) f fd) (g : mg "_law_is_int" = some (.ref f)) : EntOk K mg lstL 60 (ent__law_is_int f fd) :=
  ⟨F, sc__law_is_int, g, F.kp, F.binds (ps := ["thing"]) fun _ _ _ _ _ _ us hl => match us, hl with | [_], _ => rfl, (by decide : (("_law_is_int" : Str) == ("__debug__" : Str)) = false), ck__law_is_int, (fun t e => by cases e)⟩
abbrev ent__law_may (f : Addr) (fd : FuncData) : Ent := ⟨"_law_may", "_law_may", topS 38, f, fd, n__law_may, ["program", "walk", "second"], b__law_may, none⟩
theorem ok__law_may {K : PySem.W.Frag} {mg : Str → Option Value} {f : Addr} {fd : FuncData} (F : Fun K "_law_may" "_law_may" (topS 38) f fd) (g : mg "_law_may" = some (.ref f)) : EntOk K mg lstL 60 (ent__law_may f fd) :=
  ⟨F, sc__law_may, g, F.kp, F.binds (ps := ["program", "walk", "second"]) fun _ _ _ _ _ _ us hl => match us, hl with | [_, _, _], _ => rfl, (by decide : (("_law_may" : Str) == ("__debug__" : Str)) = false), ck__law_may, (fun t e => by cases e)⟩
abbrev ent__law_wait (f : Addr) (fd : FuncData) : Ent := ⟨"_law_wait", "_law_wait", topS 39, f, fd, n__law_wait, ["program", "walk", "second"], b__law_wait, none⟩
theorem ok__law_wait {K : PySem.W.Frag} {mg : Str → Option Value} {f : Addr} {fd : FuncData} (F : Fun K "_law_wait" "_law_wait" (topS 39) f fd) (g : mg "_law_wait" = some (.ref f)) : EntOk K mg lstL 60 (ent__law_wait f fd) :=
  ⟨F, sc__law_wait, g, F.kp, F.binds (ps := ["program", "walk", "second"]) fun _ _ _ _ _ _ us hl => match us, hl with | [_, _, _], _ => rfl, (by decide : (("_law_wait" : Str) == ("__debug__" : Str)) = false), ck__law_wait, (fun t e => by cases e)⟩
abbrev ent__law_walk (f : Addr) (fd : FuncData) : Ent := ⟨"_law_walk", "_law_walk", topS 40, f, fd, n__law_walk, ["bag", "program"], b__law_walk, none⟩
theorem ok__law_walk {K : PySem.W.Frag} {mg : Str → Option Value} {f : Addr} {fd : FuncData} (F : Fun K "_law_walk" "_law_walk" (topS 40) f fd) (g : mg "_law_walk" = some (.ref f)) : EntOk K mg lstL 60 (ent__law_walk f fd) :=
  ⟨F, sc__law_walk, g, F.kp, F.binds (ps := ["bag", "program"]) fun _ _ _ _ _ _ us hl => match us, hl with | [_, _], _ => rfl, (by decide : (("_law_walk" : Str) == ("__debug__" : Str)) = false), ck__law_walk, (fun t e => by cases e)⟩
abbrev ent__law_any_program (f : Addr) (fd : FuncData) : Ent := ⟨"_law_any_program", "_law_any_program", topS 41, f, fd, n__law_any_program, ["bag"], b__law_any_program, none⟩
theorem ok__law_any_program {K : PySem.W.Frag} {mg : Str → Option Value} {f : Addr} {fd : FuncData} (F : Fun K "_law_any_program" "_law_any_program" (topS 41) f fd) (g : mg "_law_any_program" = some (.ref f)) : EntOk K mg lstL 60 (ent__law_any_program f fd) :=
  ⟨F, sc__law_any_program, g, F.kp, F.binds (ps := ["bag"]) fun _ _ _ _ _ _ us hl => match us, hl with | [_], _ => rfl, (by decide : (("_law_any_program" : Str) == ("__debug__" : Str)) = false), ck__law_any_program, (fun t e => by cases e)⟩
abbrev ent__law_over (f : Addr) (fd : FuncData) : Ent := ⟨"_law_over", "_law_over", topS 42, f, fd, n__law_over, ["program", "island", "second"], b__law_over, none⟩
theorem ok__law_over {K : PySem.W.Frag} {mg : Str → Option Value} {f : Addr} {fd : FuncData} (F : Fun K "_law_over" "_law_over" (topS 42) f fd) (g : mg "_law_over" = some (.ref f)) : EntOk K mg lstL 60 (ent__law_over f fd) :=
  ⟨F, sc__law_over, g, F.kp, F.binds (ps := ["program", "island", "second"]) fun _ _ _ _ _ _ us hl => match us, hl with | [_, _, _], _ => rfl, (by decide : (("_law_over" : Str) == ("__debug__" : Str)) = false), ck__law_over, (fun t e => by cases e)⟩
abbrev ent__law_turned (f : Addr) (fd : FuncData) : Ent := ⟨"_law_turned", "_law_turned", topS 43, f, fd, n__law_turned, ["program", "stream", "seconds"], b__law_turned, none⟩
theorem ok__law_turned {K : PySem.W.Frag} {mg : Str → Option Value} {f : Addr} {fd : FuncData} (F : Fun K "_law_turned" "_law_turned" (topS 43) f fd) (g : mg "_law_turned" = some (.ref f)) : EntOk K mg lstL 60 (ent__law_turned f fd) :=
  ⟨F, sc__law_turned, g, F.kp, F.binds (ps := ["program", "stream", "seconds"]) fun _ _ _ _ _ _ us hl => match us, hl with | [_, _, _], _ => rfl, (by decide : (("_law_turned" : Str) == ("__debug__" : Str)) = false), ck__law_turned, (fun t e => by cases e)⟩
abbrev ent__law_walk_fault (f : Addr) (fd : FuncData) : Ent := ⟨"_law_walk_fault", "_law_walk_fault", topS 44, f, fd, n__law_walk_fault, ["program", "walk"], b__law_walk_fault, none⟩
theorem ok__law_walk_fault {K : PySem.W.Frag} {mg : Str → Option Value} {f : Addr} {fd : FuncData} (F : Fun K "_law_walk_fault" "_law_walk_fault" (topS 44) f fd) (g : mg "_law_walk_fault" = some (.ref f)) : EntOk K mg lstL 60 (ent__law_walk_fault f fd) :=
  ⟨F, sc__law_walk_fault, g, F.kp, F.binds (ps := ["program", "walk"]) fun _ _ _ _ _ _ us hl => match us, hl with | [_, _], _ => rfl, (by decide : (("_law_walk_fault" : Str) == ("__debug__" : Str)) = false), ck__law_walk_fault, (fun t e => by cases e)⟩
abbrev ent_law (f : Addr) (fd : FuncData) : Ent := ⟨"law", "law", topS 45, f, fd, n_law, ["script"], b_law, some (lamC, lamP)⟩
theorem ok_law {K : PySem.W.Frag} {mg : Str → Option Value} {f : Addr} {fd : FuncData} (F : Fun K "law" "law" (topS 45) f fd) (g : mg "law" = some (.ref f)) (hc : fd.code = .ref lamC) : EntOk K mg lstL 60 (ent_law f fd) :=
  ⟨F, sc_law, g, F.kp, F.binds (ps := ["script"]) fun _ _ _ _ _ _ us hl => match us, hl with | [_], _ => rfl, (by decide : (("law" : Str) == ("__debug__" : Str)) = false), ck_law, (fun t e => by cases e; exact ⟨hc, by simp [tabsL], fun p hp _ => by simp [tabsL] at hp; rw [hp]⟩)⟩
theorem ok__law_heard {K : PySem.W.Frag} {mg : Str → Option Value} {f : Addr} {fd : FuncData} (F : Fun K "_law_heard" "_law_heard" (topS 37) f fd) (g : mg "_law_heard" = some (.ref f)) (hi : mg "isinstance" = none) (c0 : ∃ c, mg "LightsError" = some c) : HdOk K mg "_law_heard" hd__law_heard :=
  ⟨⟨f, topS 37, fd, "act", ["act", "error"], F, g, F.binds (ps := ["act"]) fun _ _ _ _ _ _ us hl => match us, hl with | [_], _ => rfl, sc__law_heard, .inl (by decide +kernel), hb__law_heard, fun X hX => (List.forall_mem_cons.mpr ⟨⟨by rw [hX]; exact c0, by decide +kernel, by decide, by decide +kernel, by first | exact (fun z => (z rfl).elim) | exact (fun _ => by decide +kernel)⟩, List.forall_mem_nil _⟩), by decide, by decide⟩, hi, by decide⟩
theorem all_mk {w : World} {K : PySem.W.Frag} {mg : Str → Option Value} {fa : Addr} {h : Heap} (hfa : mg "law" = some (.ref fa)) (hn : ∀ x ∈ bnsL, mg x = none)
    (h1 : h.get? lamP = some { cls := .none, data := .fields #[] }) (h2 : K.lookup lamP = none) (h3 : PySem.W.CodeHd h lamC lamP)
    {f0 : Addr} {fd0 : FuncData}
    {f1 : Addr} {fd1 : FuncData}
    {f2 : Addr} {fd2 : FuncData}
    {f3 : Addr} {fd3 : FuncData}
    {f4 : Addr} {fd4 : FuncData}
    {f5 : Addr} {fd5 : FuncData}
    {f6 : Addr} {fd6 : FuncData}
    {f7 : Addr} {fd7 : FuncData}
    {f8 : Addr} {fd8 : FuncData}
    {f9 : Addr} {fd9 : FuncData}
    {f10 : Addr} {fd10 : FuncData}
    {f11 : Addr} {fd11 : FuncData}
    {f12 : Addr} {fd12 : FuncData}
    {f13 : Addr} {fd13 : FuncData}
    {f14 : Addr} {fd14 : FuncData}
    {f15 : Addr} {fd15 : FuncData}
    {f16 : Addr} {fd16 : FuncData}
    {f17 : Addr} {fd17 : FuncData}
    {f18 : Addr} {fd18 : FuncData}
    {f19 : Addr} {fd19 : FuncData}
    {f20 : Addr} {fd20 : FuncData}
    {f21 : Addr} {fd21 : FuncData}
    {f22 : Addr} {fd22 : FuncData}
    {f23 : Addr} {fd23 : FuncData}
    {f24 : Addr} {fd24 : FuncData}
    {f25 : Addr} {fd25 : FuncData}
    {f26 : Addr} {fd26 : FuncData}
    {f27 : Addr} {fd27 : FuncData}
    {f28 : Addr} {fd28 : FuncData}
    {f29 : Addr} {fd29 : FuncData}
    {f30 : Addr} {fd30 : FuncData}
    {f31 : Addr} {fd31 : FuncData}
    {C0 : Addr}
    {C1 : Addr}
    {C2 : Addr}
    {C3 : Addr}
    (E0 : EntOk K mg lstL 60 (ent_is_integer f0 fd0))
    (E1 : EntOk K mg lstL 60 (ent_is_within f1 fd1))
    (E2 : EntOk K mg lstL 60 (ent_are_all f2 fd2))
    (E3 : EntOk K mg lstL 60 (ent_are_integers f3 fd3))
    (E4 : EntOk K mg lstL 60 (ent_age f4 fd4))
    (E5 : EntOk K mg lstL 60 (ent_checked_walk f5 fd5))
    (E6 : EntOk K mg lstL 60 (ent_begin_seconds f6 fd6))
    (E7 : EntOk K mg lstL 60 (ent_may_begin f7 fd7))
    (E8 : EntOk K mg lstL 60 (ent_wait f8 fd8))
    (E9 : EntOk K mg lstL 60 (ent_checked_island f9 fd9))
    (E10 : EntOk K mg lstL 60 (ent_there_at f10 fd10))
    (E11 : EntOk K mg lstL 60 (ent_over_at f11 fd11))
    (E12 : EntOk K mg lstL 60 (ent_ways f12 fd12))
    (E13 : EntOk K mg lstL 60 (ent_greatest_way f13 fd13))
    (E14 : EntOk K mg lstL 60 (ent_sum_of_ways f14 fd14))
    (E15 : EntOk K mg lstL 60 (ent_is_through f15 fd15))
    (E16 : EntOk K mg lstL 60 (ent_with_later f16 fd16))
    (E17 : EntOk K mg lstL 60 (ent_best_turn f17 fd17))
    (E18 : EntOk K mg lstL 60 (ent__law_bag f18 fd18))
    (E19 : EntOk K mg lstL 60 (ent__law_take f19 fd19))
    (E20 : EntOk K mg lstL 60 (ent__law_some f20 fd20))
    (E21 : EntOk K mg lstL 60 (ent__law_alike f21 fd21))
    (E22 : EntOk K mg lstL 60 (ent__law_window f22 fd22))
    (E23 : EntOk K mg lstL 60 (ent__law_is_int f23 fd23))
    (E24 : EntOk K mg lstL 60 (ent__law_may f24 fd24))
    (E25 : EntOk K mg lstL 60 (ent__law_wait f25 fd25))
    (E26 : EntOk K mg lstL 60 (ent__law_walk f26 fd26))
    (E27 : EntOk K mg lstL 60 (ent__law_any_program f27 fd27))
    (E28 : EntOk K mg lstL 60 (ent__law_over f28 fd28))
    (E29 : EntOk K mg lstL 60 (ent__law_turned f29 fd29))
    (E30 : EntOk K mg lstL 60 (ent__law_walk_fault f30 fd30))
    (E31 : EntOk K mg lstL 60 (ent_law f31 fd31))
    (T0 : ErrC PySem.Challenge.pw_greenrounds_k10_whole_islands_of_roads K mg "LightsError" C0 [])
    (T1 : ErrC PySem.Challenge.pw_greenrounds_k10_whole_islands_of_roads K mg "Refused" C1 ["why"])
    (T2 : ErrC PySem.Challenge.pw_greenrounds_k10_whole_islands_of_roads K mg "Nothing" C2 [])
    (T3 : ErrC PySem.Challenge.pw_greenrounds_k10_whole_islands_of_roads K mg "TooMany" C3 ["what", "limit"])
    (H_law_heard : HdOk K mg "_law_heard" hd__law_heard)
    (gis_integer : GloOk mg "is_integer" .fn)
    (gMOST_SECONDS : GloOk mg "MOST_SECONDS" (.int 60))
    (gMOST_ACROSS : GloOk mg "MOST_ACROSS" (.int 99))
    (sLightsError_LightsError : PySem.W.kitOne K (.ref C0) (.ref C0) = some true)
    (uLightsError_LightsError : PySem.W.subIn K (.ref C0) (.ref C0) = some true)
    (sLightsError_Refused : PySem.W.kitOne K (.ref C1) (.ref C0) = some true)
    (uLightsError_Refused : PySem.W.subIn K (.ref C1) (.ref C0) = some true)
    (sLightsError_Nothing : PySem.W.kitOne K (.ref C2) (.ref C0) = some true)
    (uLightsError_Nothing : PySem.W.subIn K (.ref C2) (.ref C0) = some true)
    (sLightsError_TooMany : PySem.W.kitOne K (.ref C3) (.ref C0) = some true)
    (uLightsError_TooMany : PySem.W.subIn K (.ref C3) (.ref C0) = some true)
    (sRefused_Refused : PySem.W.kitOne K (.ref C1) (.ref C1) = some true)
    (uRefused_Refused : PySem.W.subIn K (.ref C1) (.ref C1) = some true)
    (sRefused_LightsError : PySem.W.kitOne K (.ref C0) (.ref C1) = some false)
    (uRefused_LightsError : PySem.W.subIn K (.ref C0) (.ref C1) = some false)
    (sRefused_Nothing : PySem.W.kitOne K (.ref C2) (.ref C1) = some false)
    (uRefused_Nothing : PySem.W.subIn K (.ref C2) (.ref C1) = some false)
    (sRefused_TooMany : PySem.W.kitOne K (.ref C3) (.ref C1) = some false)
    (uRefused_TooMany : PySem.W.subIn K (.ref C3) (.ref C1) = some false)
    (sTooMany_TooMany : PySem.W.kitOne K (.ref C3) (.ref C3) = some true)
    (uTooMany_TooMany : PySem.W.subIn K (.ref C3) (.ref C3) = some true)
    (sTooMany_LightsError : PySem.W.kitOne K (.ref C0) (.ref C3) = some false)
    (uTooMany_LightsError : PySem.W.subIn K (.ref C0) (.ref C3) = some false)
    (sTooMany_Refused : PySem.W.kitOne K (.ref C1) (.ref C3) = some false)
    (uTooMany_Refused : PySem.W.subIn K (.ref C1) (.ref C3) = some false)
    (sTooMany_Nothing : PySem.W.kitOne K (.ref C2) (.ref C3) = some false)
    (uTooMany_Nothing : PySem.W.subIn K (.ref C2) (.ref C3) = some false)
    (sNothing_Nothing : PySem.W.kitOne K (.ref C2) (.ref C2) = some true)
    (uNothing_Nothing : PySem.W.subIn K (.ref C2) (.ref C2) = some true)
    (sNothing_LightsError : PySem.W.kitOne K (.ref C0) (.ref C2) = some false)
    (uNothing_LightsError : PySem.W.subIn K (.ref C0) (.ref C2) = some false)
    (sNothing_Refused : PySem.W.kitOne K (.ref C1) (.ref C2) = some false)
    (uNothing_Refused : PySem.W.subIn K (.ref C1) (.ref C2) = some false)
    (sNothing_TooMany : PySem.W.kitOne K (.ref C3) (.ref C2) = some false)
    (uNothing_TooMany : PySem.W.subIn K (.ref C3) (.ref C2) = some false)
    (hev : ∀ ns : List Int, ns.length ≤ 63 → ∃ S, run tab (fun _ => none) 100000 12 "law" [.scr ns] [] = .ok (.bl true) S) :
    LamX.LawAtS PySem.Challenge.rw_greenrounds_k10_whole_islands_of_roads w K (L2.CX PySem.Challenge.pw_greenrounds_k10_whole_islands_of_roads w) 37 63 "script" mg fa h := by
  have hcl : ∀ p ∈ clsL, ∃ C, ErrC PySem.Challenge.pw_greenrounds_k10_whole_islands_of_roads K mg p.1 C p.2 :=
    (List.forall_mem_cons.mpr ⟨⟨C0, T0⟩, List.forall_mem_cons.mpr ⟨⟨C1, T1⟩, List.forall_mem_cons.mpr ⟨⟨C2, T2⟩, List.forall_mem_cons.mpr ⟨⟨C3, T3⟩, List.forall_mem_nil _⟩⟩⟩⟩)
  have hsu : ∀ p ∈ subL, SubOk PySem.Challenge.pw_greenrounds_k10_whole_islands_of_roads K mg p.1 p.2.1 p.2.2 :=
    (List.forall_mem_nil _)
  have hsb : ∀ p ∈ sboL, SubC PySem.Challenge.pw_greenrounds_k10_whole_islands_of_roads K mg p.1 p.2.1 p.2.2 :=
    (List.forall_mem_cons.mpr ⟨⟨⟨C0, T0.g, (List.forall_mem_cons.mpr ⟨⟨C0, _, T0, sLightsError_LightsError, PySem.W.exm_ref T0.xf.exC T0.xf.hdC T0.ty uLightsError_LightsError⟩, List.forall_mem_cons.mpr ⟨⟨C1, _, T1, sLightsError_Refused, PySem.W.exm_ref T0.xf.exC T0.xf.hdC T0.ty uLightsError_Refused⟩, List.forall_mem_cons.mpr ⟨⟨C2, _, T2, sLightsError_Nothing, PySem.W.exm_ref T0.xf.exC T0.xf.hdC T0.ty uLightsError_Nothing⟩, List.forall_mem_cons.mpr ⟨⟨C3, _, T3, sLightsError_TooMany, PySem.W.exm_ref T0.xf.exC T0.xf.hdC T0.ty uLightsError_TooMany⟩, List.forall_mem_nil _⟩⟩⟩⟩), (List.forall_mem_nil _)⟩⟩, List.forall_mem_cons.mpr ⟨⟨⟨C1, T1.g, (List.forall_mem_cons.mpr ⟨⟨C1, _, T1, sRefused_Refused, PySem.W.exm_ref T1.xf.exC T1.xf.hdC T1.ty uRefused_Refused⟩, List.forall_mem_nil _⟩), (List.forall_mem_cons.mpr ⟨⟨C0, _, T0, sRefused_LightsError, PySem.W.exm_ref T1.xf.exC T1.xf.hdC T1.ty uRefused_LightsError⟩, List.forall_mem_cons.mpr ⟨⟨C2, _, T2, sRefused_Nothing, PySem.W.exm_ref T1.xf.exC T1.xf.hdC T1.ty uRefused_Nothing⟩, List.forall_mem_cons.mpr ⟨⟨C3, _, T3, sRefused_TooMany, PySem.W.exm_ref T1.xf.exC T1.xf.hdC T1.ty uRefused_TooMany⟩, List.forall_mem_nil _⟩⟩⟩)⟩⟩, List.forall_mem_cons.mpr ⟨⟨⟨C3, T3.g, (List.forall_mem_cons.mpr ⟨⟨C3, _, T3, sTooMany_TooMany, PySem.W.exm_ref T3.xf.exC T3.xf.hdC T3.ty uTooMany_TooMany⟩, List.forall_mem_nil _⟩), (List.forall_mem_cons.mpr ⟨⟨C0, _, T0, sTooMany_LightsError, PySem.W.exm_ref T3.xf.exC T3.xf.hdC T3.ty uTooMany_LightsError⟩, List.forall_mem_cons.mpr ⟨⟨C1, _, T1, sTooMany_Refused, PySem.W.exm_ref T3.xf.exC T3.xf.hdC T3.ty uTooMany_Refused⟩, List.forall_mem_cons.mpr ⟨⟨C2, _, T2, sTooMany_Nothing, PySem.W.exm_ref T3.xf.exC T3.xf.hdC T3.ty uTooMany_Nothing⟩, List.forall_mem_nil _⟩⟩⟩)⟩⟩, List.forall_mem_cons.mpr ⟨⟨⟨C2, T2.g, (List.forall_mem_cons.mpr ⟨⟨C2, _, T2, sNothing_Nothing, PySem.W.exm_ref T2.xf.exC T2.xf.hdC T2.ty uNothing_Nothing⟩, List.forall_mem_nil _⟩), (List.forall_mem_cons.mpr ⟨⟨C0, _, T0, sNothing_LightsError, PySem.W.exm_ref T2.xf.exC T2.xf.hdC T2.ty uNothing_LightsError⟩, List.forall_mem_cons.mpr ⟨⟨C1, _, T1, sNothing_Refused, PySem.W.exm_ref T2.xf.exC T2.xf.hdC T2.ty uNothing_Refused⟩, List.forall_mem_cons.mpr ⟨⟨C3, _, T3, sNothing_TooMany, PySem.W.exm_ref T2.xf.exC T2.xf.hdC T2.ty uNothing_TooMany⟩, List.forall_mem_nil _⟩⟩⟩)⟩⟩, List.forall_mem_nil _⟩⟩⟩⟩)
  have lo : LstOk PySem.Challenge.pw_greenrounds_k10_whole_islands_of_roads K mg lstL := ⟨hn, hcl, hsu, (List.forall_mem_cons.mpr ⟨H_law_heard, List.forall_mem_nil _⟩), hsb, (List.forall_mem_cons.mpr ⟨gis_integer, List.forall_mem_cons.mpr ⟨gMOST_SECONDS, List.forall_mem_cons.mpr ⟨gMOST_ACROSS, List.forall_mem_nil _⟩⟩⟩)⟩
  exact law_all (cs := [(lamC, lamP)]) (lib := [ent_is_integer f0 fd0, ent_is_within f1 fd1, ent_are_all f2 fd2, ent_are_integers f3 fd3, ent_age f4 fd4, ent_checked_walk f5 fd5, ent_begin_seconds f6 fd6, ent_may_begin f7 fd7, ent_wait f8 fd8, ent_checked_island f9 fd9, ent_there_at f10 fd10, ent_over_at f11 fd11, ent_ways f12 fd12, ent_greatest_way f13 fd13, ent_sum_of_ways f14 fd14, ent_is_through f15 fd15, ent_with_later f16 fd16, ent_best_turn f17 fd17, ent__law_bag f18 fd18, ent__law_take f19 fd19, ent__law_some f20 fd20, ent__law_alike f21 fd21, ent__law_window f22 fd22, ent__law_is_int f23 fd23, ent__law_may f24 fd24, ent__law_wait f25 fd25, ent__law_walk f26 fd26, ent__law_any_program f27 fd27, ent__law_over f28 fd28, ent__law_turned f29 fd29, ent__law_walk_fault f30 fd30, ent_law f31 fd31]) (e := ent_law f31 fd31) (fuel := 60) (T := tab) (by simp) rfl rfl
    (List.forall_mem_cons.mpr ⟨t_is_integer, List.forall_mem_cons.mpr ⟨t_is_within, List.forall_mem_cons.mpr ⟨t_are_all, List.forall_mem_cons.mpr ⟨t_are_integers, List.forall_mem_cons.mpr ⟨t_age, List.forall_mem_cons.mpr ⟨t_checked_walk, List.forall_mem_cons.mpr ⟨t_begin_seconds, List.forall_mem_cons.mpr ⟨t_may_begin, List.forall_mem_cons.mpr ⟨t_wait, List.forall_mem_cons.mpr ⟨t_checked_island, List.forall_mem_cons.mpr ⟨t_there_at, List.forall_mem_cons.mpr ⟨t_over_at, List.forall_mem_cons.mpr ⟨t_ways, List.forall_mem_cons.mpr ⟨t_greatest_way, List.forall_mem_cons.mpr ⟨t_sum_of_ways, List.forall_mem_cons.mpr ⟨t_is_through, List.forall_mem_cons.mpr ⟨t_with_later, List.forall_mem_cons.mpr ⟨t_best_turn, List.forall_mem_cons.mpr ⟨t__law_bag, List.forall_mem_cons.mpr ⟨t__law_take, List.forall_mem_cons.mpr ⟨t__law_some, List.forall_mem_cons.mpr ⟨t__law_alike, List.forall_mem_cons.mpr ⟨t__law_window, List.forall_mem_cons.mpr ⟨t__law_is_int, List.forall_mem_cons.mpr ⟨t__law_may, List.forall_mem_cons.mpr ⟨t__law_wait, List.forall_mem_cons.mpr ⟨t__law_walk, List.forall_mem_cons.mpr ⟨t__law_any_program, List.forall_mem_cons.mpr ⟨t__law_over, List.forall_mem_cons.mpr ⟨t__law_turned, List.forall_mem_cons.mpr ⟨t__law_walk_fault, List.forall_mem_cons.mpr ⟨t_law, List.forall_mem_nil _⟩⟩⟩⟩⟩⟩⟩⟩⟩⟩⟩⟩⟩⟩⟩⟩⟩⟩⟩⟩⟩⟩⟩⟩⟩⟩⟩⟩⟩⟩⟩⟩)
    (List.forall_mem_cons.mpr ⟨E0, List.forall_mem_cons.mpr ⟨E1, List.forall_mem_cons.mpr ⟨E2, List.forall_mem_cons.mpr ⟨E3, List.forall_mem_cons.mpr ⟨E4, List.forall_mem_cons.mpr ⟨E5, List.forall_mem_cons.mpr ⟨E6, List.forall_mem_cons.mpr ⟨E7, List.forall_mem_cons.mpr ⟨E8, List.forall_mem_cons.mpr ⟨E9, List.forall_mem_cons.mpr ⟨E10, List.forall_mem_cons.mpr ⟨E11, List.forall_mem_cons.mpr ⟨E12, List.forall_mem_cons.mpr ⟨E13, List.forall_mem_cons.mpr ⟨E14, List.forall_mem_cons.mpr ⟨E15, List.forall_mem_cons.mpr ⟨E16, List.forall_mem_cons.mpr ⟨E17, List.forall_mem_cons.mpr ⟨E18, List.forall_mem_cons.mpr ⟨E19, List.forall_mem_cons.mpr ⟨E20, List.forall_mem_cons.mpr ⟨E21, List.forall_mem_cons.mpr ⟨E22, List.forall_mem_cons.mpr ⟨E23, List.forall_mem_cons.mpr ⟨E24, List.forall_mem_cons.mpr ⟨E25, List.forall_mem_cons.mpr ⟨E26, List.forall_mem_cons.mpr ⟨E27, List.forall_mem_cons.mpr ⟨E28, List.forall_mem_cons.mpr ⟨E29, List.forall_mem_cons.mpr ⟨E30, List.forall_mem_cons.mpr ⟨E31, List.forall_mem_nil _⟩⟩⟩⟩⟩⟩⟩⟩⟩⟩⟩⟩⟩⟩⟩⟩⟩⟩⟩⟩⟩⟩⟩⟩⟩⟩⟩⟩⟩⟩⟩⟩)
    rfl lo
    (List.forall_mem_cons.mpr ⟨(fun t e => by cases e), List.forall_mem_cons.mpr ⟨(fun t e => by cases e), List.forall_mem_cons.mpr ⟨(fun t e => by cases e), List.forall_mem_cons.mpr ⟨(fun t e => by cases e), List.forall_mem_cons.mpr ⟨(fun t e => by cases e), List.forall_mem_cons.mpr ⟨(fun t e => by cases e), List.forall_mem_cons.mpr ⟨(fun t e => by cases e), List.forall_mem_cons.mpr ⟨(fun t e => by cases e), List.forall_mem_cons.mpr ⟨(fun t e => by cases e), List.forall_mem_cons.mpr ⟨(fun t e => by cases e), List.forall_mem_cons.mpr ⟨(fun t e => by cases e), List.forall_mem_cons.mpr ⟨(fun t e => by cases e), List.forall_mem_cons.mpr ⟨(fun t e => by cases e), List.forall_mem_cons.mpr ⟨(fun t e => by cases e), List.forall_mem_cons.mpr ⟨(fun t e => by cases e), List.forall_mem_cons.mpr ⟨(fun t e => by cases e), List.forall_mem_cons.mpr ⟨(fun t e => by cases e), List.forall_mem_cons.mpr ⟨(fun t e => by cases e), List.forall_mem_cons.mpr ⟨(fun t e => by cases e), List.forall_mem_cons.mpr ⟨(fun t e => by cases e), List.forall_mem_cons.mpr ⟨(fun t e => by cases e), List.forall_mem_cons.mpr ⟨(fun t e => by cases e), List.forall_mem_cons.mpr ⟨(fun t e => by cases e), List.forall_mem_cons.mpr ⟨(fun t e => by cases e), List.forall_mem_cons.mpr ⟨(fun t e => by cases e), List.forall_mem_cons.mpr ⟨(fun t e => by cases e), List.forall_mem_cons.mpr ⟨(fun t e => by cases e), List.forall_mem_cons.mpr ⟨(fun t e => by cases e), List.forall_mem_cons.mpr ⟨(fun t e => by cases e), List.forall_mem_cons.mpr ⟨(fun t e => by cases e), List.forall_mem_cons.mpr ⟨(fun t e => by cases e), List.forall_mem_cons.mpr ⟨(fun t e => by cases e; exact List.mem_singleton.mpr rfl), List.forall_mem_nil _⟩⟩⟩⟩⟩⟩⟩⟩⟩⟩⟩⟩⟩⟩⟩⟩⟩⟩⟩⟩⟩⟩⟩⟩⟩⟩⟩⟩⟩⟩⟩⟩)
    (fun p hp => ⟨_, List.mem_singleton.mpr rfl, by simp [tabsL] at hp; rw [hp]⟩) (fun p hp => by rw [List.mem_singleton.mp hp]; exact h1) (fun p hp => by rw [List.mem_singleton.mp hp]; exact h2) (fun p hp => by rw [List.mem_singleton.mp hp]; exact h3)
    (fun _ _ _ _ _ _ _ => rfl) hev hfa
end GxLaw
open PySem PySem.W PyProof.Rows L2
set_option maxHeartbeats 0 in
theorem PySem.Challenge.cw_greenrounds_k10_whole_islands_of_roads_holds : PySem.Challenge.rw_greenrounds_k10_whole_islands_of_roads.Holds := by
  w_on; o_law; k_head; (case hw => w_witness2)
  k_fill
  refine LamX.walk_ofTs (l := PySem.Challenge.rw_greenrounds_k10_whole_islands_of_roads) (n := 63) (k := 37) (x := "script") (CX := fun w => L2.CX PySem.Challenge.pw_greenrounds_k10_whole_islands_of_roads w) rfl (by decide) rfl ⟨rfl, by decide, by decide⟩ (fun w h Y => PySem.W.km_in_of Y) ?F (fun _ _ _ _ _ ⟨_, _, _, _, _, _, _, _, _, _, _, _, z⟩ => z)
  case F =>
    intro w mg fa h Y KX G hmg
    replace hmg : mg "law" = some (.ref fa) := hmg
    refine' GxLaw.all_mk hmg ?hn ?h1 ?h2 ?h3 ?E0 ?E1 ?E2 ?E3 ?E4 ?E5 ?E6 ?E7 ?E8 ?E9 ?E10 ?E11 ?E12 ?E13 ?E14 ?E15 ?E16 ?E17 ?E18 ?E19 ?E20 ?E21 ?E22 ?E23 ?E24 ?E25 ?E26 ?E27 ?E28 ?E29 ?E30 ?E31 ?q0 ?q1 ?q2 ?q3 ?H_law_heard ?gis_integer ?gMOST_SECONDS ?gMOST_ACROSS ?sLightsError_LightsError ?uLightsError_LightsError ?sLightsError_Refused ?uLightsError_Refused ?sLightsError_Nothing ?uLightsError_Nothing ?sLightsError_TooMany ?uLightsError_TooMany ?sRefused_Refused ?uRefused_Refused ?sRefused_LightsError ?uRefused_LightsError ?sRefused_Nothing ?uRefused_Nothing ?sRefused_TooMany ?uRefused_TooMany ?sTooMany_TooMany ?uTooMany_TooMany ?sTooMany_LightsError ?uTooMany_LightsError ?sTooMany_Refused ?uTooMany_Refused ?sTooMany_Nothing ?uTooMany_Nothing ?sNothing_Nothing ?uNothing_Nothing ?sNothing_LightsError ?uNothing_LightsError ?sNothing_Refused ?uNothing_Refused ?sNothing_TooMany ?uNothing_TooMany GxLaw.law_true
    (case hn => exact (List.forall_mem_cons.mpr ⟨PySem.W.mg_none_of KX G (by k_is), List.forall_mem_cons.mpr ⟨PySem.W.mg_none_of KX G (by k_is), List.forall_mem_cons.mpr ⟨PySem.W.mg_none_of KX G (by k_is), List.forall_mem_cons.mpr ⟨PySem.W.mg_none_of KX G (by k_is), List.forall_mem_cons.mpr ⟨PySem.W.mg_none_of KX G (by k_is), List.forall_mem_cons.mpr ⟨PySem.W.mg_none_of KX G (by k_is), List.forall_mem_cons.mpr ⟨PySem.W.mg_none_of KX G (by k_is), List.forall_mem_cons.mpr ⟨PySem.W.mg_none_of KX G (by k_is), List.forall_mem_cons.mpr ⟨PySem.W.mg_none_of KX G (by k_is), List.forall_mem_cons.mpr ⟨PySem.W.mg_none_of KX G (by k_is), List.forall_mem_cons.mpr ⟨PySem.W.mg_none_of KX G (by k_is), List.forall_mem_cons.mpr ⟨PySem.W.mg_none_of KX G (by k_is), List.forall_mem_cons.mpr ⟨PySem.W.mg_none_of KX G (by k_is), List.forall_mem_cons.mpr ⟨PySem.W.mg_none_of KX G (by k_is), List.forall_mem_cons.mpr ⟨PySem.W.mg_none_of KX G (by k_is), List.forall_mem_cons.mpr ⟨PySem.W.mg_none_of KX G (by k_is), List.forall_mem_cons.mpr ⟨PySem.W.mg_none_of KX G (by k_is), List.forall_mem_cons.mpr ⟨PySem.W.mg_none_of KX G (by k_is), List.forall_mem_cons.mpr ⟨PySem.W.mg_none_of KX G (by k_is), List.forall_mem_nil _⟩⟩⟩⟩⟩⟩⟩⟩⟩⟩⟩⟩⟩⟩⟩⟩⟩⟩⟩))
    (case h1 => exact PySem.W.km_tabs_of Y _ (by decide))
    (case h2 => kernel_rfl)
    (case h3 => exact PySem.W.codeHd_of_K KX (by kernel_rfl))
    (case E0 => (refine' GxLaw.ok_is_integer (fun_mk ?l0 ?c0 ?k0) (PySem.W.mg_of KX G ?a0); (case a0 => k_is); (case l0 => k_is); (case c0 => k_is); (case k0 => k_is)))
    (case E1 => (refine' GxLaw.ok_is_within (fun_mk ?l1 ?c1 ?k1) (PySem.W.mg_of KX G ?a1); (case a1 => k_is); (case l1 => k_is); (case c1 => k_is); (case k1 => k_is)))
    (case E2 => (refine' GxLaw.ok_are_all (fun_mk ?l2 ?c2 ?k2) (PySem.W.mg_of KX G ?a2); (case a2 => k_is); (case l2 => k_is); (case c2 => k_is); (case k2 => k_is)))
    (case E3 => (refine' GxLaw.ok_are_integers (fun_mk ?l3 ?c3 ?k3) (PySem.W.mg_of KX G ?a3); (case a3 => k_is); (case l3 => k_is); (case c3 => k_is); (case k3 => k_is)))
    (case E4 => (refine' GxLaw.ok_age (fun_mk ?l4 ?c4 ?k4) (PySem.W.mg_of KX G ?a4); (case a4 => k_is); (case l4 => k_is); (case c4 => k_is); (case k4 => k_is)))
    (case E5 => (refine' GxLaw.ok_checked_walk (fun_mk ?l5 ?c5 ?k5) (PySem.W.mg_of KX G ?a5); (case a5 => k_is); (case l5 => k_is); (case c5 => k_is); (case k5 => k_is)))
    (case E6 => (refine' GxLaw.ok_begin_seconds (fun_mk ?l6 ?c6 ?k6) (PySem.W.mg_of KX G ?a6); (case a6 => k_is); (case l6 => k_is); (case c6 => k_is); (case k6 => k_is)))
    (case E7 => (refine' GxLaw.ok_may_begin (fun_mk ?l7 ?c7 ?k7) (PySem.W.mg_of KX G ?a7); (case a7 => k_is); (case l7 => k_is); (case c7 => k_is); (case k7 => k_is)))
    (case E8 => (refine' GxLaw.ok_wait (fun_mk ?l8 ?c8 ?k8) (PySem.W.mg_of KX G ?a8); (case a8 => k_is); (case l8 => k_is); (case c8 => k_is); (case k8 => k_is)))
    (case E9 => (refine' GxLaw.ok_checked_island (fun_mk ?l9 ?c9 ?k9) (PySem.W.mg_of KX G ?a9); (case a9 => k_is); (case l9 => k_is); (case c9 => k_is); (case k9 => k_is)))
    (case E10 => (refine' GxLaw.ok_there_at (fun_mk ?l10 ?c10 ?k10) (PySem.W.mg_of KX G ?a10); (case a10 => k_is); (case l10 => k_is); (case c10 => k_is); (case k10 => k_is)))
    (case E11 => (refine' GxLaw.ok_over_at (fun_mk ?l11 ?c11 ?k11) (PySem.W.mg_of KX G ?a11); (case a11 => k_is); (case l11 => k_is); (case c11 => k_is); (case k11 => k_is)))
    (case E12 => (refine' GxLaw.ok_ways (fun_mk ?l12 ?c12 ?k12) (PySem.W.mg_of KX G ?a12); (case a12 => k_is); (case l12 => k_is); (case c12 => k_is); (case k12 => k_is)))
    (case E13 => (refine' GxLaw.ok_greatest_way (fun_mk ?l13 ?c13 ?k13) (PySem.W.mg_of KX G ?a13); (case a13 => k_is); (case l13 => k_is); (case c13 => k_is); (case k13 => k_is)))
    (case E14 => (refine' GxLaw.ok_sum_of_ways (fun_mk ?l14 ?c14 ?k14) (PySem.W.mg_of KX G ?a14); (case a14 => k_is); (case l14 => k_is); (case c14 => k_is); (case k14 => k_is)))
    (case E15 => (refine' GxLaw.ok_is_through (fun_mk ?l15 ?c15 ?k15) (PySem.W.mg_of KX G ?a15); (case a15 => k_is); (case l15 => k_is); (case c15 => k_is); (case k15 => k_is)))
    (case E16 => (refine' GxLaw.ok_with_later (fun_mk ?l16 ?c16 ?k16) (PySem.W.mg_of KX G ?a16); (case a16 => k_is); (case l16 => k_is); (case c16 => k_is); (case k16 => k_is)))
    (case E17 => (refine' GxLaw.ok_best_turn (fun_mk ?l17 ?c17 ?k17) (PySem.W.mg_of KX G ?a17); (case a17 => k_is); (case l17 => k_is); (case c17 => k_is); (case k17 => k_is)))
    (case E18 => (refine' GxLaw.ok__law_bag (fun_mk ?l18 ?c18 ?k18) (PySem.W.mg_of KX G ?a18); (case a18 => k_is); (case l18 => k_is); (case c18 => k_is); (case k18 => k_is)))
    (case E19 => (refine' GxLaw.ok__law_take (fun_mk ?l19 ?c19 ?k19) (PySem.W.mg_of KX G ?a19); (case a19 => k_is); (case l19 => k_is); (case c19 => k_is); (case k19 => k_is)))
    (case E20 => (refine' GxLaw.ok__law_some (fun_mk ?l20 ?c20 ?k20) (PySem.W.mg_of KX G ?a20); (case a20 => k_is); (case l20 => k_is); (case c20 => k_is); (case k20 => k_is)))
    (case E21 => (refine' GxLaw.ok__law_alike (fun_mk ?l21 ?c21 ?k21) (PySem.W.mg_of KX G ?a21); (case a21 => k_is); (case l21 => k_is); (case c21 => k_is); (case k21 => k_is)))
    (case E22 => (refine' GxLaw.ok__law_window (fun_mk ?l22 ?c22 ?k22) (PySem.W.mg_of KX G ?a22); (case a22 => k_is); (case l22 => k_is); (case c22 => k_is); (case k22 => k_is)))
    (case E23 => (refine' GxLaw.ok__law_is_int (fun_mk ?l23 ?c23 ?k23) (PySem.W.mg_of KX G ?a23); (case a23 => k_is); (case l23 => k_is); (case c23 => k_is); (case k23 => k_is)))
    (case E24 => (refine' GxLaw.ok__law_may (fun_mk ?l24 ?c24 ?k24) (PySem.W.mg_of KX G ?a24); (case a24 => k_is); (case l24 => k_is); (case c24 => k_is); (case k24 => k_is)))
    (case E25 => (refine' GxLaw.ok__law_wait (fun_mk ?l25 ?c25 ?k25) (PySem.W.mg_of KX G ?a25); (case a25 => k_is); (case l25 => k_is); (case c25 => k_is); (case k25 => k_is)))
    (case E26 => (refine' GxLaw.ok__law_walk (fun_mk ?l26 ?c26 ?k26) (PySem.W.mg_of KX G ?a26); (case a26 => k_is); (case l26 => k_is); (case c26 => k_is); (case k26 => k_is)))
    (case E27 => (refine' GxLaw.ok__law_any_program (fun_mk ?l27 ?c27 ?k27) (PySem.W.mg_of KX G ?a27); (case a27 => k_is); (case l27 => k_is); (case c27 => k_is); (case k27 => k_is)))
    (case E28 => (refine' GxLaw.ok__law_over (fun_mk ?l28 ?c28 ?k28) (PySem.W.mg_of KX G ?a28); (case a28 => k_is); (case l28 => k_is); (case c28 => k_is); (case k28 => k_is)))
    (case E29 => (refine' GxLaw.ok__law_turned (fun_mk ?l29 ?c29 ?k29) (PySem.W.mg_of KX G ?a29); (case a29 => k_is); (case l29 => k_is); (case c29 => k_is); (case k29 => k_is)))
    (case E30 => (refine' GxLaw.ok__law_walk_fault (fun_mk ?l30 ?c30 ?k30) (PySem.W.mg_of KX G ?a30); (case a30 => k_is); (case l30 => k_is); (case c30 => k_is); (case k30 => k_is)))
    (case E31 => (refine' GxLaw.ok_law (fun_mk ?l31 ?c31 ?k31) (PySem.W.mg_of KX G ?a31) ?d31; (case a31 => k_is); (case l31 => k_is); (case c31 => k_is); (case k31 => k_is); (case d31 => rfl)))
    (case q0 => (refine' Gx.err0_mk (PySem.W.mg_of KX G ?e0) (by decide) ?f0 ?x0 ?y0; (case e0 => k_is); (case f0 => exact ⟨by k_is, by k_is, by k_is, by k_is, by k_is, by k_is, by k_is, by k_is, by k_is, by k_is⟩); (case x0 => k_exc); (case y0 => k_is)))
    (case q1 => (refine' Gx.err1_mk (PySem.W.mg_of KX G ?e_1) (by decide) ?f_1 (Gx.ini_mk ?f_1 ?lk_1 ?hbm_1 ?sa_1 ?tyC_1 ?iC_1 ?tI_1 ?lI_1 ?cI_1 ?gl_1 ?bl_1 ?kind_1 ?ks_1 ?kc_1 ?clo_1 ?lcc_1 ?code_1 ?lcd_1 ?hvs_1 ?hf_1 ?top_1 ?sup_1 ?init_1 ?hB_1 ?any_1 ?sb_1 ?co_1 ?gen_1) ?hcell_1 ?nd_1 ?u0_1 ?u1_1 ?hd_1 ?ha_1 ?hb_1 ?hps_1 ?n1_1 ?bd_1 ; (case e_1 => k_is); (case f_1 => exact ⟨by k_is, by k_is, by k_is, by k_is, by k_is, by k_is, by k_is, by k_is, by k_is, by k_is⟩); (case lk_1 => k_is); (case hbm_1 => decide +kernel); (case sa_1 => k_is); (case tyC_1 => k_is); (case iC_1 => k_is); (case tI_1 => k_is); (case lI_1 => k_is); (case cI_1 => k_is) ; (case gl_1 => rfl); (case bl_1 => rfl); (case kind_1 => rfl); (case ks_1 => rfl); (case kc_1 => rfl); (case clo_1 => rfl); (case lcc_1 => k_is); (case code_1 => rfl); (case lcd_1 => k_is); (case hvs_1 => rfl); (case hf_1 => decide +kernel); (case top_1 => decide +kernel); (case sup_1 => exact PySem.W.mg_none_of KX G (by k_is)); (case init_1 => ks_is); (case hB_1 => k_is); (case any_1 => k_is); (case sb_1 => k_is); (case co_1 => rfl); (case gen_1 => rfl) ; (case hb_1 => rfl); (case hd_1 => rfl); (case ha_1 => rfl); (case hcell_1 => decide +kernel); (case nd_1 => decide); (case u0_1 => exact ⟨rfl, by decide⟩); (case u1_1 => exact ⟨rfl, by decide⟩); (case hps_1 => rfl); (case n1_1 => k_is); (case bd_1 => exact L2.Binds.all fun us hl => match us, hl with | [_, _], _ => rfl)))
    (case q2 => (refine' Gx.err0_mk (PySem.W.mg_of KX G ?e2) (by decide) ?f2 ?x2 ?y2; (case e2 => k_is); (case f2 => exact ⟨by k_is, by k_is, by k_is, by k_is, by k_is, by k_is, by k_is, by k_is, by k_is, by k_is⟩); (case x2 => k_exc); (case y2 => k_is)))
    (case q3 => (refine' Gx.err2_mk (PySem.W.mg_of KX G ?e_3) (by decide) ?f_3 (Gx.ini_mk ?f_3 ?lk_3 ?hbm_3 ?sa_3 ?tyC_3 ?iC_3 ?tI_3 ?lI_3 ?cI_3 ?gl_3 ?bl_3 ?kind_3 ?ks_3 ?kc_3 ?clo_3 ?lcc_3 ?code_3 ?lcd_3 ?hvs_3 ?hf_3 ?top_3 ?sup_3 ?init_3 ?hB_3 ?any_3 ?sb_3 ?co_3 ?gen_3) ?hcell_3 ?nd_3 ?u0_3 ?u1_3 ?u2_3 ?hd_3 ?ha_3 ?hb_3 ?hps_3 ?n1_3 ?n2_3 ?bd_3 ; (case e_3 => k_is); (case f_3 => exact ⟨by k_is, by k_is, by k_is, by k_is, by k_is, by k_is, by k_is, by k_is, by k_is, by k_is⟩); (case lk_3 => k_is); (case hbm_3 => decide +kernel); (case sa_3 => k_is); (case tyC_3 => k_is); (case iC_3 => k_is); (case tI_3 => k_is); (case lI_3 => k_is); (case cI_3 => k_is) ; (case gl_3 => rfl); (case bl_3 => rfl); (case kind_3 => rfl); (case ks_3 => rfl); (case kc_3 => rfl); (case clo_3 => rfl); (case lcc_3 => k_is); (case code_3 => rfl); (case lcd_3 => k_is); (case hvs_3 => rfl); (case hf_3 => decide +kernel); (case top_3 => decide +kernel); (case sup_3 => exact PySem.W.mg_none_of KX G (by k_is)); (case init_3 => ks_is); (case hB_3 => k_is); (case any_3 => k_is); (case sb_3 => k_is); (case co_3 => rfl); (case gen_3 => rfl) ; (case hb_3 => rfl); (case hd_3 => rfl); (case ha_3 => rfl); (case hcell_3 => decide +kernel); (case nd_3 => decide); (case u0_3 => exact ⟨rfl, by decide⟩); (case u1_3 => exact ⟨rfl, by decide⟩); (case u2_3 => exact ⟨rfl, by decide⟩); (case hps_3 => rfl); (case n1_3 => k_is); (case n2_3 => k_is); (case bd_3 => exact L2.Binds.all fun us hl => match us, hl with | [_, _, _], _ => rfl)))
    (case H_law_heard => (refine' GxLaw.ok__law_heard (fun_mk ?l__law_heard ?c__law_heard ?k__law_heard) (PySem.W.mg_of KX G ?a__law_heard) (PySem.W.mg_none_of KX G (by k_is)) ⟨_, PySem.W.mg_of KX G (by k_is)⟩; (case a__law_heard => k_is); (case l__law_heard => k_is); (case c__law_heard => k_is); (case k__law_heard => k_is)))
    (case gis_integer => (refine' ⟨⟨_, PySem.W.mg_of KX G ?m_is_integer, ?v_is_integer⟩, by decide⟩; (case m_is_integer => k_is); (case v_is_integer => exact ⟨_, rfl⟩)))
    (case gMOST_SECONDS => (refine' ⟨⟨_, PySem.W.mg_of KX G ?m_MOST_SECONDS, ?v_MOST_SECONDS⟩, by decide⟩; (case m_MOST_SECONDS => k_is); (case v_MOST_SECONDS => exact ⟨_, rfl⟩)))
    (case gMOST_ACROSS => (refine' ⟨⟨_, PySem.W.mg_of KX G ?m_MOST_ACROSS, ?v_MOST_ACROSS⟩, by decide⟩; (case m_MOST_ACROSS => k_is); (case v_MOST_ACROSS => exact ⟨_, rfl⟩)))
    (case sLightsError_LightsError => kit_is)
    (case uLightsError_LightsError => k_is)
    (case sLightsError_Refused => kit_is)
    (case uLightsError_Refused => k_is)
    (case sLightsError_Nothing => kit_is)
    (case uLightsError_Nothing => k_is)
    (case sLightsError_TooMany => kit_is)
    (case uLightsError_TooMany => k_is)
    (case sRefused_Refused => kit_is)
    (case uRefused_Refused => k_is)
    (case sRefused_LightsError => kit_is)
    (case uRefused_LightsError => k_is)
    (case sRefused_Nothing => kit_is)
    (case uRefused_Nothing => k_is)
    (case sRefused_TooMany => kit_is)
    (case uRefused_TooMany => k_is)
    (case sTooMany_TooMany => kit_is)
    (case uTooMany_TooMany => k_is)
    (case sTooMany_LightsError => kit_is)
    (case uTooMany_LightsError => k_is)
    (case sTooMany_Refused => kit_is)
    (case uTooMany_Refused => k_is)
    (case sTooMany_Nothing => kit_is)
    (case uTooMany_Nothing => k_is)
    (case sNothing_Nothing => kit_is)
    (case uNothing_Nothing => k_is)
    (case sNothing_LightsError => kit_is)
    (case uNothing_LightsError => k_is)
    (case sNothing_Refused => kit_is)
    (case uNothing_Refused => k_is)
    (case sNothing_TooMany => kit_is)
    (case uNothing_TooMany => k_is)
