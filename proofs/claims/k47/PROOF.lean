import PyProof.Rows.All
import Wide.All
import OpenK.AllK
import Wide.FinOn
import HandS.ForMost
import HandS.Deep
import HandS.Flow
import HandS.IsInst
import HandS.TupAny
import HandS.TupLe
import HandS.TupMul
import HandS.Wide
import HandS.Walk
import HandS.EndBits
import HandS.SortOrd
import HandS.Style
import HandS.Conv
import KE.SortData
import KE.DataMinMax
import HandS.Defaults
import HandS.ExcIs
import HandS.WordsExc
import HandS.RaiseMore
import HandS.HotCalls
import HandS.FStr
import HandS.Rev
import HandS.RevRange
import PyProof.CollectIter
import HandS.Strs
import HandS.List
import HandS.TupSets
import HandS.SortInts
import HandS.RevTup
import HandS.StrMore
import HandS.Exc
import PySem.Challenge.RW_tidewarden_k47_ticks_done_or_refused
set_option Elab.async false
set_option linter.all false
set_option maxRecDepth 100000
set_option maxHeartbeats 4000000
set_option Elab.async false
set_option linter.all false
set_option maxRecDepth 100000
set_option maxHeartbeats 4000000
/-! DL1: a small language over data, with its meaning: lists that one name alone holds are values, everything else is data without change. -/
namespace DL
open PySem

abbrev D := PyData

/-- what a slot holds, what an expression gives: nothing; data that no longer changes; a list that this slot alone holds; a list lent by the caller; a dict that this slot alone holds (its keys are ints); something that is not told -/
inductive Val where
  | em
  | fz (d : D)
  | ow (xs : List D)
  | io (xs : List D)
  | od (kvs : List (Int × D))
  | un
abbrev Env := List Val

structure Exn where
  cls : Nat
  arg : D

inductive Res (α : Type) where
  | ok (a : α)
  | ex (e : Exn)
  | no
def Res.bind {α β : Type} : Res α → (α → Res β) → Res β
  | .ok a, f => f a
  | .ex e, _ => .ex e
  | .no, _ => .no
instance : Monad Res where
  pure := .ok
  bind := Res.bind
@[simp] theorem ok_bind {α β : Type} (a : α) (f : α → Res β) : (Res.ok a >>= f) = f a := rfl
@[simp] theorem no_bind {α β : Type} (f : α → Res β) : ((Res.no : Res α) >>= f) = Res.no := rfl
@[simp] theorem ex_bind {α β : Type} (e : Exn) (f : α → Res β) : ((Res.ex e : Res α) >>= f) = Res.ex e := rfl
@[simp] theorem pure_ok {α : Type} (a : α) : (pure a : Res α) = Res.ok a := rfl
theorem bind_ok {α β : Type} {r : Res α} {f : α → Res β} {b : β} (h : (r >>= f) = .ok b) : ∃ a, r = .ok a ∧ f a = .ok b := by
  cases r with
  | ok a => exact ⟨a, rfl, h⟩
  | ex e => cases h
  | no => cases h

inductive Bop where | add | sub | mul | fdiv | mod | pow
inductive Cop where | eq | ne | lt | le | gt | ge | isIn | notIn | isB | nisB
inductive Bi where | len | int | str | tuple | list | abs | sum | all | any | min | max | sorted | sset | lset | lrng | trng | trev | srev
/-- methods: of a list, a text -/
inductive Meth where | index | count | join | lower | swith | part | splt | rmpre | tidx | tcnt
inductive Ty where | int | bool | str | tuple | list | dict
/-- what is walked: data; range; reversed; zip -/
inductive Ik where | seq | rng | rev | zip
inductive Tgt where
  | one (i : Nat)
  | many (ts : List Tgt)

inductive E where
  | v (i : Nat)
  | gl (i : Nat)
  | non
  | bl (b : Bool)
  | int (i : Int)
  | str (x : String)
  | tup (es : List E)
  | lst (es : List E)
  | dct (x : String) (a : E)
  | dct0
  | bin (op : Bop) (a b : E)
  | neg (a : E)
  | not (a : E)
  | cmp (op : Cop) (a b : E)
  | chain (op1 op2 : Cop) (a b c : E)
  | isN (a : E)
  | notN (a : E)
  | and (es : List E)
  | or (es : List E)
  | ite (c a b : E)
  | idx (a i : E)
  | slc (a : E) (lo hi : Option E)
  | call (f : Nat) (es : List E)
  | callB (f : Nat) (es : List E)
  | bi (b : Bi) (es : List E)
  | isi (a : E) (t : Ty)
  | mt (m : Meth) (a : E) (es : List E)
  | dsp (ks : List (Int ⊕ String)) (es : List E)
  | dget (i : Nat) (k : E)
  | popl (i : Nat)
  | popa (i : Nat) (k : E)
  | lc (hid : Bool) (t : Tgt) (k : Ik) (es : List E) (c : List E) (elt : E)
  | fl2 (i0 i1 : Nat) (e elt : E)
  | fs (es : List E)
  | trr (e : E)

/-- what becomes of the value of a call that may raise -/
inductive Xk where
  | asg (i : Nat)
  | asgT (ts : List Tgt)
  | ret
inductive S where
  | asg (i : Nat) (e : E)
  | asgT (ts : List Tgt) (e : E)
  | par (i j : Nat) (a b : E)
  | sto (i : Nat) (k e : E)
  | dnew (i : Nat)
  | dsto (i : Nat) (k e : E)
  | dmv (i j : Nat)
  | aug (i : Nat) (op : Bop) (e : E)
  | augS (i : Nat) (op : Bop) (k e : E)
  | app (i : Nat) (e : E)
  | ext (i : Nat) (e : E)
  | ifs (c : E) (a b : List S)
  | for (hid : Bool) (t : Tgt) (k : Ik) (es : List E) (body : List S)
  | whl (c : E) (body : List S)
  | ret (e : E)
  | retN
  | brk
  | cont
  | pass
  | tryB (body : List S)
  | expr (e : E)
  | never
  | raise (c : Nat) (e : E)
  | xs (k : Xk) (f : Nat) (es : List E)
  | told (i : Nat) (f : Nat) (es : List E)

structure Fn where
  nslots : Nat
  ios : List Bool
  body : List S

structure Ctx where
  gl : Nat → Option D
  call : Nat → List Val → Res (Val × List (List D))
  ios : Nat → List Bool
  fuel : Nat
  xc : Nat → Bool
  er : Bool

/-- the error classes without a number: their names -/
def cnm : Nat → Str
  | 0 => "BadText"
  | _ => "NotAllowed"
/-- what the laws tell of an error -/
def errD (e : Exn) : D := .tuple [.str "refused", .str (cnm e.cls)]

inductive Flow where
  | nx (r : Env)
  | bk (r : Env)
  | ct (r : Env)
  | rt (v : Val) (r : Env)
  | xc (e : Exn)

/-! ### operations on data -/
def lenOk (n : Nat) : Bool := decide (n ≤ 16777216)
def truth : D → Res Bool
  | .none => .ok false
  | .bool b => .ok b
  | .int i => .ok (i != 0)
  | .str x => if lenOk x.length then .ok (x.length != 0) else .no
  | .list xs => .ok (!xs.isEmpty)
  | .tuple xs => .ok (!xs.isEmpty)
  | .dict _ => .no

def small64 (i : Int) : Bool := decide (-18446744073709551616 < i) && decide (i < 18446744073709551616)

def rep {α : Type} (xs : List α) (n : Nat) : List α := (List.replicate n xs).flatten
def binD : Bop → D → D → Res Val
  | .add, .int a, .int b => .ok (.fz (.int (a + b)))
  | .add, .str a, .str b => if lenOk (a.length + b.length) then .ok (.fz (.str (a ++ b))) else .no
  | .add, .tuple a, .tuple b => if lenOk (a.length + b.length) then .ok (.fz (.tuple (a ++ b))) else .no
  | .add, .list a, .list b => if lenOk (a.length + b.length) then .ok (.ow (a ++ b)) else .no
  | .sub, .int a, .int b => .ok (.fz (.int (a - b)))
  | .mul, .int a, .int b => if small64 a || small64 b then .ok (.fz (.int (a * b))) else .no
  | .fdiv, .int a, .int b => if decide (0 < b) && small64 b then .ok (.fz (.int (a / b))) else .no
  | .mod, .int a, .int b => if decide (0 < b) then .ok (.fz (.int (a % b))) else .no
  | .pow, .int a, .int b => if decide (0 ≤ b) && decide (b ≤ 1000000) && small64 a then .ok (.fz (.int (a ^ b.toNat))) else .no
  | .mul, .tuple xs, .int n => if decide (-1000 ≤ n) && decide (n ≤ 1000) && decide (xs.length ≤ 1000) && !xs.isEmpty then .ok (.fz (.tuple (rep xs n.toNat))) else .no
  | .mul, .list xs, .int n => if decide (-1000000 ≤ n) && decide (n ≤ 1000000) && decide (xs.length * n.toNat ≤ 16777216) then .ok (.ow (rep xs n.toNat)) else .no
  | _, _, _ => .no

/-- data that is none, a bool, an int, a text -/
def flat : D → Bool
  | .none => true
  | .bool _ => true
  | .int _ => true
  | .str _ => true
  | _ => false
/-- == of both may be asked -/
def eqOk (a b : D) : Bool := a.canLay0 && b.canLay0 && decide (min a.depth b.depth ≤ 120)
def eqD (a b : D) : Res Bool := if (flat a && flat b) || eqOk a b then .ok (PyData.eqv a b) else .no
def strIn (a b : Str) : Bool := !(Builtin.Str.occurrences b a 0 b.length 1).isEmpty
def inOk (d : D) (xs : List D) : Bool := (flat d && xs.all flat) || (d.canLay0 && PyData.canLayAll0 xs && decide (min (PyData.depthAll xs) d.depth ≤ 100))
def inD : D → D → Res Bool
  | .str a, .str b => .ok (strIn a b)
  | d, .list xs => if inOk d xs then .ok (xs.any fun z => PyData.eqv z d) else .no
  | d, .tuple xs => if inOk d xs then .ok (xs.any fun z => PyData.eqv z d) else .no
  | _, _ => .no
def ints? : List D → Option (List Int)
  | [] => some []
  | .int i :: r => (ints? r).map (i :: ·)
  | _ => none
def isTupB : D → Bool
  | .tuple _ => true
  | _ => false
def isNonB : D → Bool
  | .none => true
  | _ => false
/-- < of both may be asked -/
def ltOk (a b : D) : Bool := PySem.W.alike a b && a.canLay0 && b.canLay0 && decide (min a.depth b.depth ≤ 100) && !isNonB a
def cmpD : Cop → D → D → Res Bool
  | .eq, a, b => eqD a b
  | .ne, a, b => (eqD a b).bind fun c => .ok (!c)
  | .lt, .int a, .int b => .ok (decide (a < b))
  | .le, .int a, .int b => .ok (decide (a ≤ b))
  | .gt, .int a, .int b => .ok (decide (b < a))
  | .ge, .int a, .int b => .ok (decide (b ≤ a))
  | .lt, a, b => if ltOk a b then .ok (PySem.W.dataLt a b) else .no
  | .isIn, a, b => inD a b
  | .notIn, a, b => (inD a b).bind fun c => .ok (!c)
  | .isB, .bool a, .bool b => .ok (decide (a = b))
  | .nisB, .bool a, .bool b => .ok (!decide (a = b))
  | _, _, _ => .no

abbrev ixL (n : Nat) (i : Int) : Option Nat := L2.ixN n i
abbrev atL {α : Type} (xs : List α) (i : Int) : Option α := L2.atI xs i
def sign (c : Nat) : D := .str ⟨#[c]⟩
def findD : List (D × D) → Str → Option D
  | [], _ => none
  | (.str x, d) :: r, k => if x = k then some d else findD r k
  | _ :: r, k => findD r k
def findI : List (D × D) → Int → Option D
  | [], _ => none
  | (.int x, d) :: r, k => if x = k then some d else findI r k
  | _ :: r, k => findI r k
/-- the keys of a display -/
def dkD : Int ⊕ String → D
  | .inl i => .int i
  | .inr x => .str (Str.ofString x)
def zipK : List (Int ⊕ String) → List D → List (D × D)
  | k :: ks, d :: ds => (dkD k, d) :: zipK ks ds
  | _, _ => []
/-- a dict of its own, as data -/
def dictI (kvs : List (Int × D)) : List (D × D) := kvs.map fun p => (.int p.1, p.2)
def idxD : D → D → Res D
  | .dict kvs, .int k => match findI kvs k with | some d => .ok d | none => .no
  | .dict kvs, .str k => match findD kvs k with | some d => .ok d | none => .no
  | .list xs, .int i => match atL xs i with | some d => .ok d | none => .no
  | .tuple xs, .int i => match atL xs i with | some d => .ok d | none => .no
  | .str z, .int i => if lenOk z.length then (match atL z.cps.toList i with | some c => .ok (sign c) | none => .no) else .no
  | _, _ => .no
def cutL {α : Type} (xs : List α) (lo hi : Option Int) : List α := (xs.drop (_root_.HT.sIx xs.length 0 lo)).take (_root_.HT.sIx xs.length xs.length hi - _root_.HT.sIx xs.length 0 lo)
def slcD : D → Option Int → Option Int → Res Val
  | .list xs, lo, hi => .ok (.ow (cutL xs lo hi))
  | .tuple xs, lo, hi => .ok (.fz (.tuple (cutL xs lo hi)))
  | .str z, lo, hi => if lenOk z.length then .ok (.fz (.str ⟨(cutL z.cps.toList lo hi).toArray⟩)) else .no
  | _, _, _ => .no
def isTy : D → Ty → Bool
  | .int _, .int => true
  | .bool _, .int => true
  | .bool _, .bool => true
  | .str _, .str => true
  | .tuple _, .tuple => true
  | .list _, .list => true
  | .dict _, .dict => true
  | _, _ => false
def bools? : List D → Option (List Bool)
  | [] => some []
  | .bool i :: r => (bools? r).map (i :: ·)
  | _ => none
def maxI : Int → List Int → Int
  | m, [] => m
  | m, x :: r => maxI (if x > m then x else m) r
def minI : Int → List Int → Int
  | m, [] => m
  | m, x :: r => minI (if x < m then x else m) r
/-- put into an ascending list -/
def insI (x : Int) : List Int → List Int
  | [] => [x]
  | y :: l => if x < y then x :: y :: l else if x = y then y :: l else y :: insI x l
/-- sorted(set(ns)) -/
def ssetI (ns : List Int) : List Int := ns.foldr insI []
/-- what sorted may sort -/
def sortOk (xs : List D) : Bool := lenOk xs.length && xs.all (fun d => d.canLay0 && decide (d.depth ≤ 100)) && xs.all (fun d => xs.all fun e => PySem.W.alike d e) && (xs.all isTupB || xs.all fun d => !isTupB d && !isNonB d)
/-- what min may compare -/
def minOk (xs : List D) : Bool := xs.all (fun d => d.canLay0 && decide (d.depth ≤ 100)) && xs.all (fun d => xs.all fun e => PySem.W.alike d e) && xs.all fun d => !isNonB d
def sortD (xs : List D) : List D := xs.mergeSort (PySem.W.dataLe false id)
def range (lo : Int) (n : Nat) : List D := (List.range n).map fun (i : Nat) => .int (lo + (i : Int))
def bnd62 (i : Int) : Bool := decide (-4611686018427387904 ≤ i) && decide (i < 4611686018427387904)
def rangeC (lo c : Int) (n : Nat) : List D := (List.range n).map fun (i : Nat) => .int (lo + (i : Int) * c)
def rgOk (a b : Int) : Bool := bnd62 a && bnd62 b && decide ((b - a).toNat ≤ 16777216)
def biD : Bi → List D → Res Val
  | .sorted, [.list xs] => if sortOk xs then .ok (.ow (sortD xs)) else .no
  | .sorted, [.tuple xs] => if sortOk xs then .ok (.ow (sortD xs)) else .no
  | .len, [.list xs] => .ok (.fz (.int xs.length))
  | .len, [.tuple xs] => .ok (.fz (.int xs.length))
  | .len, [.str z] => if lenOk z.length then .ok (.fz (.int z.length)) else .no
  | .int, [.int i] => .ok (.fz (.int i))
  | .int, [.bool b] => .ok (.fz (.int (if b then 1 else 0)))
  | .int, [.str z] => match PySem.intText? z with
    | some n => if z.length ≤ 640 then .ok (.fz (.int n)) else .no
    | none => .no
  | .str, [.int i] => if i.natAbs < 2 ^ 1900 then .ok (.fz (.str (toString i))) else .no
  | .tuple, [.list xs] => .ok (.fz (.tuple xs))
  | .tuple, [.tuple xs] => .ok (.fz (.tuple xs))
  | .list, [.list xs] => .ok (.ow xs)
  | .list, [.tuple xs] => .ok (.ow xs)
  | .abs, [.int i] => .ok (.fz (.int (if i < 0 then -i else i)))
  | .sum, [.list xs] => match ints? xs with | some ns => .ok (.fz (.int ns.sum)) | none => .no
  | .all, [.list xs] => match bools? xs with | some ns => .ok (.fz (.bool (ns.all id))) | none => .no
  | .any, [.list xs] => match bools? xs with | some ns => .ok (.fz (.bool (ns.any id))) | none => .no
  | .min, [.int i, .int j] => .ok (.fz (.int (if j < i then j else i)))
  | .max, [.int i, .int j] => .ok (.fz (.int (if j > i then j else i)))
  | .min, [.list xs] => match ints? xs with
    | some (n :: ns) => .ok (.fz (.int (minI n ns)))
    | some [] => .no
    | none => if minOk xs then (match xs with | y :: yr => .ok (.fz (PySem.W.minD y yr)) | [] => .no) else .no
  | .max, [.list xs] => match ints? xs with | some (n :: ns) => .ok (.fz (.int (maxI n ns))) | _ => .no
  | .sset, [.list xs] => match ints? xs with | some ns => if ns.length < 4000 then .ok (.ow ((ssetI ns).map .int)) else .no | none => .no
  | .lset, [.list xs] => match ints? xs with | some ns => if ns.length < 4000 then .ok (.fz (.int (ssetI ns).length)) else .no | none => .no
  | .lset, [.tuple xs] => match ints? xs with | some ns => if ns.length < 4000 then .ok (.fz (.int (ssetI ns).length)) else .no | none => .no
  | .lrng, [.int n] => if rgOk 0 n then .ok (.ow (range 0 n.toNat)) else .no
  | .lrng, [.int a, .int b] => if rgOk a b then .ok (.ow (range a (b - a).toNat)) else .no
  | .lrng, [.int a, .int b, .int c] => if decide (1 ≤ c) && decide (c ≤ 1000) && Builtin.Range.small a b c && decide (0 ≤ Builtin.Range.rangeSize a b c) && decide (Builtin.Range.rangeSize a b c ≤ 16777216) then .ok (.ow (rangeC a c (Builtin.Range.rangeSize a b c).toNat)) else .no
  | .trng, [.int n] => if rgOk 0 n then .ok (.fz (.tuple (range 0 n.toNat))) else .no
  | .trng, [.int a, .int b] => if rgOk a b then .ok (.fz (.tuple (range a (b - a).toNat))) else .no
  | .trev, [.list xs] => .ok (.fz (.tuple xs.reverse))
  | .trev, [.tuple xs] => .ok (.fz (.tuple xs.reverse))
  | .srev, [.list xs] => .ok (.ow xs.reverse)
  | .sum, [.tuple xs] => match ints? xs with | some ns => .ok (.fz (.int ns.sum)) | none => .no
  | .min, [.tuple xs] => match ints? xs with | some (n :: ns) => .ok (.fz (.int (minI n ns))) | _ => .no
  | .max, [.tuple xs] => match ints? xs with | some (n :: ns) => .ok (.fz (.int (maxI n ns))) | _ => .no
  | _, _ => .no
def strs? : List D → Option (List Str)
  | [] => some []
  | .str i :: r => (strs? r).map (i :: ·)
  | _ => none
/-- the first place -/
def idxI (n : Int) : List Int → Option Nat
  | [] => none
  | x :: r => if x = n then some 0 else (idxI n r).map (· + 1)
def joinOk (a : Str) (ys : List Str) : Bool := decide ((ys.map (·.length)).sum + ys.length * a.length ≤ 16777216)
/-- an item that is == an int -/
def cntE (n : Int) : D → Bool
  | .int i => i == n
  | .bool b => (if b then (1 : Int) else 0) == n
  | _ => false
def mtD : Meth → D → List D → Res Val
  | .index, .list xs, [.int n] => match ints? xs with
    | some ns => (match idxI n ns with | some j => .ok (.fz (.int (j : Int))) | none => .no)
    | none => .no
  | .count, .list xs, [.int n] => match ints? xs with | some ns => .ok (.fz (.int (ns.count n : Nat))) | none => .no
  | .join, .str a, [.list xs] => match strs? xs with | some ys => if joinOk a ys then .ok (.fz (.str (Txt.join a ys))) else .no | none => .no
  | .join, .str a, [.tuple xs] => match strs? xs with | some ys => if joinOk a ys then .ok (.fz (.str (Txt.join a ys))) else .no | none => .no
  | .lower, .str a, [] => if a.length ≤ 5592405 then .ok (.fz (.str (Txt.lower a))) else .no
  | .swith, .str a, [.str b] => .ok (.fz (.bool (Txt.startswith a b)))
  | .rmpre, .str a, [.str b] => if lenOk a.length then .ok (.fz (.str (Txt.removeprefix a b))) else .no
  | .part, .str a, [.str b] => if lenOk a.length && !(b.length == 0) then .ok (.fz (.tuple [.str (Txt.partition a b).1, .str (Txt.partition a b).2.1, .str (Txt.partition a b).2.2])) else .no
  | .splt, .str a, [.str b] => if lenOk (a.length + 2) && !(b.length == 0) then .ok (.ow ((Txt.split a b).map .str)) else .no
  | _, _, _ => .no
def zipD : List D → List D → List D
  | x :: xs, y :: ys => .tuple [x, y] :: zipD xs ys
  | _, _ => []
def itemsD : Ik → List D → Res (List D)
  | .seq, [.list xs] => .ok xs
  | .seq, [.tuple xs] => .ok xs
  | .seq, [.str z] => .ok (z.cps.toList.map sign)
  | .seq, [.dict kvs] => .ok (kvs.map (·.1))
  | .rng, [.int n] => if bnd62 n then .ok (range 0 n.toNat) else .no
  | .rng, [.int a, .int b] => if bnd62 a && bnd62 b then .ok (range a (b - a).toNat) else .no
  | .rng, [.int a, .int b, .int c] => if bnd62 a && bnd62 b && decide (c = -1) then .ok (rangeC a c (a - b).toNat) else .no
  | .rev, [.list xs] => .ok xs.reverse
  | .zip, [.list xs, .list ys] => .ok (zipD xs ys)
  | _, _ => .no

/-! ### dicts whose keys are ints -/
def getI : List (Int × D) → Int → Option D
  | [], _ => none
  | p :: r, k => if p.1 = k then some p.2 else getI r k
/-- in its place, or at the end -/
def putI (kvs : List (Int × D)) (k : Int) (d : D) : List (Int × D) :=
  if (kvs.any fun p => decide (p.1 = k)) = true then kvs.map fun p => if p.1 = k then (p.1, d) else p else kvs ++ [(k, d)]
/-! ### slots -/
inductive Opd where
  | ref (i : Nat)
  | val (x : Val)
def Val.data : Val → Res D
  | .em => .no
  | .fz d => .ok d
  | .ow xs => .ok (.list xs)
  | .io xs => .ok (.list xs)
  | .od _ => .no
  | .un => .no
/-- what an operand is when it is used -/
def deref (r : Env) : Opd → Res D
  | .ref i => match r[i]? with
    | some x => x.data
    | none => .no
  | .val x => x.data
def derefs (r : Env) : List Opd → Res (List D)
  | [] => .ok []
  | o :: os => do
    let d ← deref r o
    let ds ← derefs r os
    .ok (d :: ds)
/-- the slot read as a value that goes on: a list of its own is given up -/
def take (i : Nat) (r : Env) : Res (Val × Env) := match r[i]? with
  | some (.fz d) => .ok (.fz d, r)
  | some (.ow xs) => .ok (.fz (.list xs), r.set i (.fz (.list xs)))
  | some (.od kvs) => .ok (.fz (.dict (dictI kvs)), r.set i (.fz (.dict (dictI kvs))))
  | _ => .no
def put (i : Nat) (x : Val) (r : Env) : Res Env := match r[i]? with
  | some (.io _) => .no
  | some _ => .ok (r.set i x)
  | none => .no
mutual
def bindT : Tgt → D → Env → Res Env
  | .one i, d, r => put i (.fz d) r
  | .many ts, .tuple ds, r => bindTs ts ds r
  | .many _, _, _ => .no
def bindTs : List Tgt → List D → Env → Res Env
  | [], [], r => .ok r
  | t :: ts, d :: ds, r => do
    let r1 ← bindT t d r
    bindTs ts ds r1
  | _, _, _ => .no
end
mutual
def Tgt.slots : Tgt → List Nat
  | .one i => [i]
  | .many ts => slotsL ts
def slotsL : List Tgt → List Nat
  | [] => []
  | t :: ts => t.slots ++ slotsL ts
end
/-- the slots of walked lists -/
def hidden : List Opd → Env → List Nat
  | [], _ => []
  | .ref i :: os, r => (match r[i]? with
    | some (.ow _) => i :: hidden os r
    | _ => hidden os r)
  | .val _ :: os, r => hidden os r
/-- a list of its own is given up -/
def freeze (i : Nat) (r : Env) : Env := match r[i]? with
  | some (.ow xs) => r.set i (.fz (.list xs))
  | _ => r
def give : List Opd → Env → Env
  | [], r => r
  | .ref i :: os, r => give os (freeze i r)
  | .val _ :: os, r => give os r
def isIo (r : Env) (i : Nat) : Bool := match r[i]? with
  | some (.io _) => true
  | some (.od _) => true
  | some .un => true
  | _ => false
def isOd (r : Env) (i : Nat) : Bool := match r[i]? with
  | some (.od _) => true
  | _ => false
def isList (r : Env) (i : Nat) : Bool := match r[i]? with
  | some (.io _) => true
  | some (.ow _) => true
  | _ => false
def opdIx : List Opd → List Nat
  | [] => []
  | .ref i :: os => i :: opdIx os
  | .val _ :: os => opdIx os
def noIo (is : List Nat) (r : Env) : Bool := is.all fun i => !isIo r i
def isEm (r : Env) (i : Nat) : Bool := match r[i]? with
  | some .em => true
  | _ => false
def wipeE : List Nat → Env → Env
  | [], r => r
  | i :: is, r => (wipeE is r).set i .em
/-- the slots at is as they were -/
def back (src : Env) : List Nat → Env → Env
  | [], r => r
  | i :: is, r => (match src[i]? with
    | some x => (back src is r).set i x
    | none => back src is r)

inductive Arg where
  | io (i : Nat)
  | d (d : D)
def ioIx : List Arg → List Nat
  | [] => []
  | .io i :: r => i :: ioIx r
  | .d _ :: r => ioIx r
def argVals (r : Env) : List Arg → Res (List Val)
  | [] => .ok []
  | .d d :: as => do
    let vs ← argVals r as
    .ok (.fz d :: vs)
  | .io i :: as => match r[i]? with
    | some (.ow xs) => do
      let vs ← argVals r as
      .ok (.io xs :: vs)
    | some (.io xs) => do
      let vs ← argVals r as
      .ok (.io xs :: vs)
    | _ => .no
def setIos : List Nat → List (List D) → Env → Res Env
  | [], [], r => .ok r
  | i :: is, xs :: outs, r => match r[i]? with
    | some (.ow _) => setIos is outs (r.set i (.ow xs))
    | some (.io _) => setIos is outs (r.set i (.io xs))
    | _ => .no
  | _, _, _ => .no
def doCall (C : Ctx) (f : Nat) (as : List Arg) (r : Env) : Res (Val × Env) :=
  if (ioIx as).Nodup then do
    let vs ← argVals r as
    let (x, outs) ← C.call f vs
    let r' ← setIos (ioIx as) outs r
    .ok (x, r')
  else .no

/-- a call that only reads; what it gives holds none of it -/
def lentD (C : Ctx) (f : Nat) (ds : List D) : Res D :=
  if (C.ios f).all (fun b => !b) && decide ((C.ios f).length = ds.length) then do
    let (x, _) ← C.call f (ds.map .fz)
    match x with
    | .fz d => if flat d then .ok d else .no
    | _ => .no
  else .no
/-! ### loops -/
def lcLoop (ws : List Nat) (bind : D → Env → Res Env) (c : Env → Res (Bool × Env)) (f : Env → Res (D × Env)) : List D → List D → Env → Res (List D × Env)
  | [], acc, r => .ok (acc, r)
  | d :: ds, acc, r => do
    let r1 ← bind d r
    let (b, r2) ← c r1
    if b then do
      let (x, r3) ← f r2
      if lenOk (acc.length + 1) then lcLoop ws bind c f ds (acc ++ [x]) (wipeE ws r3) else .no
    else lcLoop ws bind c f ds acc (wipeE ws r2)
def forL (bind : D → Env → Res Env) (body : Env → Res Flow) : List D → Env → Res Flow
  | [], r => .ok (.nx r)
  | d :: ds, r => do
    let r1 ← bind d r
    match ← body r1 with
    | .nx r2 => forL bind body ds r2
    | .ct r2 => forL bind body ds r2
    | .bk r2 => .ok (.nx r2)
    | .rt v r2 => .ok (.rt v r2)
    | .xc e => .ok (.xc e)
def whileL (c : Env → Res (Bool × Env)) (body : Env → Res Flow) : Nat → Env → Res Flow
  | 0, _ => .no
  | n + 1, r => do
    let (b, r1) ← c r
    if b then
      match ← body r1 with
      | .nx r2 => whileL c body n r2
      | .ct r2 => whileL c body n r2
      | .bk r2 => .ok (.nx r2)
      | .rt v r2 => .ok (.rt v r2)
      | .xc e => .ok (.xc e)
    else .ok (.nx r1)

/-- an operand: a name is read when it is used -/
def asO (e : E) (k : Env → Res (Val × Env)) (r : Env) : Res (Opd × Env) := match e with
  | .v i => match r[i]? with
    | some .em => .no
    | some (.od _) => .no
    | some .un => .no
    | some _ => .ok (.ref i, r)
    | none => .no
  | _ => do
    let (x, r') ← k r
    .ok (.val x, r')
def Val.fix : Val → Res D
  | .fz d => .ok d
  | .ow xs => .ok (.list xs)
  | _ => .no
/-- data that goes on -/
def fixed (k : Res (Val × Env)) : Res (D × Env) := do
  let (x, r) ← k
  let d ← x.fix
  .ok (d, r)
def tested (k : Res (D × Env)) : Res (Bool × Env) := do
  let (d, r) ← k
  let b ← truth d
  .ok (b, r)

/-- xs[q] op= d of the list at i -/
def intAt (xs : List D) (n : Int) : Res Int := match atL xs n with
  | some (.int a) => .ok a
  | _ => .no
def getX (i : Nat) (q : D) (r : Env) : Res Int := match q with
  | .int n => (match r[i]? with
    | some (.ow xs) => intAt xs n
    | some (.io xs) => intAt xs n
    | _ => .no)
  | _ => .no
def stoX (i : Nat) (n : Int) (d : D) (r : Env) : Res Env := match r[i]? with
  | some (.ow xs) => (match ixL xs.length n with
    | some j => .ok (r.set i (.ow (xs.set j d)))
    | none => .no)
  | some (.io xs) => (match ixL xs.length n with
    | some j => .ok (r.set i (.io (xs.set j d)))
    | none => .no)
  | _ => .no
def setX (i : Nat) (q : D) (op : Bop) (a : Int) (d : D) (r : Env) : Res Env := match q, op, d with
  | .int n, .add, .int b => stoX i n (.int (a + b)) r
  | .int n, .sub, .int b => stoX i n (.int (a - b)) r
  | _, _, _ => .no
/-- xs.pop(q) of the list at i -/
def popX (xs : List D) (n : Int) : Option (D × List D) := if lenOk xs.length then (match ixL xs.length n with
  | some j => (match xs[j]? with
    | some d => some (d, xs.eraseIdx j)
    | none => none)
  | none => none) else none
def popD (i : Nat) (q : D) (r : Env) : Res (Val × Env) := match q with
  | .int n => (match r[i]? with
    | some (.ow xs) => (match popX xs n with
      | some (d, ys) => .ok (.fz d, r.set i (.ow ys))
      | none => .no)
    | some (.io xs) => (match popX xs n with
      | some (d, ys) => .ok (.fz d, r.set i (.io ys))
      | none => .no)
    | _ => .no)
  | _ => .no
/-- the text of a part of an f-string -/
def fsT : D → Option Str
  | .str s => if s.length ≤ 16777216 then some s else none
  | .int i => if i.natAbs < 2 ^ 1900 then some (toString i) else none
  | _ => none
def fsD : List D → Str → Res Str
  | [], acc => .ok acc
  | d :: ds, acc => match fsT d with
    | some t => if lenOk (acc ++ t).length then fsD ds (acc ++ t) else .no
    | none => .no
/-- what is said of each item of each item: the item, or a call of it -/
def eltF (C : Ctx) (i1 : Nat) : E → D → Res D
  | .v j, y => if j = i1 then .ok y else .no
  | .call f [.v j], y => if j = i1 then (match C.ios f, C.call f [.fz y] with
    | [false], .ok (x, []) => x.fix
    | _, _ => .no) else .no
  | _, _ => .no
def items0 : D → Res (List D)
  | .dict _ => .no
  | d => itemsD .seq [d]
def inF (g : D → Res D) : List D → List D → Res (List D)
  | [], acc => .ok acc
  | y :: ys, acc => do
    let d ← g y
    if lenOk (acc.length + 1) then inF g ys (acc ++ [d]) else .no
def outF (g : D → Res D) : List D → List D → Res (List D)
  | [], acc => .ok acc
  | x :: xs, acc => do
    let ys ← items0 x
    let acc' ← inF g ys acc
    outF g xs acc'
mutual
def evE (C : Ctx) : E → Env → Res (Val × Env)
  | .v i, r => take i r
  | .gl i, r => match C.gl i with
    | some d => .ok (.fz d, r)
    | none => .no
  | .non, r => .ok (.fz .none, r)
  | .bl b, r => .ok (.fz (.bool b), r)
  | .int i, r => .ok (.fz (.int i), r)
  | .str x, r => .ok (.fz (.str (Str.ofString x)), r)
  | .tup es, r => do
    let (ds, r') ← evDs C es r
    if lenOk ds.length then .ok (.fz (.tuple ds), r') else .no
  | .trr e, r => do
    let (o, r1) ← asO e (evE C e) r
    let d ← deref r1 o
    match d with
    | .int n => if rgOk 0 n then .ok (.fz (.tuple (range 0 n.toNat).reverse), r1) else .no
    | _ => .no
  | .fs es, r => do
    let (ds, r') ← evDs C es r
    let z ← fsD ds Str.empty
    .ok (.fz (.str z), r')
  | .lst es, r => do
    let (ds, r') ← evDs C es r
    if lenOk ds.length then .ok (.ow ds, r') else .no
  | .dct x a, r => do
    let (d, r') ← fixed (evE C a r)
    .ok (.fz (.dict [(.str (Str.ofString x), d)]), r')
  | .dct0, r => .ok (.fz (.dict []), r)
  | .bin op a b, r => do
    let (o1, r1) ← asO a (evE C a) r
    let (o2, r2) ← asO b (evE C b) r1
    let d1 ← deref r2 o1
    let d2 ← deref r2 o2
    let x ← binD op d1 d2
    .ok (x, r2)
  | .neg a, r => do
    let (o, r1) ← asO a (evE C a) r
    match ← deref r1 o with
    | .int i => .ok (.fz (.int (-i)), r1)
    | _ => .no
  | .not a, r => do
    let (b, r1) ← tested (fixed (evE C a r))
    .ok (.fz (.bool (!b)), r1)
  | .cmp op a b, r => do
    let (o1, r1) ← asO a (evE C a) r
    let (o2, r2) ← asO b (evE C b) r1
    let d1 ← deref r2 o1
    let d2 ← deref r2 o2
    let x ← cmpD op d1 d2
    .ok (.fz (.bool x), r2)
  | .chain op1 op2 a b c, r => do
    let (o1, r1) ← asO a (evE C a) r
    let (o2, r2) ← asO b (evE C b) r1
    let d1 ← deref r2 o1
    let d2 ← deref r2 o2
    let x ← cmpD op1 d1 d2
    if x then do
      let (o3, r3) ← asO c (evE C c) r2
      let d2' ← deref r3 o2
      let d3 ← deref r3 o3
      let y ← cmpD op2 d2' d3
      .ok (.fz (.bool y), r3)
    else .ok (.fz (.bool false), r2)
  | .isN a, r => do
    let (o, r1) ← asO a (evE C a) r
    match ← deref r1 o with
    | .none => .ok (.fz (.bool true), r1)
    | _ => .ok (.fz (.bool false), r1)
  | .notN a, r => do
    let (o, r1) ← asO a (evE C a) r
    match ← deref r1 o with
    | .none => .ok (.fz (.bool false), r1)
    | _ => .ok (.fz (.bool true), r1)
  | .and es, r => evAnd C es r
  | .or es, r => evOr C es r
  | .ite c a b, r => do
    let (x, r1) ← tested (fixed (evE C c r))
    if x then evE C a r1 else evE C b r1
  | .idx a i, r => do
    let (o1, r1) ← asO a (evE C a) r
    let (o2, r2) ← asO i (evE C i) r1
    let d1 ← deref r2 o1
    let d2 ← deref r2 o2
    let x ← idxD d1 d2
    .ok (.fz x, r2)
  | .slc a lo hi, r => do
    let (o1, r1) ← asO a (evE C a) r
    let (l, r2) ← evPart C lo r1
    let (h, r3) ← evPart C hi r2
    let d ← deref r3 o1
    let x ← slcD d l h
    .ok (x, r3)
  | .call f es, r => do
    let (as, r1) ← evAs C es (C.ios f) r
    doCall C f as r1
  | .callB f es, r => do
    let (os, r1) ← evOs C es r
    let ds ← derefs r1 os
    let d ← lentD C f ds
    .ok (.fz d, r1)
  | .bi b es, r => do
    let (os, r1) ← evOs C es r
    let ds ← derefs r1 os
    let x ← biD b ds
    .ok (x, r1)
  | .isi a t, r => do
    let (o, r1) ← asO a (evE C a) r
    let d ← deref r1 o
    .ok (.fz (.bool (isTy d t)), r1)
  | .dget i k, r => if !isOd r i then .no else do
    let (o, r1) ← asO k (evE C k) r
    match ← deref r1 o with
    | .int n => match r1[i]? with
      | some (.od kvs) => match getI kvs n with
        | some d => .ok (.fz d, r1)
        | none => .no
      | _ => .no
    | _ => .no
  | .popl i, r => match r[i]? with
    | some (.ow xs) => (match xs[xs.length - 1]? with
      | some d => .ok (.fz d, r.set i (.ow xs.dropLast))
      | none => .no)
    | some (.io xs) => (match xs[xs.length - 1]? with
      | some d => .ok (.fz d, r.set i (.io xs.dropLast))
      | none => .no)
    | _ => .no
  | .popa i k, r => if !isList r i then .no else do
    let (q, r1) ← fixed (evE C k r)
    popD i q r1
  | .mt m a es, r => do
    let (d, r1) ← fixed (evE C a r)
    let (ds, r2) ← evDs C es r1
    let x ← mtD m d ds
    .ok (x, r2)
  | .dsp ks es, r => do
    let (ds, r') ← evDs C es r
    .ok (.fz (.dict (zipK ks ds)), r')
  | .lc hid t k es c elt, r => do
    let (os, r1) ← evOs C es r
    let ds ← derefs r1 os
    let xs ← itemsD k ds
    let ms := t.slots ++ (if hid then hidden os r1 else [])
    let r1' := if hid then r1 else give os r1
    if noIo (opdIx os ++ t.slots) r1 then do
      let (acc, r3) ← lcLoop t.slots (bindT t) (evCs C c) (fun r => fixed (evE C elt r)) xs [] (wipeE ms r1')
      .ok (.ow acc, back r1' ms r3)
    else .no
  | .fl2 i0 i1 e elt, r => do
    let (o, r1) ← asO e (evE C e) r
    let ds ← derefs r1 [o]
    let xs ← itemsD .seq ds
    if noIo (opdIx [o] ++ [i0, i1]) r1 && (decide (i0 ≠ i1) && (decide (i0 < r1.length) && decide (i1 < r1.length))) then do
      let acc ← outF (eltF C i1 elt) xs []
      .ok (.ow acc, back (give [o] r1) [i0, i1] (wipeE [i0, i1] (give [o] r1)))
    else .no
def evDs (C : Ctx) : List E → Env → Res (List D × Env)
  | [], r => .ok ([], r)
  | e :: es, r => do
    let (d, r1) ← fixed (evE C e r)
    let (ds, r2) ← evDs C es r1
    .ok (d :: ds, r2)
def evOs (C : Ctx) : List E → Env → Res (List Opd × Env)
  | [], r => .ok ([], r)
  | e :: es, r => do
    let (o, r1) ← asO e (evE C e) r
    let (os, r2) ← evOs C es r1
    .ok (o :: os, r2)
def evAs (C : Ctx) : List E → List Bool → Env → Res (List Arg × Env)
  | [], [], r => .ok ([], r)
  | .v i :: es, true :: fs, r => do
    let _ ← asO (.v i) (fun _ => .no) r
    let (as, r2) ← evAs C es fs r
    .ok (.io i :: as, r2)
  | e :: es, false :: fs, r => do
    let (d, r1) ← fixed (evE C e r)
    let (as, r2) ← evAs C es fs r1
    .ok (.d d :: as, r2)
  | _, _, _ => .no
def evAnd (C : Ctx) : List E → Env → Res (Val × Env)
  | [], _ => .no
  | [e], r => evE C e r
  | e :: es, r => do
    let (d, r1) ← fixed (evE C e r)
    if ← truth d then evAnd C es r1 else .ok (.fz d, r1)
def evOr (C : Ctx) : List E → Env → Res (Val × Env)
  | [], _ => .no
  | [e], r => evE C e r
  | e :: es, r => do
    let (d, r1) ← fixed (evE C e r)
    if ← truth d then .ok (.fz d, r1) else evOr C es r1
def evCs (C : Ctx) : List E → Env → Res (Bool × Env)
  | [], r => .ok (true, r)
  | [e], r => tested (fixed (evE C e r))
  | _, _ => .no
def evPart (C : Ctx) : Option E → Env → Res (Option Int × Env)
  | none, r => .ok (none, r)
  | some e, r => do
    let (o, r1) ← asO e (evE C e) r
    match ← deref r1 o with
    | .int i => .ok (some i, r1)
    | _ => .no
end
def evT (C : Ctx) (e : E) (r : Env) : Res (Bool × Env) := tested (fixed (evE C e r))

def xkF : Xk → Val → Env → Res Flow
  | .asg i, x, r => do
    let r2 ← put i x r
    .ok (.nx r2)
  | .asgT ts, x, r => do
    let d ← x.data
    let r2 ← bindT (.many ts) d r
    .ok (.nx r2)
  | .ret, x, r => .ok (.rt x r)
/-- a call that may raise: its arguments are data -/
def runX (C : Ctx) (f : Nat) (as : List Arg) (r : Env) (ok : Val → Env → Res Flow) (no : Exn → Res Flow) : Res Flow := match ioIx as, doCall C f as r with
  | [], .ok (x, r2) => ok x r2
  | [], .ex e => no e
  | _, _ => .no

mutual
def exS (C : Ctx) : S → Env → Res Flow
  | .asg i e, r => do
    let (x, r1) ← evE C e r
    let r2 ← put i x r1
    .ok (.nx r2)
  | .asgT ts e, r => do
    let (o, r1) ← asO e (evE C e) r
    let d ← deref r1 o
    let r2 ← bindT (.many ts) d r1
    .ok (.nx r2)
  | .par i j a b, r => do
    let (x, r1) ← evE C a r
    let d ← x.fix
    let (y, r2) ← evE C b r1
    let d' ← y.fix
    if i = j then .no else do
      let r3 ← put i (.fz d) r2
      let r4 ← put j (.fz d') r3
      .ok (.nx r4)
  | .sto i k e, r => do
    let (d, r1) ← fixed (evE C e r)
    if !isList r1 i then .no else do
    let (o, r2) ← asO k (evE C k) r1
    match ← deref r2 o with
    | .int n => match r2[i]? with
      | some (.ow xs) => match ixL xs.length n with
        | some j => .ok (.nx (r2.set i (.ow (xs.set j d))))
        | none => .no
      | some (.io xs) => match ixL xs.length n with
        | some j => .ok (.nx (r2.set i (.io (xs.set j d))))
        | none => .no
      | _ => .no
    | _ => .no
  | .dnew i, r => do
    let r1 ← put i (.od []) r
    .ok (.nx r1)
  | .dsto i k e, r => do
    let (d, r1) ← fixed (evE C e r)
    if !isOd r1 i then .no else do
    let (o, r2) ← asO k (evE C k) r1
    match ← deref r2 o with
    | .int n => match r2[i]? with
      | some (.od kvs) => if decide (kvs.length < 16777216) then .ok (.nx (r2.set i (.od (putI kvs n d)))) else .no
      | _ => .no
    | _ => .no
  | .dmv i j, r => if i = j then .no else match r[j]? with
    | some (.od kvs) => do
      let r1 ← put i (.od kvs) r
      .ok (.nx (r1.set j .un))
    | _ => .no
  | .aug i op e, r => match r[i]? with
    | some (.fz d) => do
      let (o, r1) ← asO e (evE C e) r
      let d2 ← deref r1 o
      match op, d, d2 with
      | .add, .int _, .int _ | .sub, .int _, .int _ | .mul, .int _, .int _ | .add, .str _, .str _ => do
        let x ← binD op d d2
        let r2 ← put i x r1
        .ok (.nx r2)
      | _, _, _ => .no
    | _ => .no
  | .augS i op k e, r => if !isList r i then .no else do
    let (q, r1) ← fixed (evE C k r)
    let a ← getX i q r1
    let (d, r2) ← fixed (evE C e r1)
    let r3 ← setX i q op a d r2
    .ok (.nx r3)
  | .app i e, r => if !isList r i then .no else do
    let (d, r1) ← fixed (evE C e r)
    match r1[i]? with
    | some (.ow xs) => if lenOk (xs.length + 1) then .ok (.nx (r1.set i (.ow (xs ++ [d])))) else .no
    | some (.io xs) => if lenOk (xs.length + 1) then .ok (.nx (r1.set i (.io (xs ++ [d])))) else .no
    | _ => .no
  | .ext i e, r => if !isList r i then .no else do
    let (x, r1) ← evE C e r
    match x with
    | .ow ys => match r1[i]? with
      | some (.ow xs) => if lenOk (xs.length + ys.length) then .ok (.nx (r1.set i (.ow (xs ++ ys)))) else .no
      | some (.io xs) => if lenOk (xs.length + ys.length) then .ok (.nx (r1.set i (.io (xs ++ ys)))) else .no
      | _ => .no
    | _ => .no
  | .ifs c a b, r => do
    let (x, r1) ← evT C c r
    if x then exSs C a r1 else exSs C b r1
  | .for hid t k es body, r => do
    let (os, r1) ← evOs C es r
    let ds ← derefs r1 os
    let xs ← itemsD k ds
    if noIo (opdIx os) r1 then do
      match ← forL (bindT t) (exSs C body) xs (if hid then wipeE (hidden os r1) r1 else give os r1) with
      | .nx r2 =>
        if hid then
          if (hidden os r1).all (isEm r2) then .ok (.nx (back r1 (hidden os r1) r2)) else .no
        else .ok (.nx r2)
      | f => .ok f
    else .no
  | .whl c body, r => whileL (evT C c) (exSs C body) C.fuel r
  | .ret e, r => match e with
    | .v i => match r[i]? with
      | some (.ow xs) => .ok (.rt (.ow xs) (r.set i .em))
      | _ => do
        let (x, r1) ← evE C (.v i) r
        .ok (.rt x r1)
    | e => do
      let (x, r1) ← evE C e r
      .ok (.rt x r1)
  | .retN, r => .ok (.rt (.fz .none) r)
  | .brk, r => .ok (.bk r)
  | .cont, r => .ok (.ct r)
  | .pass, r => .ok (.nx r)
  | .tryB body, r => do
    match ← exSs C body r with
    | .xc _ => .no
    | f => .ok f
  | .expr e, r => do
    let (_, r1) ← evE C e r
    .ok (.nx r1)
  | .never, _ => .no
  | .raise c e, r => if C.xc c then do
    let (d, _) ← fixed (evE C e r)
    .ok (.xc ⟨c, d⟩)
    else .no
  | .xs k f es, r => do
    let (as, r1) ← evAs C es (C.ios f) r
    runX C f as r1 (xkF k) fun e => .ok (.xc e)
  | .told _ f es, r => if C.er then do
    let (as, r1) ← evAs C es (C.ios f) r
    runX C f as r1 (fun x r2 => .ok (.rt x r2)) fun e => if C.xc e.cls then .ok (.rt (.fz (errD e)) r1) else .no
    else .no
def exSs (C : Ctx) : List S → Env → Res Flow
  | [], r => .ok (.nx r)
  | s :: ss, r => do
    match ← exS C s r with
    | .nx r1 => exSs C ss r1
    | f => .ok f
end

/-! ### functions -/
def argsFit : List Bool → List Val → Bool
  | [], [] => true
  | true :: fs, .io _ :: vs => argsFit fs vs
  | false :: fs, .fz _ :: vs => argsFit fs vs
  | _, _ => false
def ioOuts : List Bool → Env → Res (List (List D))
  | [], _ => .ok []
  | true :: fs, .io xs :: r => do
    let outs ← ioOuts fs r
    .ok (xs :: outs)
  | false :: fs, _ :: r => ioOuts fs r
  | _, _ => .no
/-- an error that flies through an expression is not told of -/
def noX {α : Type} : Res α → Res α
  | .ok a => .ok a
  | _ => .no
theorem noX_ok {α : Type} {m : Res α} {a : α} (h : noX m = .ok a) : m = .ok a := by
  cases m with
  | ok b => exact h
  | ex e => cases h
  | no => cases h
def runFn (C : Ctx) (fn : Fn) (vs : List Val) : Res (Val × List (List D)) :=
  if argsFit fn.ios vs && decide (fn.ios.length ≤ fn.nslots) then do
    match ← noX (exSs C fn.body (vs ++ List.replicate (fn.nslots - fn.ios.length) .em)) with
    | .nx r => do
      let outs ← ioOuts fn.ios r
      .ok (.fz .none, outs)
    | .rt v r => do
      let outs ← ioOuts fn.ios r
      .ok (v, outs)
    | .xc e => if fn.ios.all (!·) then .ex e else .no
    | _ => .no
  else .no
structure Prog where
  tab : Nat → Option Fn
  gl : Nat → Option D
  fuel : Nat
  xc : Nat → Bool
  er : Bool
def Prog.ios (P : Prog) (f : Nat) : List Bool := match P.tab f with
  | some fn => fn.ios
  | none => []
def callF (P : Prog) : Nat → Nat → List Val → Res (Val × List (List D))
  | 0, _, _ => .no
  | k + 1, f, vs => match P.tab f with
    | some fn => runFn { gl := P.gl, call := callF P k, ios := P.ios, fuel := P.fuel, xc := P.xc, er := P.er } fn vs
    | none => .no
def Prog.ctx (P : Prog) (k : Nat) : Ctx := { gl := P.gl, call := callF P k, ios := P.ios, fuel := P.fuel, xc := P.xc, er := P.er }
theorem callF_succ {P : Prog} {k f : Nat} {fn : Fn} {vs : List Val} (h : P.tab f = some fn) : callF P (k + 1) f vs = runFn (P.ctx k) fn vs := by
  show (match P.tab f with | some fn => runFn (P.ctx k) fn vs | none => .no) = _
  rw [h]
end DL

set_option Elab.async false
set_option linter.all false
set_option maxRecDepth 100000
set_option maxHeartbeats 4000000
set_option autoImplicit false
/-! DL2: what stands for what: data in the abstract heap. -/
namespace DL
open PySem PySem.Spec PyProof.Rows L2


abbrev Slots := L2.St
abbrev Mt (o : HO) : Prop := L2.Mut (some o)

/-- a list of the module's own -/
def KLst (K : PySem.W.Frag) (a : Addr) (xs : List V) : Prop := ∃ (o : Obj) (its : Array Value) (n : Nat), K.lookup a = some o ∧ o.cls = .type "list" ∧ o.dict = none ∧ o.data = .seq its n ∧ its.size ≤ sizeLine ∧ Vals xs its.toList
mutual
/-- v stands for the data d; the lists and dicts in it lie at addresses of S, which do not change -/
inductive Rp (K : PySem.W.Frag) (H : Hp) (S : Addr → Prop) : V → D → Prop
  | non : Rp K H S .non .none
  | bl (b : Bool) : Rp K H S (.bl b) (.bool b)
  | int (i : Int) : Rp K H S (.int i) (.int i)
  | str (x : Str) : Rp K H S (.str x) (.str x)
  | lst {a : Addr} {xs : List V} {ds : List D} : S a → Rd H a (.lst xs) → RpL K H S xs ds → Rp K H S (.ref a) (.list ds)
  | lstK {a : Addr} {xs : List V} {ds : List D} : KLst K a xs → RpL K H S xs ds → Rp K H S (.ref a) (.list ds)
  | tup {a : Addr} {xs : List V} {ds : List D} : SqT K H a xs → RpL K H S xs ds → Rp K H S (.ref a) (.tuple ds)
  | dct {a : Addr} {o : Obj} {kvs : List (Key × V)} {ds : List (D × D)} : H a = some (.frz o (.dK kvs)) → RpK K H S kvs ds → Rp K H S (.ref a) (.dict ds)
inductive RpL (K : PySem.W.Frag) (H : Hp) (S : Addr → Prop) : List V → List D → Prop
  | nil : RpL K H S [] []
  | cons {v : V} {vs : List V} {d : D} {ds : List D} : Rp K H S v d → RpL K H S vs ds → RpL K H S (v :: vs) (d :: ds)
inductive RpK (K : PySem.W.Frag) (H : Hp) (S : Addr → Prop) : List (Key × V) → List (D × D) → Prop
  | nil : RpK K H S [] []
  | cons {k : Str} {v : V} {vs : List (Key × V)} {d : D} {ds : List (D × D)} : Rp K H S v d → RpK K H S vs ds → RpK K H S ((.inr k, v) :: vs) ((.str k, d) :: ds)
  | consI {i : Int} {v : V} {vs : List (Key × V)} {d : D} {ds : List (D × D)} : Rp K H S v d → RpK K H S vs ds → RpK K H S ((.inl i, v) :: vs) ((.int i, d) :: ds)
end

section
variable {K : PySem.W.Frag} {H H' : Hp} {S S' : Addr → Prop}

theorem rd_kept {a : Addr} {u : HO} (hk : ∀ b o, H b = some o → (S b ∨ ¬ Mt o) → H' b = some o) (ha : S a ∨ ¬ Mt u) (h : Rd H a u) : Rd H' a u := by
  rcases h with h | ⟨o, h⟩
  · exact .inl (hk a u h ha)
  · exact .inr ⟨o, hk a _ h (.inr fun z => z)⟩
theorem sqt_kept {a : Addr} {xs : List V} (hk : ∀ b o, H b = some o → (S b ∨ ¬ Mt o) → H' b = some o) (h : SqT K H a xs) : SqT K H' a xs := by
  rcases h with h | h
  · exact .inl (rd_kept hk (.inr fun z => z) h)
  · exact .inr h
mutual
theorem Rp.mono (hk : ∀ b o, H b = some o → (S b ∨ ¬ Mt o) → H' b = some o) (hs : ∀ b, S b → S' b) : ∀ (d : D) (v : V), Rp K H S v d → Rp K H' S' v d
  | .none, _, h => by cases h; exact .non
  | .bool b, _, h => by cases h; exact .bl b
  | .int i, _, h => by cases h; exact .int i
  | .str x, _, h => by cases h; exact .str x
  | .list ds, _, h => by
    cases h with
    | lst h1 h2 h3 => exact .lst (hs _ h1) (rd_kept hk (.inl h1) h2) (RpL.mono hk hs ds _ h3)
    | lstK h1 h3 => exact .lstK h1 (RpL.mono hk hs ds _ h3)
  | .tuple ds, _, h => by
    cases h with
    | tup h2 h3 => exact .tup (sqt_kept hk h2) (RpL.mono hk hs ds _ h3)
  | .dict ds, _, h => by
    cases h with
    | dct h1 h3 => exact .dct (hk _ _ h1 (.inr fun z => z)) (RpK.mono hk hs ds _ h3)
theorem RpL.mono (hk : ∀ b o, H b = some o → (S b ∨ ¬ Mt o) → H' b = some o) (hs : ∀ b, S b → S' b) : ∀ (ds : List D) (vs : List V), RpL K H S vs ds → RpL K H' S' vs ds
  | [], _, h => by cases h; exact .nil
  | d :: ds, _, h => by
    cases h with
    | cons h1 h2 => exact .cons (Rp.mono hk hs d _ h1) (RpL.mono hk hs ds _ h2)
theorem RpK.mono (hk : ∀ b o, H b = some o → (S b ∨ ¬ Mt o) → H' b = some o) (hs : ∀ b, S b → S' b) : ∀ (ds : List (D × D)) (vs : List (Key × V)), RpK K H S vs ds → RpK K H' S' vs ds
  | [], _, h => by cases h; exact .nil
  | (k, d) :: ds, _, h => by
    cases h with
    | cons h1 h2 => exact .cons (Rp.mono hk hs d _ h1) (RpK.mono hk hs ds _ h2)
    | consI h1 h2 => exact .consI (Rp.mono hk hs d _ h1) (RpK.mono hk hs ds _ h2)
end

theorem RpL.length : ∀ {vs : List V} {ds : List D}, RpL K H S vs ds → vs.length = ds.length
  | [], _, h => by cases h; rfl
  | v :: vs, _, h => by
    cases h with
    | cons h1 h2 => simp [RpL.length h2]
theorem RpL.get : ∀ {vs : List V} {ds : List D} {i : Nat} {d : D}, RpL K H S vs ds → ds[i]? = some d → ∃ v, vs[i]? = some v ∧ Rp K H S v d
  | [], _, i, d, h, e => by cases h; simp at e
  | v :: vs, _, 0, d, h, e => by
    cases h with
    | cons h1 h2 =>
      simp at e
      subst e
      exact ⟨v, rfl, h1⟩
  | v :: vs, _, i + 1, d, h, e => by
    cases h with
    | cons h1 h2 =>
      obtain ⟨w, e1, r⟩ := RpL.get (i := i) h2 (by simpa using e)
      exact ⟨w, by simpa using e1, r⟩
theorem RpL.get' {vs : List V} {ds : List D} {i : Nat} {v : V} (h : RpL K H S vs ds) (e : vs[i]? = some v) : ∃ d, ds[i]? = some d ∧ Rp K H S v d := by
  have hl := h.length
  have hi : i < vs.length := (List.getElem?_eq_some_iff.mp e).1
  obtain ⟨w, e1, r⟩ := h.get (i := i) (d := ds[i]'(by omega)) (by simp)
  rw [e] at e1
  cases e1
  exact ⟨_, by simp, r⟩
theorem RpL.append : ∀ {vs ws : List V} {ds es : List D}, RpL K H S vs ds → RpL K H S ws es → RpL K H S (vs ++ ws) (ds ++ es)
  | [], _, _, _, h, h' => by cases h; exact h'
  | v :: vs, _, _, _, h, h' => by
    cases h with
    | cons h1 h2 => exact .cons h1 (RpL.append h2 h')
theorem RpL.take : ∀ {vs : List V} {ds : List D} (n : Nat), RpL K H S vs ds → RpL K H S (vs.take n) (ds.take n)
  | _, _, 0, _ => .nil
  | [], _, n + 1, h => by cases h; exact .nil
  | v :: vs, _, n + 1, h => by
    cases h with
    | cons h1 h2 => exact .cons h1 (RpL.take n h2)
theorem RpL.drop : ∀ {vs : List V} {ds : List D} (n : Nat), RpL K H S vs ds → RpL K H S (vs.drop n) (ds.drop n)
  | _, _, 0, h => h
  | [], _, n + 1, h => by cases h; exact .nil
  | v :: vs, _, n + 1, h => by
    cases h with
    | cons h1 h2 => exact RpL.drop n h2
theorem RpL.set {v : V} {d : D} (r : Rp K H S v d) : ∀ {vs : List V} {ds : List D} (n : Nat), RpL K H S vs ds → RpL K H S (vs.set n v) (ds.set n d)
  | [], _, n, h => by cases h; exact .nil
  | w :: vs, _, 0, h => by
    cases h with
    | cons h1 h2 => exact .cons r h2
  | w :: vs, _, n + 1, h => by
    cases h with
    | cons h1 h2 => exact .cons h1 (RpL.set r n h2)
theorem RpL.reverse : ∀ {vs : List V} {ds : List D}, RpL K H S vs ds → RpL K H S vs.reverse ds.reverse
  | [], _, h => by cases h; exact .nil
  | v :: vs, _, h => by
    cases h with
    | cons h1 h2 =>
      rw [List.reverse_cons, List.reverse_cons]
      exact (RpL.reverse h2).append (.cons h1 .nil)
theorem RpL.cut {vs : List V} {ds : List D} (lo hi : Option Int) (h : RpL K H S vs ds) : RpL K H S (cutV vs lo hi) (cutL ds lo hi) := by
  unfold cutV cutL
  rw [h.length]
  exact (h.drop _).take _

/-- a dict whose keys are ints -/
inductive RpI (K : PySem.W.Frag) (H : Hp) (S : Addr → Prop) : List (Key × V) → List (Int × D) → Prop
  | nil : RpI K H S [] []
  | cons {i : Int} {v : V} {vs : List (Key × V)} {d : D} {ds : List (Int × D)} : Rp K H S v d → RpI K H S vs ds → RpI K H S ((.inl i, v) :: vs) ((i, d) :: ds)
theorem RpI.mono (hk : ∀ b o, H b = some o → (S b ∨ ¬ Mt o) → H' b = some o) (hs : ∀ b, S b → S' b) : ∀ {vs : List (Key × V)} {ds : List (Int × D)}, RpI K H S vs ds → RpI K H' S' vs ds
  | _, _, .nil => .nil
  | _, _, .cons h t => .cons (Rp.mono hk hs _ _ h) (RpI.mono hk hs t)
theorem RpI.length : ∀ {vs : List (Key × V)} {ds : List (Int × D)}, RpI K H S vs ds → vs.length = ds.length
  | _, _, .nil => rfl
  | _, _, .cons _ t => by simp [RpI.length t]

/-! ### slots -/
def OwnL (σ : Slots) (r : Env) (b : Addr) : Prop := ∃ (i : Nat) (xs : List D), (r[i]? = some (.ow xs) ∨ r[i]? = some (.io xs)) ∧ σ[i]? = some (some (.ref b))
def OwnD (σ : Slots) (r : Env) (b : Addr) : Prop := ∃ (i : Nat) (kvs : List (Int × D)), r[i]? = some (.od kvs) ∧ σ[i]? = some (some (.ref b))
def Own (σ : Slots) (r : Env) (b : Addr) : Prop := OwnL σ r b ∨ OwnD σ r b
/-- a dict that no data leans on -/
def LoneD (K : PySem.W.Frag) (H : Hp) (S : Addr → Prop) (v : V) (kvs : List (Int × D)) : Prop := ∃ a vs, v = .ref a ∧ H a = some (.dK vs) ∧ ¬ S a ∧ RpI K H S vs kvs
/-- a list that no data leans on -/
def Lone (K : PySem.W.Frag) (H : Hp) (S : Addr → Prop) (v : V) (xs : List D) : Prop := ∃ a vs, v = .ref a ∧ H a = some (.lst vs) ∧ ¬ S a ∧ RpL K H S vs xs
structure SR (K : PySem.W.Frag) (σ : Slots) (H : Hp) (r : Env) (S : Addr → Prop) : Prop where
  fz : ∀ (i : Nat) (d : D), r[i]? = some (.fz d) → ∃ v, σ[i]? = some (some v) ∧ Rp K H S v d
  lone : ∀ (i : Nat) (xs : List D), (r[i]? = some (.ow xs) ∨ r[i]? = some (.io xs)) → ∃ v, σ[i]? = some (some v) ∧ Lone K H S v xs
  one : ∀ (i j : Nat) (xs ys : List D) (a : Addr), (r[i]? = some (.ow xs) ∨ r[i]? = some (.io xs)) → (r[j]? = some (.ow ys) ∨ r[j]? = some (.io ys)) → σ[i]? = some (some (.ref a)) → σ[j]? = some (some (.ref a)) → i = j
  wf : ∀ b, S b → H b ≠ none
  len : r.length = σ.length
  dic : ∀ (i : Nat) (kvs : List (Int × D)), r[i]? = some (.od kvs) → ∃ v, σ[i]? = some (some v) ∧ LoneD K H S v kvs
  oned : ∀ (i j : Nat) (xs ys : List (Int × D)) (a : Addr), r[i]? = some (.od xs) → r[j]? = some (.od ys) → σ[i]? = some (some (.ref a)) → σ[j]? = some (some (.ref a)) → i = j

/-- from one state to a later one -/
structure Go (K : PySem.W.Frag) (σ : Slots) (r : Env) (S : Addr → Prop) (H : Hp) (σ' : Slots) (r' : Env) (S' : Addr → Prop) (H' : Hp) : Prop where
  sr : SR K σ' H' r' S'
  fr : ∀ b o, H b = some o → ¬ Own σ r b → H' b = some o
  dm : ∀ b, H b ≠ none → H' b ≠ none
  ss : ∀ b, S b → S' b
  sg : ∀ b, S' b → S b ∨ H b = none ∨ Own σ r b
  ow : ∀ b, Own σ' r' b → Own σ r b ∨ H b = none
  ne : ∀ (i : Nat) (x : Val), r[i]? = some x → x ≠ .em → ∃ y, r'[i]? = some y ∧ y ≠ .em
  em : ∀ (i : Nat), r[i]? = some .em → r'[i]? = some .em → σ'[i]? = σ[i]?
  io : ∀ (i : Nat) (xs : List D), r[i]? = some (.io xs) → σ'[i]? = σ[i]? ∧ ∃ ys, r'[i]? = some (.io ys)
  ln : r'.length = r.length

theorem OwnL.lst {σ : Slots} {r : Env} {b : Addr} (s : SR K σ H r S) (h : OwnL σ r b) : ∃ vs, H b = some (.lst vs) ∧ ¬ S b := by
  obtain ⟨i, xs, h1, h2⟩ := h
  obtain ⟨v, e, a, vs, rfl, h3, h4, _⟩ := s.lone i xs h1
  rw [h2] at e
  cases e
  exact ⟨vs, h3, h4⟩
theorem OwnD.dct {σ : Slots} {r : Env} {b : Addr} (s : SR K σ H r S) (h : OwnD σ r b) : ∃ vs, H b = some (.dK vs) ∧ ¬ S b := by
  obtain ⟨i, xs, h1, h2⟩ := h
  obtain ⟨v, e, a, vs, rfl, h3, h4, _⟩ := s.dic i xs h1
  rw [h2] at e
  cases e
  exact ⟨vs, h3, h4⟩
theorem Own.mt {σ : Slots} {r : Env} {b : Addr} (s : SR K σ H r S) (h : Own σ r b) : ∃ o, H b = some o ∧ Mt o ∧ ¬ S b := by
  rcases h with h | h
  · obtain ⟨vs, h1, h2⟩ := h.lst s
    exact ⟨_, h1, trivial, h2⟩
  · obtain ⟨vs, h1, h2⟩ := h.dct s
    exact ⟨_, h1, trivial, h2⟩
/-- where a list stands, lists own -/
theorem Own.l {σ : Slots} {r : Env} {b : Addr} {vs : List V} (s : SR K σ H r S) (h : Own σ r b) (e : H b = some (.lst vs)) : OwnL σ r b := by
  rcases h with h | h
  · exact h
  · obtain ⟨ws, h1, _⟩ := h.dct s
    rw [e] at h1; cases h1
theorem Own.d {σ : Slots} {r : Env} {b : Addr} {vs : List (Key × V)} (s : SR K σ H r S) (h : Own σ r b) (e : H b = some (.dK vs)) : OwnD σ r b := by
  rcases h with h | h
  · obtain ⟨ws, h1, _⟩ := h.lst s
    rw [e] at h1; cases h1
  · exact h
theorem Go.refl {σ : Slots} {r : Env} (s : SR K σ H r S) : Go K σ r S H σ r S H :=
  ⟨s, fun _ _ h _ => h, fun _ h => h, fun _ h => h, fun _ h => .inl h, fun _ h => .inl h, fun i x h1 h2 => ⟨x, h1, h2⟩, fun _ _ _ => rfl, fun i xs h => ⟨rfl, xs, h⟩, rfl⟩
theorem Go.trans {σ σ1 σ2 : Slots} {r r1 r2 : Env} {S S1 S2 : Addr → Prop} {H H1 H2 : Hp} (s : SR K σ H r S) (a : Go K σ r S H σ1 r1 S1 H1) (b : Go K σ1 r1 S1 H1 σ2 r2 S2 H2) : Go K σ r S H σ2 r2 S2 H2 where
  sr := b.sr
  fr := fun c o h n => b.fr c o (a.fr c o h n) fun z => by
    rcases a.ow c z with z | z
    · exact n z
    · rw [h] at z; cases z
  dm := fun c h => b.dm c (a.dm c h)
  ss := fun c h => b.ss c (a.ss c h)
  sg := fun c h => by
    rcases b.sg c h with h | h | h
    · exact a.sg c h
    · refine .inr (.inl ?_)
      cases e : H c with
      | none => rfl
      | some o => exact absurd h (a.dm c (by rw [e]; intro z; cases z))
    · rcases a.ow c h with h | h
      · exact .inr (.inr h)
      · exact .inr (.inl h)
  ow := fun c h => by
    rcases b.ow c h with h | h
    · exact a.ow c h
    · refine .inr ?_
      cases e : H c with
      | none => rfl
      | some o => exact absurd h (a.dm c (by rw [e]; intro z; cases z))
  ne := fun i x h1 h2 => by
    obtain ⟨y, e1, e2⟩ := a.ne i x h1 h2
    exact b.ne i y e1 e2
  em := fun i h1 h2 => by
    cases e : r1[i]? with
    | none =>
      have hl := a.ln
      have hi : i < r.length := (List.getElem?_eq_some_iff.mp h1).1
      rw [List.getElem?_eq_none_iff] at e
      omega
    | some y =>
      by_cases hy : y = .em
      · subst hy
        rw [b.em i e h2, a.em i h1 e]
      · obtain ⟨z, e1, e2⟩ := b.ne i y e hy
        rw [h2] at e1
        cases e1
        exact absurd rfl e2
  io := fun i xs h => by
    obtain ⟨e1, ys, e2⟩ := a.io i xs h
    obtain ⟨e3, zs, e4⟩ := b.io i ys e2
    exact ⟨e3.trans e1, zs, e4⟩
  ln := b.ln.trans a.ln

/-- data stays -/
theorem Go.rp {σ σ' : Slots} {r r' : Env} {v : V} {d : D} (s : SR K σ H r S) (g : Go K σ r S H σ' r' S' H') (h : Rp K H S v d) : Rp K H' S' v d :=
  Rp.mono (fun b o e z => g.fr b o e fun q => by
    obtain ⟨o', e2, m, n⟩ := q.mt s
    rcases z with z | z
    · exact n z
    · rw [e2] at e; cases e; exact z m) g.ss d v h
theorem Go.rpL {σ σ' : Slots} {r r' : Env} {v : List V} {d : List D} (s : SR K σ H r S) (g : Go K σ r S H σ' r' S' H') (h : RpL K H S v d) : RpL K H' S' v d :=
  RpL.mono (fun b o e z => g.fr b o e fun q => by
    obtain ⟨o', e2, m, n⟩ := q.mt s
    rcases z with z | z
    · exact n z
    · rw [e2] at e; cases e; exact z m) g.ss d v h

/-- the heap has grown alone -/
structure Ext (S : Addr → Prop) (H : Hp) (S' : Addr → Prop) (H' : Hp) : Prop where
  fr : ∀ b o, H b = some o → H' b = some o
  ss : ∀ b, S b → S' b
  sg : ∀ b, S' b → S b ∨ H b = none
  wf : ∀ b, S' b → H' b ≠ none
theorem Ext.refl (h : ∀ b, S b → H b ≠ none) : Ext S H S H := ⟨fun _ _ h => h, fun _ h => h, fun _ h => .inl h, h⟩
theorem Ext.new {p : Addr} {o : HO} (h : ∀ b, S b → H b ≠ none) (hp : H p = none) : Ext S H S (upd H p o) :=
  ⟨fun b u e => by rw [upd_ne (ne_of_none e hp)]; exact e, fun _ h => h, fun _ h => .inl h, fun b hb => by
    have := h b hb
    cases e : H b with
    | none => exact absurd e this
    | some u => rw [upd_ne (ne_of_none e hp), e]; intro z; cases z⟩
theorem Ext.newS {p : Addr} {o : HO} (h : ∀ b, S b → H b ≠ none) (hp : H p = none) : Ext S H (fun b => S b ∨ b = p) (upd H p o) :=
  ⟨fun b u e => by rw [upd_ne (ne_of_none e hp)]; exact e, fun _ h => .inl h, fun b h => h.imp id fun e => by rw [e]; exact hp, fun b hb => by
    rcases hb with hb | hb
    · have := h b hb
      cases e : H b with
      | none => exact absurd e this
      | some u => rw [upd_ne (ne_of_none e hp), e]; intro z; cases z
    · rw [hb, upd_same]; intro z; cases z⟩
theorem Ext.rp {v : V} {d : D} (x : Ext S H S' H') (h : Rp K H S v d) : Rp K H' S' v d := Rp.mono (fun b o e _ => x.fr b o e) x.ss d v h
theorem Ext.rpL {v : List V} {d : List D} (x : Ext S H S' H') (h : RpL K H S v d) : RpL K H' S' v d := RpL.mono (fun b o e _ => x.fr b o e) x.ss d v h
theorem Go.rpI {σ σ' : Slots} {r r' : Env} {v : List (Key × V)} {d : List (Int × D)} (s : SR K σ H r S) (g : Go K σ r S H σ' r' S' H') (h : RpI K H S v d) : RpI K H' S' v d :=
  RpI.mono (fun b o e z => g.fr b o e fun q => by
    obtain ⟨o', e2, m, n⟩ := q.mt s
    rcases z with z | z
    · exact n z
    · rw [e2] at e; cases e; exact z m) g.ss h
theorem Ext.loned {v : V} {d : List (Int × D)} (x : Ext S H S' H') (h : LoneD K H S v d) : LoneD K H' S' v d := by
  obtain ⟨a, vs, e, h1, h2, h3⟩ := h
  refine ⟨a, vs, e, x.fr _ _ h1, fun z => ?_, RpI.mono (fun b o e _ => x.fr b o e) x.ss h3⟩
  rcases x.sg a z with z | z
  · exact h2 z
  · rw [h1] at z; cases z
theorem Ext.lone {v : V} {d : List D} (x : Ext S H S' H') (h : Lone K H S v d) : Lone K H' S' v d := by
  obtain ⟨a, vs, e, h1, h2, h3⟩ := h
  refine ⟨a, vs, e, x.fr _ _ h1, fun z => ?_, x.rpL h3⟩
  rcases x.sg a z with z | z
  · exact h2 z
  · rw [h1] at z; cases z
theorem SR.ext {σ : Slots} {r : Env} (s : SR K σ H r S) (x : Ext S H S' H') : SR K σ H' r S' where
  fz := fun i d h => by
    obtain ⟨v, e, q⟩ := s.fz i d h
    exact ⟨v, e, x.rp q⟩
  lone := fun i xs h => by
    obtain ⟨v, e, q⟩ := s.lone i xs h
    exact ⟨v, e, x.lone q⟩
  one := s.one
  wf := x.wf
  len := s.len
  dic := fun i kvs h => by
    obtain ⟨v, e, q⟩ := s.dic i kvs h
    exact ⟨v, e, x.loned q⟩
  oned := s.oned
theorem Go.ext {σ : Slots} {r : Env} (s : SR K σ H r S) (x : Ext S H S' H') : Go K σ r S H σ r S' H' where
  sr := s.ext x
  fr := fun b o h _ => x.fr b o h
  dm := fun b h => by
    cases e : H b with
    | none => exact absurd e h
    | some o => rw [x.fr b o e]; intro z; cases z
  ss := x.ss
  sg := fun b h => (x.sg b h).imp id .inl
  ow := fun _ h => .inl h
  ne := fun i x h1 h2 => ⟨x, h1, h2⟩
  em := fun _ _ _ => rfl
  io := fun i xs h => ⟨rfl, xs, h⟩
  ln := rfl

/-- a result: data, or a list of its own, not older than H0 -/
def RN (K : PySem.W.Frag) (H0 : Hp) (σ : Slots) (r : Env) (S : Addr → Prop) (H : Hp) (v : V) : Val → Prop
  | .fz d => Rp K H S v d
  | .ow xs => ∃ a vs, v = .ref a ∧ H0 a = none ∧ H a = some (.lst vs) ∧ ¬ S a ∧ ¬ Own σ r a ∧ RpL K H S vs xs
  | _ => False
theorem RN.older {H0 H1 : Hp} {σ : Slots} {r : Env} {v : V} {x : Val} (d : ∀ b, H0 b ≠ none → H1 b ≠ none) (h : RN K H1 σ r S H v x) : RN K H0 σ r S H v x := by
  cases x with
  | fz _ => exact h
  | ow xs =>
    obtain ⟨a, vs, e, h1, h2⟩ := h
    refine ⟨a, vs, e, ?_, h2⟩
    cases e : H0 a with
    | none => rfl
    | some o => exact absurd h1 (d a (by rw [e]; intro z; cases z))
  | em => exact h
  | io _ => exact h
  | od _ => exact h
  | un => exact h
theorem RN.go {H0 : Hp} {σ : Slots} {r r' : Env} {v : V} {x : Val} (s : SR K σ H r S) (g : Go K σ r S H σ r' S' H') (h : RN K H0 σ r S H v x) : RN K H0 σ r' S' H' v x := by
  cases x with
  | fz _ => exact g.rp s h
  | ow xs =>
    obtain ⟨a, vs, e, h1, h2, h3, h4, h5⟩ := h
    refine ⟨a, vs, e, h1, g.fr a _ h2 h4, fun z => ?_, fun z => ?_, g.rpL s h5⟩
    · rcases g.sg a z with z | z | z
      · exact h3 z
      · rw [h2] at z; cases z
      · exact h4 z
    · rcases g.ow a z with z | z
      · exact h4 z
      · rw [h2] at z; cases z
  | em => exact h
  | io _ => exact h
  | od _ => exact h
  | un => exact h

/-- what may be read as d -/
def RB (K : PySem.W.Frag) (S : Addr → Prop) (H : Hp) (v : V) (d : D) : Prop := Rp K H S v d ∨ ∃ a vs xs, v = .ref a ∧ d = .list xs ∧ H a = some (.lst vs) ∧ RpL K H S vs xs
theorem RB.int {v : V} {i : Int} (h : RB K S H v (.int i)) : v = .int i := by
  rcases h with h | ⟨_, _, _, _, e, _⟩
  · cases h; rfl
  · cases e
theorem RB.bl {v : V} {i : Bool} (h : RB K S H v (.bool i)) : v = .bl i := by
  rcases h with h | ⟨_, _, _, _, e, _⟩
  · cases h; rfl
  · cases e
theorem RB.str {v : V} {i : Str} (h : RB K S H v (.str i)) : v = .str i := by
  rcases h with h | ⟨_, _, _, _, e, _⟩
  · cases h; rfl
  · cases e
theorem RB.non {v : V} (h : RB K S H v .none) : v = .non := by
  rcases h with h | ⟨_, _, _, _, e, _⟩
  · cases h; rfl
  · cases e
theorem RB.lst {v : V} {xs : List D} (h : RB K S H v (.list xs)) : ∃ a vs, v = .ref a ∧ SqL K H a vs ∧ RpL K H S vs xs := by
  rcases h with h | ⟨a, vs, ys, e, e', h1, h2⟩
  · cases h with
    | lst h1 h2 h3 => exact ⟨_, _, rfl, .inl h2, h3⟩
    | lstK h1 h3 => exact ⟨_, _, rfl, .inr h1, h3⟩
  · cases e'
    exact ⟨a, vs, e, .inl (.inl h1), h2⟩
theorem RB.tup {v : V} {xs : List D} (h : RB K S H v (.tuple xs)) : ∃ a vs, v = .ref a ∧ SqT K H a vs ∧ RpL K H S vs xs := by
  rcases h with h | ⟨_, _, _, _, e, _⟩
  · cases h with
    | tup h2 h3 => exact ⟨_, _, rfl, h2, h3⟩
  · cases e
theorem RB.dct {v : V} {xs : List (D × D)} (h : RB K S H v (.dict xs)) : ∃ a o vs, v = .ref a ∧ H a = some (.frz o (.dK vs)) ∧ RpK K H S vs xs := by
  rcases h with h | ⟨_, _, _, _, e, _⟩
  · cases h with
    | dct h1 h3 => exact ⟨_, _, _, rfl, h1, h3⟩
  · cases e
/-- an operand in hand -/
def RO (K : PySem.W.Frag) (H0 : Hp) (σ : Slots) (r : Env) (S : Addr → Prop) (H : Hp) (v : V) : Opd → Prop
  | .ref i => σ[i]? = some (some v)
  | .val x => RN K H0 σ r S H v x
theorem RO.go {H0 : Hp} {σ : Slots} {r r' : Env} {v : V} {x : Opd} (s : SR K σ H r S) (g : Go K σ r S H σ r' S' H') (h : RO K H0 σ r S H v x) : RO K H0 σ r' S' H' v x := by
  cases x with
  | ref i => exact h
  | val x => exact RN.go s g h
theorem RO.older {H0 H1 : Hp} {σ : Slots} {r : Env} {v : V} {x : Opd} (d : ∀ b, H0 b ≠ none → H1 b ≠ none) (h : RO K H1 σ r S H v x) : RO K H0 σ r S H v x := by
  cases x with
  | ref i => exact h
  | val x => exact RN.older d h
theorem RO.rb {H0 : Hp} {σ : Slots} {r : Env} {v : V} {x : Opd} {d : D} (s : SR K σ H r S) (h : RO K H0 σ r S H v x) (e : deref r x = .ok d) : RB K S H v d := by
  cases x with
  | ref i =>
    have h : σ[i]? = some (some v) := h
    simp only [deref] at e
    cases hx : r[i]? with
    | none => rw [hx] at e; cases e
    | some x =>
      rw [hx] at e
      cases x with
      | em => cases e
      | fz y =>
        cases e
        obtain ⟨w, e1, q⟩ := s.fz i _ hx
        rw [h] at e1
        cases e1
        exact .inl q
      | ow xs =>
        cases e
        obtain ⟨w, e1, a, vs, q1, q2, q3, q4⟩ := s.lone i _ (.inl hx)
        rw [h] at e1
        cases e1
        exact .inr ⟨a, vs, xs, q1, rfl, q2, q4⟩
      | io xs =>
        cases e
        obtain ⟨w, e1, a, vs, q1, q2, q3, q4⟩ := s.lone i _ (.inr hx)
        rw [h] at e1
        cases e1
        exact .inr ⟨a, vs, xs, q1, rfl, q2, q4⟩
      | od _ => cases e
      | un => cases e
  | val x =>
    have h : RN K H0 σ r S H v x := h
    cases x with
    | em => exact h.elim
    | io _ => exact h.elim
    | od _ => exact h.elim
    | un => exact h.elim
    | fz y => cases e; exact .inl h
    | ow xs =>
      cases e
      obtain ⟨a, vs, e, h1, h2, h3, h4, h5⟩ := h
      exact .inr ⟨a, vs, xs, e, rfl, h2, h5⟩
end
end DL

set_option Elab.async false
set_option linter.all false
set_option maxRecDepth 100000
set_option maxHeartbeats 4000000
set_option autoImplicit false
/-! DL3: the operations on data are the machine's. -/
namespace DL
open PySem PySem.Spec PyProof.Rows L2
section
open PySem.AutoSeq1 (wpAny_loadPart')
open PySem.MeetsSeq PySem.MeetsSeq2 PySem.MeetsSeq3
theorem int_rmul_listW (a : Int) (t : Tok) (l : Addr) (items : Array Value) (n : Nat) (dd : Option Addr) (sl : Array (Option Value)) :
    Meets (Builtin.«int.__rmul__» ⟨[.int a t, .ref l], []⟩) (fun _ R s => s.heap.get? l = some { cls := .type "list", dict := dd, data := .seq items n, slots := sl } ∧ R (.ok (.ret Value.notImplemented)) s) :=
  .of_wp fun prog w A R s h => by obtain ⟨hp, g, d, tk, os⟩ := s; obtain ⟨hl, h⟩ := h; wp_walk using wpAny_loadPart' hl; exact ⟨_, rfl, h⟩
theorem list_mulW (l : Addr) (items : Array Value) (n : Nat) (dd : Option Addr) (sl : Array (Option Value)) (x : Int) (u : Tok) (hc0 : ¬(!Builtin.List.listFitsIndex x) = true) (hc1 : ¬items.size * x.toNat > (2 ^ 63 - 1) / 8) (hc2 : ¬Builtin.List.listTooLong (items.size * x.toNat) = true) :
    Meets (Builtin.«list.__mul__» ⟨[.ref l, .int x u], []⟩) (fun _ R s => s.heap.get? l = some { cls := .type "list", dict := dd, data := .seq items n, slots := sl } ∧ R (.ok (.ret (Value.ref s.heap.objs.size))) { s with heap := s.heap.push { cls := Value.type "list", data := Data.seq (List.foldl (fun x1 x2 => x1 ++ x2) #[] (List.replicate (if items.isEmpty = true then 0 else x.toNat) items)) }, toks := s.toks }) :=
  .of_wp fun prog w A R s h => by
    obtain ⟨hp, g, d, tk, os⟩ := s; obtain ⟨hl, h⟩ := h
    have hsz := AutoListH.joined_fits hc2
    wp_walk using wpAny_loadPart' hl; refine wpAny_ite_false (decide_eq_false (Nat.not_lt.mpr hsz)) ?_; wp_walk using wpAny_loadPart' hl; exact ⟨_, rfl, h⟩
theorem tuple_mul1 (l : Addr) (items : Array Value) (n : Nat) (dd : Option Addr) (sl : Array (Option Value)) (u : Tok) :
    Meets (Builtin.«tuple.__mul__» ⟨[.ref l, .int 1 u], []⟩) (fun _ R s => s.heap.get? l = some { cls := .type "tuple", dict := dd, data := .seq items n, slots := sl } ∧ R (.ok (.ret (Value.ref l))) s) :=
  .of_wp fun prog w A R s h => by
    obtain ⟨hp, g, d, tk, os⟩ := s
    obtain ⟨hl, h⟩ := h
    have f1 := AutoSeq1.idx_int
    have c0 : (decide ((1 : Int) < -(2 ^ 63)) || decide ((1 : Int) ≥ 2 ^ 63)) = false := by decide
    have c1 : (items.isEmpty || (1 : Int) == 1) = true := by simp
    wp_walk using wpAny_loadPart' hl
    all_goals exact ⟨_, rfl, h⟩
theorem tuple_mul0 (l : Addr) (items : Array Value) (n : Nat) (dd : Option Addr) (sl : Array (Option Value)) (x : Int) (u : Tok) (c0 : (decide (x < -(2 ^ 63)) || decide (x ≥ 2 ^ 63)) = false) (c1 : (items.isEmpty || x == 1) = false) (c2 : (decide (x ≤ 0) || items.isEmpty) = true) :
    Meets (Builtin.«tuple.__mul__» ⟨[.ref l, .int x u], []⟩) (fun _ R s => s.heap.get? l = some { cls := .type "tuple", dict := dd, data := .seq items n, slots := sl } ∧
      R (.ok (.ret (Value.ref s.heap.objs.size))) { s with heap := s.heap.push { cls := Value.type "tuple", data := Data.seq #[] }, toks := s.toks }) :=
  .of_wp fun prog w A R s h => by
    obtain ⟨hp, g, d, tk, os⟩ := s
    obtain ⟨hl, h⟩ := h
    have f1 := AutoSeq1.idx_int
    wp_walk using wpAny_loadPart' hl
    repeat (first
      | (refine wpAny_ite_false (decide_eq_false (by rw [c0]; exact Bool.false_ne_true)) ?_; wp_walk using wpAny_loadPart' hl)
      | (refine wpAny_ite_false (decide_eq_false (by rw [c1]; exact Bool.false_ne_true)) ?_; wp_walk using wpAny_loadPart' hl)
      | (refine wpAny_ite_true (decide_eq_true c2) ?_; wp_walk using wpAny_loadPart' hl))
    exact ⟨_, rfl, h⟩
theorem rep_zero {α : Type} (xs : List α) {n : Int} (h : n ≤ 0) : rep xs n.toNat = [] := by rw [show n.toNat = 0 by omega]; rfl
theorem op_repT0 {X : Cx} : OpR X (binaryOp .Mult) (fun x y H Q => ∃ l k xs, x = .ref l ∧ y = .int k ∧ SqT X.K H l xs ∧ xs ≠ [] ∧ -1000 ≤ k ∧ k ≤ 0 ∧ ∀ p, H p = none → Q (.ref p) (upd H p (.tup []))) := by
  intro pins s σ H x y v u Q I rx ry h
  obtain ⟨l, k, xs, rfl, rfl, hT, hne, h1, h2, q⟩ := h
  cases rx
  obtain ⟨t, rfl⟩ := ry
  obtain ⟨its, r, ⟨⟨cls, dd, data, sl⟩, ho, hc, n, hd⟩, hs⟩ := I.tuple hT
  simp only at hc hd
  subst hc hd
  have hi : its.toArray.isEmpty = false := by
    cases its with
    | nil =>
      have := r.length
      exact absurd (List.eq_nil_of_length_eq_zero this) hne
    | cons a b => rfl
  have c0 : (decide (k < -(2 ^ 63)) || decide (k ≥ 2 ^ 63)) = false := by
    rw [decide_eq_false (by omega), decide_eq_false (by omega)] <;> rfl
  have c1 : (its.toArray.isEmpty || k == 1) = false := by
    rw [hi, Bool.false_or]
    exact beq_eq_false_iff_ne.mpr (by omega)
  have c2 : (decide (k ≤ 0) || its.toArray.isEmpty) = true := by rw [decide_eq_true h2, Bool.true_or]
  exact wpAny_binaryOp_repeat_ref (T := "tuple") (U := "int") (by decide) ⟨_, ho, rfl⟩ (fun s' => typeIs_int s' k t) noFill_tuple_mul F.fills_int_mul F.slot_int_rmul repeat_tuple F.slot_int_index.lookup
    (call_meets F.slot_int_rmul (typeIs_int s k t) F.entry_int_rmul (F.args_int_rmul_2 _ _) (int_rmul_tuple k t l its.toArray n dd sl)
      ⟨ho, rfl, ⟨_, ho, rfl⟩, call_meets F.slot_tuple_mul ⟨_, ho, rfl⟩ F.entry_tuple_mul (F.args_tuple_mul_2 _ _) (tuple_mul0 l its.toArray n dd sl k t c0 c1 c2)
        ⟨ho, ⟨.ref s.heap.objs.size, upd H s.heap.objs.size (.tup []), I.laid (t' := s.toks) (fun b o e => Heap.get?_push_of_some _ e) (Nat.le_refl _) (show ObjOk X.prog X.w _ _ _ (.tup []) from ⟨Nat.zero_le _, [], .nil, IsTup.new _ _⟩), rfl, q _ (I.hok.fresh (Nat.le_refl _))⟩⟩⟩)
theorem op_repT1 {X : Cx} : OpR X (binaryOp .Mult) (fun x y H Q => ∃ l xs, x = .ref l ∧ y = .int 1 ∧ SqT X.K H l xs ∧ xs ≠ [] ∧ Q (.ref l) H) := by
  intro pins s σ H x y v u Q I rx ry h
  obtain ⟨l, xs, rfl, rfl, hT, hne, q⟩ := h
  cases rx
  obtain ⟨t, rfl⟩ := ry
  obtain ⟨its, r, ⟨⟨cls, dd, data, sl⟩, ho, hc, n, hd⟩, hs⟩ := I.tuple hT
  simp only at hc hd
  subst hc hd
  exact wpAny_binaryOp_repeat_ref (T := "tuple") (U := "int") (by decide) ⟨_, ho, rfl⟩ (fun s' => typeIs_int s' 1 t) noFill_tuple_mul F.fills_int_mul F.slot_int_rmul repeat_tuple F.slot_int_index.lookup
    (call_meets F.slot_int_rmul (typeIs_int s 1 t) F.entry_int_rmul (F.args_int_rmul_2 _ _) (int_rmul_tuple 1 t l its.toArray n dd sl)
      ⟨ho, rfl, ⟨_, ho, rfl⟩, call_meets F.slot_tuple_mul ⟨_, ho, rfl⟩ F.entry_tuple_mul (F.args_tuple_mul_2 _ _) (tuple_mul1 l its.toArray n dd sl t) ⟨ho, ⟨.ref l, H, I, rfl, q⟩⟩⟩)
end

section
variable {K : PySem.W.Frag} {H H' : Hp} {S S' : Addr → Prop}

theorem RpL.rep {vs : List V} {ds : List D} (h : RpL K H S vs ds) : ∀ n : Nat, RpL K H S (List.replicate n vs).flatten (DL.rep ds n)
  | 0 => .nil
  | n + 1 => by
    unfold DL.rep
    rw [List.replicate_succ, List.replicate_succ, List.flatten_cons, List.flatten_cons]
    exact h.append (RpL.rep h n)
/-- what a new result stands for, with nothing of slots -/
def RF (K : PySem.W.Frag) (H0 : Hp) (S : Addr → Prop) (H : Hp) (v : V) : Val → Prop
  | .fz d => Rp K H S v d
  | .ow xs => ∃ a vs, v = .ref a ∧ H0 a = none ∧ H a = some (.lst vs) ∧ ¬ S a ∧ RpL K H S vs xs
  | _ => False
theorem RF.rn {H0 : Hp} {σ : Slots} {r : Env} {v : V} {x : Val} (s : SR K σ H0 r S) (h : RF K H0 S' H' v x) : RN K H0 σ r S' H' v x := by
  cases x with
  | fz _ => exact h
  | ow xs =>
    obtain ⟨a, vs, e, h1, h2, h3, h4⟩ := h
    refine ⟨a, vs, e, h1, h2, h3, fun z => ?_, h4⟩
    obtain ⟨ws, e2, _⟩ := z.mt s
    rw [h1] at e2; cases e2
  | em => exact h
  | io _ => exact h
  | od _ => exact h
  | un => exact h
/-- a new list -/
theorem RF.new {p : Addr} {vs : List V} {xs : List D} (w : ∀ b, S b → H b ≠ none) (hp : H p = none) (h : RpL K H S vs xs) : RF K H S (upd H p (.lst vs)) (.ref p) (.ow xs) :=
  ⟨p, vs, rfl, hp, upd_same, fun z => w p z hp, (Ext.new w hp).rpL h⟩
theorem RF.newT {p : Addr} {vs : List V} {xs : List D} (w : ∀ b, S b → H b ≠ none) (hp : H p = none) (h : RpL K H S vs xs) : RF K H S (upd H p (.tup vs)) (.ref p) (.fz (.tuple xs)) :=
  .tup (SqT.of upd_same) ((Ext.new w hp).rpL h)

mutual
theorem Rp.dp : ∀ (d : D) (v : V), Rp K H S v d → d.canLay0 = true → Dp K H v d
  | .none, _, h, _ => by cases h; exact .non
  | .bool b, _, h, _ => by cases h; exact .bl b
  | .int i, _, h, _ => by cases h; exact .int i
  | .str x, _, h, _ => by cases h; exact .str x
  | .list ds, _, h, c => by
    cases h with
    | lst h1 h2 h3 => exact .lst (.inl h2) (RpL.dp ds _ h3 (by simpa [PyData.canLay0] using c))
    | lstK h1 h3 => exact .lst (.inr h1) (RpL.dp ds _ h3 (by simpa [PyData.canLay0] using c))
  | .tuple ds, _, h, c => by
    cases h with
    | tup h2 h3 => exact .tup h2 (RpL.dp ds _ h3 (by simpa [PyData.canLay0] using c))
  | .dict _, _, _, c => by simp [PyData.canLay0] at c
theorem RpL.dp : ∀ (ds : List D) (vs : List V), RpL K H S vs ds → PyData.canLayAll0 ds = true → DpAll K H vs ds
  | [], _, h, _ => by cases h; exact .nil
  | d :: ds, _, h, c => by
    cases h with
    | cons h1 h2 =>
      have c' : d.canLay0 = true ∧ PyData.canLayAll0 ds = true := by simpa [PyData.canLayAll0] using c
      exact .cons (Rp.dp d _ h1 c'.1) (RpL.dp ds _ h2 c'.2)
end
theorem RB.dp {v : V} {d : D} (h : RB K S H v d) (c : d.canLay0 = true) : Dp K H v d := by
  rcases h with h | ⟨a, vs, xs, rfl, rfl, h1, h2⟩
  · exact Rp.dp d v h c
  · exact .lst (SqL.of h1) (RpL.dp xs vs h2 (by simpa [PyData.canLay0] using c))
theorem RpL.ints : ∀ {vs : List V} {ds : List D} {ns : List Int}, RpL K H S vs ds → ints? ds = some ns → vs = ns.map V.int
  | _, [], ns, h, e => by cases h; cases e; rfl
  | _, d :: ds, ns, h, e => by
    cases h with
    | cons h1 h2 =>
      cases d <;> simp only [ints?] at e <;> try (cases e; done)
      rename_i i
      cases e1 : ints? ds with
      | none => rw [e1] at e; cases e
      | some ms =>
        rw [e1] at e
        cases e
        cases h1
        rw [RpL.ints h2 e1]
        rfl
theorem RpL.bools : ∀ {vs : List V} {ds : List D} {ns : List Bool}, RpL K H S vs ds → bools? ds = some ns → vs = ns.map V.bl
  | _, [], ns, h, e => by cases h; cases e; rfl
  | _, d :: ds, ns, h, e => by
    cases h with
    | cons h1 h2 =>
      cases d <;> simp only [bools?] at e <;> try (cases e; done)
      rename_i i
      cases e1 : bools? ds with
      | none => rw [e1] at e; cases e
      | some ms =>
        rw [e1] at e
        cases e
        cases h1
        rw [RpL.bools h2 e1]
        rfl
theorem Rp.flat {v : V} {d : D} (h : Rp K H S v d) (f : flat d = true) : flatV v = true := by
  cases d <;> first | (cases f; done) | (cases h; rfl)
theorem RpL.flat : ∀ {vs : List V} {ds : List D}, RpL K H S vs ds → ds.all flat = true → vs.all flatV = true
  | [], _, h, _ => rfl
  | v :: vs, _, h, f => by
    cases h with
    | cons h1 h2 =>
      rw [List.all_cons, Bool.and_eq_true] at f
      rw [List.all_cons, h1.flat f.1, RpL.flat h2 f.2]
      rfl
theorem RB.flat {v : V} {d : D} (h : RB K S H v d) (f : flat d = true) : flatV v = true := by
  rcases h with h | ⟨a, vs, xs, rfl, rfl, _⟩
  · exact h.flat f
  · cases f
theorem Rp.eqV {v w : V} {d e : D} (h : Rp K H S v d) (h' : RB K S H w e) (f : DL.flat d = true) (f' : DL.flat e = true) : L2.eqV v w = PyData.eqv d e := by
  have r : Rp K H S w e := by
    rcases h' with h' | ⟨_, _, _, _, rfl, _⟩
    · exact h'
    · cases f'
  cases d <;> first
    | (cases f; done)
    | (cases e <;> first
      | (cases f'; done)
      | (cases h; cases r; simp only [L2.eqV, PyData.eqv]))
theorem RpL.inV {v : V} {d : D} (h' : RB K S H v d) (f' : DL.flat d = true) : ∀ {vs : List V} {ds : List D}, RpL K H S vs ds → ds.all DL.flat = true → L2.inV v vs = ds.any fun z => PyData.eqv z d
  | [], _, h, _ => by cases h; rfl
  | w :: vs, _, h, f => by
    cases h with
    | cons h1 h2 =>
      rw [List.all_cons, Bool.and_eq_true] at f
      have ih := RpL.inV h' f' h2 f.2
      unfold L2.inV at ih ⊢
      rw [List.any_cons, List.any_cons, h1.eqV h' f.1 f', ih]
end

section
variable {X : Cx}
theorem small_of {i : Int} (h : small64 i = true) : -(2 ^ 64) < i ∧ i < 2 ^ 64 := by
  unfold small64 at h
  rw [Bool.and_eq_true] at h
  have h1 := of_decide_eq_true h.1
  have h2 := of_decide_eq_true h.2
  exact ⟨by omega, by omega⟩
theorem len_of {n : Nat} (h : lenOk n = true) : n ≤ sizeLine := by
  have h1 := of_decide_eq_true h
  rw [sizeLine_eq]
  exact h1

def r2Of (K : PySem.W.Frag) (f : D → D → Res Val) : R2 := fun x y H Q => ∃ S d1 d2 res, (∀ b, S b → H b ≠ none) ∧ RB K S H x d1 ∧ RB K S H y d2 ∧ f d1 d2 = .ok res ∧
  ∀ v H' S', Ext S H S' H' → RF K H S' H' v res → Q v H'
def opOf : Bop → Operator
  | .add => .Add
  | .sub => .Sub
  | .mul => .Mult
  | .fdiv => .FloorDiv
  | .mod => .Mod
  | .pow => .Pow
theorem op_catR : OpR X (binaryOp .Add) (fun x y H Q => ∃ l b xs zs, x = .ref l ∧ y = .ref b ∧ SqL X.K H l xs ∧ SqL X.K H b zs ∧ xs.length + zs.length ≤ sizeLine ∧ ∀ p, H p = none → Q (.ref p) (upd H p (.lst (xs ++ zs)))) := by
  intro pins s σ H x y v u Q I rx ry h
  obtain ⟨l, b, xs, zs, rfl, rfl, hH, hB, hz, q⟩ := h
  cases rx
  cases ry
  obtain ⟨its, r, hp, _⟩ := I.list hH
  obtain ⟨its2, r2, hp2, _⟩ := I.list hB
  have hl := r.length
  have hl2 := r2.length
  obtain ⟨⟨cls, dd, data, sl⟩, ho, hc, n, hd⟩ := hp.isList
  obtain ⟨⟨cls2, dd2, data2, sl2⟩, ho2, hc2, n2, hd2⟩ := hp2.isList
  simp only at hc hd hc2 hd2
  subst hc hd hc2 hd2
  have ea : its.toArray ++ its2.toArray = (its ++ its2).toArray := by simp
  refine concat_meets ⟨_, ho, rfl⟩ ⟨_, ho2, rfl⟩ noFill_list_add seq_list_add PySem.F.slot_list_add PySem.F.entry_list_add (PySem.F.args_list_add_2 _ _) (list_addW l b its.toArray its2.toArray n n2 dd dd2 sl sl2 (by simp; omega)) ⟨ho, ho2, ?_⟩
  rw [ea]
  exact ⟨.ref _, _, I.lnew (t' := s.toks) (r.append r2) (by rw [List.length_append]; omega), rfl, q _ I.fresh⟩

theorem op_repR : OpR X (binaryOp .Mult) (fun x y H Q => ∃ l k xs, x = .ref l ∧ y = .int k ∧ SqL X.K H l xs ∧ -(2 ^ 63) ≤ k ∧ k < 2 ^ 63 ∧ xs.length * k.toNat ≤ sizeLine ∧ ∀ p, H p = none → Q (.ref p) (upd H p (.lst (List.replicate k.toNat xs).flatten))) := by
  intro pins s σ H x y v u Q I rx ry h
  obtain ⟨l, k, xs, rfl, rfl, hH, h1, h2, hz, q⟩ := h
  cases rx
  obtain ⟨t, rfl⟩ := ry
  obtain ⟨its, r, hp, _⟩ := I.list hH
  have hl := r.length
  obtain ⟨⟨cls, dd, data, sl⟩, ho, hc, n, hd⟩ := hp.isList
  simp only at hc hd
  subst hc hd
  have hlen : its.toArray.size * k.toNat ≤ sizeLine := by rw [List.size_toArray, ← hl]; exact hz
  have hcap : ¬ its.toArray.size * k.toNat > (2 ^ 63 - 1) / 8 := by
    have : (sizeLine : Nat) ≤ (2 ^ 63 - 1) / 8 := by decide
    omega
  have hfit : ¬ (!Builtin.List.listFitsIndex k) = true := by
    rw [fitsIndex_both h1 h2]
    exact Bool.false_ne_true
  have hlong : ¬ Builtin.List.listTooLong (its.toArray.size * k.toNat) = true := by
    rw [notLongL hlen]
    exact Bool.false_ne_true
  have hnew : List.foldl (fun x1 x2 => x1 ++ x2) #[] (List.replicate (if its.toArray.isEmpty = true then 0 else k.toNat) its.toArray) = (List.replicate k.toNat its).flatten.toArray := by
    have f0 : ∀ m : Nat, List.foldl (fun x1 x2 => x1 ++ x2) #[] (List.replicate m its.toArray) = (List.replicate m its).flatten.toArray := fun m => by
      have := foldl_rep its m []
      rw [List.nil_append] at this
      exact this
    rw [f0]
    cases its with
    | nil => simp
    | cons a r' => rw [if_neg (by simp)]
  refine wpAny_binaryOp_repeat_ref (T := "list") (U := "int") (by decide) ⟨_, ho, rfl⟩ (fun s' => typeIs_int s' k t) noFill_list_mul F.fills_int_mul F.slot_int_rmul repeat_list F.slot_int_index.lookup
    (call_meets F.slot_int_rmul (typeIs_int s k t) F.entry_int_rmul (F.args_int_rmul_2 _ _) (int_rmul_listW k t l its.toArray n dd sl)
      ⟨ho, rfl, ⟨_, ho, rfl⟩, call_meets F.slot_list_mul ⟨_, ho, rfl⟩ F.entry_list_mul (F.args_list_mul_2 _ _) (list_mulW l its.toArray n dd sl k t hfit hcap hlong) ⟨ho, ?_⟩⟩)
  rw [hnew]
  exact ⟨.ref _, _, I.lnew (t' := s.toks) (r.rep k.toNat) (by rw [PyProof.Rows.lm_len_rep_flat, Nat.mul_comm]; exact hz), rfl, q _ I.fresh⟩
theorem bin_ok (op : Bop) : OpR X (binaryOp (opOf op)) (r2Of X.K (binD op)) := by
  intro pins s σ H x y v u Q I rx ry h
  obtain ⟨S, d1, d2, res, w, b1, b2, e, q⟩ := h
  have sc : ∀ z d, Rp X.K H S z d → res = .fz d → Q z H := fun z d hz hr => q z H S (.refl w) (by rw [hr]; exact hz)
  cases op with
  | add =>
    cases d1 <;> cases d2 <;> simp only [binD] at e <;> try (cases e; done)
    · cases e
      cases b1.int
      cases b2.int
      exact op_add pins s σ H _ _ v u Q I rx ry ⟨_, _, rfl, rfl, sc _ _ (.int _) rfl⟩
    · rename_i a b
      cases b1.str
      cases b2.str
      split at e
      · rename_i hl
        cases e
        exact op_add_str pins s σ H _ _ v u Q I rx ry ⟨_, _, rfl, rfl, len_of hl, sc _ _ (.str _) rfl⟩
      · cases e
    · rename_i xs ys
      split at e
      · rename_i hl
        cases e
        obtain ⟨a, vs, rfl, h1, h2⟩ := b1.lst
        obtain ⟨b, ws, rfl, h3, h4⟩ := b2.lst
        exact op_catR pins s σ H _ _ v u Q I rx ry ⟨_, _, _, _, rfl, rfl, h1, h3, by rw [h2.length, h4.length]; exact len_of hl, fun p hp => q _ _ _ (.new w hp) (.new w hp (h2.append h4))⟩
      · cases e
    · rename_i xs ys
      split at e
      · rename_i hl
        cases e
        obtain ⟨a, vs, rfl, h1, h2⟩ := b1.tup
        obtain ⟨b, ws, rfl, h3, h4⟩ := b2.tup
        refine op_catA pins s σ H _ _ v u Q I rx ry ⟨_, _, _, _, rfl, rfl, h1, h3, by rw [h2.length, h4.length]; exact len_of hl, fun z => ?_, fun _ z => ?_, fun _ _ p hp => ?_⟩
        · subst z
          cases h2
          exact q _ _ S (.refl w) (.tup h3 h4)
        · subst z
          cases h4
          rw [List.append_nil] at q
          exact q _ _ S (.refl w) (.tup h1 h2)
        · exact q _ _ _ (.new w hp) (.newT w hp (h2.append h4))
      · cases e
  | sub =>
    cases d1 <;> cases d2 <;> simp only [binD] at e <;> try (cases e; done)
    cases e
    cases b1.int
    cases b2.int
    exact op_sub pins s σ H _ _ v u Q I rx ry ⟨_, _, rfl, rfl, sc _ _ (.int _) rfl⟩
  | mul =>
    cases d1 <;> cases d2 <;> simp only [binD] at e <;> try (cases e; done)
    · cases b1.int
      cases b2.int
      split at e
      · rename_i hl
        cases e
        rw [Bool.or_eq_true] at hl
        exact op_mul pins s σ H _ _ v u Q I rx ry ⟨_, _, rfl, rfl, hl.imp small_of small_of, sc _ _ (.int _) rfl⟩
      · cases e
    · cases b2.int
      split at e
      · rename_i hl
        cases e
        simp only [Bool.and_eq_true, decide_eq_true_eq] at hl
        obtain ⟨a, vs, rfl, h1, h2⟩ := b1.lst
        exact op_repR pins s σ H _ _ v u Q I rx ry ⟨_, _, _, rfl, rfl, h1, by omega, by omega, by rw [h2.length, sizeLine_eq]; exact hl.2, fun p hp => q _ _ _ (.new w hp) (.new w hp (h2.rep _))⟩
      · cases e
    · cases b2.int
      split at e
      · rename_i xs0 n0 hl
        cases e
        simp only [Bool.and_eq_true, decide_eq_true_eq, Bool.not_eq_true', List.isEmpty_eq_false_iff] at hl
        obtain ⟨a, vs, rfl, h1, h2⟩ := b1.tup
        have hvs : vs ≠ [] := fun z => hl.2 (by subst z; cases h2; rfl)
        by_cases h3 : (2 : Int) ≤ ‹Int›
        · exact op_repT pins s σ H _ _ v u Q I rx ry ⟨_, _, _, rfl, rfl, h1, hvs, h3, by omega, by rw [h2.length]; omega, fun p hp => q _ _ _ (.new w hp) (.newT w hp (h2.rep _))⟩
        · by_cases h5 : ‹Int› = 1
          rotate_left
          · rw [rep_zero xs0 (n := n0) (by omega)] at q
            exact op_repT0 pins s σ H _ _ v u Q I rx ry ⟨_, _, _, rfl, rfl, h1, hvs, by omega, by omega, fun p hp => q _ _ _ (.new w hp) (.newT w hp .nil)⟩
          have h4 : ‹Int› = 1 := h5
          subst h4
          refine op_repT1 pins s σ H _ _ v u Q I rx ry ⟨_, _, rfl, rfl, h1, hvs, q _ _ S (.refl w) ?_⟩
          have e1 : rep ‹List D› (1 : Int).toNat = ‹List D› := by unfold rep; simp
          rw [e1]
          exact .tup h1 h2
      · cases e
  | fdiv =>
    cases d1 <;> cases d2 <;> simp only [binD] at e <;> try (cases e; done)
    cases b1.int
    cases b2.int
    split at e
    · rename_i hl
      cases e
      rw [Bool.and_eq_true] at hl
      have h1 := of_decide_eq_true hl.1
      have h2 := small_of hl.2
      exact op_fdivW pins s σ H _ _ v u Q I rx ry ⟨_, _, rfl, rfl, wide_div (b := 64) h1 (by omega) (by decide) (by decide), sc _ _ (.int _) rfl⟩
    · cases e
  | mod =>
    cases d1 <;> cases d2 <;> simp only [binD] at e <;> try (cases e; done)
    cases b1.int
    cases b2.int
    split at e
    · rename_i hl
      cases e
      exact op_mod pins s σ H _ _ v u Q I rx ry ⟨_, _, rfl, rfl, of_decide_eq_true hl, sc _ _ (.int _) rfl⟩
    · cases e
  | pow =>
    cases d1 <;> cases d2 <;> simp only [binD] at e <;> try (cases e; done)
    cases b1.int
    cases b2.int
    split at e
    · rename_i hl
      cases e
      rw [Bool.and_eq_true, Bool.and_eq_true] at hl
      have h1 := of_decide_eq_true hl.1.1
      have h2 := of_decide_eq_true hl.1.2
      have h3 := small_of hl.2
      exact op_pow pins s σ H _ _ v u Q I rx ry ⟨_, _, rfl, rfl, ⟨h1, h2, by omega⟩, sc _ _ (.int _) rfl⟩
    · cases e

/-! ### comparisons -/
def rC (K : PySem.W.Frag) (f : D → D → Res Bool) : R2 := fun x y H Q => ∃ S d1 d2 c, RB K S H x d1 ∧ RB K S H y d2 ∧ f d1 d2 = .ok c ∧ Q (.bl c) H
def copOf : Cop → CmpOp
  | .eq => .Eq
  | .ne => .NotEq
  | .lt => .Lt
  | .le => .LtE
  | .gt => .Gt
  | .ge => .GtE
  | .isIn => .In
  | .notIn => .NotIn
  | .isB => .Is
  | .nisB => .IsNot
theorem eq_data (hu : X.A.units + 200 < cLine) : OpR X (compareOp .Eq) (fun x y H Q => ∃ d e, Dp X.K H x d ∧ Dp X.K H y e ∧ eqOk d e = true ∧ Q (.bl (PyData.eqv d e)) H) := by
  intro pins s σ H x y v u Q I rx ry h
  obtain ⟨d, e, hd, he, ok, q⟩ := h
  obtain ⟨as, r1⟩ := Dp.reads I d x v hd rx
  obtain ⟨bs, r2⟩ := Dp.reads I e y u he ry
  unfold eqOk at ok
  rw [Bool.and_eq_true, Bool.and_eq_true] at ok
  have h3 := of_decide_eq_true ok.2
  exact SeqAt.compareEq_reads r1 r2 ok.1.1 ok.1.2 (by omega) ⟨.bl _, H, I, rfl, q⟩
theorem ne_data (hu : X.A.units + 200 < cLine) : OpR X (compareOp .NotEq) (fun x y H Q => ∃ d e, Dp X.K H x d ∧ Dp X.K H y e ∧ eqOk d e = true ∧ Q (.bl (!PyData.eqv d e)) H) := by
  intro pins s σ H x y v u Q I rx ry h
  obtain ⟨d, e, hd, he, ok, q⟩ := h
  obtain ⟨as, r1⟩ := Dp.reads I d x v hd rx
  obtain ⟨bs, r2⟩ := Dp.reads I e y u he ry
  unfold eqOk at ok
  rw [Bool.and_eq_true, Bool.and_eq_true] at ok
  have h3 := of_decide_eq_true ok.2
  exact SeqAt.compareNe_reads r1 r2 ok.1.1 ok.1.2 (by omega) ⟨.bl _, H, I, rfl, q⟩
theorem eqV_scal {x y : V} (h : scal x y = true) (f : flatV x = true) : decide (x = y) = L2.eqV x y := by
  cases x <;> cases y <;> first
    | (cases h; done)
    | (cases f; done)
    | (simp [L2.eqV]; done)
    | (simp only [L2.eqV]; rw [Bool.eq_iff_iff]; simp)
theorem scal_or {x y : D} (h1 : flat x = true) (h2 : flat y = true) : eqOk x y = true ∨ ∀ (K : PySem.W.Frag) H S v w, RB K S H v x → RB K S H w y → scal v w = true := by
  cases x <;> cases y <;> first
    | (cases h1; done)
    | (cases h2; done)
    | (exact .inl rfl)
    | (right; intro K H S v w a b; (first | cases a.non | cases a.bl | cases a.int | cases a.str); (first | (cases b.non; rfl) | (cases b.bl; rfl) | (cases b.int; rfl) | (cases b.str; rfl)))
theorem RB.rp {K : PySem.W.Frag} {H : Hp} {S : Addr → Prop} {v : V} {d : D} (h : RB K S H v d) (f : DL.flat d = true) : Rp K H S v d := by
  rcases h with h | ⟨_, _, _, _, rfl, _⟩
  · exact h
  · cases f
theorem lt_data (hu : X.A.units + 200 < cLine) : OpR X (compareOp .Lt) (fun x y H Q => ∃ d e, Dp X.K H x d ∧ Dp X.K H y e ∧ ltOk d e = true ∧ Q (.bl (PySem.W.dataLt d e)) H) := by
  intro pins s σ H x y v u Q I rx ry h
  obtain ⟨d, e, hd, he, ok, q⟩ := h
  obtain ⟨as, r1⟩ := Dp.reads I d x v hd rx
  obtain ⟨bs, r2⟩ := Dp.reads I e y u he ry
  unfold ltOk at ok
  simp only [Bool.and_eq_true, decide_eq_true_eq, Bool.not_eq_true'] at ok
  exact PySem.W.rcLt_alike d e X.A s v u as bs r1 r2 ok.1.1.1.1 (fun z => by rw [z] at ok; exact absurd ok.2 (by simp [isNonB])) (by omega) X.prog X.w X.xe _ ⟨.bl _, H, I, rfl, q⟩
theorem in_data (hu : X.A.units + 200 < cLine) : OpR X (compareOp .In) (fun x y H Q => ∃ d ds, Dp X.K H x d ∧ (Dp X.K H y (.list ds) ∨ Dp X.K H y (.tuple ds)) ∧ (d.canLay0 = true ∧ PyData.canLayAll0 ds = true ∧ min (PyData.depthAll ds) d.depth ≤ 100) ∧ Q (.bl (ds.any fun z => PyData.eqv z d)) H) := by
  intro pins s σ H x y v u Q I rx ry h
  obtain ⟨d, ds, hd, he, ok, q⟩ := h
  obtain ⟨as, r1⟩ := Dp.reads I d x v hd rx
  rcases he with he | he
  · obtain ⟨bs, r2⟩ := Dp.reads I _ y u he ry
    exact SeqAt.in_list_reads r2 r1 ok.2.1 ok.1 (by omega) ⟨.bl _, H, I, rfl, q⟩
  · obtain ⟨bs, r2⟩ := Dp.reads I _ y u he ry
    exact SeqAt.in_tuple_reads r2 r1 ok.2.1 ok.1 (by omega) ⟨.bl _, H, I, rfl, q⟩
theorem notIn_data (hu : X.A.units + 200 < cLine) : OpR X (compareOp .NotIn) (fun x y H Q => ∃ d ds, Dp X.K H x d ∧ (Dp X.K H y (.list ds) ∨ Dp X.K H y (.tuple ds)) ∧ (d.canLay0 = true ∧ PyData.canLayAll0 ds = true ∧ min (PyData.depthAll ds) d.depth ≤ 100) ∧ Q (.bl (!ds.any fun z => PyData.eqv z d)) H) := by
  intro pins s σ H x y v u Q I rx ry h
  obtain ⟨d, ds, hd, he, ok, q⟩ := h
  obtain ⟨as, r1⟩ := Dp.reads I d x v hd rx
  rcases he with he | he
  · obtain ⟨bs, r2⟩ := Dp.reads I _ y u he ry
    exact SeqAt.notIn_list_reads r2 r1 ok.2.1 ok.1 (by omega) ⟨.bl _, H, I, rfl, q⟩
  · obtain ⟨bs, r2⟩ := Dp.reads I _ y u he ry
    exact SeqAt.notIn_tuple_reads r2 r1 ok.2.1 ok.1 (by omega) ⟨.bl _, H, I, rfl, q⟩
theorem inOk_cases {d : D} {xs : List D} (h : inOk d xs = true) : (flat d = true ∧ xs.all flat = true) ∨ (d.canLay0 = true ∧ PyData.canLayAll0 xs = true ∧ min (PyData.depthAll xs) d.depth ≤ 100) := by
  unfold inOk at h
  simp only [Bool.or_eq_true, Bool.and_eq_true, decide_eq_true_eq] at h
  rcases h with h | h
  · exact .inl h
  · exact .inr ⟨h.1.1, h.1.2, h.2⟩
theorem cmp_ok (hu : X.A.units + 200 < cLine) (op : Cop) : OpR X (compareOp (copOf op)) (rC X.K (cmpD op)) := by
  intro pins s σ H x y v u Q I rx ry h
  obtain ⟨S, d1, d2, c, b1, b2, e, q⟩ := h
  cases op with
  | eq =>
    simp only [cmpD, eqD] at e
    split at e
    · rename_i ho
      cases e
      rw [Bool.or_eq_true] at ho
      rcases ho with ho | ho
      · rw [Bool.and_eq_true] at ho
        rcases scal_or ho.1 ho.2 with h | h
        · have h' := h
          unfold eqOk at h'
          rw [Bool.and_eq_true, Bool.and_eq_true] at h'
          exact eq_data hu pins s σ H _ _ v u Q I rx ry ⟨d1, d2, b1.dp h'.1.1, b2.dp h'.1.2, h, q⟩
        · have hs := h _ _ _ _ _ b1 b2
          refine op_eq pins s σ H _ _ v u Q I rx ry ⟨hs, ?_⟩
          rw [eqV_scal hs (b1.flat ho.1), (b1.rp ho.1).eqV b2 ho.1 ho.2]
          exact q
      · have h' := ho
        unfold eqOk at h'
        rw [Bool.and_eq_true, Bool.and_eq_true] at h'
        exact eq_data hu pins s σ H _ _ v u Q I rx ry ⟨d1, d2, b1.dp h'.1.1, b2.dp h'.1.2, ho, q⟩
    · cases e
  | ne =>
    simp only [cmpD, eqD] at e
    split at e
    · rename_i ho
      cases e
      rw [Bool.or_eq_true] at ho
      rcases ho with ho | ho
      · rw [Bool.and_eq_true] at ho
        rcases scal_or ho.1 ho.2 with h | h
        · have h' := h
          unfold eqOk at h'
          rw [Bool.and_eq_true, Bool.and_eq_true] at h'
          exact ne_data hu pins s σ H _ _ v u Q I rx ry ⟨d1, d2, b1.dp h'.1.1, b2.dp h'.1.2, h, q⟩
        · have hs := h _ _ _ _ _ b1 b2
          refine op_ne pins s σ H _ _ v u Q I rx ry ⟨hs, ?_⟩
          rw [eqV_scal hs (b1.flat ho.1), (b1.rp ho.1).eqV b2 ho.1 ho.2]
          exact q
      · have h' := ho
        unfold eqOk at h'
        rw [Bool.and_eq_true, Bool.and_eq_true] at h'
        exact ne_data hu pins s σ H _ _ v u Q I rx ry ⟨d1, d2, b1.dp h'.1.1, b2.dp h'.1.2, ho, q⟩
    · cases e
  | lt =>
    have gen : ltOk d1 d2 = true → c = PySem.W.dataLt d1 d2 → wpAny (model X.prog X.w) X.A (compareOp .Lt v u) (EP X pins σ Q) X.xe s := by
      rintro ho rfl
      have ho' := ho
      unfold ltOk at ho'
      simp only [Bool.and_eq_true] at ho'
      exact lt_data hu pins s σ H _ _ v u Q I rx ry ⟨_, _, b1.dp ho'.1.1.1.2, b2.dp ho'.1.1.2, ho, q⟩
    cases d1 <;> cases d2 <;> simp only [cmpD] at e <;> first
      | (split at e <;> first
        | (cases e; done)
        | (rename_i ho; exact gen ho (by cases e; rfl)))
      | (cases e
         cases b1.int
         cases b2.int
         exact op_lt pins s σ H _ _ v u Q I rx ry ⟨_, _, rfl, rfl, q⟩)
  | le =>
    cases d1 <;> cases d2 <;> simp only [cmpD] at e <;> try (cases e; done)
    cases e
    cases b1.int
    cases b2.int
    exact op_le pins s σ H _ _ v u Q I rx ry ⟨_, _, rfl, rfl, q⟩
  | gt =>
    cases d1 <;> cases d2 <;> simp only [cmpD] at e <;> try (cases e; done)
    cases e
    cases b1.int
    cases b2.int
    exact op_gt pins s σ H _ _ v u Q I rx ry ⟨_, _, rfl, rfl, q⟩
  | ge =>
    cases d1 <;> cases d2 <;> simp only [cmpD] at e <;> try (cases e; done)
    cases e
    cases b1.int
    cases b2.int
    exact op_ge pins s σ H _ _ v u Q I rx ry ⟨_, _, rfl, rfl, q⟩
  | isIn =>
    simp only [cmpD] at e
    have go : (flat d1 = true → (∃ p vs xs, y = .ref p ∧ (SqL X.K H p vs ∨ SqT X.K H p vs) ∧ RpL X.K H S vs xs ∧ xs.all flat = true ∧ c = xs.any fun z => PyData.eqv z d1) → wpAny (model X.prog X.w) X.A (compareOp .In v u) (EP X pins σ Q) X.xe s) := by
      rintro f ⟨p, vs, xs, rfl, hq, hr, fs, rfl⟩
      refine op_in_seq pins s σ H _ _ v u Q I rx ry ⟨p, vs, rfl, hq, b1.flat f, hr.flat fs, ?_⟩
      rw [if_neg (by decide), hr.inV b1 f fs]
      exact q
    cases d2 with
    | str b =>
      cases d1 <;> simp only [inD] at e <;> try (cases e; done)
      cases e
      cases b1.str
      cases b2.str
      exact op_in_str pins s σ H _ _ v u Q I rx ry ⟨_, _, rfl, rfl, q⟩
    | list xs =>
      have e' : (if inOk d1 xs = true then Res.ok (xs.any fun z => PyData.eqv z d1) else .no) = .ok c := by
        cases d1 <;> exact e
      split at e'
      · rename_i hf
        cases e'
        rcases inOk_cases hf with hf | hf
        · obtain ⟨a, vs, rfl, h1, h2⟩ := b2.lst
          exact go hf.1 ⟨a, vs, xs, rfl, .inl h1, h2, hf.2, rfl⟩
        · exact in_data hu pins s σ H _ _ v u Q I rx ry ⟨d1, xs, b1.dp hf.1, .inl (b2.dp (by simpa [PyData.canLay0] using hf.2.1)), hf, q⟩
      · cases e'
    | tuple xs =>
      have e' : (if inOk d1 xs = true then Res.ok (xs.any fun z => PyData.eqv z d1) else .no) = .ok c := by
        cases d1 <;> exact e
      split at e'
      · rename_i hf
        cases e'
        rcases inOk_cases hf with hf | hf
        · obtain ⟨a, vs, rfl, h1, h2⟩ := b2.tup
          exact go hf.1 ⟨a, vs, xs, rfl, .inr h1, h2, hf.2, rfl⟩
        · exact in_data hu pins s σ H _ _ v u Q I rx ry ⟨d1, xs, b1.dp hf.1, .inr (b2.dp (by simpa [PyData.canLay0] using hf.2.1)), hf, q⟩
      · cases e'
    | _ => cases d1 <;> simp only [inD] at e <;> cases e
  | notIn =>
    simp only [cmpD] at e
    have go : (flat d1 = true → (∃ p vs xs, y = .ref p ∧ (SqL X.K H p vs ∨ SqT X.K H p vs) ∧ RpL X.K H S vs xs ∧ xs.all flat = true ∧ c = !xs.any fun z => PyData.eqv z d1) → wpAny (model X.prog X.w) X.A (compareOp .NotIn v u) (EP X pins σ Q) X.xe s) := by
      rintro f ⟨p, vs, xs, rfl, hq, hr, fs, rfl⟩
      refine op_notIn_seq pins s σ H _ _ v u Q I rx ry ⟨p, vs, rfl, hq, b1.flat f, hr.flat fs, ?_⟩
      rw [if_pos rfl, hr.inV b1 f fs]
      exact q
    cases d2 with
    | str b =>
      cases d1 <;> simp only [inD] at e <;> try (cases e; done)
      cases e
      cases b1.str
      cases b2.str
      exact L2.op_notIn_str pins s σ H _ _ v u Q I rx ry ⟨_, _, rfl, rfl, q⟩
    | list xs =>
      have e' : (if inOk d1 xs = true then Res.ok (xs.any fun z => PyData.eqv z d1) else .no).bind (fun c => .ok (!c)) = .ok c := by
        cases d1 <;> exact e
      split at e'
      · rename_i hf
        cases e'
        rcases inOk_cases hf with hf | hf
        · obtain ⟨a, vs, rfl, h1, h2⟩ := b2.lst
          exact go hf.1 ⟨a, vs, xs, rfl, .inl h1, h2, hf.2, rfl⟩
        · exact notIn_data hu pins s σ H _ _ v u Q I rx ry ⟨d1, xs, b1.dp hf.1, .inl (b2.dp (by simpa [PyData.canLay0] using hf.2.1)), hf, q⟩
      · cases e'
    | tuple xs =>
      have e' : (if inOk d1 xs = true then Res.ok (xs.any fun z => PyData.eqv z d1) else .no).bind (fun c => .ok (!c)) = .ok c := by
        cases d1 <;> exact e
      split at e'
      · rename_i hf
        cases e'
        rcases inOk_cases hf with hf | hf
        · obtain ⟨a, vs, rfl, h1, h2⟩ := b2.tup
          exact go hf.1 ⟨a, vs, xs, rfl, .inr h1, h2, hf.2, rfl⟩
        · exact notIn_data hu pins s σ H _ _ v u Q I rx ry ⟨d1, xs, b1.dp hf.1, .inr (b2.dp (by simpa [PyData.canLay0] using hf.2.1)), hf, q⟩
      · cases e'
    | _ => cases d1 <;> simp only [inD] at e <;> cases e
  | isB =>
    cases d1 <;> cases d2 <;> simp only [cmpD] at e <;> try (cases e; done)
    cases e
    cases b1.bl
    cases b2.bl
    exact op_isBl pins s σ H _ _ v u Q I rx ry ⟨_, _, rfl, rfl, q⟩
  | nisB =>
    cases d1 <;> cases d2 <;> simp only [cmpD] at e <;> try (cases e; done)
    cases e
    cases b1.bl
    cases b2.bl
    exact op_notBl pins s σ H _ _ v u Q I rx ry ⟨_, _, rfl, rfl, q⟩
end
end DL

set_option Elab.async false
set_option linter.all false
set_option maxRecDepth 100000
set_option maxHeartbeats 4000000
set_option autoImplicit false
/-! DL4: subscripts, slices, built-ins, truth, isinstance. -/
namespace DL
open PySem PySem.Spec PyProof.Rows L2

section
variable {prog : Program} {w : World} {A : Around} {E : Value → Shared → Prop} {s : Shared} {t : Addr}
theorem sum_tupI {its : List Value} {ns : List Int} {Q : Value → Shared → Prop} (hh : A.handled = none) (ht : s.heap.IsTuple t its.toArray) (hi : IntsAre its ns)
    (h : ∀ h' tk t', (∀ b o, s.heap.get? b = some o → h'.get? b = some o) → Q (.int ns.sum t') { s with heap := h', toks := tk }) : wpAny (model prog w) A (call (.builtin "sum") [.ref t]) Q E s := by
  obtain ⟨xs, e⟩ := hi.allInts.items
  have hn : numsOf (intItems xs).toList = ns := by rw [← e]; exact hi.numsOf
  rw [nums_intItems] at hn
  rw [e] at ht
  refine PySem.W.ktm_sumG hh ht fun h' tk t' hk => ?_
  have := h h' tk t' hk
  rw [preSum_eq, List.take_of_length_le (by simp), hn]; exact this
theorem best_tupG {op : String} {xs : Array (Int × Tok)} {bt : Nat → Nat → Bool} {Q : Value → Shared → Prop} (hh : A.handled = none) (ht : s.heap.IsTuple t (intItems xs)) (hne : 0 < xs.size)
    (hop : op = "max" ∧ bt = (fun i j => decide (numAt xs i > numAt xs j)) ∨ op = "min" ∧ bt = (fun i j => decide (numAt xs i < numAt xs j)))
    (h : ∀ v h' tk, (intItems xs)[argBest bt (xs.size - 1)]? = some v → (∀ b o, s.heap.get? b = some o → h'.get? b = some o) → Q v { s with heap := h', toks := tk }) :
    wpAny (model prog w) A (call (.builtin op) [.ref t]) Q E s := by
  obtain ⟨o, ho, hc, n, hd⟩ := id ht
  have hn : t ≠ s.heap.objs.size := Nat.ne_of_lt (Heap.lt_size ho)
  have hsz : (intItems xs).size = xs.size := by simp [intItems]
  have W := (Walks.tuple (prog := prog) (w := w) (A := A.in1) hh s.heap.objs.size t hn (intItems xs)).toS
  rw [hsz] at W
  have fin : ∀ (v : Value) (s2 s' : Shared), s2 = { s with heap := s.heap.push { cls := .type "tuple_iterator", data := .fields #[.ref t, .int 0 0] } } → (intItems xs)[argBest bt (xs.size - 1)]? = some v → Moved [s.heap.objs.size] (fun a b => b = a) s2 s' → Q v s' := fun v s2 s' e hP hm => by
    subst e
    obtain ⟨h', g', d', tk', os'⟩ := s'
    have e1 : g' = s.gens := hm.gens
    have e2 : d' = s.drawn := hm.drawn
    have e3 : os' = s.os := hm.os
    subst e1 e2 e3
    exact h v h' tk' hP fun b o e => hm.heap b o (fun hb => absurd (Heap.lt_size e) ((List.mem_singleton.mp hb) ▸ Nat.lt_irrefl _)) (Heap.get?_push_of_some _ e)
  have fp : ∀ b ∈ [s.heap.objs.size, t], b < (s.heap.push { cls := .type "tuple_iterator", data := .fields #[.ref t, .int 0 0] }).objs.size := fun b hb => by
    rcases List.mem_cons.mp hb with rfl | hb
    · exact Heap.lt_size (Heap.get?_push_size _ rfl)
    · obtain rfl := List.mem_singleton.mp hb
      exact Heap.lt_size (Heap.get?_push_of_some _ ho)
  rcases hop with ⟨rfl, rfl⟩ | ⟨rfl, rfl⟩
  · refine call_max_walkS (wpAny_pyIter_tuple ht ?_)
    exact ⟨s.heap.objs.size, _, _, _, _, _, _, _, rfl, W, ⟨⟨_, Heap.get?_push_size _ rfl, rfl, rfl⟩, ht.at fun o e => Heap.get?_push_of_some _ e⟩, fp, hne, CmpOf.ints_gt (numAt xs) (fun _ _ => intItems_at), fun v s' hP hm => fin v _ s' rfl hP hm⟩
  · refine call_min_walkS (wpAny_pyIter_tuple ht ?_)
    exact ⟨s.heap.objs.size, _, _, _, _, _, _, _, rfl, W, ⟨⟨_, Heap.get?_push_size _ rfl, rfl, rfl⟩, ht.at fun o e => Heap.get?_push_of_some _ e⟩, fp, hne, CmpOf.ints_lt (numAt xs) (fun _ _ => intItems_at), fun v s' hP hm => fin v _ s' rfl hP hm⟩
theorem max_tupI {its : List Value} {ns : List Int} {Q : Value → Shared → Prop} (hh : A.handled = none) (ht : s.heap.IsTuple t its.toArray) (hi : IntsAre its ns) (hne : 0 < ns.length)
    (h : ∀ h' tk M t', (∀ b o, s.heap.get? b = some o → h'.get? b = some o) → M ∈ ns → (∀ a, a ∈ ns → a ≤ M) → Q (.int M t') { s with heap := h', toks := tk }) : wpAny (model prog w) A (call (.builtin "max") [.ref t]) Q E s := by
  obtain ⟨xs, e⟩ := hi.allInts.items
  have hn : numsOf (intItems xs).toList = ns := by rw [← e]; exact hi.numsOf
  rw [nums_intItems] at hn
  subst hn
  rw [e] at ht
  have hsz : 0 < xs.size := by simpa using hne
  refine best_tupG hh ht hsz (.inl ⟨rfl, rfl⟩) fun v h' tk hv hk => ?_
  obtain ⟨t, rfl⟩ := intItems_at hv
  obtain ⟨h1, h2⟩ := argBest_gt (numAt xs) (xs.size - 1)
  refine h h' tk _ t hk ?_ fun a ha => ?_
  · rw [numAt_eq]; exact PySem.getD_mem (by rw [List.length_map, Array.length_toList]; omega)
  · obtain ⟨j, hj, rfl⟩ := mem_getD ha
    rw [List.length_map, Array.length_toList] at hj
    rw [← numAt_eq]; exact h2 j (by omega)
theorem min_tupI {its : List Value} {ns : List Int} {Q : Value → Shared → Prop} (hh : A.handled = none) (ht : s.heap.IsTuple t its.toArray) (hi : IntsAre its ns) (hne : 0 < ns.length)
    (h : ∀ h' tk M t', (∀ b o, s.heap.get? b = some o → h'.get? b = some o) → M ∈ ns → (∀ a, a ∈ ns → M ≤ a) → Q (.int M t') { s with heap := h', toks := tk }) : wpAny (model prog w) A (call (.builtin "min") [.ref t]) Q E s := by
  obtain ⟨xs, e⟩ := hi.allInts.items
  have hn : numsOf (intItems xs).toList = ns := by rw [← e]; exact hi.numsOf
  rw [nums_intItems] at hn
  subst hn
  rw [e] at ht
  have hsz : 0 < xs.size := by simpa using hne
  refine best_tupG hh ht hsz (.inr ⟨rfl, rfl⟩) fun v h' tk hv hk => ?_
  obtain ⟨t, rfl⟩ := intItems_at hv
  obtain ⟨h1, h2⟩ := argBest_lt (numAt xs) (xs.size - 1)
  refine h h' tk _ t hk ?_ fun a ha => ?_
  · rw [numAt_eq]; exact PySem.getD_mem (by rw [List.length_map, Array.length_toList]; omega)
  · obtain ⟨j, hj, rfl⟩ := mem_getD ha
    rw [List.length_map, Array.length_toList] at hj
    rw [← numAt_eq]; exact h2 j (by omega)
end
section
variable {K : PySem.W.Frag} {H H' : Hp} {S S' : Addr → Prop}
theorem RpL.atI {vs : List V} {ds : List D} {i : Int} {d : D} (h : RpL K H S vs ds) (e : L2.atI ds i = some d) : ∃ v, L2.atI vs i = some v ∧ Rp K H S v d := by
  unfold L2.atI at e ⊢
  rw [← h.length] at e
  cases e1 : ixN vs.length i with
  | none => rw [e1] at e; cases e
  | some j =>
    rw [e1] at e
    exact h.get (i := j) e
end

section
variable {X : Cx}
theorem rpk_find {K : PySem.W.Frag} {H : Hp} {S : Addr → Prop} {kvs : List (Key × V)} {ds : List (D × D)} {k : Str} {d : D} (h : RpK K H S kvs ds) (e : findD ds k = some d) : ∃ v, valV kvs (.inr k) = some v ∧ Rp K H S v d := by
  induction ds generalizing kvs with
  | nil => cases e
  | cons x r ih =>
    cases h with
    | @cons z v vs _ _ h1 h2 =>
      simp only [findD] at e
      by_cases hz : z = k
      · subst hz
        rw [if_pos rfl] at e
        cases e
        exact ⟨v, by simp [valV], h1⟩
      · rw [if_neg hz] at e
        obtain ⟨w, e1, e2⟩ := ih h2 e
        refine ⟨w, ?_, e2⟩
        rw [← e1]
        unfold valV
        rw [List.find?_cons_of_neg]
        intro q
        exact hz (Sum.inr.inj (of_decide_eq_true q))
    | @consI z v vs _ _ h1 h2 =>
      simp only [findD] at e
      obtain ⟨w, e1, e2⟩ := ih h2 e
      refine ⟨w, ?_, e2⟩
      rw [← e1]
      unfold valV
      rw [List.find?_cons_of_neg]
      intro q
      exact nomatch of_decide_eq_true q
theorem rpk_findI {K : PySem.W.Frag} {H : Hp} {S : Addr → Prop} {kvs : List (Key × V)} {ds : List (D × D)} {k : Int} {d : D} (h : RpK K H S kvs ds) (e : findI ds k = some d) : ∃ v, valV kvs (.inl k) = some v ∧ Rp K H S v d := by
  induction ds generalizing kvs with
  | nil => cases e
  | cons x r ih =>
    cases h with
    | @consI z v vs _ _ h1 h2 =>
      simp only [findI] at e
      by_cases hz : z = k
      · subst hz
        rw [if_pos rfl] at e
        cases e
        exact ⟨v, by simp [valV], h1⟩
      · rw [if_neg hz] at e
        obtain ⟨w, e1, e2⟩ := ih h2 e
        refine ⟨w, ?_, e2⟩
        rw [← e1]
        unfold valV
        rw [List.find?_cons_of_neg]
        intro q
        exact hz (Sum.inl.inj (of_decide_eq_true q))
    | @cons z v vs _ _ h1 h2 =>
      simp only [findI] at e
      obtain ⟨w, e1, e2⟩ := ih h2 e
      refine ⟨w, ?_, e2⟩
      rw [← e1]
      unfold valV
      rw [List.find?_cons_of_neg]
      intro q
      exact nomatch of_decide_eq_true q
theorem ix_dct (hu : X.A.units + 1 < cLine) : IxR X (fun x y H Q => ∃ (a : Addr) (v : V), x = .ref a ∧ DGet H a y (some v) ∧ Q v H) := by
  intro value slice pins s σ H x y v u Q I rx ry h hs
  obtain ⟨a, w, rfl, g, q⟩ := h
  obtain rfl : v = Value.ref a := rx
  exact tail_any (dict_typeIs I g) PySem.F.slot_dict_getitem.lookup (d_getItem hu I g ry fun w' s' I' rw' => ⟨w, H, I', rw', q⟩) hs
theorem ix_ok (hu : X.A.units + 1 < cLine) : IxR X (fun x y H Q => ∃ S d1 d2 d, RB X.K S H x d1 ∧ RB X.K S H y d2 ∧ idxD d1 d2 = .ok d ∧ ∀ v, Rp X.K H S v d → Q v H) := by
  intro value slice pins s σ H x y v u Q I rx ry h hs
  obtain ⟨S, d1, d2, d, b1, b2, e, q⟩ := h
  cases d1 <;> cases d2 <;> simp only [idxD] at e <;> try (cases e; done)
  case dict.int kvs z =>
    cases b2.int
    obtain ⟨a, ob, vs, rfl, h1, h2⟩ := b1.dct
    split at e
    · rename_i dd hc
      cases e
      obtain ⟨w, e1, e2⟩ := rpk_findI h2 hc
      exact ix_dct hu value slice pins s σ H _ _ v u Q I rx ry ⟨a, w, rfl, .inl ⟨vs, .inl z, .inr ⟨ob, h1⟩, rfl, e1.symm⟩, q w e2⟩ hs
    · cases e
  case dict.str kvs z =>
    cases b2.str
    obtain ⟨a, ob, vs, rfl, h1, h2⟩ := b1.dct
    split at e
    · rename_i dd hc
      cases e
      obtain ⟨w, e1, e2⟩ := rpk_find h2 hc
      exact ix_dct hu value slice pins s σ H _ _ v u Q I rx ry ⟨a, w, rfl, .inl ⟨vs, .inr z, .inr ⟨ob, h1⟩, rfl, e1.symm⟩, q w e2⟩ hs
    · cases e
  · rename_i z i
    cases b1.str
    cases b2.int
    split at e
    · rename_i hl
      split at e
      · rename_i c hc
        cases e
        exact ix_str value slice pins s σ H _ _ v u Q I rx ry ⟨_, _, _, rfl, rfl, len_of hl, hc, q _ (.str _)⟩ hs
      · cases e
    · cases e
  · rename_i xs i
    cases b2.int
    split at e
    · rename_i dd hc
      cases e
      obtain ⟨a, vs, rfl, h1, h2⟩ := b1.lst
      obtain ⟨w, hw, rw'⟩ := h2.atI hc
      exact ix_list value slice pins s σ H _ _ v u Q I rx ry ⟨_, _, _, _, rfl, rfl, h1, hw, q _ rw'⟩ hs
    · cases e
  · rename_i xs i
    cases b2.int
    split at e
    · rename_i dd hc
      cases e
      obtain ⟨a, vs, rfl, h1, h2⟩ := b1.tup
      obtain ⟨w, hw, rw'⟩ := h2.atI hc
      exact ix_tup value slice pins s σ H _ _ v u Q I rx ry ⟨_, _, _, _, rfl, rfl, h1, hw, q _ rw'⟩ hs
    · cases e
theorem cutL_whole {xs : List D} {lo hi : Option Int} (h : _root_.HT.sIx xs.length 0 lo = 0 ∧ _root_.HT.sIx xs.length xs.length hi = xs.length) : cutL xs lo hi = xs := by
  unfold cutL
  rw [h.1, h.2]
  simp
theorem sl_ok : SlR X (fun x lo hi H Q => ∃ S d res, (∀ b, S b → H b ≠ none) ∧ RB X.K S H x d ∧ slcD d lo hi = .ok res ∧ ∀ v H' S', Ext S H S' H' → RF X.K H S' H' v res → Q v H') := by
  intro pins s σ H x v vl vu lo hi sl Q I rx hs pl pu h
  obtain ⟨S, d, res, w, b, e, q⟩ := h
  cases d <;> simp only [slcD] at e <;> try (cases e; done)
  · rename_i z
    cases b.str
    split at e
    · rename_i hl
      cases e
      exact sl_str pins s σ H _ v vl vu lo hi sl Q I rx hs pl pu ⟨z, rfl, len_of hl, q _ _ S (.refl w) (.str _)⟩
    · cases e
  · rename_i xs
    cases e
    obtain ⟨a, vs, rfl, h1, h2⟩ := b.lst
    exact sl_list pins s σ H _ v vl vu lo hi sl Q I rx hs pl pu ⟨a, vs, rfl, h1, fun p hp => q _ _ _ (.new w hp) (.new w hp (h2.cut lo hi))⟩
  · rename_i xs
    cases e
    obtain ⟨a, vs, rfl, h1, h2⟩ := b.tup
    refine sl_tupA pins s σ H _ v vl vu lo hi sl Q I rx hs pl pu ⟨a, vs, rfl, h1, fun z => ?_, fun _ p hp => ?_⟩
    · rw [h2.length] at z
      rw [cutL_whole z] at q
      exact q _ _ S (.refl w) (.tup h1 h2)
    · exact q _ _ _ (.new w hp) (.newT w hp (h2.cut lo hi))

/-! ### truth -/
theorem tru_v {H : Hp} {S : Addr → Prop} {x : V} {d : D} {c : Bool} (b : RB X.K S H x d) (e : truth d = .ok c) : TruV X.K x H c := by
  cases d with
  | none => cases b.non; cases e; rfl
  | bool _ => cases b.bl; cases e; rfl
  | int _ => cases b.int; cases e; rfl
  | str z =>
    cases b.str
    simp only [truth] at e
    split at e
    · rename_i hl
      cases e
      refine ⟨len_of hl, ?_⟩
      show (z.length != 0) = ((z.length : Int) != 0)
      cases z.length <;> rfl
    · cases e
  | list xs =>
    obtain ⟨a, vs, rfl, h1, h2⟩ := b.lst
    cases e
    refine .inl ⟨vs, h1, ?_⟩
    show (!xs.isEmpty) = !vs.isEmpty
    cases h2 <;> rfl
  | tuple xs =>
    obtain ⟨a, vs, rfl, h1, h2⟩ := b.tup
    cases e
    refine .inr (.inl ⟨vs, h1, ?_⟩)
    show (!xs.isEmpty) = !vs.isEmpty
    cases h2 <;> rfl
  | dict xs => cases e
theorem tru_data : TruR X (fun x H Q => ∃ S d c, RB X.K S H x d ∧ truth d = .ok c ∧ Q c H) := by
  intro pins s σ H x v Q I rx h
  obtain ⟨S, d, c, b, e, q⟩ := h
  exact tru_ok pins s σ H x v Q I rx ⟨c, tru_v b e, q⟩

/-! ### isinstance -/
def tyOfD : D → String
  | .none => "NoneType"
  | .bool _ => "bool"
  | .int _ => "int"
  | .str _ => "str"
  | .list _ => "list"
  | .tuple _ => "tuple"
  | .dict _ => "dict"
theorem tyx {H : Hp} {S : Addr → Prop} {x : V} {d : D} (b : RB X.K S H x d) : TyX X.K H x (.type (tyOfD d)) := by
  cases d with
  | none => cases b.non; exact .base .non
  | bool _ => cases b.bl; exact .base (.bl _)
  | int _ => cases b.int; exact .base (.int _)
  | str z => cases b.str; exact .base (.str _)
  | list xs =>
    obtain ⟨a, vs, rfl, h1, h2⟩ := b.lst
    rcases h1 with (h1 | ⟨o, h1⟩) | ⟨o, its, n, h1, h2, _⟩
    · exact .base (.lst h1)
    · exact .base (.frz h1)
    · exact .kList h1 h2
  | tuple xs =>
    obtain ⟨a, vs, rfl, h1, h2⟩ := b.tup
    rcases h1 with (h1 | ⟨o, h1⟩) | ⟨o, its, n, h1, h2, _⟩
    · exact .base (.tup h1)
    · exact .fTuple h1
    · exact .kTuple h1 h2
  | dict xs =>
    obtain ⟨a, o, vs, rfl, h1, h2⟩ := b.dct
    exact .fDict h1
def tyName : Ty → String
  | .int => "int"
  | .bool => "bool"
  | .str => "str"
  | .tuple => "tuple"
  | .list => "list"
  | .dict => "dict"
theorem isi_ok (d : D) (t : Ty) : kitB (tyOfD d) (tyName t) = some (isTy d t) := by
  cases d <;> cases t <;> (simp only [tyOfD, tyName, isTy]; decide +kernel)
theorem call_isD : CallR X (.builtin "isinstance") (fun xs H Q => ∃ S d x t, xs = [x, .ty (tyName t)] ∧ RB X.K S H x d ∧ Q (.bl (isTy d t)) H) := by
  intro pins s σ H xs us Q I r h
  obtain ⟨S, d, x, t, rfl, b, q⟩ := h
  exact call_isi pins s σ H _ us Q I r ⟨x, _, _, _, _, rfl, .ty _, tyx b, kit_ty (isi_ok d t), q⟩

/-! ### built-ins -/
def rB (K : PySem.W.Frag) (b : Bi) : List V → Hp → VK → Prop := fun xs H Q => ∃ S ds res, (∀ b, S b → H b ≠ none) ∧ Paired (RB K S H) xs ds ∧ biD b ds = .ok res ∧ ∀ v H' S', Ext S H S' H' → RF K H S' H' v res → Q v H'
theorem maxI_mem : ∀ (m : Int) (ns : List Int), maxI m ns ∈ m :: ns ∧ ∀ y ∈ m :: ns, y ≤ maxI m ns
  | m, [] => ⟨List.mem_cons_self, fun y hy => by simp at hy; subst hy; exact Int.le_refl _⟩
  | m, x :: r => by
    obtain ⟨h1, h2⟩ := maxI_mem (if x > m then x else m) r
    show maxI (if x > m then x else m) r ∈ _ ∧ ∀ y ∈ m :: x :: r, y ≤ maxI (if x > m then x else m) r
    have h3 := h2 _ List.mem_cons_self
    refine ⟨?_, fun y hy => ?_⟩
    · rcases List.mem_cons.mp h1 with e | e
      · rw [e]; split <;> simp
      · exact List.mem_cons_of_mem _ (List.mem_cons_of_mem _ e)
    · rcases List.mem_cons.mp hy with rfl | hy
      · refine Int.le_trans ?_ h3; split <;> omega
      · rcases List.mem_cons.mp hy with rfl | hy
        · refine Int.le_trans ?_ h3; split <;> omega
        · exact h2 y (List.mem_cons_of_mem _ hy)
theorem minI_mem : ∀ (m : Int) (ns : List Int), minI m ns ∈ m :: ns ∧ ∀ y ∈ m :: ns, minI m ns ≤ y
  | m, [] => ⟨List.mem_cons_self, fun y hy => by simp at hy; subst hy; exact Int.le_refl _⟩
  | m, x :: r => by
    obtain ⟨h1, h2⟩ := minI_mem (if x < m then x else m) r
    show minI (if x < m then x else m) r ∈ _ ∧ ∀ y ∈ m :: x :: r, minI (if x < m then x else m) r ≤ y
    have h3 := h2 _ List.mem_cons_self
    refine ⟨?_, fun y hy => ?_⟩
    · rcases List.mem_cons.mp h1 with e | e
      · rw [e]; split <;> simp
      · exact List.mem_cons_of_mem _ (List.mem_cons_of_mem _ e)
    · rcases List.mem_cons.mp hy with rfl | hy
      · refine Int.le_trans h3 ?_; split <;> omega
      · rcases List.mem_cons.mp hy with rfl | hy
        · refine Int.le_trans h3 ?_; split <;> omega
        · exact h2 y (List.mem_cons_of_mem _ hy)
theorem paired1 {α β : Type} {R : α → β → Prop} {xs : List α} {y : β} (h : Paired R xs [y]) : ∃ x, xs = [x] ∧ R x y := by
  cases h with
  | cons a b => cases b; exact ⟨_, rfl, a⟩
theorem paired2 {α β : Type} {R : α → β → Prop} {xs : List α} {y z : β} (h : Paired R xs [y, z]) : ∃ x x', xs = [x, x'] ∧ R x y ∧ R x' z := by
  cases h with
  | cons a b =>
    obtain ⟨x', rfl, c⟩ := paired1 b
    exact ⟨_, _, rfl, a, c⟩
section
variable {pins : List (Addr × Obj)} {s : Shared} {σ : Slots} {H : Hp} {xs : List V} {us : List Value} {Q : VK}
theorem bi_len : CallR X (.builtin "len") (rB X.K .len) := by
  intro pins s σ H xs us Q I r h
  obtain ⟨S, ds, res, w, p, e, q⟩ := h
  match ds, p, e with
  | [.list ys], p, e =>
    obtain ⟨x, rfl, b⟩ := paired1 p
    obtain ⟨a, vs, rfl, h1, h2⟩ := b.lst
    cases e
    exact call_len_seq pins s σ H _ us Q I r ⟨a, vs, rfl, .inl h1, q _ _ S (.refl w) (by rw [h2.length]; exact .int _)⟩
  | [.tuple ys], p, e =>
    obtain ⟨x, rfl, b⟩ := paired1 p
    obtain ⟨a, vs, rfl, h1, h2⟩ := b.tup
    cases e
    exact call_len_seq pins s σ H _ us Q I r ⟨a, vs, rfl, .inr h1, q _ _ S (.refl w) (by rw [h2.length]; exact .int _)⟩
  | [.str z], p, e =>
    obtain ⟨x, rfl, b⟩ := paired1 p
    cases b.str
    simp only [biD] at e
    split at e
    · rename_i hl
      cases e
      exact call_len_str pins s σ H _ us Q I r ⟨z, rfl, len_of hl, q _ _ S (.refl w) (.int _)⟩
    · cases e
theorem bi_int : CallR X (.type "int") (rB X.K .int) := by
  intro pins s σ H xs us Q I r h
  obtain ⟨S, ds, res, w, p, e, q⟩ := h
  match ds, p, e with
  | [.int i], p, e =>
    obtain ⟨x, rfl, b⟩ := paired1 p
    cases b.int
    cases e
    exact call_int1 pins s σ H _ us Q I r (.inl ⟨i, rfl, q _ _ S (.refl w) (.int _)⟩)
  | [.bool i], p, e =>
    obtain ⟨x, rfl, b⟩ := paired1 p
    cases b.bl
    cases e
    exact call_int1 pins s σ H _ us Q I r (.inr ⟨i, rfl, q _ _ S (.refl w) (.int _)⟩)
  | [.str z], p, e =>
    obtain ⟨x, rfl, b⟩ := paired1 p
    cases b.str
    simp only [biD] at e
    split at e
    · rename_i n hn
      split at e
      · rename_i hl
        cases e
        exact call_int_str pins s σ H _ us Q I r ⟨z, n, rfl, hn, hl, q _ _ S (.refl w) (.int _)⟩
      · cases e
    · cases e
theorem bi_str : CallR X (.type "str") (rB X.K .str) := by
  intro pins s σ H xs us Q I r h
  obtain ⟨S, ds, res, w, p, e, q⟩ := h
  match ds, p, e with
  | [.int i], p, e =>
    obtain ⟨x, rfl, b⟩ := paired1 p
    cases b.int
    simp only [biD] at e
    split at e
    · rename_i hl
      cases e
      exact call_str_int pins s σ H _ us Q I r ⟨i, rfl, Nat.lt_of_lt_of_le (PySem.Flt.log2_lt_of (by decide) hl) (by decide), q _ _ S (.refl w) (.str _)⟩
    · cases e
theorem bi_tuple : CallR X (.type "tuple") (rB X.K .tuple) := by
  intro pins s σ H xs us Q I r h
  obtain ⟨S, ds, res, w, p, e, q⟩ := h
  match ds, p, e with
  | [.list ys], p, e =>
    obtain ⟨x, rfl, b⟩ := paired1 p
    obtain ⟨a, vs, rfl, h1, h2⟩ := b.lst
    cases e
    exact call_tuple_of pins s σ H _ us Q I r ⟨a, vs, rfl, .inl ⟨h1, fun l hl => q _ _ _ (.new w hl) (.newT w hl h2)⟩⟩
  | [.tuple ys], p, e =>
    obtain ⟨x, rfl, b⟩ := paired1 p
    obtain ⟨a, vs, rfl, h1, h2⟩ := b.tup
    cases e
    exact call_tuple_of pins s σ H _ us Q I r ⟨a, vs, rfl, .inr ⟨h1, q _ _ S (.refl w) (.tup h1 h2)⟩⟩
theorem bi_list : CallR X (.type "list") (rB X.K .list) := by
  intro pins s σ H xs us Q I r h
  obtain ⟨S, ds, res, w, p, e, q⟩ := h
  match ds, p, e with
  | [.list ys], p, e =>
    obtain ⟨x, rfl, b⟩ := paired1 p
    obtain ⟨a, vs, rfl, h1, h2⟩ := b.lst
    cases e
    exact call_list_of pins s σ H _ us Q I r ⟨a, vs, rfl, .inl h1, fun l hl => q _ _ _ (.new w hl) (.new w hl h2)⟩
  | [.tuple ys], p, e =>
    obtain ⟨x, rfl, b⟩ := paired1 p
    obtain ⟨a, vs, rfl, h1, h2⟩ := b.tup
    cases e
    exact call_list_of pins s σ H _ us Q I r ⟨a, vs, rfl, .inr h1, fun l hl => q _ _ _ (.new w hl) (.new w hl h2)⟩
theorem bi_abs : CallR X (.builtin "abs") (rB X.K .abs) := by
  intro pins s σ H xs us Q I r h
  obtain ⟨S, ds, res, w, p, e, q⟩ := h
  match ds, p, e with
  | [.int i], p, e =>
    obtain ⟨x, rfl, b⟩ := paired1 p
    cases b.int
    cases e
    exact call_abs pins s σ H _ us Q I r ⟨i, rfl, q _ _ S (.refl w) (.int _)⟩
theorem bi_sum (hc : X.calm = true) : CallR X (.builtin "sum") (rB X.K .sum) := by
  intro pins s σ H xs us Q I r h
  obtain ⟨S, ds, res, w, p, e, q⟩ := h
  match ds, p, e with
  | [.list ys], p, e =>
    obtain ⟨x, rfl, b⟩ := paired1 p
    obtain ⟨a, vs, rfl, h1, h2⟩ := b.lst
    simp only [biD] at e
    split at e
    · rename_i ns hn
      cases e
      cases h2.ints hn
      exact cr_sum hc pins s σ H _ us Q I r ⟨a, ns, rfl, h1, q _ _ S (.refl w) (.int _)⟩
    · cases e
  | [.tuple ys], p, e =>
    obtain ⟨x, rfl, b⟩ := paired1 p
    obtain ⟨a, vs, rfl, h1, h2⟩ := b.tup
    simp only [biD] at e
    split at e
    · rename_i ns hn
      cases e
      cases h2.ints hn
      obtain ⟨its, rv, ht, _⟩ := I.tuple h1
      rw [Vals.ref1 r]
      exact sum_tupI (I.ok.hd hc) ht rv.ints fun h' tk t' hk => ⟨.int _, H, I.kept hk, ⟨_, rfl⟩, q _ _ S (.refl w) (.int _)⟩
    · cases e
theorem bi_all (hc : X.calm = true) : CallR X (.builtin "all") (rB X.K .all) := by
  intro pins s σ H xs us Q I r h
  obtain ⟨S, ds, res, w, p, e, q⟩ := h
  match ds, p, e with
  | [.list ys], p, e =>
    obtain ⟨x, rfl, b⟩ := paired1 p
    obtain ⟨a, vs, rfl, h1, h2⟩ := b.lst
    simp only [biD] at e
    split at e
    · rename_i ns hn
      cases e
      cases h2.bools hn
      exact cr_all hc pins s σ H _ us Q I r ⟨a, ns, rfl, h1, q _ _ S (.refl w) (.bl _)⟩
    · cases e
theorem bi_any (hc : X.calm = true) : CallR X (.builtin "any") (rB X.K .any) := by
  intro pins s σ H xs us Q I r h
  obtain ⟨S, ds, res, w, p, e, q⟩ := h
  match ds, p, e with
  | [.list ys], p, e =>
    obtain ⟨x, rfl, b⟩ := paired1 p
    obtain ⟨a, vs, rfl, h1, h2⟩ := b.lst
    simp only [biD] at e
    split at e
    · rename_i ns hn
      cases e
      cases h2.bools hn
      exact cr_any hc pins s σ H _ us Q I r ⟨a, ns, rfl, h1, q _ _ S (.refl w) (.bl _)⟩
    · cases e
theorem bi_max (hc : X.calm = true) : CallR X (.builtin "max") (rB X.K .max) := by
  intro pins s σ H xs us Q I r h
  obtain ⟨S, ds, res, w, p, e, q⟩ := h
  match ds, p, e with
  | [.int i, .int j], p, e =>
    obtain ⟨x, x', rfl, b, b'⟩ := paired2 p
    cases b.int
    cases b'.int
    cases e
    exact call_max2 hc pins s σ H _ us Q I r ⟨i, j, rfl, q _ _ S (.refl w) (.int _)⟩
  | [.list ys], p, e =>
    obtain ⟨x, rfl, b⟩ := paired1 p
    obtain ⟨a, vs, rfl, h1, h2⟩ := b.lst
    simp only [biD] at e
    split at e
    · rename_i n ns hn
      cases e
      cases h2.ints hn
      refine cr_max hc pins s σ H _ us Q I r ⟨a, n :: ns, rfl, h1, by simp, fun m hm hle => ?_⟩
      obtain ⟨g1, g2⟩ := maxI_mem n ns
      have : m = maxI n ns := Int.le_antisymm (g2 m hm) (hle _ g1)
      rw [this]
      exact q _ _ S (.refl w) (.int _)
    · cases e
  | [.tuple ys], p, e =>
    obtain ⟨x, rfl, b⟩ := paired1 p
    obtain ⟨a, vs, rfl, h1, h2⟩ := b.tup
    simp only [biD] at e
    split at e
    · rename_i n ns hn
      cases e
      cases h2.ints hn
      obtain ⟨its, rv, ht, _⟩ := I.tuple h1
      rw [Vals.ref1 r]
      refine max_tupI (I.ok.hd hc) ht rv.ints (by simp) fun h' tk m t' hk hm hle => ⟨.int _, H, I.kept hk, ⟨_, rfl⟩, ?_⟩
      obtain ⟨g1, g2⟩ := maxI_mem n ns
      have : m = maxI n ns := Int.le_antisymm (g2 m hm) (hle _ g1)
      rw [this]
      exact q _ _ S (.refl w) (.int _)
    · cases e
end
end
end DL

set_option Elab.async false
set_option linter.all false
set_option maxRecDepth 100000
set_option maxHeartbeats 4000000
set_option autoImplicit false
/-! DLS: sorted over data that are alike, tuples without items among them. -/
namespace DL
open PySem PySem.Spec PyProof.Rows L2
open PySem.W (alike alikeAll dataLt keyToks keyToksAll dataKind dataKind_some dataKind_inv AllAlike Sortable SortsAt eqAt_alikeAll rcLt_alikeAll dataLt_tuple firstLt_toks rcLt_alike dataLe)
section
variable {prog : Program} {w : World} {A : Around} {E : Value → Shared → Prop} {s : Shared}
theorem call_tuple_lt {Q : Value → Shared → Prop} {l b : Addr} {items items2 : Array Value} {e r : Nat → Bool} (hl : s.heap.IsTuple l items) (hb : s.heap.IsTuple b items2)
    (he : ∀ j (h1 : j < items.size) (h2 : j < items2.size), SeqAt.EqAt A.in1 s items[j] items2[j] (e j)) (hr : ∀ j (h1 : j < items.size) (h2 : j < items2.size), e j = false → SeqAt.RcLt A.in1 s items[j] items2[j] (r j))
    (h : Q (.bool (SeqAt.firstLt e r (decide (items.size < items2.size)) (List.range (min items.size items2.size)))) s) : wpAny (model prog w) A (call (.builtin "tuple.__lt__") [.ref l, .ref b]) Q E s := by
  obtain ⟨⟨cls, dd, data, sl⟩, ho, hc, n, hd⟩ := id hl
  obtain ⟨⟨cls2, dd2, data2, sl2⟩, ho2, hc2, n2, hd2⟩ := id hb
  simp only at hc hd hc2 hd2
  subst hc hd hc2 hd2
  exact call_meets PySem.F.slot_tuple_lt ⟨_, ho, rfl⟩ PySem.F.entry_tuple_lt (PySem.F.args_tuple_lt_2 _ _) (SeqAt.tuple_ltAt l b items items2 n n2 dd dd2 sl sl2 e r) ⟨ho, ho2, he, hr, h⟩
theorem oneLt_tup {f : Bool} {xs ys : List PyData} {a b : Value} {as bs : List Addr} {Q : Bool → Shared → Prop} (ra : PySem.Reads s.heap a (.tuple xs) as) (rb : PySem.Reads s.heap b (.tuple ys) bs) (h : alike (.tuple xs) (.tuple ys) = true)
    (hu : A.units + min (PyData.tuple xs).depth (PyData.tuple ys).depth < cLine) (hq : Q (dataLt (.tuple xs) (.tuple ys)) s) : wpAny (model prog w) A (oneLt' f a b) Q E s := by
  cases f with
  | false => exact PySem.W.oneLt_alike (fun z => nomatch z) ra rb h (fun z => nomatch z) hu hq
  | true =>
    have hal : alikeAll xs ys = true := by simpa [alike] using h
    cases ra with
    | @tuple l o vs n _ as₁ h1 h2 h3 h4 =>
      cases rb with
      | @tuple l' o' vs' n' _ bs₁ k1 k2 k3 k4 =>
        have n1 : vs.size = xs.length := by simpa using SeqAt.ReadsAll.length _ _ _ h4
        have n2 : vs'.size = ys.length := by simpa using SeqAt.ReadsAll.length _ _ _ k4
        rw [dataLt_tuple, ← firstLt_toks xs ys hal, ← n1, ← n2] at hq
        rw [oneLt'_eq]
        simp only [if_true]
        refine wpAny_bind (wpAny_cRoomFor (SeqAt.room_here hu) ?_)
        refine wpAny_bind (wpAny_callSpecialIfBound?_slot (T := "tuple") ⟨_, h1, h2⟩ PySem.F.slot_tuple_lt (call_tuple_lt (e := SeqAt.pairEq xs ys) (r := fun j => dataLt (xs.getD j .none) (ys.getD j .none)) ⟨_, h1, h2, _, h3⟩ ⟨_, k1, k2, _, k3⟩ (fun j j1 j2 => ?_) (fun j j1 j2 hj => ?_) ?_))
        · have := eqAt_alikeAll xs ys A.in1 s vs.toList vs'.toList _ _ h4 k4 hal (SeqAt.room_in hu) j (by simpa using j1) (by simpa using j2)
          simpa using this
        · have := rcLt_alikeAll xs ys A.in1 s vs.toList vs'.toList _ _ h4 k4 hal (SeqAt.room_in hu) j (by simpa using j1) (by simpa using j2) hj
          simpa using this
        · exact wpAny_truthy_bool hq
/-- a tuple's first item -/
def fstV (h : Heap) : Value → Option Value
  | .ref a => match h.get? a with
    | some o => (match o.data with | .seq xs _ => xs[0]? | _ => none)
    | none => none
  | _ => none
theorem mapM_each {M : Model} {A : Around} {E : Value → Shared → Prop} {s : Shared} {α β : Type} {f : α → Sem β} {g : α → β} : ∀ (l : List α) {Q : List β → Shared → Prop}, (∀ v ∈ l, ∀ (Q' : β → Shared → Prop), Q' (g v) s → wpAny M A (f v) Q' E s) → Q (l.map g) s → wpAny M A (l.mapM f) Q E s
  | [], _, _, h => by rw [List.mapM_nil]; exact wpAny_pure h
  | x :: l, Q, hf, h => by
    rw [List.mapM_cons]
    exact wpAny_bind (hf x (.head _) _ (wpAny_bind (mapM_each l (Q := fun bs s' => wpAny M A (pure (g x :: bs)) Q E s') (fun v hv => hf v (.tail _ hv)) (wpAny_pure h))))
theorem first_tup {M : Model} {xs : List PyData} {v : Value} {as : List Addr} (r : PySem.Reads s.heap v (.tuple xs) as) {Q : Option Value → Shared → Prop} (h : Q (fstV s.heap v) s) : wpAny M A (firstOfTuple' v) Q E s := by
  cases r with
  | @tuple l o vs n _ as₁ h1 h2 h3 h4 =>
    rw [PySem.W.kas_first_eq]
    have lk := PySem.W.looks_reads (M := M) (PySem.Reads.tuple h1 h2 h3 h4)
    refine wpAny_bind (lk.here ?_)
    rw [if_neg (by simp [PySem.W.dataType])]
    refine wpAny_bind (listItems_at h1 h3 (wpAny_pure ?_))
    have e : fstV s.heap (.ref l) = vs[0]? := by
      simp only [fstV, h1, h3]
    rw [e] at h
    exact h
theorem first_some {xs : List PyData} {v : Value} {as : List Addr} (r : PySem.Reads s.heap v (.tuple xs) as) : (fstV s.heap v).isSome = !xs.isEmpty := by
  cases r with
  | @tuple l o vs n _ as₁ h1 h2 h3 h4 =>
    have n1 : vs.size = xs.length := by simpa using SeqAt.ReadsAll.length _ _ _ h4
    simp only [fstV, h1, h3]
    cases xs with
    | nil =>
      have : vs.size = 0 := n1
      simp [this]
    | cons x r =>
      have : 0 < vs.size := by rw [n1]; simp
      simp [this]
theorem each_right {α β : Type} {R : α → β → Prop} : ∀ {as : List α} {bs : List β}, PySem.W.EachIs R as bs → ∀ b, b ∈ bs → ∃ a, a ∈ as ∧ R a b
  | _, _, .nil, b, h => by cases h
  | _, _, .cons h1 t, b, h => by
    rcases List.mem_cons.mp h with rfl | h
    · exact ⟨_, List.mem_cons_self .., h1⟩
    · obtain ⟨a, m, q⟩ := each_right t b h
      exact ⟨a, List.mem_cons_of_mem _ m, q⟩
/-- tuples of all lengths can be sorted -/
theorem sortsAt_tups {vs : List Value} {ds : List PyData} (e : PySem.W.EachIs (fun v d => ∃ as, PySem.Reads s.heap v d as) vs ds) (hal : AllAlike ds) (ht : ∀ d, d ∈ ds → ∃ xs, d = .tuple xs) (hu : ∀ d, d ∈ ds → A.units + d.depth < cLine) :
    SortsAt prog w A s (dataKind s.heap ds) vs := by
  by_cases hk : ∀ d, d ∈ ds → ∃ x r, d = .tuple (x :: r)
  · exact SortsAt.data e hal (.inl hk) hu
  · have room : ∀ {d d' : PyData}, d ∈ ds → A.units + min d.depth d'.depth < cLine := fun {d d'} hd => Nat.lt_of_le_of_lt (Nat.add_le_add_left (Nat.min_le_left _ _) _) (hu d hd)
    refine ⟨fun v hv => ?_, ?_⟩
    · obtain ⟨d, hd, as, r⟩ := e.left v hv
      exact ⟨_, dataKind_some hal hd r⟩
    · have firsts : ∀ v ∈ vs, ∀ (E : Value → Shared → Prop) (Q' : Option Value → Shared → Prop), Q' (fstV s.heap v) s → wpAny (model prog w) A (firstOfTuple' v) Q' E s := fun v hv E Q' hq => by
        obtain ⟨d, hd, as, r⟩ := e.left v hv
        obtain ⟨xs, rfl⟩ := ht d hd
        exact first_tup r hq
      have types : ∀ v ∈ vs, ∀ (E : Value → Shared → Prop) (Q' : Value → Shared → Prop), Q' (.type "tuple") s → wpAny (model prog w) A (typeOf v) Q' E s := fun v hv E Q' hq => by
        obtain ⟨d, hd, as, r⟩ := e.left v hv
        obtain ⟨xs, rfl⟩ := ht d hd
        exact (PySem.W.looks_reads r).here hq
      have lt : ∀ (kd : SortKind), (∀ x y, ∃ f, keyLt' kd x y = oneLt' f x y) → PyProof.Rows.H.LtAt prog w A s (dataKind s.heap ds) kd := fun kd hkd => fun E x y a b Q ha hb hq => by
        obtain ⟨d, as, hd, ra, rfl⟩ := dataKind_inv ha
        obtain ⟨d', as', hd', rb, rfl⟩ := dataKind_inv hb
        obtain ⟨xs, rfl⟩ := ht d hd
        obtain ⟨ys, rfl⟩ := ht d' hd'
        obtain ⟨f, e⟩ := hkd x y
        rw [e]
        exact oneLt_tup ra rb (hal _ hd _ hd') (room hd) hq
      have some_none : ∃ v ∈ vs, fstV s.heap v = none := by
        obtain ⟨d, hd, hn⟩ : ∃ d ∈ ds, ¬ ∃ x r, d = .tuple (x :: r) := by
          refine Classical.byContradiction fun z => hk fun d hd => ?_
          exact Classical.byContradiction fun y => z ⟨d, hd, y⟩
        obtain ⟨xs, rfl⟩ := ht d hd
        cases xs with
        | cons x r => exact absurd ⟨x, r, rfl⟩ hn
        | nil =>
          obtain ⟨v, hv, as, r⟩ := each_right e _ hd
          refine ⟨v, hv, ?_⟩
          have := first_some r
          cases h : fstV s.heap v with
          | none => rfl
          | some x => rw [h] at this; simp at this
      have notall : ((vs.map (fstV s.heap)).toArray.all (·.isSome)) = false := by
        obtain ⟨v, hv, h⟩ := some_none
        rw [← Bool.not_eq_true]
        intro z
        simp only [List.all_toArray, List.all_map, List.all_eq_true] at z
        have := z v hv
        simp [h] at this
      by_cases h0 : (((vs.map (fstV s.heap)).toArray[0]?).bind id).isSome = true
      · refine ⟨general', lt _ fun x y => ⟨false, rfl⟩, fun h2 E Q hq => ?_⟩
        rw [keyKind'_eq, List.mapM_toArray, map_eq_pure_bind]
        refine wpAny_bind (wpAny_bind (mapM_each (g := fstV s.heap) vs (fun v hv Q' hq => firsts v hv E Q' hq) (wpAny_pure ?_)))
        rw [if_neg (by rw [notall]; exact Bool.false_ne_true), if_pos h0]
        exact wpAny_pure hq
      · refine ⟨oneType', lt _ fun x y => ⟨true, rfl⟩, fun h2 E Q hq => ?_⟩
        rw [keyKind'_eq, List.mapM_toArray, map_eq_pure_bind]
        refine wpAny_bind (wpAny_bind (mapM_each (g := fstV s.heap) vs (fun v hv Q' hq => firsts v hv E Q' hq) (wpAny_pure ?_)))
        rw [if_neg (by rw [notall]; exact Bool.false_ne_true), if_neg h0]
        rw [oneTypeOnly'_eq, List.mapM_toArray, map_eq_pure_bind]
        refine wpAny_bind (wpAny_bind (wpAny_bind (mapM_each (g := fun _ => Value.type "tuple") vs (fun v hv Q' hq => types v hv E Q' hq) (wpAny_pure ?_))))
        cases vs with
        | nil => simp at h2
        | cons v0 vr =>
          have hall : ((List.map (fun _ => Value.type "tuple") (v0 :: vr)).toArray.all fun x => x == Value.type "tuple") = true := by
            simp only [List.all_toArray, List.all_map, List.all_eq_true]
            intro _ _
            exact beq_self_eq_true _
          have h00 : (List.map (fun _ => Value.type "tuple") (v0 :: vr)).toArray[0]? = some (Value.type "tuple") := by simp
          rw [h00]
          simp only [hall, if_true]
          exact wpAny_pure (wpAny_pure hq)
end
section
variable {prog : Program} {w : World} {A : Around} {E : Value → Shared → Prop} {s : Shared}
/-- the items of a tuple, collected -/
theorem collect_tup {l : Addr} {vs : List Value} {Q : List Value → Shared → Prop} (hl : s.heap.IsTuple l vs.toArray)
    (h : Q vs { s with heap := (s.heap.push (seqObj "list" #[] 0)).update s.heap.objs.size (Obj.mapSeq (· ++ vs.toArray)) }) (hsz : vs.length ≤ sizeLine) : wpAny (model prog w) A (collect (.ref l)) Q E s := by
  obtain ⟨o, ho, hc, n, hd⟩ := id hl
  unfold collect
  apply wpAny_bind
  refine wpAny_runValue (codeAny_builtin entry_proto_collect' ?_)
  show wpAny _ _ (do again (.builtin "list.__iadd__" ⟨[← newList [], .ref l], []⟩)) _ _ s
  refine wpAny_bind (wpAny_newList (wpAny_pure ⟨Code.quiet_builtin _ (by decide +kernel), codeAny_builtin entry_list_iadd' ?_⟩))
  show wpAny _ _ (Builtin.List.listExtendWith (.ref s.heap.objs.size) (.ref l) (.ref s.heap.objs.size)) _ _ { s with heap := s.heap.push (seqObj "list" #[] 0) }
  have ho' : (s.heap.push (seqObj "list" #[] 0)).get? l = some o := Heap.get?_push_of_some _ ho
  have hn : (s.heap.push (seqObj "list" #[] 0)).get? s.heap.objs.size = some (seqObj "list" #[] 0) := Heap.get?_push_size _ rfl
  unfold Builtin.List.listExtendWith
  refine wpAny_bind (wpAny_typeOf (T := "tuple") ⟨o, ho', hc⟩ ?_)
  have ht : (Value.type "tuple" == Value.type "tuple") = true := by rfl
  rw [if_pos (by rw [ht, Bool.or_true])]
  refine wpAny_bind (listItems_at ho' hd ?_)
  refine wpAny_bind (listItems_at hn rfl ?_)
  rw [if_neg (by simp)]
  refine wpAny_bind (listUpdate_at hn rfl ?_ (Nat.zero_le _) (by show (#[] ++ vs.toArray).size ≤ sizeLine + 1; simp only [Array.size_append, List.size_toArray, List.length_nil]; omega))
  refine wpAny_pure ?_
  have hu := get?_update_seq hn (· ++ vs.toArray)
  show wpAny (model prog w) A (do
      let o ← load s.heap.objs.size
      match o.data with
      | .seq xs _ => pure xs.toList
      | _ => unsupported "internal:collect") Q E { s with heap := (s.heap.push (seqObj "list" #[] 0)).update s.heap.objs.size (Obj.mapSeq (· ++ vs.toArray)) }
  refine wpAny_bind (wpAny_load hu ?_)
  show wpAny _ _ (pure ((#[] : Array Value) ++ vs.toArray).toList) Q E _
  rw [show ((#[] : Array Value) ++ vs.toArray).toList = vs by simp]
  exact wpAny_pure h
/-- sorted(t): a new list, sorted -/
theorem sortedT_vals {l : Addr} {vs : List Value} {Q : Value → Shared → Prop} {κ : PyProof.Rows.KeyKind} (hl : s.heap.IsTuple l vs.toArray) (S : SortsAt prog w A.in1.in1 { s with heap := PySem.W.sortingHeap (PySem.W.copyHeap s.heap vs) (s.heap.objs.size + 1) vs } κ vs) (hL : vs.length ≤ sizeLine)
    (h : Q (.ref (s.heap.objs.size + 1)) { s with heap := sortedAll s.heap vs (PySem.W.sortVals κ false vs vs).toArray }) : wpAny (model prog w) A (call (.builtin "sorted") [.ref l]) Q E s := by
  refine call_function_entry_kw kind_sorted plain_sorted entry_sorted (args_sorted1 _) ?_
  unfold Builtin.«sorted»
  refine wpAny_bind (m := checkCount "sorted" 1 1 _) (wpAny_pure ?_)
  refine wpAny_bind (collect_tup hl ?_ hL)
  refine wpAny_bind (wpAny_newList ?_ hL)
  have hsz : ((s.heap.push (seqObj "list" #[] 0)).update s.heap.objs.size (Obj.mapSeq (· ++ vs.toArray))).objs.size = s.heap.objs.size + 1 := by
    rw [Heap.size_update, size_push']
  show wpAny _ _ _ _ _ { s with heap := PySem.W.copyHeap s.heap vs }
  rw [hsz]
  have hat := PySem.W.copyHeap_at s.heap vs
  refine wpAny_bind (wpAny_holding (wpAny_call_entry_kw slot_list_sort ⟨_, hat, rfl⟩ entry_list_sort ?body (args_list_sort _)))
  case body =>
    show wpAny (model prog w) A.in1.in1 (Builtin.«list.sort» ⟨[.ref (s.heap.objs.size + 1)], []⟩) _ _ _
    exact PySem.W.list_sort_vals (s := { s with heap := PySem.W.copyHeap s.heap vs }) hat S hL ⟨_, rfl, wpAny_pure ⟨_, rfl, h⟩⟩
end
section
variable {prog : Program} {w : World} {A : Around} {E : Value → Shared → Prop} {s : Shared}
/-- sorted(xs) of alike data, tuples of any length -/
theorem sorted_all {R : Value → PyData → Prop} {l : Addr} {vs : List Value} {ds : List PyData} {Q : Value → Shared → Prop} (hl : s.heap.IsList l vs.toArray) (e : PySem.W.EachIs R vs ds) (er : PySem.W.EachIs (fun v d => ∃ as, PySem.Reads s.heap v d as) vs ds) (hal : AllAlike ds)
    (hk : (∀ d, d ∈ ds → ∃ xs, d = .tuple xs) ∨ ∀ d, d ∈ ds → d ≠ .none ∧ ∀ xs, d ≠ .tuple xs) (hL : ds.length ≤ sizeLine) (hu : ∀ d, d ∈ ds → A.units + 2 + d.depth < cLine)
    (h : ∀ out, out.length = ds.length → PySem.W.EachIs R out (ds.mergeSort (dataLe false id)) → Q (.ref (s.heap.objs.size + 1)) { s with heap := sortedAll s.heap vs (List.toArray out) }) :
    wpAny (model prog w) A (call (.builtin "sorted") [.ref l]) Q E s := by
  have er' : PySem.W.EachIs (fun v d => ∃ as, PySem.Reads (PySem.W.sortingHeap (PySem.W.copyHeap s.heap vs) (s.heap.objs.size + 1) vs) v d as) vs ds := er.mono fun _ _ ⟨as, r⟩ => ⟨as, PyProof.Rows.Reads.keeps (fun _ _ => PySem.W.sorting_copy_old) r⟩
  have S : SortsAt prog w A.in1.in1 { s with heap := PySem.W.sortingHeap (PySem.W.copyHeap s.heap vs) (s.heap.objs.size + 1) vs } (dataKind (PySem.W.sortingHeap (PySem.W.copyHeap s.heap vs) (s.heap.objs.size + 1) vs) ds) vs := by
    rcases hk with ht | hn
    · exact sortsAt_tups er' hal ht hu
    · exact SortsAt.data er' hal (.inr hn) hu
  have hm : ds.map id = ds := List.map_id ds
  have e2 := PySem.W.sortVals_data (enc := id) (h' := PySem.W.sortingHeap (PySem.W.copyHeap s.heap vs) (s.heap.objs.size + 1) vs) false e er' (by rw [hm]; exact hal)
  rw [hm] at e2
  exact PySem.W.sorted_vals hl S (by rw [e.length]; exact hL) (h _ (by rw [PySem.W.sortVals_length false rfl]; exact e.length) e2)
/-- sorted(t) of alike data, tuples of any length -/
theorem sortedT_all {R : Value → PyData → Prop} {l : Addr} {vs : List Value} {ds : List PyData} {Q : Value → Shared → Prop} (hl : s.heap.IsTuple l vs.toArray) (e : PySem.W.EachIs R vs ds) (er : PySem.W.EachIs (fun v d => ∃ as, PySem.Reads s.heap v d as) vs ds) (hal : AllAlike ds)
    (hk : (∀ d, d ∈ ds → ∃ xs, d = .tuple xs) ∨ ∀ d, d ∈ ds → d ≠ .none ∧ ∀ xs, d ≠ .tuple xs) (hL : ds.length ≤ sizeLine) (hu : ∀ d, d ∈ ds → A.units + 2 + d.depth < cLine)
    (h : ∀ out, out.length = ds.length → PySem.W.EachIs R out (ds.mergeSort (dataLe false id)) → Q (.ref (s.heap.objs.size + 1)) { s with heap := sortedAll s.heap vs (List.toArray out) }) :
    wpAny (model prog w) A (call (.builtin "sorted") [.ref l]) Q E s := by
  have er' : PySem.W.EachIs (fun v d => ∃ as, PySem.Reads (PySem.W.sortingHeap (PySem.W.copyHeap s.heap vs) (s.heap.objs.size + 1) vs) v d as) vs ds := er.mono fun _ _ ⟨as, r⟩ => ⟨as, PyProof.Rows.Reads.keeps (fun _ _ => PySem.W.sorting_copy_old) r⟩
  have S : SortsAt prog w A.in1.in1 { s with heap := PySem.W.sortingHeap (PySem.W.copyHeap s.heap vs) (s.heap.objs.size + 1) vs } (dataKind (PySem.W.sortingHeap (PySem.W.copyHeap s.heap vs) (s.heap.objs.size + 1) vs) ds) vs := by
    rcases hk with ht | hn
    · exact sortsAt_tups er' hal ht hu
    · exact SortsAt.data er' hal (.inr hn) hu
  have hm : ds.map id = ds := List.map_id ds
  have e2 := PySem.W.sortVals_data (enc := id) (h' := PySem.W.sortingHeap (PySem.W.copyHeap s.heap vs) (s.heap.objs.size + 1) vs) false e er' (by rw [hm]; exact hal)
  rw [hm] at e2
  exact sortedT_vals hl S (by rw [e.length]; exact hL) (h _ (by rw [PySem.W.sortVals_length false rfl]; exact e.length) e2)
end
section
variable {X : Cx}
theorem each_rp {K : PySem.W.Frag} {H : Hp} {S : Addr → Prop} : ∀ {vs : List V} {us : List Value} {ds : List D}, Vals vs us → RpL K H S vs ds → PySem.W.EachIs (fun u d => ∃ w, RelV w u ∧ Rp K H S w d) us ds
  | _, _, _, .nil, h => by cases h; exact .nil
  | _, _, _, .cons r t, h => by
    cases h with
    | cons h1 h2 => exact .cons ⟨_, r, h1⟩ (each_rp t h2)
theorem rp_each {K : PySem.W.Frag} {H : Hp} {S : Addr → Prop} : ∀ {us : List Value} {ds : List D}, PySem.W.EachIs (fun u d => ∃ w, RelV w u ∧ Rp K H S w d) us ds → ∃ vs, Vals vs us ∧ RpL K H S vs ds
  | _, _, .nil => ⟨[], .nil, .nil⟩
  | _, _, .cons h t => by
    obtain ⟨w, r, q⟩ := h
    obtain ⟨vs, r2, q2⟩ := rp_each t
    exact ⟨w :: vs, .cons r r2, .cons q q2⟩
theorem depthAll_le {n : Nat} : ∀ {xs : List D}, (∀ d ∈ xs, d.depth ≤ n) → PyData.depthAll xs ≤ n
  | [], _ => by simp [PyData.depthAll]
  | x :: xs, h => by
    have h1 := h x (by simp)
    have h2 := depthAll_le (xs := xs) fun d hd => h d (by simp [hd])
    simp only [PyData.depthAll]
    omega
/-- the least of a list: the item at its place -/
theorem min_list_at {prog : Program} {w : World} {A : Around} {E : Value → Shared → Prop} {s : Shared} {l : Addr} {vs : Array Value} {x : PyData} {xs : List PyData} {as : List Addr} {Q : Value → Shared → Prop} (hh : A.handled = none) (hl : s.heap.IsList l vs)
    (hr : ReadsAll s.heap vs.toList (x :: xs) as) (ha : PySem.W.AlikeAll (x :: xs)) (hu : A.units + 1 + PyData.depthAll (x :: xs) < cLine)
    (h : ∀ (i : Nat) v h' tk, vs[i]? = some v → (x :: xs).getD i .none = PySem.W.minD x xs → (∀ b o, s.heap.get? b = some o → h'.get? b = some o) → Q v { s with heap := h', toks := tk }) :
    wpAny (model prog w) A (call (.builtin "min") [.ref l]) Q E s := by
  have hn : vs.size = xs.length + 1 := PySem.W.readsAll_len hr
  refine call_min_walkH (PySem.W.iter_listW (A := A.in1) hh hl fun s₂ e W st hfp hw hk => ⟨_, _, _, _, _, _, _, s.heap, _, rfl, W, st, hfp, by omega, hw, hk, PySem.W.cmpIn_lt (A := A.in1) hr ha (by show A.units + 1 + _ < _; exact hu), fun v s' hP m => ?_⟩)
  obtain ⟨h', tk, rfl, hk'⟩ := PySem.W.moved_old e rfl m
  have e1 : vs.size - 1 = xs.length := by omega
  have e2 := (PySem.W.argBest_fold PySem.W.dataLt PyData.none x xs xs.length (Nat.le_refl _)).2
  rw [List.take_length] at e2
  rw [e1] at hP
  exact h _ v h' tk hP e2 hk'
theorem bi_min (hc : X.calm = true) (hu : X.A.units + 200 < cLine) : CallR X (.builtin "min") (rB X.K .min) := by
  intro pins s σ H xs us Q I r h
  obtain ⟨S, ds, res, w, p, e, q⟩ := h
  match ds, p, e with
  | [.int i, .int j], p, e =>
    obtain ⟨x, x', rfl, b, b'⟩ := paired2 p
    cases b.int
    cases b'.int
    cases e
    exact call_min2 hc pins s σ H _ us Q I r ⟨i, j, rfl, q _ _ S (.refl w) (.int _)⟩
  | [.list ys], p, e =>
    obtain ⟨x, rfl, b⟩ := paired1 p
    obtain ⟨a, vs, rfl, h1, h2⟩ := b.lst
    simp only [biD] at e
    split at e
    · rename_i n ns hn
      cases e
      cases h2.ints hn
      refine cr_min hc pins s σ H _ us Q I r ⟨a, n :: ns, rfl, h1, by simp, fun m hm hle => ?_⟩
      obtain ⟨g1, g2⟩ := minI_mem n ns
      have : m = minI n ns := Int.le_antisymm (hle _ g1) (g2 m hm)
      rw [this]
      exact q _ _ S (.refl w) (.int _)
    · cases e
    · split at e
      · rename_i hs
        simp only [minOk, Bool.and_eq_true, List.all_eq_true, decide_eq_true_eq] at hs
        obtain ⟨⟨hcl, hal⟩, hnn⟩ := hs
        cases ys with
        | nil => cases e
        | cons y yr =>
          cases e
          obtain ⟨its, rv, hL, hz⟩ := I.list h1
          rw [Vals.ref1 r]
          have e1 := each_rp rv h2
          have e2 : PySem.W.EachIs (fun v d => ∃ as, PySem.Reads s.heap v d as) its (y :: yr) := (PySem.W.each_mem e1).mono fun v d ⟨⟨w, rw', rp⟩, hd⟩ => Dp.reads I d w v (Rp.dp d w rp (hcl d hd).1) rw'
          obtain ⟨as, hr⟩ := PySem.W.each_readsAll id e2
          rw [List.map_id] at hr
          have hr' : PySem.ReadsAll s.heap its.toArray.toList (y :: yr) as := by rw [List.toList_toArray]; exact hr
          have ha : PySem.W.AlikeAll (y :: yr) := ⟨fun d hd d' hd' => hal d hd d' hd', fun d hd hdn => by have := hnn d hd; rw [hdn] at this; simp [isNonB] at this⟩
          have hdep : PyData.depthAll (y :: yr) ≤ 100 := depthAll_le fun d hd => (hcl d hd).2
          refine min_list_at (I.ok.hd hc) hL.isList hr' ha (by omega) fun i v h' tk hv hd hk => ?_
          have hlen := rv.length
          have hi : i < vs.length := by
            have := (Array.getElem?_eq_some_iff.mp hv).1
            simp at this
            omega
          obtain ⟨u, hu1, hu2⟩ := rv.get (i := i) (x := vs[i]) (List.getElem?_eq_getElem hi)
          have huv : u = v := by
            have : its.toArray[i]? = its[i]? := by simp
            rw [this, hu1] at hv
            exact Option.some.inj hv
          subst huv
          obtain ⟨d, hd1, hd2⟩ := h2.get' (i := i) (v := vs[i]) (List.getElem?_eq_getElem hi)
          have hdd : d = PySem.W.minD y yr := by
            rw [← hd, List.getD_eq_getElem?_getD, hd1]
            rfl
          subst hdd
          exact ⟨vs[i], H, I.kept hk, hu2, q _ _ S (.refl w) hd2⟩
      · cases e
  | [.tuple ys], p, e =>
    obtain ⟨x, rfl, b⟩ := paired1 p
    obtain ⟨a, vs, rfl, h1, h2⟩ := b.tup
    simp only [biD] at e
    split at e
    · rename_i n ns hn
      cases e
      cases h2.ints hn
      obtain ⟨its, rv, ht, _⟩ := I.tuple h1
      rw [Vals.ref1 r]
      refine min_tupI (I.ok.hd hc) ht rv.ints (by simp) fun h' tk m t' hk hm hle => ⟨.int _, H, I.kept hk, ⟨_, rfl⟩, ?_⟩
      obtain ⟨g1, g2⟩ := minI_mem n ns
      have : m = minI n ns := Int.le_antisymm (hle _ g1) (g2 m hm)
      rw [this]
      exact q _ _ S (.refl w) (.int _)
    · cases e
theorem bi_sorted (hu : X.A.units + 200 < cLine) : CallR X (.builtin "sorted") (rB X.K .sorted) := by
  intro pins s σ H xs us Q I r h
  obtain ⟨S, ds, res, w, p, e, q⟩ := h
  match ds, p, e with
  | [.list ys], p, e =>
    obtain ⟨x, rfl, b⟩ := paired1 p
    obtain ⟨a, vs, rfl, h1, h2⟩ := b.lst
    simp only [biD] at e
    split at e
    · rename_i hs
      cases e
      simp only [sortOk, Bool.and_eq_true, Bool.or_eq_true, List.all_eq_true, decide_eq_true_eq] at hs
      obtain ⟨⟨⟨hl, hc⟩, hal⟩, hk⟩ := hs
      obtain ⟨its, rv, hL, hz⟩ := I.list h1
      rw [Vals.ref1 r]
      have e1 := each_rp rv h2
      have e2 : PySem.W.EachIs (fun v d => ∃ as, PySem.Reads s.heap v d as) its ys := (PySem.W.each_mem e1).mono fun v d ⟨⟨w, rw', rp⟩, hd⟩ => Dp.reads I d w v (Rp.dp d w rp (hc d hd).1) rw'
      refine sorted_all hL.isList e1 e2 (fun d hd d' hd' => hal d hd d' hd') ?_ (by rw [← h2.length]; exact hz) (fun d hd => by have := (hc d hd).2; omega) fun out ho hout => ?_
      · rcases hk with hk | hk
        · refine .inl fun d hd => ?_
          have := hk d hd
          cases d <;> simp [isTupB] at this
          exact ⟨_, rfl⟩
        · refine .inr fun d hd => ?_
          have := hk d hd
          constructor
          · rintro rfl; simp [isNonB] at this
          · rintro xs rfl; simp [isTupB] at this
      · obtain ⟨ws, r3, q3⟩ := rp_each hout
        obtain ⟨ep, he'⟩ := PyProof.Rows.sortedAll_at s.heap its out.toArray
        have hlen : ws.length ≤ sizeLine := by rw [r3.length, ho, ← h2.length]; exact hz
        have hfresh := I.hok.fresh (Nat.le_succ s.heap.objs.size)
        exact ⟨.ref _, upd H (s.heap.objs.size + 1) (.lst ws), I.laid (t' := s.toks) (fun _ _ => PyProof.Rows.sortedAll_old) (Nat.le_succ _) ⟨hlen, out, ep, r3, he'⟩, rfl, q _ _ S (.new w hfresh) (.new w hfresh q3)⟩
    · cases e
  | [.tuple ys], p, e =>
    obtain ⟨x, rfl, b⟩ := paired1 p
    obtain ⟨a, vs, rfl, h1, h2⟩ := b.tup
    simp only [biD] at e
    split at e
    · rename_i hs
      cases e
      simp only [sortOk, Bool.and_eq_true, Bool.or_eq_true, List.all_eq_true, decide_eq_true_eq] at hs
      obtain ⟨⟨⟨hl, hc⟩, hal⟩, hk⟩ := hs
      obtain ⟨its, rv, hL, hz⟩ := I.tuple h1
      rw [Vals.ref1 r]
      have e1 := each_rp rv h2
      have e2 : PySem.W.EachIs (fun v d => ∃ as, PySem.Reads s.heap v d as) its ys := (PySem.W.each_mem e1).mono fun v d ⟨⟨w, rw', rp⟩, hd⟩ => Dp.reads I d w v (Rp.dp d w rp (hc d hd).1) rw'
      refine sortedT_all hL e1 e2 (fun d hd d' hd' => hal d hd d' hd') ?_ (by rw [← h2.length]; exact hz) (fun d hd => by have := (hc d hd).2; omega) fun out ho hout => ?_
      · rcases hk with hk | hk
        · refine .inl fun d hd => ?_
          have := hk d hd
          cases d <;> simp [isTupB] at this
          exact ⟨_, rfl⟩
        · refine .inr fun d hd => ?_
          have := hk d hd
          constructor
          · rintro rfl; simp [isNonB] at this
          · rintro xs rfl; simp [isTupB] at this
      · obtain ⟨ws, r3, q3⟩ := rp_each hout
        obtain ⟨ep, he'⟩ := PyProof.Rows.sortedAll_at s.heap its out.toArray
        have hlen : ws.length ≤ sizeLine := by rw [r3.length, ho, ← h2.length]; exact hz
        have hfresh := I.hok.fresh (Nat.le_succ s.heap.objs.size)
        exact ⟨.ref _, upd H (s.heap.objs.size + 1) (.lst ws), I.laid (t' := s.toks) (fun _ _ => PyProof.Rows.sortedAll_old) (Nat.le_succ _) ⟨hlen, out, ep, r3, he'⟩, rfl, q _ _ S (.new w hfresh) (.new w hfresh q3)⟩
    · cases e
end
end DL

set_option Elab.async false
set_option linter.all false
set_option maxRecDepth 100000
set_option maxHeartbeats 4000000
set_option autoImplicit false
/-! DL5: the slots' steps. -/
namespace DL
open PySem PySem.Spec PyProof.Rows L2

section
variable {K : PySem.W.Frag} {H H' : Hp} {S S' : Addr → Prop} {σ σ' : Slots} {r r' : Env}

theorem get_set {α : Type} {l : List α} {i j : Nat} {x y : α} (h : (l.set i x)[j]? = some y) : (j = i ∧ y = x) ∨ (j ≠ i ∧ l[j]? = some y) := by
  by_cases e : i = j
  · subst e
    by_cases hi : i < l.length
    · rw [List.getElem?_set_self hi] at h
      cases h
      exact .inl ⟨rfl, rfl⟩
    · rw [List.getElem?_eq_none (by simpa using hi)] at h
      cases h
  · rw [List.getElem?_set_ne e] at h
    exact .inr ⟨fun z => e z.symm, h⟩
theorem get_lt {α : Type} {l : List α} {i : Nat} {x : α} (h : l[i]? = some x) : i < l.length := (List.getElem?_eq_some_iff.mp h).1

/-- a list of its own is given up -/
theorem freeze_go {i : Nat} {xs : List D} {a : Addr} (s : SR K σ H r S) (h : r[i]? = some (.ow xs)) (ha : σ[i]? = some (some (.ref a))) :
    Go K σ r S H σ (r.set i (.fz (.list xs))) (fun b => S b ∨ b = a) H := by
  obtain ⟨v, e, a', vs, rfl, h1, h2, h3⟩ := s.lone i xs (.inl h)
  rw [ha] at e
  cases e
  have ss : ∀ b, S b → S b ∨ b = a := fun b hb => .inl hb
  have mono : ∀ {v d}, Rp K H S v d → Rp K H (fun b => S b ∨ b = a) v d := fun q => Rp.mono (fun _ _ h _ => h) ss _ _ q
  have monoL : ∀ {v d}, RpL K H S v d → RpL K H (fun b => S b ∨ b = a) v d := fun q => RpL.mono (fun _ _ h _ => h) ss _ _ q
  have owsub : ∀ (j : Nat) (ys : List D), ((r.set i (.fz (.list xs)))[j]? = some (.ow ys) ∨ (r.set i (.fz (.list xs)))[j]? = some (.io ys)) → j ≠ i ∧ (r[j]? = some (.ow ys) ∨ r[j]? = some (.io ys)) := fun j ys hj => by
    rcases hj with hj | hj
    · rcases get_set hj with ⟨_, z⟩ | ⟨n, z⟩
      · cases z
      · exact ⟨n, .inl z⟩
    · rcases get_set hj with ⟨_, z⟩ | ⟨n, z⟩
      · cases z
      · exact ⟨n, .inr z⟩
  have hi := get_lt h
  have dlow : ∀ (j : Nat) (kvs : List (Int × D)), (r.set i (.fz (.list xs)))[j]? = some (.od kvs) → r[j]? = some (.od kvs) := fun j kvs hj => by
    rcases get_set hj with ⟨_, z⟩ | ⟨n, z⟩
    · cases z
    · exact z
  refine ⟨⟨fun j d hj => ?_, fun j ys hj => ?_, fun j k ys zs b h1 h2 => ?_, fun b hb => ?_, by rw [List.length_set]; exact s.len, fun j kvs hj => ?_, fun j k xs ys b h1 h2 => s.oned j k xs ys b (dlow j xs h1) (dlow k ys h2)⟩, fun _ _ h _ => h, fun _ h => h, ss, fun b hb => ?_, fun b hb => ?_, fun j x hj hx => ?_, fun _ _ _ => rfl, fun j ys hj => ⟨rfl, ys, ?_⟩, by rw [List.length_set]⟩
  · rcases get_set hj with ⟨rfl, z⟩ | ⟨n, z⟩
    · cases z
      exact ⟨_, ha, .lst (.inr rfl) (.inl h1) (monoL h3)⟩
    · obtain ⟨w, e, q⟩ := s.fz j d z
      exact ⟨w, e, mono q⟩
  · obtain ⟨n, z⟩ := owsub j ys hj
    obtain ⟨w, e, b, ws, rfl, g1, g2, g3⟩ := s.lone j ys z
    refine ⟨_, e, b, ws, rfl, g1, fun q => ?_, monoL g3⟩
    rcases q with q | q
    · exact g2 q
    · subst q
      exact n (s.one j i ys xs b z (.inl h) e ha)
  · exact s.one j k ys zs b (owsub j ys h1).2 (owsub k zs h2).2
  · rcases hb with hb | hb
    · exact s.wf b hb
    · rw [hb, h1]; intro z; cases z
  · obtain ⟨w, e, b, ws, rfl, g1, g2, g3⟩ := s.dic j kvs (dlow j kvs hj)
    refine ⟨_, e, b, ws, rfl, g1, fun q => ?_, RpI.mono (fun _ _ h _ => h) ss g3⟩
    rcases q with q | q
    · exact g2 q
    · subst q
      rw [h1] at g1; cases g1
  · rcases hb with hb | hb
    · exact .inl hb
    · rw [hb]; exact .inr (.inr (.inl ⟨i, xs, .inl h, ha⟩))
  · rcases hb with ⟨j, ys, h1, h2⟩ | ⟨j, ys, h1, h2⟩
    · exact .inl (.inl ⟨j, ys, (owsub j ys h1).2, h2⟩)
    · exact .inl (.inr ⟨j, ys, dlow j ys h1, h2⟩)
  · by_cases e : i = j
    · subst e
      exact ⟨_, List.getElem?_set_self hi, fun z => by cases z⟩
    · rw [List.getElem?_set_ne e]
      exact ⟨x, hj, hx⟩
  · rw [List.getElem?_set_ne (fun z => by subst z; rw [h] at hj; cases hj)]
    exact hj
theorem own_addr {i : Nat} {xs : List D} (s : SR K σ H r S) (h : r[i]? = some (.ow xs) ∨ r[i]? = some (.io xs)) : ∃ a vs, σ[i]? = some (some (.ref a)) ∧ H a = some (.lst vs) ∧ ¬ S a ∧ RpL K H S vs xs := by
  obtain ⟨v, e, a, vs, rfl, h1, h2, h3⟩ := s.lone i xs h
  exact ⟨a, vs, e, h1, h2, h3⟩
theorem freeze_any (s : SR K σ H r S) (i : Nat) : ∃ S', Go K σ r S H σ (freeze i r) S' H := by
  unfold freeze
  cases e : r[i]? with
  | none => exact ⟨S, .refl s⟩
  | some x =>
    cases x with
    | ow xs =>
      obtain ⟨a, vs, h1, _⟩ := own_addr s (.inl e)
      exact ⟨_, freeze_go s e h1⟩
    | _ => exact ⟨S, .refl s⟩
theorem give_any : ∀ (os : List Opd) (r : Env) (S : Addr → Prop), SR K σ H r S → ∃ S', Go K σ r S H σ (give os r) S' H
  | [], r, S, s => ⟨S, .refl s⟩
  | .ref i :: os, r, S, s => by
    obtain ⟨S1, g1⟩ := freeze_any s i
    obtain ⟨S2, g2⟩ := give_any os _ S1 g1.sr
    exact ⟨S2, g1.trans s g2⟩
  | .val _ :: os, r, S, s => give_any os r S s

/-- a value is put into a slot -/
theorem put_go {σ0 : Slots} {r0 : Env} {S0 : Addr → Prop} {H0 : Hp} {i : Nat} {x y : Val} {v : V} (g : Go K σ0 r0 S0 H0 σ r S H) (hx : RN K H0 σ r S H v x) (hy : r[i]? = some y) (hn : ∀ xs, y ≠ .io xs) :
    Go K σ0 r0 S0 H0 (σ.set i (some v)) (r.set i x) S H := by
  have s := g.sr
  have hi := get_lt hy
  have hiσ : i < σ.length := by rw [← s.len]; exact hi
  have nx : x ≠ .em := fun z => by subst z; exact hx
  have nio : ∀ ys, x ≠ .io ys := fun ys z => by subst z; exact hx
  have nod : ∀ ys, x ≠ .od ys := fun ys z => by subst z; exact hx
  have dlow : ∀ (j : Nat) (kvs : List (Int × D)), (r.set i x)[j]? = some (.od kvs) → j ≠ i ∧ r[j]? = some (.od kvs) := fun j kvs hj => by
    rcases get_set hj with ⟨_, z⟩ | ⟨n, z⟩
    · exact absurd z.symm (nod kvs)
    · exact ⟨n, z⟩
  have low : ∀ (j : Nat) (ys : List D), ((r.set i x)[j]? = some (.ow ys) ∨ (r.set i x)[j]? = some (.io ys)) → (j = i ∧ x = .ow ys) ∨ (j ≠ i ∧ (r[j]? = some (.ow ys) ∨ r[j]? = some (.io ys))) := fun j ys hj => by
    rcases hj with hj | hj
    · rcases get_set hj with ⟨e, z⟩ | ⟨n, z⟩
      · exact .inl ⟨e, z.symm⟩
      · exact .inr ⟨n, .inl z⟩
    · rcases get_set hj with ⟨e, z⟩ | ⟨n, z⟩
      · exact absurd z.symm (nio ys)
      · exact .inr ⟨n, .inr z⟩
  refine ⟨⟨fun j d hj => ?_, fun j ys hj => ?_, fun j k ys zs b h1 h2 h3 h4 => ?_, s.wf, by rw [List.length_set, List.length_set]; exact s.len, fun j kvs hj => ?_, fun j k xs ys b h1 h2 h3 h4 => ?_⟩, g.fr, g.dm, g.ss, g.sg, fun b hb => ?_, fun j z hj hz => ?_, fun j h1 h2 => ?_, fun j ys hj => ?_, by rw [List.length_set]; exact g.ln⟩
  · rcases get_set hj with ⟨rfl, z⟩ | ⟨n, z⟩
    · subst z
      exact ⟨v, List.getElem?_set_self hiσ, hx⟩
    · obtain ⟨w, e, q⟩ := s.fz j d z
      exact ⟨w, by rw [List.getElem?_set_ne (Ne.symm n)]; exact e, q⟩
  · rcases low j ys hj with ⟨rfl, z⟩ | ⟨n, z⟩
    · subst z
      obtain ⟨a, vs, e, _, h2, h3, _, h5⟩ := hx
      exact ⟨v, List.getElem?_set_self hiσ, a, vs, e, h2, h3, h5⟩
    · obtain ⟨w, e, q⟩ := s.lone j ys z
      exact ⟨w, by rw [List.getElem?_set_ne (Ne.symm n)]; exact e, q⟩
  · have key : ∀ (j k : Nat) (ys zs : List D), (j = i ∧ x = .ow ys) → (k ≠ i ∧ (r[k]? = some (.ow zs) ∨ r[k]? = some (.io zs))) → (σ.set i (some v))[j]? = some (some (.ref b)) → (σ.set i (some v))[k]? = some (some (.ref b)) → False := by
      rintro j k ys zs ⟨rfl, z⟩ ⟨n, q⟩ h3 h4
      subst z
      obtain ⟨a, vs, e, _, _, _, h5, _⟩ := hx
      rw [List.getElem?_set_self hiσ, e] at h3
      cases h3
      rw [List.getElem?_set_ne (Ne.symm n)] at h4
      exact h5 (.inl ⟨k, zs, q, h4⟩)
    rcases low j ys h1 with z1 | z1
    · rcases low k zs h2 with z2 | z2
      · rw [z1.1, z2.1]
      · exact (key j k ys zs z1 z2 h3 h4).elim
    · rcases low k zs h2 with z2 | z2
      · exact (key k j zs ys z2 z1 h4 h3).elim
      · rw [List.getElem?_set_ne (Ne.symm z1.1)] at h3
        rw [List.getElem?_set_ne (Ne.symm z2.1)] at h4
        exact s.one j k ys zs b z1.2 z2.2 h3 h4
  · obtain ⟨n, z⟩ := dlow j kvs hj
    obtain ⟨w, e, q⟩ := s.dic j kvs z
    exact ⟨w, by rw [List.getElem?_set_ne (Ne.symm n)]; exact e, q⟩
  · obtain ⟨n1, z1⟩ := dlow j xs h1
    obtain ⟨n2, z2⟩ := dlow k ys h2
    rw [List.getElem?_set_ne (Ne.symm n1)] at h3
    rw [List.getElem?_set_ne (Ne.symm n2)] at h4
    exact s.oned j k xs ys b z1 z2 h3 h4
  · rcases hb with ⟨j, ys, h1, h2⟩ | ⟨j, ys, h1, h2⟩
    · rcases low j ys h1 with ⟨rfl, z⟩ | ⟨n, z⟩
      · subst z
        obtain ⟨a, vs, e, h0, _⟩ := hx
        rw [List.getElem?_set_self hiσ, e] at h2
        cases h2
        exact .inr h0
      · rw [List.getElem?_set_ne (Ne.symm n)] at h2
        exact g.ow b (.inl ⟨j, ys, z, h2⟩)
    · obtain ⟨n, z⟩ := dlow j ys h1
      rw [List.getElem?_set_ne (Ne.symm n)] at h2
      exact g.ow b (.inr ⟨j, ys, z, h2⟩)
  · by_cases e : i = j
    · subst e
      exact ⟨x, List.getElem?_set_self hi, nx⟩
    · rw [List.getElem?_set_ne e]
      exact g.ne j z hj hz
  · rcases get_set h2 with ⟨rfl, z⟩ | ⟨n, z⟩
    · exact absurd z.symm nx
    · rw [List.getElem?_set_ne (Ne.symm n)]
      exact g.em j h1 z
  · obtain ⟨e1, zs, e2⟩ := g.io j ys hj
    have n : i ≠ j := fun z => by subst z; rw [hy] at e2; exact hn zs (Option.some.inj e2)
    rw [List.getElem?_set_ne n, List.getElem?_set_ne n]
    exact ⟨e1, zs, e2⟩

/-- a list of its own is changed -/
theorem upd_go {i : Nat} {xs ys : List D} {a : Addr} {vs : List V} {x' : Val} (s : SR K σ H r S) (h : (r[i]? = some (.ow xs) ∧ x' = .ow ys) ∨ (r[i]? = some (.io xs) ∧ x' = .io ys)) (ha : σ[i]? = some (some (.ref a))) (hv : RpL K H S vs ys) :
    Go K σ r S H σ (r.set i x') S (upd H a (.lst vs)) := by
  have h' : r[i]? = some (.ow xs) ∨ r[i]? = some (.io xs) := h.imp (·.1) (·.1)
  obtain ⟨a', ws, e, h1, h2, h3⟩ := own_addr s h'
  rw [ha] at e
  cases e
  have hi : i < r.length := by rcases h' with h | h <;> exact get_lt h
  have hk : ∀ b o, H b = some o → (S b ∨ ¬ Mt o) → upd H a (.lst vs) b = some o := fun b o e z => by
    rw [upd_ne (fun q => ?_)]
    · exact e
    · subst q
      rcases z with z | z
      · exact h2 z
      · rw [h1] at e; cases e; exact z trivial
  have mono : ∀ {v d}, Rp K H S v d → Rp K (upd H a (.lst vs)) S v d := fun q => Rp.mono hk (fun _ h => h) _ _ q
  have monoL : ∀ {v d}, RpL K H S v d → RpL K (upd H a (.lst vs)) S v d := fun q => RpL.mono hk (fun _ h => h) _ _ q
  have dm : ∀ b, H b ≠ none → upd H a (.lst vs) b ≠ none := fun b hb => by
    unfold upd
    split
    · intro z; cases z
    · exact hb
  have xk : x' = .ow ys ∨ x' = .io ys := h.imp (·.2) (·.2)
  have low : ∀ (j : Nat) (zs : List D), ((r.set i x')[j]? = some (.ow zs) ∨ (r.set i x')[j]? = some (.io zs)) → (j = i ∧ zs = ys) ∨ (j ≠ i ∧ (r[j]? = some (.ow zs) ∨ r[j]? = some (.io zs))) := fun j zs hj => by
    rcases hj with hj | hj
    · rcases get_set hj with ⟨e, z⟩ | ⟨n, z⟩
      · refine .inl ⟨e, ?_⟩
        rcases xk with q | q <;> (rw [q] at z; cases z; try rfl)
      · exact .inr ⟨n, .inl z⟩
    · rcases get_set hj with ⟨e, z⟩ | ⟨n, z⟩
      · refine .inl ⟨e, ?_⟩
        rcases xk with q | q <;> (rw [q] at z; cases z; try rfl)
      · exact .inr ⟨n, .inr z⟩
  have dlow : ∀ (j : Nat) (kvs : List (Int × D)), (r.set i x')[j]? = some (.od kvs) → r[j]? = some (.od kvs) := fun j kvs hj => by
    rcases get_set hj with ⟨_, z⟩ | ⟨n, z⟩
    · rcases xk with q | q <;> (rw [q] at z; cases z)
    · exact z
  have src : ∀ (j : Nat) (zs : List D), ((r.set i x')[j]? = some (.ow zs) ∨ (r.set i x')[j]? = some (.io zs)) → ∃ us, r[j]? = some (.ow us) ∨ r[j]? = some (.io us) := fun j zs hj => by
    rcases low j zs hj with ⟨rfl, _⟩ | ⟨_, z⟩
    · exact ⟨xs, h'⟩
    · exact ⟨zs, z⟩
  refine ⟨⟨fun j d hj => ?_, fun j zs hj => ?_, fun j k zs us b h1 h2 h3 h4 => ?_, fun b hb => dm b (s.wf b hb), by rw [List.length_set]; exact s.len, fun j kvs hj => ?_, fun j k xs ys b h1 h2 => s.oned j k xs ys b (dlow j xs h1) (dlow k ys h2)⟩, fun b o e n => ?_, dm, fun _ h => h, fun b hb => .inl hb, fun b hb => ?_, fun j x hj hx => ?_, fun _ _ _ => rfl, fun j zs hj => ⟨rfl, ?_⟩, by rw [List.length_set]⟩
  · rcases get_set hj with ⟨rfl, z⟩ | ⟨n, z⟩
    · rcases xk with q | q <;> (rw [q] at z; cases z)
    · obtain ⟨w, e, q⟩ := s.fz j d z
      exact ⟨w, e, mono q⟩
  · rcases low j zs hj with ⟨rfl, rfl⟩ | ⟨n, z⟩
    · exact ⟨_, ha, a, vs, rfl, upd_same, h2, monoL hv⟩
    · obtain ⟨w, e, b, us, rfl, g1, g2, g3⟩ := s.lone j zs z
      refine ⟨_, e, b, us, rfl, ?_, g2, monoL g3⟩
      rw [upd_ne (fun q => ?_)]
      · exact g1
      · subst q
        exact n (s.one j i zs xs b z h' e ha)
  · obtain ⟨z1, q1⟩ := src j zs h1
    obtain ⟨z2, q2⟩ := src k us h2
    exact s.one j k z1 z2 b q1 q2 h3 h4
  · obtain ⟨w, e, b, ws, rfl, g1, g2, g3⟩ := s.dic j kvs (dlow j kvs hj)
    refine ⟨_, e, b, ws, rfl, ?_, g2, RpI.mono hk (fun _ h => h) g3⟩
    rw [upd_ne (fun q => ?_)]
    · exact g1
    · subst q
      rw [h1] at g1; cases g1
  · rw [upd_ne (fun q => ?_)]
    · exact e
    · subst q
      exact n (.inl ⟨i, xs, h', ha⟩)
  · rcases hb with ⟨j, zs, h1, h2⟩ | ⟨j, zs, h1, h2⟩
    · obtain ⟨us, q⟩ := src j zs h1
      exact .inl (.inl ⟨j, us, q, h2⟩)
    · exact .inl (.inr ⟨j, zs, dlow j zs h1, h2⟩)
  · by_cases e : i = j
    · subst e
      refine ⟨x', List.getElem?_set_self hi, fun z => ?_⟩
      rcases xk with q | q <;> (rw [q] at z; cases z)
    · rw [List.getElem?_set_ne e]
      exact ⟨x, hj, hx⟩
  · by_cases e : i = j
    · subst e
      rw [List.getElem?_set_self hi]
      rcases h with ⟨z, _⟩ | ⟨z, q⟩
      · rw [z] at hj; cases hj
      · exact ⟨ys, by rw [q]⟩
    · rw [List.getElem?_set_ne e]
      exact ⟨zs, hj⟩

/-! ### dicts -/
/-- a dict is put into a slot -/
theorem putd_go {σ0 : Slots} {r0 : Env} {S0 : Addr → Prop} {H0 : Hp} {i : Nat} {y : Val} {a : Addr} {vs : List (Key × V)} {kvs : List (Int × D)} (g : Go K σ0 r0 S0 H0 σ r S H) (h0 : Own σ0 r0 a ∨ H0 a = none) (h1 : H a = some (.dK vs)) (h2 : ¬ S a)
    (h3 : ¬ Own σ r a) (h4 : RpI K H S vs kvs) (hy : r[i]? = some y) (hn : ∀ xs, y ≠ .io xs) : Go K σ0 r0 S0 H0 (σ.set i (some (.ref a))) (r.set i (.od kvs)) S H := by
  have s := g.sr
  have hi := get_lt hy
  have hiσ : i < σ.length := by rw [← s.len]; exact hi
  have low : ∀ (j : Nat) (ys : List D), ((r.set i (.od kvs))[j]? = some (.ow ys) ∨ (r.set i (.od kvs))[j]? = some (.io ys)) → j ≠ i ∧ (r[j]? = some (.ow ys) ∨ r[j]? = some (.io ys)) := fun j ys hj => by
    rcases hj with hj | hj
    · rcases get_set hj with ⟨e, z⟩ | ⟨n, z⟩
      · cases z
      · exact ⟨n, .inl z⟩
    · rcases get_set hj with ⟨e, z⟩ | ⟨n, z⟩
      · cases z
      · exact ⟨n, .inr z⟩
  have dlow : ∀ (j : Nat) (ks : List (Int × D)), (r.set i (.od kvs))[j]? = some (.od ks) → (j = i ∧ ks = kvs) ∨ (j ≠ i ∧ r[j]? = some (.od ks)) := fun j ks hj => by
    rcases get_set hj with ⟨e, z⟩ | ⟨n, z⟩
    · cases z; exact .inl ⟨e, rfl⟩
    · exact .inr ⟨n, z⟩
  refine ⟨⟨fun j d hj => ?_, fun j ys hj => ?_, fun j k ys zs b h1 h2 h3 h4 => ?_, s.wf, by rw [List.length_set, List.length_set]; exact s.len, fun j ks hj => ?_, fun j k xs ys b q1 q2 q3 q4 => ?_⟩, g.fr, g.dm, g.ss, g.sg, fun b hb => ?_, fun j z hj hz => ?_, fun j h1 h2 => ?_, fun j ys hj => ?_, by rw [List.length_set]; exact g.ln⟩
  · rcases get_set hj with ⟨rfl, z⟩ | ⟨n, z⟩
    · cases z
    · obtain ⟨w, e, q⟩ := s.fz j d z
      exact ⟨w, by rw [List.getElem?_set_ne (Ne.symm n)]; exact e, q⟩
  · obtain ⟨n, z⟩ := low j ys hj
    obtain ⟨w, e, q⟩ := s.lone j ys z
    exact ⟨w, by rw [List.getElem?_set_ne (Ne.symm n)]; exact e, q⟩
  · obtain ⟨n1, z1⟩ := low j ys h1
    obtain ⟨n2, z2⟩ := low k zs h2
    rw [List.getElem?_set_ne (Ne.symm n1)] at h3
    rw [List.getElem?_set_ne (Ne.symm n2)] at h4
    exact s.one j k ys zs b z1 z2 h3 h4
  · rcases dlow j ks hj with ⟨rfl, rfl⟩ | ⟨n, z⟩
    · exact ⟨_, List.getElem?_set_self hiσ, a, vs, rfl, h1, h2, h4⟩
    · obtain ⟨w, e, q⟩ := s.dic j ks z
      exact ⟨w, by rw [List.getElem?_set_ne (Ne.symm n)]; exact e, q⟩
  · rcases dlow j xs q1 with ⟨rfl, rfl⟩ | ⟨n1, z1⟩
    · rcases dlow k ys q2 with ⟨rfl, rfl⟩ | ⟨n2, z2⟩
      · rfl
      · exfalso
        rw [List.getElem?_set_self hiσ] at q3
        cases q3
        rw [List.getElem?_set_ne (Ne.symm n2)] at q4
        exact h3 (.inr ⟨k, ys, z2, q4⟩)
    · rcases dlow k ys q2 with ⟨rfl, rfl⟩ | ⟨n2, z2⟩
      · exfalso
        rw [List.getElem?_set_self hiσ] at q4
        cases q4
        rw [List.getElem?_set_ne (Ne.symm n1)] at q3
        exact h3 (.inr ⟨j, xs, z1, q3⟩)
      · rw [List.getElem?_set_ne (Ne.symm n1)] at q3
        rw [List.getElem?_set_ne (Ne.symm n2)] at q4
        exact s.oned j k xs ys b z1 z2 q3 q4
  · rcases hb with ⟨j, ys, q1, q2⟩ | ⟨j, ys, q1, q2⟩
    · obtain ⟨n, z⟩ := low j ys q1
      rw [List.getElem?_set_ne (Ne.symm n)] at q2
      exact g.ow b (.inl ⟨j, ys, z, q2⟩)
    · rcases dlow j ys q1 with ⟨rfl, rfl⟩ | ⟨n, z⟩
      · rw [List.getElem?_set_self hiσ] at q2
        cases q2
        exact h0
      · rw [List.getElem?_set_ne (Ne.symm n)] at q2
        exact g.ow b (.inr ⟨j, ys, z, q2⟩)
  · by_cases e : i = j
    · subst e
      exact ⟨_, List.getElem?_set_self hi, fun z => by cases z⟩
    · rw [List.getElem?_set_ne e]
      exact g.ne j z hj hz
  · rcases get_set h2 with ⟨rfl, z⟩ | ⟨n, z⟩
    · cases z
    · rw [List.getElem?_set_ne (Ne.symm n)]
      exact g.em j h1 z
  · obtain ⟨e1, zs, e2⟩ := g.io j ys hj
    have n : i ≠ j := fun z => by subst z; rw [hy] at e2; exact hn zs (Option.some.inj e2)
    rw [List.getElem?_set_ne n, List.getElem?_set_ne n]
    exact ⟨e1, zs, e2⟩
/-- a dict of its own is changed -/
theorem dset_go {i : Nat} {kvs kvs' : List (Int × D)} {a : Addr} {vs' : List (Key × V)} (s : SR K σ H r S) (h : r[i]? = some (.od kvs)) (ha : σ[i]? = some (some (.ref a))) (hv : RpI K H S vs' kvs') :
    Go K σ r S H σ (r.set i (.od kvs')) S (upd H a (.dK vs')) := by
  obtain ⟨w, e, a', ws, rfl, h1, h2, h3⟩ := s.dic i kvs h
  rw [ha] at e
  cases e
  have hi := get_lt h
  have hk : ∀ b o, H b = some o → (S b ∨ ¬ Mt o) → upd H a (.dK vs') b = some o := fun b o e z => by
    rw [upd_ne (fun q => ?_)]
    · exact e
    · subst q
      rcases z with z | z
      · exact h2 z
      · rw [h1] at e; cases e; exact z trivial
  have dm : ∀ b, H b ≠ none → upd H a (.dK vs') b ≠ none := fun b hb => by
    unfold upd
    split
    · intro z; cases z
    · exact hb
  have low : ∀ (j : Nat) (ys : List D), ((r.set i (.od kvs'))[j]? = some (.ow ys) ∨ (r.set i (.od kvs'))[j]? = some (.io ys)) → (r[j]? = some (.ow ys) ∨ r[j]? = some (.io ys)) := fun j ys hj => by
    rcases hj with hj | hj
    · rcases get_set hj with ⟨e, z⟩ | ⟨n, z⟩
      · cases z
      · exact .inl z
    · rcases get_set hj with ⟨e, z⟩ | ⟨n, z⟩
      · cases z
      · exact .inr z
  have dlow : ∀ (j : Nat) (ks : List (Int × D)), (r.set i (.od kvs'))[j]? = some (.od ks) → (j = i ∧ ks = kvs') ∨ (j ≠ i ∧ r[j]? = some (.od ks)) := fun j ks hj => by
    rcases get_set hj with ⟨e, z⟩ | ⟨n, z⟩
    · cases z; exact .inl ⟨e, rfl⟩
    · exact .inr ⟨n, z⟩
  have dsrc : ∀ (j : Nat) (ks : List (Int × D)), (r.set i (.od kvs'))[j]? = some (.od ks) → ∃ us, r[j]? = some (.od us) := fun j ks hj => by
    rcases dlow j ks hj with ⟨rfl, _⟩ | ⟨_, z⟩
    · exact ⟨kvs, h⟩
    · exact ⟨ks, z⟩
  refine ⟨⟨fun j d hj => ?_, fun j zs hj => ?_, fun j k zs us b q1 q2 q3 q4 => s.one j k zs us b (low j zs q1) (low k us q2) q3 q4, fun b hb => dm b (s.wf b hb), by rw [List.length_set]; exact s.len, fun j ks hj => ?_, fun j k xs ys b q1 q2 q3 q4 => ?_⟩, fun b o e n => ?_, dm, fun _ h => h, fun b hb => .inl hb, fun b hb => ?_, fun j x hj hx => ?_, fun _ _ _ => rfl, fun j zs hj => ⟨rfl, ?_⟩, by rw [List.length_set]⟩
  · rcases get_set hj with ⟨rfl, z⟩ | ⟨n, z⟩
    · cases z
    · obtain ⟨w, e, q⟩ := s.fz j d z
      exact ⟨w, e, Rp.mono hk (fun _ h => h) _ _ q⟩
  · obtain ⟨w, e, b, us, rfl, g1, g2, g3⟩ := s.lone j zs (low j zs hj)
    refine ⟨_, e, b, us, rfl, ?_, g2, RpL.mono hk (fun _ h => h) _ _ g3⟩
    rw [upd_ne (fun q => ?_)]
    · exact g1
    · subst q
      rw [h1] at g1; cases g1
  · rcases dlow j ks hj with ⟨rfl, rfl⟩ | ⟨n, z⟩
    · exact ⟨_, ha, a, vs', rfl, upd_same, h2, RpI.mono hk (fun _ h => h) hv⟩
    · obtain ⟨w, e, b, us, rfl, g1, g2, g3⟩ := s.dic j ks z
      refine ⟨_, e, b, us, rfl, ?_, g2, RpI.mono hk (fun _ h => h) g3⟩
      rw [upd_ne (fun q => ?_)]
      · exact g1
      · subst q
        exact n (s.oned j i ks kvs b z h e ha)
  · obtain ⟨z1, w1⟩ := dsrc j xs q1
    obtain ⟨z2, w2⟩ := dsrc k ys q2
    exact s.oned j k z1 z2 b w1 w2 q3 q4
  · rw [upd_ne (fun q => ?_)]
    · exact e
    · subst q
      exact n (.inr ⟨i, kvs, h, ha⟩)
  · rcases hb with ⟨j, zs, q1, q2⟩ | ⟨j, zs, q1, q2⟩
    · exact .inl (.inl ⟨j, zs, low j zs q1, q2⟩)
    · obtain ⟨us, w⟩ := dsrc j zs q1
      exact .inl (.inr ⟨j, us, w, q2⟩)
  · by_cases e : i = j
    · subst e
      exact ⟨_, List.getElem?_set_self hi, fun z => by cases z⟩
    · rw [List.getElem?_set_ne e]
      exact ⟨x, hj, hx⟩
  · have n : i ≠ j := fun z => by subst z; rw [h] at hj; cases hj
    rw [List.getElem?_set_ne n]
    exact ⟨zs, hj⟩
/-- a dict of its own, from now on data -/
theorem rpk_dictI {vs : List (Key × V)} {kvs : List (Int × D)} (h : RpI K H S vs kvs) : RpK K H S vs (dictI kvs) := by
  induction h with
  | nil => exact .nil
  | cons h1 _ ih => exact .consI h1 ih
theorem lockd_go {i : Nat} {kvs : List (Int × D)} {a : Addr} {vs : List (Key × V)} {o : Obj} (s : SR K σ H r S) (h : r[i]? = some (.od kvs)) (ha : σ[i]? = some (some (.ref a))) (hv : H a = some (.dK vs)) (hr : RpI K H S vs kvs) (hS : ¬ S a) :
    Go K σ r S H σ (r.set i (.fz (.dict (dictI kvs)))) S (upd H a (.frz o (.dK vs))) := by
  have hi := get_lt h
  have hk : ∀ b o', H b = some o' → (S b ∨ ¬ Mt o') → upd H a (.frz o (.dK vs)) b = some o' := fun b o' e z => by
    rw [upd_ne (fun q => ?_)]
    · exact e
    · subst q
      rcases z with z | z
      · exact hS z
      · rw [hv] at e; cases e; exact z trivial
  have dm : ∀ b, H b ≠ none → upd H a (.frz o (.dK vs)) b ≠ none := fun b hb => by
    unfold upd
    split
    · intro z; cases z
    · exact hb
  have low : ∀ (j : Nat) (ys : List D), ((r.set i (.fz (.dict (dictI kvs))))[j]? = some (.ow ys) ∨ (r.set i (.fz (.dict (dictI kvs))))[j]? = some (.io ys)) → (r[j]? = some (.ow ys) ∨ r[j]? = some (.io ys)) := fun j ys hj => by
    rcases hj with hj | hj
    · rcases get_set hj with ⟨e, z⟩ | ⟨n, z⟩
      · cases z
      · exact .inl z
    · rcases get_set hj with ⟨e, z⟩ | ⟨n, z⟩
      · cases z
      · exact .inr z
  have dlow : ∀ (j : Nat) (ks : List (Int × D)), (r.set i (.fz (.dict (dictI kvs))))[j]? = some (.od ks) → j ≠ i ∧ r[j]? = some (.od ks) := fun j ks hj => by
    rcases get_set hj with ⟨e, z⟩ | ⟨n, z⟩
    · cases z
    · exact ⟨n, z⟩
  refine ⟨⟨fun j d hj => ?_, fun j zs hj => ?_, fun j k zs us b q1 q2 q3 q4 => s.one j k zs us b (low j zs q1) (low k us q2) q3 q4, fun b hb => dm b (s.wf b hb), by rw [List.length_set]; exact s.len, fun j ks hj => ?_, fun j k xs ys b q1 q2 q3 q4 => s.oned j k xs ys b (dlow j xs q1).2 (dlow k ys q2).2 q3 q4⟩, fun b o' e n => ?_, dm, fun _ h => h, fun b hb => .inl hb, fun b hb => ?_, fun j x hj hx => ?_, fun _ _ _ => rfl, fun j zs hj => ⟨rfl, ?_⟩, by rw [List.length_set]⟩
  · rcases get_set hj with ⟨rfl, z⟩ | ⟨n, z⟩
    · cases z
      exact ⟨_, ha, .dct upd_same (RpK.mono hk (fun _ h => h) _ _ (rpk_dictI hr))⟩
    · obtain ⟨w, e, q⟩ := s.fz j d z
      exact ⟨w, e, Rp.mono hk (fun _ h => h) _ _ q⟩
  · obtain ⟨w, e, b, us, rfl, g1, g2, g3⟩ := s.lone j zs (low j zs hj)
    refine ⟨_, e, b, us, rfl, ?_, g2, RpL.mono hk (fun _ h => h) _ _ g3⟩
    rw [upd_ne (fun q => ?_)]
    · exact g1
    · subst q
      rw [hv] at g1; cases g1
  · obtain ⟨n, z⟩ := dlow j ks hj
    obtain ⟨w, e, b, us, rfl, g1, g2, g3⟩ := s.dic j ks z
    refine ⟨_, e, b, us, rfl, ?_, g2, RpI.mono hk (fun _ h => h) g3⟩
    rw [upd_ne (fun q => ?_)]
    · exact g1
    · subst q
      exact n (s.oned j i ks kvs b z h e ha)
  · rw [upd_ne (fun q => ?_)]
    · exact e
    · subst q
      exact n (.inr ⟨i, kvs, h, ha⟩)
  · rcases hb with ⟨j, zs, q1, q2⟩ | ⟨j, zs, q1, q2⟩
    · exact .inl (.inl ⟨j, zs, low j zs q1, q2⟩)
    · exact .inl (.inr ⟨j, zs, (dlow j zs q1).2, q2⟩)
  · by_cases e : i = j
    · subst e
      exact ⟨_, List.getElem?_set_self hi, fun z => by cases z⟩
    · rw [List.getElem?_set_ne e]
      exact ⟨x, hj, hx⟩
  · have n : i ≠ j := fun z => by subst z; rw [h] at hj; cases hj
    rw [List.getElem?_set_ne n]
    exact ⟨zs, hj⟩
/-- a new cell that nothing leans on is changed -/
theorem over_go {p : Addr} {o o' : HO} {r1 : Env} {S1 : Addr → Prop} {H1 : Hp} (s : SR K σ H r S) (hp : H p = none) (mo : Mt o) (g : Go K σ r S (upd H p o) σ r1 S1 H1) : H1 p = some o ∧ Go K σ r S H σ r1 S1 (upd H1 p o') := by
  have nS : ¬ S p := fun z => s.wf p z hp
  have nO : ¬ Own σ r p := fun z => by
    obtain ⟨u, e, _⟩ := Own.mt s z
    rw [hp] at e; cases e
  have h1 : H1 p = some o := g.fr p o upd_same nO
  have up : ∀ b, upd H p o b = none → H b = none := fun b e => by
    unfold upd at e
    split at e
    · cases e
    · exact e
  have nS1 : ¬ S1 p := fun z => by
    rcases g.sg p z with z | z | z
    · exact nS z
    · rw [upd_same] at z; cases z
    · exact nO z
  have nO1 : ¬ Own σ r1 p := fun z => by
    rcases g.ow p z with z | z
    · exact nO z
    · rw [upd_same] at z; cases z
  have hk : ∀ b u, H1 b = some u → (S1 b ∨ ¬ Mt u) → upd H1 p o' b = some u := fun b u e z => by
    rw [upd_ne (fun q => ?_)]
    · exact e
    · subst q
      rcases z with z | z
      · exact nS1 z
      · rw [h1] at e; cases e; exact z mo
  have dm : ∀ b, H1 b ≠ none → upd H1 p o' b ≠ none := fun b hb => by
    unfold upd
    split
    · intro z; cases z
    · exact hb
  refine ⟨h1, ⟨⟨fun j d hj => ?_, fun j zs hj => ?_, g.sr.one, fun b hb => dm b (g.sr.wf b hb), g.sr.len, fun j ks hj => ?_, g.sr.oned⟩, fun b u e n => ?_, fun b hb => ?_, g.ss, fun b hb => ?_, fun b hb => ?_, g.ne, g.em, g.io, g.ln⟩⟩
  · obtain ⟨w, e, q⟩ := g.sr.fz j d hj
    exact ⟨w, e, Rp.mono hk (fun _ h => h) _ _ q⟩
  · obtain ⟨w, e, b, us, rfl, g1, g2, g3⟩ := g.sr.lone j zs hj
    refine ⟨_, e, b, us, rfl, ?_, g2, RpL.mono hk (fun _ h => h) _ _ g3⟩
    rw [upd_ne (fun q => ?_)]
    · exact g1
    · subst q
      exact nO1 (.inl ⟨j, zs, hj, e⟩)
  · obtain ⟨w, e, b, us, rfl, g1, g2, g3⟩ := g.sr.dic j ks hj
    refine ⟨_, e, b, us, rfl, ?_, g2, RpI.mono hk (fun _ h => h) g3⟩
    rw [upd_ne (fun q => ?_)]
    · exact g1
    · subst q
      exact nO1 (.inr ⟨j, ks, hj, e⟩)
  · have nb : b ≠ p := fun q => by subst q; rw [hp] at e; cases e
    rw [upd_ne nb]
    exact g.fr b u (by rw [upd_ne nb]; exact e) n
  · by_cases nb : b = p
    · subst nb; exact absurd hp hb
    · rw [upd_ne nb]
      exact g.dm b (by rw [upd_ne nb]; exact hb)
  · rcases g.sg b hb with z | z | z
    · exact .inl z
    · exact .inr (.inl (up b z))
    · exact .inr (.inr z)
  · rcases g.ow b hb with z | z
    · exact .inl z
    · exact .inr (up b z)
/-- a dict of its own is let go -/
theorem drop_go {i : Nat} {kvs : List (Int × D)} {a : Addr} (s : SR K σ H r S) (h : r[i]? = some (.od kvs)) (ha : σ[i]? = some (some (.ref a))) : Go K σ r S H σ (r.set i .un) S H ∧ ¬ Own σ (r.set i .un) a := by
  have hi := get_lt h
  have low : ∀ (j : Nat) (ys : List D), ((r.set i .un)[j]? = some (.ow ys) ∨ (r.set i .un)[j]? = some (.io ys)) → (r[j]? = some (.ow ys) ∨ r[j]? = some (.io ys)) := fun j ys hj => by
    rcases hj with hj | hj
    · rcases get_set hj with ⟨e, z⟩ | ⟨n, z⟩
      · cases z
      · exact .inl z
    · rcases get_set hj with ⟨e, z⟩ | ⟨n, z⟩
      · cases z
      · exact .inr z
  have dlow : ∀ (j : Nat) (ks : List (Int × D)), (r.set i .un)[j]? = some (.od ks) → j ≠ i ∧ r[j]? = some (.od ks) := fun j ks hj => by
    rcases get_set hj with ⟨e, z⟩ | ⟨n, z⟩
    · cases z
    · exact ⟨n, z⟩
  refine ⟨⟨⟨fun j d hj => ?_, fun j zs hj => s.lone j zs (low j zs hj), fun j k zs us b q1 q2 q3 q4 => s.one j k zs us b (low j zs q1) (low k us q2) q3 q4, s.wf, by rw [List.length_set]; exact s.len, fun j ks hj => s.dic j ks (dlow j ks hj).2, fun j k xs ys b q1 q2 q3 q4 => s.oned j k xs ys b (dlow j xs q1).2 (dlow k ys q2).2 q3 q4⟩, fun b o e n => e, fun _ h => h, fun _ h => h, fun b hb => .inl hb, fun b hb => ?_, fun j x hj hx => ?_, fun _ _ _ => rfl, fun j zs hj => ⟨rfl, ?_⟩, by rw [List.length_set]⟩, fun z => ?_⟩
  · rcases get_set hj with ⟨rfl, z⟩ | ⟨n, z⟩
    · cases z
    · exact s.fz j d z
  · rcases hb with ⟨j, zs, q1, q2⟩ | ⟨j, zs, q1, q2⟩
    · exact .inl (.inl ⟨j, zs, low j zs q1, q2⟩)
    · exact .inl (.inr ⟨j, zs, (dlow j zs q1).2, q2⟩)
  · by_cases e : i = j
    · subst e
      exact ⟨_, List.getElem?_set_self hi, fun z => by cases z⟩
    · rw [List.getElem?_set_ne e]
      exact ⟨x, hj, hx⟩
  · have n : i ≠ j := fun z => by subst z; rw [h] at hj; cases hj
    rw [List.getElem?_set_ne n]
    exact ⟨zs, hj⟩
  · rcases z with ⟨j, zs, q1, q2⟩ | ⟨j, zs, q1, q2⟩
    · obtain ⟨ws, k1, _⟩ := OwnL.lst s ⟨j, zs, low j zs q1, q2⟩
      obtain ⟨us, k2, _⟩ := OwnD.dct s ⟨i, kvs, h, ha⟩
      rw [k1] at k2; cases k2
    · obtain ⟨n, z⟩ := dlow j zs q1
      exact n (s.oned j i zs kvs a z h q2 ha)

/-! ### masked slots -/
theorem wipe_length (is : List Nat) (r : Env) : (wipeE is r).length = r.length := by
  induction is with
  | nil => rfl
  | cons i is ih => unfold wipeE; rw [List.length_set, ih]
theorem wipe_get {is : List Nat} {r : Env} {j : Nat} {x : Val} (h : (wipeE is r)[j]? = some x) : (j ∈ is ∧ x = .em) ∨ (j ∉ is ∧ r[j]? = some x) := by
  induction is with
  | nil => exact .inr ⟨by simp, h⟩
  | cons i is ih =>
    unfold wipeE at h
    rcases get_set h with ⟨rfl, rfl⟩ | ⟨n, z⟩
    · exact .inl ⟨List.mem_cons_self, rfl⟩
    · rcases ih z with ⟨a, b⟩ | ⟨a, b⟩
      · exact .inl ⟨List.mem_cons_of_mem _ a, b⟩
      · exact .inr ⟨by simp [n, a], b⟩
theorem wipe_out {is : List Nat} {r : Env} {j : Nat} (h : j ∉ is) : (wipeE is r)[j]? = r[j]? := by
  induction is with
  | nil => rfl
  | cons i is ih =>
    unfold wipeE
    rw [List.getElem?_set_ne (fun z => h (by simp [z])), ih fun z => h (List.mem_cons_of_mem _ z)]
theorem wipe_in {is : List Nat} {r : Env} {j : Nat} {y : Val} (h : j ∈ is) (hy : r[j]? = some y) : (wipeE is r)[j]? = some .em := by
  cases e : (wipeE is r)[j]? with
  | none =>
    have := get_lt hy
    rw [List.getElem?_eq_none_iff, wipe_length] at e
    omega
  | some x =>
    rcases wipe_get e with ⟨_, rfl⟩ | ⟨n, _⟩
    · rfl
    · exact absurd h n
theorem back_length (src : Env) (is : List Nat) (r : Env) : (back src is r).length = r.length := by
  induction is with
  | nil => rfl
  | cons i is ih =>
    unfold back
    split
    · rw [List.length_set, ih]
    · exact ih
theorem back_out {src : Env} {is : List Nat} {r : Env} {j : Nat} (h : j ∉ is) : (back src is r)[j]? = r[j]? := by
  induction is with
  | nil => rfl
  | cons i is ih =>
    unfold back
    split
    · rw [List.getElem?_set_ne (fun z => h (by simp [z])), ih fun z => h (List.mem_cons_of_mem _ z)]
    · exact ih fun z => h (List.mem_cons_of_mem _ z)
theorem back_in {src : Env} {is : List Nat} {r : Env} {j : Nat} (hl : r.length = src.length) (h : j ∈ is) : (back src is r)[j]? = src[j]? := by
  induction is with
  | nil => cases h
  | cons i is ih =>
    unfold back
    by_cases e : i = j
    · subst e
      cases q : src[i]? with
      | none =>
        simp only
        rw [List.getElem?_eq_none_iff] at q ⊢
        rw [back_length]; omega
      | some x =>
        simp only
        rw [List.getElem?_set_self]
        rw [back_length, hl]; exact get_lt q
    · have h' : j ∈ is := by
        rcases List.mem_cons.mp h with z | z
        · exact absurd z.symm e
        · exact z
      split
      · rw [List.getElem?_set_ne e, ih h']
      · exact ih h'
theorem mask_sr {is : List Nat} (s : SR K σ H r S) : SR K σ H (wipeE is r) S := by
  have low : ∀ (j : Nat) (ys : List D), ((wipeE is r)[j]? = some (.ow ys) ∨ (wipeE is r)[j]? = some (.io ys)) → (r[j]? = some (.ow ys) ∨ r[j]? = some (.io ys)) := fun j ys hj => by
    rcases hj with hj | hj <;> (rcases wipe_get hj with ⟨_, z⟩ | ⟨_, z⟩)
    · cases z
    · exact .inl z
    · cases z
    · exact .inr z
  have dlow : ∀ (j : Nat) (kvs : List (Int × D)), (wipeE is r)[j]? = some (.od kvs) → r[j]? = some (.od kvs) := fun j kvs hj => by
    rcases wipe_get hj with ⟨_, z⟩ | ⟨_, z⟩
    · cases z
    · exact z
  refine ⟨fun j d hj => ?_, fun j ys hj => s.lone j ys (low j ys hj), fun j k ys zs b h1 h2 => s.one j k ys zs b (low j ys h1) (low k zs h2), s.wf, by rw [wipe_length]; exact s.len, fun j kvs hj => s.dic j kvs (dlow j kvs hj), fun j k xs ys b h1 h2 => s.oned j k xs ys b (dlow j xs h1) (dlow k ys h2)⟩
  rcases wipe_get hj with ⟨_, z⟩ | ⟨_, z⟩
  · cases z
  · exact s.fz j d z
theorem ownL_wipe {is : List Nat} {b : Addr} (h : OwnL σ (wipeE is r) b) : Own σ r b ∧ ∃ (i : Nat), i ∉ is ∧ ∃ xs, (r[i]? = some (.ow xs) ∨ r[i]? = some (.io xs)) ∧ σ[i]? = some (some (.ref b)) := by
  obtain ⟨i, xs, h1, h2⟩ := h
  have q : i ∉ is ∧ (r[i]? = some (.ow xs) ∨ r[i]? = some (.io xs)) := by
    rcases h1 with h1 | h1 <;> (rcases wipe_get h1 with ⟨_, z⟩ | ⟨n, z⟩)
    · cases z
    · exact ⟨n, .inl z⟩
    · cases z
    · exact ⟨n, .inr z⟩
  exact ⟨.inl ⟨i, xs, q.2, h2⟩, i, q.1, xs, q.2, h2⟩
theorem own_wipe {is : List Nat} {b : Addr} (h : Own σ (wipeE is r) b) : Own σ r b := by
  rcases h with h | ⟨j, ys, h1, h2⟩
  · exact (ownL_wipe h).1
  · rcases wipe_get h1 with ⟨_, z⟩ | ⟨_, z⟩
    · cases z
    · exact .inr ⟨j, ys, z, h2⟩
theorem unmask {is : List Nat} (s : SR K σ H r S) (nio : noIo is r = true) (hσ : ∀ i ∈ is, σ'[i]? = σ[i]?) (g : Go K σ (wipeE is r) S H σ' r' S' H') : Go K σ r S H σ' (back r is r') S' H' := by
  have hl : r'.length = r.length := by rw [g.ln, wipe_length]
  have nio' : ∀ i ∈ is, ∀ xs, r[i]? ≠ some (.io xs) := fun i hi xs e => by
    have := List.all_eq_true.mp nio i hi
    simp [isIo, e] at this
  have nod' : ∀ i ∈ is, ∀ xs, r[i]? ≠ some (.od xs) := fun i hi xs e => by
    have := List.all_eq_true.mp nio i hi
    simp [isIo, e] at this
  have dlow : ∀ (j : Nat) (kvs : List (Int × D)), (back r is r')[j]? = some (.od kvs) → j ∉ is ∧ r'[j]? = some (.od kvs) := fun j kvs hj => by
    by_cases m : j ∈ is
    · rw [back_in hl m] at hj
      exact absurd hj (nod' j m kvs)
    · rw [back_out m] at hj
      exact ⟨m, hj⟩
  -- a masked list stands
  have kept : ∀ i ∈ is, ∀ (xs : List D) (a : Addr), r[i]? = some (.ow xs) → σ[i]? = some (some (.ref a)) → ¬ Own σ (wipeE is r) a := fun i hi xs a h1 h2 z => by
    obtain ⟨b, ws, q1, q2, _⟩ := own_addr s (.inl h1)
    rw [h2] at q1
    cases q1
    obtain ⟨_, j, nj, ys, h3, h4⟩ := ownL_wipe (z.l (mask_sr s) q2)
    have := s.one j i ys xs a h3 (.inl h1) h4 h2
    subst this
    exact nj hi
  have low : ∀ (j : Nat) (ys : List D), ((back r is r')[j]? = some (.ow ys) ∨ (back r is r')[j]? = some (.io ys)) → (j ∈ is ∧ r[j]? = some (.ow ys)) ∨ (j ∉ is ∧ (r'[j]? = some (.ow ys) ∨ r'[j]? = some (.io ys))) := fun j ys hj => by
    by_cases m : j ∈ is
    · rw [back_in hl m] at hj
      rcases hj with hj | hj
      · exact .inl ⟨m, hj⟩
      · exact absurd hj (nio' j m ys)
    · rw [back_out m] at hj
      exact .inr ⟨m, hj⟩
  have stand : ∀ (j : Nat) (ys : List D), j ∈ is → r[j]? = some (.ow ys) → ∃ a vs, σ[j]? = some (some (.ref a)) ∧ σ'[j]? = some (some (.ref a)) ∧ H' a = some (.lst vs) ∧ ¬ S' a ∧ RpL K H' S' vs ys ∧ ¬ Own σ' r' a := fun j ys m e => by
    obtain ⟨a, vs, h1, h2, h3, h4⟩ := own_addr s (.inl e)
    have ka := kept j m ys a e h1
    refine ⟨a, vs, h1, by rw [hσ j m]; exact h1, g.fr a _ h2 ka, fun z => ?_, g.rpL (mask_sr s) h4, fun z => ?_⟩
    · rcases g.sg a z with z | z | z
      · exact h3 z
      · rw [h2] at z; cases z
      · exact ka z
    · rcases g.ow a z with z | z
      · exact ka z
      · rw [h2] at z; cases z
  refine ⟨⟨fun j d hj => ?_, fun j ys hj => ?_, fun j k ys zs b h1 h2 h3 h4 => ?_, g.sr.wf, by rw [back_length]; exact g.sr.len, fun j kvs hj => g.sr.dic j kvs (dlow j kvs hj).2, fun j k xs ys b h1 h2 => g.sr.oned j k xs ys b (dlow j xs h1).2 (dlow k ys h2).2⟩, fun b o e n => g.fr b o e fun z => n (own_wipe z), g.dm, g.ss, fun b hb => ?_, fun b hb => ?_, fun j x hj hx => ?_, fun j h1 h2 => ?_, fun j ys hj => ?_, by rw [back_length]; exact hl⟩
  · by_cases m : j ∈ is
    · rw [back_in hl m] at hj
      obtain ⟨w, e, q⟩ := s.fz j d hj
      exact ⟨w, by rw [hσ j m]; exact e, g.rp (mask_sr s) q⟩
    · rw [back_out m] at hj
      exact g.sr.fz j d hj
  · rcases low j ys hj with ⟨m, z⟩ | ⟨m, z⟩
    · obtain ⟨a, vs, _, h2, h3, h4, h5, _⟩ := stand j ys m z
      exact ⟨_, h2, a, vs, rfl, h3, h4, h5⟩
    · exact g.sr.lone j ys z
  · rcases low j ys h1 with ⟨m1, z1⟩ | ⟨m1, z1⟩
    · obtain ⟨a, vs, e1, e2, _, _, _, e3⟩ := stand j ys m1 z1
      rw [e2] at h3
      cases h3
      rcases low k zs h2 with ⟨m2, z2⟩ | ⟨m2, z2⟩
      · obtain ⟨a', vs', e1', e2', _⟩ := stand k zs m2 z2
        rw [e2'] at h4
        cases h4
        exact s.one j k ys zs b (.inl z1) (.inl z2) e1 e1'
      · exact absurd (.inl ⟨k, zs, z2, h4⟩) e3
    · rcases low k zs h2 with ⟨m2, z2⟩ | ⟨m2, z2⟩
      · obtain ⟨a', vs', e1', e2', _, _, _, e3⟩ := stand k zs m2 z2
        rw [e2'] at h4
        cases h4
        exact absurd (.inl ⟨j, ys, z1, h3⟩) e3
      · exact g.sr.one j k ys zs b z1 z2 h3 h4
  · rcases g.sg b hb with z | z | z
    · exact .inl z
    · exact .inr (.inl z)
    · exact .inr (.inr (own_wipe z))
  · rcases hb with ⟨j, ys, h1, h2⟩ | ⟨j, ys, h1, h2⟩
    · rcases low j ys h1 with ⟨m, z⟩ | ⟨m, z⟩
      · rw [hσ j m] at h2
        exact .inl (.inl ⟨j, ys, .inl z, h2⟩)
      · rcases g.ow b (.inl ⟨j, ys, z, h2⟩) with z | z
        · exact .inl (own_wipe z)
        · exact .inr z
    · obtain ⟨m, z⟩ := dlow j ys h1
      rcases g.ow b (.inr ⟨j, ys, z, h2⟩) with z | z
      · exact .inl (own_wipe z)
      · exact .inr z
  · by_cases m : j ∈ is
    · rw [back_in hl m]
      exact ⟨x, hj, hx⟩
    · rw [back_out m]
      exact g.ne j x (by rw [wipe_out m]; exact hj) hx
  · by_cases m : j ∈ is
    · exact hσ j m
    · rw [back_out m] at h2
      exact g.em j (by rw [wipe_out m]; exact h1) h2
  · have m : j ∉ is := fun m => nio' j m ys hj
    obtain ⟨e1, zs, e2⟩ := g.io j ys (by rw [wipe_out m]; exact hj)
    exact ⟨e1, zs, by rw [back_out m]; exact e2⟩
end
end DL

set_option Elab.async false
set_option linter.all false
set_option maxRecDepth 100000
set_option maxHeartbeats 4000000
set_option autoImplicit false
/-! DL6: the text and the small language: what is matched, what holds of operands. -/
namespace DL
open PySem PySem.Spec PyProof.Rows L2

/-! ### the match -/
structure Mat where
  N : List Str
  sc : Scope
  fnb : Str → Bool
  fname : Nat → Str
  gname : Nat → Str
  kwd : Nat → Option (Str × Int)
def visB (sc : Scope) (x : Str) : Bool := match sc.names.lookup x with
  | some .local => true
  | some .cell => true
  | some .free => true
  | _ => false
def locB (M : Mat) (x : Str) : Bool := match M.sc.names.lookup x with
  | some .local => true
  | some .cell => M.fnb x
  | _ => false
def glB (sc : Scope) (x y : Str) : Bool := decide (x = y) && (match sc.names.lookup x with | some .globalImplicit => true | _ => false)
def nameOk (x : Str) : Bool := !(x == ("__debug__" : Str)) && !(x == ("__classdict__" : Str))
def notStar : Expr → Bool
  | .Starred .. => false
  | _ => true
def plainE : Expr → Bool
  | .Starred .. => false
  | .Slice .. => false
  | .Set .. => false
  | _ => true
def nmE (M : Mat) (i : Nat) : Expr → Bool
  | .Name x _ => decide (M.N[i]? = some x) && visB M.sc x && nameOk x
  | _ => false
mutual
def mT (M : Mat) : Tgt → Expr → Bool
  | .one i, .Name x _ => decide (M.N[i]? = some x) && locB M x
  | .many ts, .Tuple es _ _ => mTs M ts es
  | _, _ => false
def mTs (M : Mat) : List Tgt → List Expr → Bool
  | [], [] => true
  | t :: ts, e :: es => notStar e && mT M t e && mTs M ts es
  | _, _ => false
end
def biName : Bi → Str
  | .len => "len"
  | .int => "int"
  | .str => "str"
  | .tuple => "tuple"
  | .list => "list"
  | .abs => "abs"
  | .sum => "sum"
  | .all => "all"
  | .any => "any"
  | .min => "min"
  | .max => "max"
  | .sorted => "sorted"
  | .sset => "sorted"
  | .lset => "len"
  | .lrng => "list"
  | .trng => "tuple"
  | .trev => "tuple"
  | .srev => ""
/-- the inner name of a call of a call -/
def biIn : Bi → Option Str
  | .sset => some "set"
  | .lset => some "set"
  | .lrng => some "range"
  | .trng => some "range"
  | .trev => some "reversed"
  | _ => none
def isSrev : Bi → Bool
  | .srev => true
  | _ => false
/-- [::-1] -/
def revShape : Expr → Bool
  | .Slice none none (some (.UnaryOp .USub (.Constant (.int i) _ _) _)) _ => decide (i = 1)
  | _ => false
theorem revShape_ok {q : Expr} (h : revShape q = true) : ∃ k p1 p2 p3, q = .Slice none none (some (.UnaryOp .USub (.Constant (.int 1) k p1) p2)) p3 := by
  unfold revShape at h
  split at h
  · rw [of_decide_eq_true h]; exact ⟨_, _, _, _, rfl⟩
  · cases h
def kwShape : List Keyword → Option (Str × Expr)
  | [⟨some y, p, _⟩] => some (y, p)
  | _ => none
theorem kwShape_some {ks : List Keyword} {y : Str} {p : Expr} (h : kwShape ks = some (y, p)) : ∃ pos, ks = [⟨some y, p, pos⟩] := by
  unfold kwShape at h
  split at h
  · cases h; exact ⟨_, rfl⟩
  · cases h
def isInt (i : Int) : E → Bool
  | .int j => decide (j = i)
  | _ => false
def inner (M : Mat) (scope : Scope) : Mat := { M with sc := relS scope M.sc, fnb := fun x => match scope.names.lookup x with | some .cell => true | _ => false }
def ownOf (N : List Str) : List Nat → List (Str × Nat)
  | [] => []
  | i :: is => (N.getD i "", i) :: ownOf N is
/-- the arguments of the one inner call -/
def inShape : List Expr → Option (Str × List Expr)
  | [.Call (.Name y _) qs [] _] => some (y, qs)
  | _ => none
theorem inShape_some {ps : List Expr} {y : Str} {q : List Expr} (h : inShape ps = some (y, q)) : ∃ py pos, ps = [.Call (.Name y py) q [] pos] := by
  unfold inShape at h
  split at h
  · cases h; exact ⟨_, _, rfl⟩
  · cases h
def isiShape : Expr → List Expr → List Keyword → Option (Str × Expr × Str)
  | .Name x _, [p, .Name y _], [] => some (x, p, y)
  | _, _, _ => none
theorem isiShape_some {f : Expr} {ps : List Expr} {kws : List Keyword} {x y : Str} {p : Expr} (h : isiShape f ps kws = some (x, p, y)) : ∃ pp py, f = .Name x pp ∧ ps = [p, .Name y py] ∧ kws = [] := by
  unfold isiShape at h
  split at h
  · cases h; exact ⟨_, _, rfl, rfl, rfl⟩
  · cases h
def mtName : Meth → Str
  | .index => "index"
  | .count => "count"
  | .join => "join"
  | .lower => "lower"
  | .tidx => "index"
  | .tcnt => "count"
  | .swith => "startswith"
  | .part => "partition"
  | .splt => "split"
  | .rmpre => "removeprefix"
/-- no call stands behind the point -/
def baseOk : Expr → Bool
  | .Call (.Name ..) _ _ _ => false
  | _ => true
def mtFew : Meth → List E → Bool
  | .lower, [] => true
  | .lower, _ => false
  | _, [_] => true
  | _, _ => false
def lcShape : List Comprehension → Option (Expr × Expr × List Expr)
  | [⟨tg, iter, ifs, 0⟩] => some (tg, iter, ifs)
  | _ => none
theorem lcShape_some {gens : List Comprehension} {tg iter : Expr} {ifs : List Expr} (h : lcShape gens = some (tg, iter, ifs)) : gens = [⟨tg, iter, ifs, 0⟩] := by
  unfold lcShape at h
  split at h
  · cases h; rfl
  · cases h
def lc2Shape : List Comprehension → Option (Expr × Expr × Expr × Expr)
  | [⟨tg, iter, [], 0⟩, ⟨tg1, iter1, [], 0⟩] => some (tg, iter, tg1, iter1)
  | _ => none
theorem lc2Shape_some {gens : List Comprehension} {tg iter tg1 iter1 : Expr} (h : lc2Shape gens = some (tg, iter, tg1, iter1)) : gens = [⟨tg, iter, [], 0⟩, ⟨tg1, iter1, [], 0⟩] := by
  unfold lc2Shape at h
  split at h
  · cases h; rfl
  · cases h
def callShape : Expr → Option (Str × List Expr)
  | .Call (.Name x _) ps [] _ => some (x, ps)
  | _ => none
def dctShape : List (Option Expr) → List Expr → Option (Str × Int)
  | [some (.Constant (.str y) _ _)], [.Constant (.int j) _ _] => some (y, j)
  | _, _ => none
theorem dctShape_some {ks : List (Option Expr)} {vs : List Expr} {y : Str} {j : Int} (h : dctShape ks vs = some (y, j)) : ∃ k1 p1 k2 p2, ks = [some (.Constant (.str y) k1 p1)] ∧ vs = [.Constant (.int j) k2 p2] := by
  unfold dctShape at h
  split at h
  · cases h; exact ⟨_, _, _, _, rfl, rfl⟩
  · cases h
def dkK : Int ⊕ String → Key
  | .inl i => .inl i
  | .inr x => .inr (Str.ofString x)
def dspKeys : List (Int ⊕ String) → List (Option Expr) → Bool
  | [], [] => true
  | .inl i :: ks, some (.Constant (.int j) _ _) :: ps => decide (i = j) && dspKeys ks ps
  | .inr x :: ks, some (.Constant (.str y) _ _) :: ps => decide (Str.ofString x = y) && dspKeys ks ps
  | _, _ => false
theorem callShape_some {e : Expr} {x : Str} {ps : List Expr} (h : callShape e = some (x, ps)) : ∃ pp pos, e = .Call (.Name x pp) ps [] pos := by
  unfold callShape at h
  split at h
  · cases h; exact ⟨_, _, rfl⟩
  · cases h
def isTupE : Expr → Bool
  | .Tuple .. => true
  | _ => false
mutual
def mE (M : Mat) : E → Expr → Bool
  | .v i, .Name x _ => decide (M.N[i]? = some x) && visB M.sc x && nameOk x
  | .gl i, .Name x _ => glB M.sc x (M.gname i) && nameOk x
  | .non, .Constant .none _ _ => true
  | .bl b, .Constant (.bool c) _ _ => decide (b = c)
  | .int i, .Constant (.int j) _ _ => decide (i = j)
  | .str s, .Constant (.str x) _ _ => decide (Str.ofString s = x)
  | .tup es, .Tuple ps _ _ => mEs M es ps
  | .trr e, .Call (.Name x _) ps [] _ => glB M.sc x "tuple" && (match inShape ps with
    | some (z, qs) => glB M.sc z "reversed" && (match inShape qs with
      | some (u, [q]) => glB M.sc u "range" && (notStar q && mE M e q)
      | _ => false)
    | none => false)
  | .fs es, .JoinedStr vs _ => decide (2 ≤ vs.length) && mFs M es vs
  | .lst es, .List ps _ => mEs M es ps
  | .dct0, .Dict [] [] _ => true
  | .dsp ks es, .Dict pks pvs _ => dspKeys ks pks && decide (ks.length = es.length) && decide (pks.length = pvs.length) && decide ((ks.map dkK).Nodup) && decide (pks.length ≤ 15) && !pks.isEmpty && mEs M es pvs
  | .dct z (.int i), .Dict ks vs _ => (match dctShape ks vs with
    | some (y, j) => decide (Str.ofString z = y) && decide (i = j)
    | none => false)
  | .bin op a b, .BinOp p o q _ => decide (o = opOf op) && mE M a p && mE M b q
  | .neg a, .UnaryOp .USub p _ => mE M a p
  | .not a, .UnaryOp .Not p _ => mE M a p
  | .cmp op a b, .Compare p [o] [q] _ => decide (o = copOf op) && !behindInMarks o q && mE M a p && mE M b q
  | .chain op1 op2 a b c, .Compare p [o1, o2] [q, u] _ => decide (o1 = copOf op1) && decide (o2 = copOf op2) && !lastMarks [o1, o2] [q, u] && mE M a p && mE M b q && mE M c u
  | .isN a, .Compare p [.Is] [.Constant .none _ _] _ => mE M a p
  | .notN a, .Compare p [.IsNot] [.Constant .none _ _] _ => mE M a p
  | .and es, .BoolOp .And ps _ => mEs M es ps
  | .or es, .BoolOp .Or ps _ => mEs M es ps
  | .ite c a b, .IfExp t p q _ => mE M c t && mE M a p && mE M b q
  | .idx a i, .Subscript p q _ => plainE q && mE M a p && mE M i q
  | .dget i k, .Subscript (.Name x _) q _ => plainE q && (decide (M.N[i]? = some x) && visB M.sc x && nameOk x) && mE M k q
  | .popl i, .Call (.Attribute (.Name x _) z apos) [] [] cpos => decide (z = "pop") && (decide (M.N[i]? = some x) && visB M.sc x && nameOk x) && (apos.endLine == cpos.line)
  | .popa i e, .Call (.Attribute (.Name x _) z apos) [p] [] cpos => decide (z = "pop") && (decide (M.N[i]? = some x) && visB M.sc x && nameOk x) && (apos.endLine == cpos.line) && notStar p && mE M e p
  | .slc a lo hi, .Subscript p (.Slice l h none _) _ => mE M a p && mO M lo l && mO M hi h
  | .call f es, .Call (.Name x _) ps kws _ => glB M.sc x (M.fname f) && nameOk x && (match M.kwd f with
    | none => kws.isEmpty && mEs M es ps
    | some (y, i) => !ps.isEmpty && (match kws with
      | [] => mEk M (.inl i) es ps
      | k :: ks => (match kwShape (k :: ks) with
        | some (z, q) => decide (z = y) && mEk M (.inr q) es ps
        | none => false)))
  | .callB f es, .Call (.Name x _) ps [] _ => (M.kwd f).isNone && glB M.sc x (M.fname f) && nameOk x && mEs M es ps && !ps.isEmpty
  | .bi b es, .Call (.Name x _) ps [] _ => !isSrev b && glB M.sc x (biName b) && (match biIn b with
    | none => !ps.isEmpty && mEs M es ps
    | some y => (match inShape ps with
      | some (z, qs) => glB M.sc z y && !qs.isEmpty && mEs M es qs
      | none => false))
  | .bi b es, .Subscript p q _ => isSrev b && revShape q && mEs M es [p]
  | .mt m a es, .Call (.Attribute p z apos) ps [] cpos => decide (z = mtName m) && (apos.endLine == cpos.line) && baseOk p && mtFew m es && mE M a p && mEs M es ps
  | .isi a t, .Call f ps kws _ => (match isiShape f ps kws with
    | some (x, p, y) => glB M.sc x "isinstance" && glB M.sc y (tyName t) && notStar p && mE M a p
    | none => false)
  | .fl2 i0 i1 e elt, .ListComp pelt gens scope _ => (match lc2Shape gens with
    | some (tg, iter, tg1, iter1) => plainE iter && mE M e iter && blkC M.N M.sc scope (ownOf M.N [i0, i1]) && mT (inner M scope) (.one i0) tg && (plainE iter1 && nmE (inner M scope) i0 iter1) && mT (inner M scope) (.one i1) tg1 && mE (inner M scope) elt pelt
    | none => false)
  | .lc hid t k es c elt, .ListComp pelt gens scope _ => (match lcShape gens with
    | some (tg, iter, ifs) =>
      (match k with
        | .seq => plainE iter && mEs M es [iter]
        | .rng => (match callShape iter with
          | some (x, ps) => glB M.sc x "range" && mEs M es ps
          | none => false)
        | .rev => (match callShape iter with
          | some (x, ps) => glB M.sc x "reversed" && mEs M es ps
          | none => false)
        | .zip => isTupE tg && (match callShape iter with
          | some (x, ps) => glB M.sc x "zip" && mEs M es ps
          | none => false)) &&
      blkC M.N M.sc scope (ownOf M.N t.slots) && mT (inner M scope) t tg && mEs (inner M scope) c ifs && mE (inner M scope) elt pelt
    | none => false)
  | _, _ => false
def mFs (M : Mat) : List E → List Expr → Bool
  | [], [] => true
  | e :: es, v :: vs => (match v with
    | .FormattedValue p c none _ => decide (c = -1) && mE M e p
    | .Constant (.str x) _ _ => (match e with
      | .str s => decide (Str.ofString s = x)
      | _ => false)
    | _ => false) && mFs M es vs
  | _, _ => false
def mEs (M : Mat) : List E → List Expr → Bool
  | [], [] => true
  | e :: es, p :: ps => notStar p && mE M e p && mEs M es ps
  | _, _ => false
/-- all but the last one by place, the last one by its default or by name -/
def mEk (M : Mat) (l : Int ⊕ Expr) : List E → List Expr → Bool
  | [e], [] => (match l with
    | .inl i => isInt i e
    | .inr q => mE M e q)
  | e :: es, p :: ps => notStar p && mE M e p && mEk M l es ps
  | _, _ => false
def mO (M : Mat) : Option E → Option Expr → Bool
  | none, none => true
  | some e, some p => mE M e p
  | _, _ => false
end

/-! ### the context -/
def bnames : List Str := ["len", "int", "str", "tuple", "list", "abs", "sum", "all", "any", "min", "max", "sorted", "range", "reversed", "isinstance", "bool", "dict", "set", "zip"]
def argSt (vs : List V) : Slots := vs.map some
/-- what a call leaves -/
structure Fin (K : PySem.W.Frag) (vs : List V) (args : List Val) (S : Addr → Prop) (H : Hp) (args' : List Val) (S' : Addr → Prop) (H' : Hp) (v : V) (x : Val) : Prop where
  sr : SR K (argSt vs) H' args' S'
  fr : ∀ b o, H b = some o → ¬ Own (argSt vs) args b → H' b = some o
  dm : ∀ b, H b ≠ none → H' b ≠ none
  ss : ∀ b, S b → S' b
  sg : ∀ b, S' b → S b ∨ H b = none
  rn : RF K H S' H' v x
def outVals : List Val → List (List D) → List Val
  | .io _ :: as, ys :: outs => .io ys :: outVals as outs
  | a :: as, outs => a :: outVals as outs
  | [], _ => []
/-- the error's class, as the machine has it -/
def XR (mg : Str → Option Value) (e : Exn) (cls : Value) (d : Option Addr) : Prop := d = none ∧ ∃ Ca, mg (cnm e.cls) = some (.ref Ca) ∧ cls = .ref Ca
def spF (K : PySem.W.Frag) (mg : Str → Option Value) (xc : Nat → Bool) (n : Nat) (run : List Val → Res (Val × List (List D))) : Sp := fun vs H Q E => vs.length = n ∧ ∃ S args, SR K (argSt vs) H args S ∧
  (∀ a ∈ args, (∃ d, a = .fz d) ∨ ∃ xs, a = .io xs) ∧
  ((∃ x outs, run args = .ok (x, outs) ∧ ∀ v H' S', Fin K vs args S H (outVals args outs) S' H' v x → Q v H') ∨
   ∃ e, run args = .ex e ∧ (∀ a ∈ args, ∃ d, a = .fz d) ∧ ∀ cls d H' S', Ext S H S' H' → XR mg e cls d → E cls d H')
/-- a class of errors -/
structure XCls (K : PySem.W.Frag) (mg : Str → Option Value) (c : Nat) (Ca : Addr) : Prop where
  at_ : mg (cnm c) = some (.ref Ca)
  ex : PySem.W.excIn K Ca [.type "ValueError", .type "Exception", .type "BaseException", .type "object"] "ValueError.__new__" = true
  kp : PySem.W.keepIn K (.ref Ca) = true
  be : PySem.W.subIn K (.ref Ca) (.type "BaseException") = some true
  ty : PySem.W.typeIn K (.ref Ca) = some (.type "type")
/-- what the laws' own teller of errors does in an except suite -/
def FnE (P : Program) (w : World) (K : PySem.W.Frag) (mg : Str → Option Value) (base : Heap) (f : Addr) (fd : FuncData) (c : Nat) (Ca : Addr) : Prop :=
  ∀ (A : Around) (outer : List PySem.Env) (s : Shared) (H : Hp) (args : Args) (a : Addr) (oe : Obj) (Q : VK) (E : XK), L2H.RoomH 0 A → L2H.PinOk outer H s (a, oe) → Zc (.ref Ca) none oe → (∃ vs, oe.data = .fields vs) → Env0 P w K mg base A outer s H →
    BindsTo s fd args [(("e" : Str), Value.ref a)] → (∀ p H', (∀ b o, H b = some o → H' b = some o) → H p = none → H' p = some (.tup [.str "refused", .str (cnm c)]) → Q (.ref p) H') →
    codeAny (model P w) A (.call (.ref f) args) (CR (L2.CX P w) outer P w H s Q E) s
structure ErrOk (P : Program) (w : World) (K : PySem.W.Frag) (mg : Str → Option Value) (base : Heap) (xc : Nat → Bool) : Prop where
  pa : ∃ Pa, mg "PortError" = some (.ref Pa) ∧ ∀ c Ca, xc c = true → mg (cnm c) = some (.ref Ca) → PySem.W.exmOne K (.ref Ca) (.ref Pa) = some true
  fn : ∃ (f : Addr) (fd : FuncData), mg "_law_error" = some (.ref f) ∧ PySem.W.keepIn K (.ref f) = true ∧ Binds K fd ["e"] [] ∧ ∀ (c : Nat) (Ca : Addr), xc c = true → mg (cnm c) = some (.ref Ca) → FnE P w K mg base f fd c Ca
/-- how a def takes its arguments -/
def ArgsOk (K : PySem.W.Frag) (fd : FuncData) (ps : List Str) (fs : List Bool) : Option (Str × Int) → Prop
  | none => Binds K fd ps []
  | some (y, i) => (∃ ds, Vals [V.int i] ds ∧ Binds K fd ps ds) ∧ KBn K fd ps (ps.length - 1) [y] (fun us ws => us ++ ws) (fun vs zs => vs ++ zs) ∧ fs.getLast? = some false
structure FnAt (X : Cx) (C : Ctx) (k : Nat) (x : Str) (f : Nat) (kw : Option (Str × Int)) : Prop where
  it : ∃ (a : Addr) (fd : FuncData) (ps : List Str), X.mg x = some (.ref a) ∧ PySem.W.keepIn X.K (.ref a) = true ∧ ArgsOk X.K fd ps (C.ios f) kw ∧ ps.length = (C.ios f).length ∧ FnOk X.prog X.w X.K X.mg X.base (L2.CX X.prog X.w) k a fd ps (spF X.K X.mg C.xc ps.length (C.call f))
structure GX (X : Cx) (M : Mat) (C : Ctx) (k : Nat) : Prop where
  calm : X.calm = true
  kind : X.env.scope.kind = .function
  nd : X.N.Nodup
  hN : X.N = M.N
  sc : X.env.scope = M.sc
  fnb : ∀ x, M.fnb x = true → X.fn x = true
  room : Room k X.A
  bn : ∀ x ∈ bnames, X.mg x = none
  gl : ∀ i d, C.gl i = some d → ∃ v u, X.mg (M.gname i) = some u ∧ RelV v u ∧ ∀ H S, Rp X.K H S v d
  fns : ∀ f, FnAt X C k (M.fname f) f (M.kwd f) ∨ ∀ vs, C.call f vs = .no
  xcs : ∀ c, C.xc c = true → ∃ Ca, XCls X.K X.mg c Ca
  err : C.er = true → ErrOk X.prog X.w X.K X.mg X.base C.xc

/-! ### readings -/
def KE (K : PySem.W.Frag) (σ : Slots) (r : Env) (S : Addr → Prop) (H : Hp) (x : Val) (r' : Env) (Q : VK) : Prop := ∀ v H' S', Go K σ r S H σ r' S' H' → RN K H σ r' S' H' v x → Q v H'
def tE (K : PySem.W.Frag) (C : Ctx) (e : E) : TE := fun σ H Q => ∃ r S x r', SR K σ H r S ∧ evE C e r = .ok (x, r') ∧ KE K σ r S H x r' Q
def tO (K : PySem.W.Frag) (C : Ctx) (e : E) : TE := fun σ H Q => ∃ r S x r', SR K σ H r S ∧ asO e (evE C e) r = .ok (x, r') ∧ ∀ v H' S', Go K σ r S H σ r' S' H' → RO K H σ r' S' H' v x → Q v H'
def tX (K : PySem.W.Frag) (C : Ctx) (e : E) : TE := fun σ H Q => ∃ r S d r', SR K σ H r S ∧ fixed (evE C e r) = .ok (d, r') ∧ ∀ v H' S', Go K σ r S H σ r' S' H' → Rp K H' S' v d → Q v H'
def tT (K : PySem.W.Frag) (C : Ctx) (e : E) : TT := fun σ H Q => ∃ r S c r', SR K σ H r S ∧ tested (fixed (evE C e r)) = .ok (c, r') ∧ ∀ H' S', Go K σ r S H σ r' S' H' → Q c H'
section
variable {X : Cx}
theorem pe_imp {e : Expr} {t t' : TE} (h : PE X e t) (k : ∀ σ H Q, t' σ H Q → t σ H Q) : PE X e t' := ⟨fun pins s σ H Q I q => h.run pins s σ H Q I (k σ H Q q)⟩
theorem pt_imp {e : Expr} {t t' : TT} (h : PT X e t) (k : ∀ σ H Q, t' σ H Q → t σ H Q) : PT X e t' := ⟨fun pins s σ H Q I q => h.run pins s σ H Q I (k σ H Q q)⟩
theorem pa_imp {e : List Expr} {t t' : TA} (h : PA X e t) (k : ∀ σ H Q, t' σ H Q → t σ H Q) : PA X e t' := ⟨fun pos pins s σ H Q I q => h.run pos pins s σ H Q I (k σ H Q q)⟩
end
section
variable {K : PySem.W.Frag} {H H' : Hp} {S S' : Addr → Prop} {σ σ' : Slots} {r r' : Env}
/-- a fresh list becomes data -/
theorem fix_go {σ0 : Slots} {r0 : Env} {S0 : Addr → Prop} {H0 : Hp} {x : Val} {v : V} {d : D} (g : Go K σ0 r0 S0 H0 σ r S H) (hx : RN K H0 σ r S H v x) (hd : x.fix = .ok d) :
    ∃ S', Go K σ0 r0 S0 H0 σ r S' H ∧ Rp K H S' v d := by
  cases x with
  | em => cases hd
  | io _ => cases hd
  | od _ => cases hd
  | un => cases hd
  | fz y => cases hd; exact ⟨S, g, hx⟩
  | ow xs =>
    cases hd
    obtain ⟨a, vs, rfl, h0, h1, h2, h3, h4⟩ := hx
    have ss : ∀ b, S b → S b ∨ b = a := fun b hb => .inl hb
    have mono : ∀ {v d}, Rp K H S v d → Rp K H (fun b => S b ∨ b = a) v d := fun q => Rp.mono (fun _ _ h _ => h) ss _ _ q
    have monoL : ∀ {v d}, RpL K H S v d → RpL K H (fun b => S b ∨ b = a) v d := fun q => RpL.mono (fun _ _ h _ => h) ss _ _ q
    refine ⟨fun b => S b ∨ b = a, ⟨⟨fun j d hj => ?_, fun j ys hj => ?_, g.sr.one, fun b hb => ?_, g.sr.len, fun j kvs hj => ?_, g.sr.oned⟩, g.fr, g.dm, fun b hb => .inl (g.ss b hb), fun b hb => ?_, g.ow, g.ne, g.em, g.io, g.ln⟩, .lst (.inr rfl) (.inl h1) (monoL h4)⟩
    · obtain ⟨w, e, q⟩ := g.sr.fz j d hj
      exact ⟨w, e, mono q⟩
    · obtain ⟨w, e, b, ws, rfl, q1, q2, q3⟩ := g.sr.lone j ys hj
      refine ⟨_, e, b, ws, rfl, q1, fun z => ?_, monoL q3⟩
      rcases z with z | z
      · exact q2 z
      · subst z
        exact h3 (.inl ⟨j, ys, hj, e⟩)
    · rcases hb with hb | hb
      · exact g.sr.wf b hb
      · rw [hb, h1]; intro z; cases z
    · obtain ⟨w, e, b, ws, rfl, q1, q2, q3⟩ := g.sr.dic j kvs hj
      refine ⟨_, e, b, ws, rfl, q1, fun z => ?_, RpI.mono (fun _ _ h _ => h) ss q3⟩
      rcases z with z | z
      · exact q2 z
      · subst z
        exact h3 (.inr ⟨j, kvs, hj, e⟩)
    · rcases hb with hb | hb
      · exact g.sg b hb
      · rw [hb]; exact .inr (.inl h0)
theorem KE.go {x : Val} {Q : VK} {r1 : Env} {S1 : Addr → Prop} {H1 : Hp} (s : SR K σ H r S) (g : Go K σ r S H σ r1 S1 H1) (k : KE K σ r S H x r' Q) : KE K σ r1 S1 H1 x r' Q :=
  fun v H' S' g' q => k v H' S' (g.trans s g') (q.older g.dm)
/-- behind an operation that leaves the slots -/
theorem KE.fin {x : Val} {Q : VK} {r1 : Env} {S1 : Addr → Prop} {H1 : Hp} {v : V} (s : SR K σ H r S) (g : Go K σ r S H σ r1 S1 H1) (k : KE K σ r S H x r1 Q) (e : Ext S1 H1 S' H') (q : RF K H1 S' H' v x) : Q v H' :=
  k v H' S' (g.trans s (.ext g.sr e)) (((RF.rn g.sr q).older g.dm : RN K H σ r1 S' H' v x))
theorem KE.data {d : D} {Q : VK} {r1 : Env} {S1 : Addr → Prop} {H1 : Hp} {v : V} (s : SR K σ H r S) (g : Go K σ r S H σ r1 S1 H1) (k : KE K σ r S H (.fz d) r1 Q) (q : Rp K H1 S1 v d) : Q v H1 :=
  k v H1 S1 g q
end
section
variable {X : Cx} {M : Mat} {C : Ctx} {k : Nat}
theorem GX.hu (G : GX X M C k) : X.A.units + 200 < cLine := by have := G.room.un; omega
theorem vis_of (G : GX X M C k) {x : Str} (h : visB M.sc x = true) : Vis X.env.scope x := by
  rw [G.sc]
  unfold visB at h
  split at h
  · exact .inl (by assumption)
  · exact .inr (.inl (by assumption))
  · exact .inr (.inr (by assumption))
  · cases h
theorem gl_of (G : GX X M C k) {x y : Str} (h : glB M.sc x y = true) : Gl X x ∧ x = y := by
  unfold glB at h
  rw [Bool.and_eq_true] at h
  refine ⟨?_, of_decide_eq_true h.1⟩
  have h2 := h.2
  show X.env.scope.names.lookup x = _
  rw [G.sc]
  split at h2
  · assumption
  · cases h2
theorem loc_of (G : GX X M C k) {x : Str} (h : locB M x = true) : Loc X.env.scope x ∧ (X.fn x = true ∨ X.env.scope.names.lookup x = some .local) := by
  rw [G.sc]
  unfold locB at h
  split at h
  · exact ⟨.inl (by assumption), .inr (by assumption)⟩
  · exact ⟨.inr (by assumption), .inl (G.fnb x h)⟩
  · cases h
theorem name_of {x : Str} (h : nameOk x = true) : (x == ("__debug__" : Str)) = false ∧ (x == ("__classdict__" : Str)) = false := by
  unfold nameOk at h
  rw [Bool.and_eq_true, Bool.not_eq_true', Bool.not_eq_true'] at h
  exact h
/-- an operand -/
theorem pe_opd (G : GX X M C k) {e : E} {p : Expr} (h : mE M e p = true) (hp : PE X p (tE X.K C e)) : PE X p (tO X.K C e) := by
  have gen : asO e (evE C e) = (fun r => do let (x, r') ← evE C e r; .ok (.val x, r')) → PE X p (tO X.K C e) := fun he => by
    refine pe_imp hp fun σ H Q ⟨r, S, x, r', s, ev, q⟩ => ?_
    rw [he] at ev
    obtain ⟨⟨y, r1⟩, e1, e2⟩ := bind_ok ev
    cases e2
    exact ⟨r, S, _, _, s, e1, fun v H' S' g w => q v H' S' g w⟩
  cases e with
  | v i =>
    cases p with
    | Name x pos =>
      simp only [mE, Bool.and_eq_true] at h
      obtain ⟨h1, h2⟩ := name_of h.2
      refine pe_imp (pe_var (i := i) (by rw [G.hN]; exact of_decide_eq_true h.1.1) (vis_of G h.1.2) h1 h2) fun σ H Q ⟨r, S, x, r', s, ev, q⟩ => ?_
      have hv : ∃ v, σ[i]? = some (some v) ∧ Res.ok (Opd.ref i, r) = .ok (x, r') := by
        simp only [asO] at ev
        split at ev
        · cases ev
        · cases ev
        · cases ev
        · rename_i y ny nod nun hy
          cases y with
          | em => exact absurd rfl ny
          | od kvs => exact absurd rfl (nod kvs)
          | un => exact absurd rfl nun
          | fz d =>
            obtain ⟨v, e, _⟩ := s.fz i d hy
            exact ⟨v, e, ev⟩
          | ow xs =>
            obtain ⟨v, e, _⟩ := s.lone i xs (.inl hy)
            exact ⟨v, e, ev⟩
          | io xs =>
            obtain ⟨v, e, _⟩ := s.lone i xs (.inr hy)
            exact ⟨v, e, ev⟩
        · cases ev
      obtain ⟨v, hv, e⟩ := hv
      cases e
      exact ⟨v, hv, q v H S (.refl s) hv⟩
    | _ => simp only [mE] at h; cases h
  | _ => exact gen rfl
end
end DL

set_option Elab.async false
set_option linter.all false
set_option maxRecDepth 100000
set_option maxHeartbeats 4000000
set_option autoImplicit false
/-! DL7: expressions: each reading is the machine's. -/
namespace DL
open PySem PySem.Spec PyProof.Rows L2

def SndE (C : Ctx) (k : Nat) (e : E) : Prop := ∀ (X : Cx) (M : Mat) (p : Expr), GX X M C k → mE M e p = true → PE X p (tE X.K C e) ∧ PT X p (tT X.K C e)
def SndL (C : Ctx) (k : Nat) (es : List E) : Prop := ∀ e ∈ es, SndE C k e

section
variable {X : Cx} {M : Mat} {C : Ctx} {k : Nat} {e : E} {p : Expr}
theorem pe_x (h : PE X p (tE X.K C e)) : PE X p (tX X.K C e) := by
  refine pe_imp h fun σ H Q ⟨r, S, d, r', s, ev, q⟩ => ?_
  obtain ⟨⟨x, r1⟩, e1, e2⟩ := bind_ok ev
  obtain ⟨d', e3, e4⟩ := bind_ok e2
  cases e4
  refine ⟨r, S, x, _, s, e1, fun v H' S' g w => ?_⟩
  obtain ⟨S2, g2, w2⟩ := fix_go g w e3
  exact q v H' S2 g2 w2
theorem pt_of (h : PE X p (tE X.K C e)) (he : ∀ whole, isTrue p X.env whole = (do let v ← whole; standAt p.pos; holding [v] (truthy v))) : PT X p (tT X.K C e) := by
  refine pt_imp (pt_truth (pe_x h) he) fun σ H Q ⟨r, S, c, r', s, ev, q⟩ => ?_
  obtain ⟨⟨d, r1⟩, e1, e2⟩ := bind_ok ev
  obtain ⟨b, e3, e4⟩ := bind_ok e2
  cases e4
  exact ⟨r, S, d, _, s, e1, fun v H' S' g w => ⟨_, tru_v (.inl w) e3, q H' S' g⟩⟩

theorem star_cons {p : Expr} {ps : List Expr} {env : PySem.Env} (h : notStar p = true) : starEach (p :: ps) env = (false, eval p env) :: starEach ps env := by
  cases p <;> first | rfl | cases h

/-! ### argument lists -/
def tDs (K : PySem.W.Frag) (C : Ctx) (es : List E) : TA := fun σ H Q => ∃ r S ds r', SR K σ H r S ∧ evDs C es r = .ok (ds, r') ∧ ∀ vs H' S', Go K σ r S H σ r' S' H' → RpL K H' S' vs ds → Q vs H'
theorem pa_ds (G : GX X M C k) : ∀ (es : List E) (ps : List Expr), SndL C k es → mEs M es ps = true → PA X ps (tDs X.K C es)
  | [], [], _, _ => pa_imp pa_nil fun σ H Q ⟨r, S, ds, r', s, ev, q⟩ => by
    simp only [evDs] at ev
    cases ev
    exact q _ _ _ (.refl s) .nil
  | e :: es, p :: ps, ih, h => by
    simp only [mEs, Bool.and_eq_true] at h
    have h1 := (ih e List.mem_cons_self X M p G h.1.2).1
    have h2 := pa_ds G es ps (fun e he => ih e (List.mem_cons_of_mem _ he)) h.2
    refine pa_imp (pa_cons (pe_x h1) h2 (star_cons h.1.1)) fun σ H Q ⟨r, S, ds, r', s, ev, q⟩ => ?_
    simp only [evDs] at ev
    obtain ⟨⟨d, r1⟩, e1, ev⟩ := bind_ok ev
    obtain ⟨⟨ds', r2⟩, e2, ev⟩ := bind_ok ev
    cases ev
    refine ⟨r, S, d, r1, s, e1, fun v H1 S1 g1 w1 => ⟨r1, S1, ds', _, g1.sr, e2, fun vs H2 S2 g2 w2 => ?_⟩⟩
    exact q _ _ _ (g1.trans s g2) (.cons (g2.rp g1.sr w1) w2)
  | [], _ :: _, _, h => by simp only [mEs] at h; cases h
  | _ :: _, [], _, h => by simp only [mEs] at h; cases h
def zipV : List (Int ⊕ String) → List V → List (V × V)
  | k :: ks, v :: vs => (kV (dkK k), v) :: zipV ks vs
  | _, _ => []
/-- the pairs of a display whose keys are told -/
theorem pps_ds (G : GX X M C k) {pos : Pos} : ∀ (ks : List (Int ⊕ String)) (es : List E) (pks : List (Option Expr)) (ps : List Expr), SndL C k es → dspKeys ks pks = true → ks.length = es.length → mEs M es ps = true →
    ∃ trs, PPs X pos pks ps trs ∧ ∀ σ H Q, (∃ r S ds r', SR X.K σ H r S ∧ evDs C es r = .ok (ds, r') ∧ ∀ vs H' S', Go X.K σ r S H σ r' S' H' → RpL X.K H' S' vs ds → Q (zipV ks vs) H') → tPairs trs σ H Q
  | [], [], pks, ps, _, hk, _, h => by
    cases pks with
    | cons _ _ => simp only [dspKeys] at hk; cases hk
    | nil =>
      cases ps with
      | cons _ _ => simp only [mEs] at h; cases h
      | nil =>
        refine ⟨[], pps_nil, fun σ H Q ⟨r, S, ds, r', s, ev, q⟩ => ?_⟩
        simp only [evDs] at ev
        cases ev
        exact q _ _ _ (.refl s) .nil
  | kk :: ks, e :: es, pks, ps, ih, hk, hl, h => by
    cases ps with
    | nil => simp only [mEs] at h; cases h
    | cons p ps =>
      simp only [mEs, Bool.and_eq_true] at h
      have h1 := (ih e List.mem_cons_self X M p G h.1.2).1
      have key : ∃ kp pr, pks = some kp :: pr ∧ PE X kp (tC (kV (dkK kk))) ∧ dspKeys ks pr = true := by
        cases pks with
        | nil => cases kk <;> (simp only [dspKeys] at hk; cases hk)
        | cons a pr =>
          cases a with
          | none => cases kk <;> (simp only [dspKeys] at hk; cases hk)
          | some a =>
            cases a with
            | Constant c k1 p1 =>
              cases kk with
              | inl i =>
                cases c with
                | int j =>
                  simp only [dspKeys, Bool.and_eq_true] at hk
                  obtain rfl := of_decide_eq_true hk.1
                  exact ⟨_, _, rfl, pe_int, hk.2⟩
                | _ => simp only [dspKeys] at hk; cases hk
              | inr x =>
                cases c with
                | str y =>
                  simp only [dspKeys, Bool.and_eq_true] at hk
                  obtain rfl := of_decide_eq_true hk.1
                  exact ⟨_, _, rfl, pe_str, hk.2⟩
                | _ => simp only [dspKeys] at hk; cases hk
            | _ => cases kk <;> (simp only [dspKeys] at hk; cases hk)
      obtain ⟨kp, pr, rfl, pk, hk2⟩ := key
      obtain ⟨trs, h2, h3⟩ := pps_ds G ks es pr ps (fun e he => ih e (List.mem_cons_of_mem _ he)) hk2 (by simpa using hl) h.2
      refine ⟨(tC (kV (dkK kk)), tX X.K C e) :: trs, pps_cons pk (pe_x h1) h2, fun σ H Q ⟨r, S, ds, r', s, ev, q⟩ => ?_⟩
      simp only [evDs] at ev
      obtain ⟨⟨d, r1⟩, e1, ev⟩ := bind_ok ev
      obtain ⟨⟨ds', r2⟩, e2, ev⟩ := bind_ok ev
      cases ev
      show tX X.K C e σ H fun y H2 => tPairs trs σ H2 fun ps H3 => Q ((kV (dkK kk), y) :: ps) H3
      refine ⟨r, S, d, r1, s, e1, fun v H1 S1 g1 w1 => h3 _ _ _ ⟨r1, S1, ds', _, g1.sr, e2, fun vs H2 S2 g2 w2 => ?_⟩⟩
      exact q _ _ _ (g1.trans s g2) (.cons (g2.rp g1.sr w1) w2)
  | [], _ :: _, _, _, _, _, hl, _ => by cases hl
  | _ :: _, [], _, _, _, _, hl, _ => by cases hl
theorem dspKeys_all : ∀ {ks : List (Int ⊕ String)} {pks : List (Option Expr)}, dspKeys ks pks = true → ks.length = pks.length ∧ pks.all (·.isSome) = true
  | [], pks, h => by
    cases pks with
    | nil => exact ⟨rfl, rfl⟩
    | cons _ _ => simp only [dspKeys] at h; cases h
  | a :: ks, pks, h => by
    cases pks with
    | nil => cases a <;> (simp only [dspKeys] at h; cases h)
    | cons b pks =>
      have key : dspKeys ks pks = true ∧ b.isSome = true := by
        cases b with
        | none => cases a <;> (simp only [dspKeys] at h; cases h)
        | some b =>
          cases b with
          | Constant c k1 p1 =>
            cases a with
            | inl i =>
              cases c with
              | int j =>
                simp only [dspKeys, Bool.and_eq_true] at h
                exact ⟨h.2, rfl⟩
              | _ => simp only [dspKeys] at h; cases h
            | inr x =>
              cases c with
              | str y =>
                simp only [dspKeys, Bool.and_eq_true] at h
                exact ⟨h.2, rfl⟩
              | _ => simp only [dspKeys] at h; cases h
          | _ => cases a <;> (simp only [dspKeys] at h; cases h)
      obtain ⟨h1, h2⟩ := dspKeys_all key.1
      exact ⟨by simp [h1], by rw [List.all_cons, key.2, h2]; rfl⟩
theorem zipV_map : ∀ {ks : List (Int ⊕ String)} {vs : List V}, zipV ks vs = ((ks.map dkK).zip vs).map fun kv => (kV kv.1, kv.2)
  | [], _ => by simp [zipV]
  | _ :: _, [] => by simp [zipV]
  | k :: ks, v :: vs => by
    have ih := zipV_map (ks := ks) (vs := vs)
    simp [zipV, ih]
theorem rpk_zip {K : PySem.W.Frag} {H : Hp} {S : Addr → Prop} : ∀ {ks : List (Int ⊕ String)} {vs : List V} {ds : List D}, RpL K H S vs ds → RpK K H S ((ks.map dkK).zip vs) (zipK ks ds)
  | [], _, _, _ => .nil
  | k :: ks, [], _, h => by cases h; exact .nil
  | .inl i :: ks, v :: vs, _, h => by
    cases h with
    | cons h1 h2 => exact .consI h1 (rpk_zip h2)
  | .inr x :: ks, v :: vs, _, h => by
    cases h with
    | cons h1 h2 => exact .cons h1 (rpk_zip h2)
theorem putK_new {kvs : List (Key × V)} {k : Key} {v : V} (h : k ∉ kvs.map (·.1)) : putK kvs k v = kvs ++ [(k, v)] := by
  unfold putK
  rw [if_neg]
  intro z
  obtain ⟨p, hp, e⟩ := List.any_eq_true.mp z
  exact h (List.mem_map.mpr ⟨p, hp, of_decide_eq_true e⟩)
theorem mergeK_new : ∀ {more kvs : List (Key × V)}, ((kvs ++ more).map (·.1)).Nodup → mergeK kvs more = kvs ++ more
  | [], kvs, _ => by simp [mergeK]
  | p :: more, kvs, h => by
    have hn : p.1 ∉ kvs.map (·.1) := by
      rw [List.map_append, List.nodup_append] at h
      intro z
      exact h.2.2 _ z _ (by simp) rfl
    have e : mergeK kvs (p :: more) = mergeK (putK kvs p.1 p.2) more := rfl
    rw [e, putK_new hn, mergeK_new (by simpa using h)]
    simp
def ROL (K : PySem.W.Frag) (H0 : Hp) (σ : Slots) (r : Env) (S : Addr → Prop) (H : Hp) (vs : List V) (os : List Opd) : Prop := Paired (fun v o => RO K H0 σ r S H v o) vs os
theorem paired_map {α β : Type} {F G : α → β → Prop} {l : List α} {m : List β} (h : Paired F l m) (f : ∀ a b, F a b → G a b) : Paired G l m := Paired.mapP h f
def tOs (K : PySem.W.Frag) (C : Ctx) (es : List E) : TA := fun σ H Q => ∃ r S os r', SR K σ H r S ∧ evOs C es r = .ok (os, r') ∧ ∀ vs H' S', Go K σ r S H σ r' S' H' → ROL K H σ r' S' H' vs os → Q vs H'
theorem pa_os (G : GX X M C k) : ∀ (es : List E) (ps : List Expr), SndL C k es → mEs M es ps = true → PA X ps (tOs X.K C es)
  | [], [], _, _ => pa_imp pa_nil fun σ H Q ⟨r, S, ds, r', s, ev, q⟩ => by
    simp only [evOs] at ev
    cases ev
    exact q _ _ _ (.refl s) .nil
  | e :: es, p :: ps, ih, h => by
    simp only [mEs, Bool.and_eq_true] at h
    have h1 := (ih e List.mem_cons_self X M p G h.1.2).1
    have h2 := pa_os G es ps (fun e he => ih e (List.mem_cons_of_mem _ he)) h.2
    refine pa_imp (pa_cons (pe_opd G h.1.2 h1) h2 (star_cons h.1.1)) fun σ H Q ⟨r, S, ds, r', s, ev, q⟩ => ?_
    simp only [evOs] at ev
    obtain ⟨⟨d, r1⟩, e1, ev⟩ := bind_ok ev
    obtain ⟨⟨ds', r2⟩, e2, ev⟩ := bind_ok ev
    cases ev
    refine ⟨r, S, d, r1, s, e1, fun v H1 S1 g1 w1 => ⟨r1, S1, ds', _, g1.sr, e2, fun vs H2 S2 g2 w2 => ?_⟩⟩
    exact q _ _ _ (g1.trans s g2) (.cons (RO.go g1.sr g2 w1) (paired_map w2 fun a b z => z.older g1.dm))
  | [], _ :: _, _, h => by simp only [mEs] at h; cases h
  | _ :: _, [], _, h => by simp only [mEs] at h; cases h
/-- operands as data -/
theorem ROL.rb {K : PySem.W.Frag} {H0 H : Hp} {S : Addr → Prop} {σ : Slots} {r : Env} (s : SR K σ H r S) : ∀ {vs : List V} {os : List Opd} {ds : List D}, ROL K H0 σ r S H vs os → derefs r os = .ok ds → Paired (RB K S H) vs ds
  | _, [], ds, h, e => by cases h; simp only [derefs] at e; cases e; exact .nil
  | _, o :: os, ds, h, e => by
    simp only [derefs] at e
    obtain ⟨d, e1, e⟩ := bind_ok e
    obtain ⟨ds', e2, e⟩ := bind_ok e
    cases e
    cases h with
    | cons h1 h2 => exact .cons (RO.rb s h1 e1) (ROL.rb s h2 e2)
def RA (K : PySem.W.Frag) (σ : Slots) (S : Addr → Prop) (H : Hp) (v : V) : Arg → Prop
  | .io i => σ[i]? = some (some v)
  | .d d => Rp K H S v d
def tAs (K : PySem.W.Frag) (C : Ctx) (es : List E) (fs : List Bool) : TA := fun σ H Q => ∃ r S as r', SR K σ H r S ∧ evAs C es fs r = .ok (as, r') ∧ ∀ vs H' S', Go K σ r S H σ r' S' H' → Paired (RA K σ S' H') vs as → Q vs H'
theorem RA.go {K : PySem.W.Frag} {H H' : Hp} {S S' : Addr → Prop} {σ : Slots} {r r' : Env} {v : V} {a : Arg} (s : SR K σ H r S) (g : Go K σ r S H σ r' S' H') (h : RA K σ S H v a) : RA K σ S' H' v a := by
  cases a with
  | io i => exact h
  | d d => exact g.rp s h
theorem pe_slot (G : GX X M C k) {i : Nat} (h : mE M (.v i) p = true) : PE X p (tVar i) := by
  cases p with
  | Name x pos =>
    simp only [mE, Bool.and_eq_true] at h
    obtain ⟨h1, h2⟩ := name_of h.2
    exact pe_var (i := i) (by rw [G.hN]; exact of_decide_eq_true h.1.1) (vis_of G h.1.2) h1 h2
  | _ => simp only [mE] at h; cases h
theorem io_slot {K : PySem.W.Frag} {H : Hp} {S : Addr → Prop} {σ : Slots} {r : Env} (s : SR K σ H r S) : ∀ {as : List Arg} {vs : List Val} {i : Nat}, argVals r as = .ok vs → Arg.io i ∈ as → ∃ v, σ[i]? = some (some v)
  | a :: as, vs, i, e, h => by
    cases a with
    | d d =>
      simp only [argVals] at e
      obtain ⟨vs', e1, _⟩ := bind_ok e
      rcases List.mem_cons.mp h with z | z
      · cases z
      · exact io_slot s e1 z
    | io j =>
      simp only [argVals] at e
      have key : ∃ v, σ[j]? = some (some v) := by
        split at e
        · rename_i xs hx
          obtain ⟨v, e, _⟩ := s.lone j xs (.inl hx)
          exact ⟨v, e⟩
        · rename_i xs hx
          obtain ⟨v, e, _⟩ := s.lone j xs (.inr hx)
          exact ⟨v, e⟩
        · cases e
      rcases List.mem_cons.mp h with z | z
      · cases z; exact key
      · split at e
        · obtain ⟨vs', e1, _⟩ := bind_ok e
          exact io_slot s e1 z
        · obtain ⟨vs', e1, _⟩ := bind_ok e
          exact io_slot s e1 z
        · cases e
theorem asO_v {i : Nat} {r : Env} {o : Opd × Env} {f g : Env → Res (Val × Env)} (h : asO (.v i) f r = .ok o) : asO (.v i) g r = .ok (.ref i, r) := by
  simp only [asO] at h ⊢
  cases e : r[i]? with
  | none => rw [e] at h; cases h
  | some x =>
    rw [e] at h
    cases x <;> first | rfl | cases h
theorem pa_as (G : GX X M C k) : ∀ (es : List E) (fs : List Bool) (ps : List Expr), SndL C k es → mEs M es ps = true → PA X ps (tAs X.K C es fs)
  | [], fs, [], _, _ => pa_imp pa_nil fun σ H Q ⟨r, S, ds, r', s, ev, q⟩ => by
    cases fs with
    | nil =>
      simp only [evAs] at ev
      cases ev
      exact q _ _ _ (.refl s) .nil
    | cons _ _ => simp only [evAs] at ev; cases ev
  | e :: es, fs, p :: ps, ih, h => by
    simp only [mEs, Bool.and_eq_true] at h
    have h1 := (ih e List.mem_cons_self X M p G h.1.2).1
    have ih' : SndL C k es := fun e he => ih e (List.mem_cons_of_mem _ he)
    cases fs with
    | nil =>
      refine pa_imp (pa_cons h1 (pa_as G es [] ps ih' h.2) (star_cons h.1.1)) fun σ H Q ⟨r, S, ds, r', s, ev, q⟩ => ?_
      simp only [evAs] at ev; cases ev
    | cons f fs =>
      have h2 := pa_as G es fs ps ih' h.2
      cases f with
      | false =>
        refine pa_imp (pa_cons (pe_x h1) h2 (star_cons h.1.1)) fun σ H Q ⟨r, S, ds, r', s, ev, q⟩ => ?_
        simp only [evAs] at ev
        obtain ⟨⟨d, r1⟩, e1, ev⟩ := bind_ok ev
        obtain ⟨⟨ds', r2⟩, e2, ev⟩ := bind_ok ev
        cases ev
        refine ⟨r, S, d, r1, s, e1, fun v H1 S1 g1 w1 => ⟨r1, S1, ds', _, g1.sr, e2, fun vs H2 S2 g2 w2 => ?_⟩⟩
        exact q _ _ _ (g1.trans s g2) (.cons (show RA X.K σ S2 H2 v (.d d) from g2.rp g1.sr w1) w2)
      | true =>
        by_cases hv : ∃ i, e = .v i
        · obtain ⟨i, rfl⟩ := hv
          refine pa_imp (pa_cons (pe_opd G h.1.2 h1) h2 (star_cons h.1.1)) fun σ H Q ⟨r, S, ds, r', s, ev, q⟩ => ?_
          simp only [evAs] at ev
          obtain ⟨o, ho, ev⟩ := bind_ok ev
          obtain ⟨⟨ds', r2⟩, e2, ev⟩ := bind_ok ev
          cases ev
          refine ⟨r, S, .ref i, r, s, asO_v ho, fun v H1 S1 g1 w1 => ⟨r, S1, ds', _, g1.sr, e2, fun vs H2 S2 g2 w2 => ?_⟩⟩
          exact q _ _ _ (g1.trans s g2) (.cons (show RA X.K σ S2 H2 v (.io i) from w1) w2)
        · refine pa_imp (pa_cons h1 h2 (star_cons h.1.1)) fun σ H Q ⟨r, S, ds, r', s, ev, q⟩ => ?_
          cases e <;> first | exact absurd ⟨_, rfl⟩ hv | (simp only [evAs] at ev; cases ev)
  | [], _, _ :: _, _, h => by simp only [mEs] at h; cases h
  | _ :: _, _, [], _, h => by simp only [mEs] at h; cases h
end
end DL

set_option Elab.async false
set_option linter.all false
set_option maxRecDepth 100000
set_option maxHeartbeats 4000000
set_option autoImplicit false
/-! DL8: calls, targets, what is walked. -/
namespace DL
open PySem PySem.Spec PyProof.Rows L2

section
variable {K : PySem.W.Frag} {H H' : Hp} {S S' : Addr → Prop} {σ σ' : Slots} {r r' : Env}
/-! ### calls -/
theorem paired_get {α β : Type} {R : α → β → Prop} : ∀ {l : List α} {m : List β} {i : Nat} {b : β}, Paired R l m → m[i]? = some b → ∃ a, l[i]? = some a ∧ R a b
  | _, _, i, b, .nil, e => by simp at e
  | _, _, 0, b, .cons h _, e => by simp at e; subst e; exact ⟨_, rfl, h⟩
  | _, _, i + 1, b, .cons _ t, e => by
    obtain ⟨a, e1, h⟩ := paired_get (i := i) t (by simpa using e)
    exact ⟨a, by simpa using e1, h⟩
theorem args_get (s : SR K σ H r S) : ∀ {as : List Arg} {vals : List Val}, argVals r as = .ok vals → vals.length = as.length ∧ ∀ (m : Nat) (y : Val), vals[m]? = some y →
    (∃ d, as[m]? = some (.d d) ∧ y = .fz d) ∨ ∃ i xs, as[m]? = some (.io i) ∧ y = .io xs ∧ (r[i]? = some (.ow xs) ∨ r[i]? = some (.io xs))
  | [], vals, e => by
    simp only [argVals] at e
    cases e
    exact ⟨rfl, fun m y h => by simp at h⟩
  | .d d :: as, vals, e => by
    simp only [argVals] at e
    obtain ⟨vs, e1, e⟩ := bind_ok e
    cases e
    obtain ⟨h1, h2⟩ := args_get s e1
    refine ⟨by simp [h1], fun m y h => ?_⟩
    cases m with
    | zero => simp at h; subst h; exact .inl ⟨d, rfl, rfl⟩
    | succ m => simpa using h2 m y (by simpa using h)
  | .io i :: as, vals, e => by
    have key : ∃ xs vs, (r[i]? = some (.ow xs) ∨ r[i]? = some (.io xs)) ∧ argVals r as = .ok vs ∧ vals = .io xs :: vs := by
      simp only [argVals] at e
      split at e
      · rename_i xs hx
        obtain ⟨vs, e1, e⟩ := bind_ok e
        cases e
        exact ⟨xs, vs, .inl hx, e1, rfl⟩
      · rename_i xs hx
        obtain ⟨vs, e1, e⟩ := bind_ok e
        cases e
        exact ⟨xs, vs, .inr hx, e1, rfl⟩
      · cases e
    obtain ⟨xs, vs, hx, e1, rfl⟩ := key
    obtain ⟨h1, h2⟩ := args_get s e1
    refine ⟨by simp [h1], fun m y h => ?_⟩
    cases m with
    | zero => simp at h; subst h; exact .inr ⟨i, xs, rfl, rfl, hx⟩
    | succ m => simpa using h2 m y (by simpa using h)
theorem mem_ioIx : ∀ {as : List Arg} {i : Nat}, i ∈ ioIx as ↔ .io i ∈ as
  | [], i => by simp [ioIx]
  | .io j :: as, i => by simp [ioIx, mem_ioIx (as := as)]
  | .d d :: as, i => by simp [ioIx, mem_ioIx (as := as)]
theorem io_once : ∀ {as : List Arg} {i m n : Nat}, (ioIx as).Nodup → as[m]? = some (.io i) → as[n]? = some (.io i) → m = n
  | [], _, _, _, _, h, _ => by simp at h
  | a :: as, i, 0, 0, _, _, _ => rfl
  | a :: as, i, 0, n + 1, nd, h1, h2 => by
    simp at h1 h2
    subst h1
    simp only [ioIx, List.nodup_cons] at nd
    exact absurd (mem_ioIx.mpr (List.mem_of_getElem? h2)) nd.1
  | a :: as, i, m + 1, 0, nd, h1, h2 => by
    simp at h1 h2
    subst h2
    simp only [ioIx, List.nodup_cons] at nd
    exact absurd (mem_ioIx.mpr (List.mem_of_getElem? h1)) nd.1
  | a :: as, i, m + 1, n + 1, nd, h1, h2 => by
    have nd' : (ioIx as).Nodup := by
      cases a with
      | io j => simp only [ioIx, List.nodup_cons] at nd; exact nd.2
      | d _ => exact nd
    rw [io_once (as := as) (i := i) (m := m) (n := n) nd' (by simpa using h1) (by simpa using h2)]
/-- the slots behind a call -/
theorem setIos_get : ∀ {as : List Arg} {vals : List Val} {outs : List (List D)} {r0 r r' : Env}, (ioIx as).Nodup → (∀ i ∈ ioIx as, r[i]? = r0[i]?) → argVals r0 as = .ok vals → setIos (ioIx as) outs r = .ok r' →
    r'.length = r.length ∧ ∀ (j : Nat) (y : Val), r'[j]? = some y → (j ∉ ioIx as ∧ r[j]? = some y) ∨
      ∃ (m : Nat) (xs ys : List D), as[m]? = some (.io j) ∧ vals[m]? = some (.io xs) ∧ (outVals vals outs)[m]? = some (.io ys) ∧ ((r[j]? = some (.ow xs) ∧ y = .ow ys) ∨ (r[j]? = some (.io xs) ∧ y = .io ys))
  | [], vals, outs, r0, r, r', _, _, _, e => by
    cases outs with
    | nil =>
      simp only [ioIx, setIos] at e
      cases e
      exact ⟨rfl, fun j y h => .inl ⟨by simp [ioIx], h⟩⟩
    | cons _ _ => simp only [ioIx, setIos] at e; cases e
  | .d d :: as, vals, outs, r0, r, r', nd, ag, ea, e => by
    simp only [argVals] at ea
    obtain ⟨vs, e1, ea⟩ := bind_ok ea
    cases ea
    obtain ⟨h1, h2⟩ := setIos_get (as := as) nd ag e1 e
    refine ⟨h1, fun j y h => ?_⟩
    rcases h2 j y h with z | ⟨m, xs, ys, q1, q2, q3, q4⟩
    · exact .inl z
    · exact .inr ⟨m + 1, xs, ys, by simpa using q1, by simpa using q2, by simpa [outVals] using q3, q4⟩
  | .io i :: as, vals, outs, r0, r, r', nd, ag, ea, e => by
    have key : ∃ xs vs, (r0[i]? = some (.ow xs) ∨ r0[i]? = some (.io xs)) ∧ argVals r0 as = .ok vs ∧ vals = .io xs :: vs := by
      simp only [argVals] at ea
      split at ea
      · rename_i xs hx
        obtain ⟨vs, e1, e⟩ := bind_ok ea
        cases e
        exact ⟨xs, vs, .inl hx, e1, rfl⟩
      · rename_i xs hx
        obtain ⟨vs, e1, e⟩ := bind_ok ea
        cases e
        exact ⟨xs, vs, .inr hx, e1, rfl⟩
      · cases ea
    obtain ⟨xs, vs, hx, e1, rfl⟩ := key
    have nd2 : i ∉ ioIx as ∧ (ioIx as).Nodup := by simpa [ioIx] using nd
    have hi : r[i]? = r0[i]? := ag i (by simp [ioIx])
    cases outs with
    | nil => simp only [ioIx, setIos] at e; cases e
    | cons ys outs =>
      have key2 : ∃ z, ((r[i]? = some (.ow xs) ∧ z = .ow ys) ∨ (r[i]? = some (.io xs) ∧ z = .io ys)) ∧ setIos (ioIx as) outs (r.set i z) = .ok r' := by
        simp only [ioIx, setIos] at e
        rw [hi] at e ⊢
        rcases hx with hx | hx
        · rw [hx] at e ⊢
          exact ⟨_, .inl ⟨rfl, rfl⟩, e⟩
        · rw [hx] at e ⊢
          exact ⟨_, .inr ⟨rfl, rfl⟩, e⟩
      obtain ⟨z, hz, e⟩ := key2
      have hlt : i < r.length := by rcases hz with hz | hz <;> exact get_lt hz.1
      have ag2 : ∀ j ∈ ioIx as, (r.set i z)[j]? = r0[j]? := fun j hj => by
        rw [List.getElem?_set_ne (fun q => by subst q; exact nd2.1 hj)]
        exact ag j (by simp [ioIx, hj])
      obtain ⟨h1, h2⟩ := setIos_get (as := as) nd2.2 ag2 e1 e
      refine ⟨by rw [h1, List.length_set], fun j y h => ?_⟩
      rcases h2 j y h with ⟨nj, q⟩ | ⟨m, ws, us, q1, q2, q3, q4⟩
      · rcases get_set q with ⟨rfl, rfl⟩ | ⟨n, q⟩
        · exact .inr ⟨0, xs, ys, rfl, rfl, rfl, hz⟩
        · exact .inl ⟨by simp [ioIx, n, nj], q⟩
      · have n : j ≠ i := fun q => by
          subst q
          exact nd2.1 (mem_ioIx.mpr (List.mem_of_getElem? q1))
        rw [List.getElem?_set_ne (Ne.symm n)] at q4
        exact .inr ⟨m + 1, ws, us, by simpa using q1, by simpa using q2, by simpa [outVals] using q3, q4⟩
theorem argSt_get {vs : List V} {m : Nat} {v : V} : (argSt vs)[m]? = some (some v) ↔ vs[m]? = some v := by
  unfold argSt
  rw [List.getElem?_map]
  cases vs[m]? <;> simp
theorem args_sr {vs : List V} {as : List Arg} {vals : List Val} (s : SR K σ H r S) (p : Paired (RA K σ S H) vs as) (e : argVals r as = .ok vals) (nd : (ioIx as).Nodup) : SR K (argSt vs) H vals S := by
  obtain ⟨hl, hg⟩ := args_get s e
  have slot : ∀ (m i : Nat), as[m]? = some (.io i) → ∃ v, vs[m]? = some v ∧ σ[i]? = some (some v) := fun m i h => by
    obtain ⟨v, e1, q⟩ := paired_get p h
    exact ⟨v, e1, q⟩
  have own : ∀ (m : Nat) (xs : List D), (vals[m]? = some (.ow xs) ∨ vals[m]? = some (.io xs)) → ∃ i, as[m]? = some (.io i) ∧ (r[i]? = some (.ow xs) ∨ r[i]? = some (.io xs)) := fun m xs h => by
    rcases h with h | h
    · rcases hg m _ h with ⟨d, _, z⟩ | ⟨i, ys, h1, z, h2⟩ <;> cases z
    · rcases hg m _ h with ⟨d, _, z⟩ | ⟨i, ys, h1, z, h2⟩
      · cases z
      · cases z; exact ⟨i, h1, h2⟩
  have nod : ∀ (m : Nat) (kvs : List (Int × D)), vals[m]? ≠ some (.od kvs) := fun m kvs h => by
    rcases hg m _ h with ⟨d', h1, z⟩ | ⟨i, ys, h1, z, h2⟩ <;> cases z
  refine ⟨fun m d h => ?_, fun m xs h => ?_, fun m n xs ys a h1 h2 h3 h4 => ?_, s.wf, ?_, fun m kvs h => absurd h (nod m kvs), fun m n xs ys a h1 => absurd h1 (nod m xs)⟩
  · rcases hg m _ h with ⟨d', h1, z⟩ | ⟨i, ys, h1, z, h2⟩
    · cases z
      obtain ⟨v, e1, q⟩ := paired_get p h1
      exact ⟨v, argSt_get.mpr e1, q⟩
    · cases z
  · obtain ⟨i, h1, h2⟩ := own m xs h
    obtain ⟨v, e1, e2⟩ := slot m i h1
    obtain ⟨w, e3, q⟩ := s.lone i xs h2
    rw [e2] at e3
    cases e3
    exact ⟨v, argSt_get.mpr e1, q⟩
  · obtain ⟨i, g1, g2⟩ := own m xs h1
    obtain ⟨j, g3, g4⟩ := own n ys h2
    obtain ⟨v, e1, e2⟩ := slot m i g1
    obtain ⟨w, e3, e4⟩ := slot n j g3
    rw [argSt_get, e1] at h3
    rw [argSt_get, e3] at h4
    cases h3
    cases h4
    have := s.one i j xs ys a g2 g4 e2 e4
    subst this
    exact io_once nd g1 g3
  · unfold argSt
    rw [List.length_map, hl]
    exact (Paired.length p).symm
theorem call_go {vs : List V} {as : List Arg} {vals : List Val} {outs : List (List D)} {v : V} {x : Val} (s : SR K σ H r S) (p : Paired (RA K σ S H) vs as) (e : argVals r as = .ok vals) (nd : (ioIx as).Nodup)
    (e2 : setIos (ioIx as) outs r = .ok r') (f : Fin K vs vals S H (outVals vals outs) S' H' v x) : Go K σ r S H σ r' S' H' ∧ RN K H σ r' S' H' v x := by
  obtain ⟨hl, hg⟩ := args_get s e
  obtain ⟨hl2, hr⟩ := setIos_get nd (fun _ _ => rfl) e e2
  have slot : ∀ (m i : Nat), as[m]? = some (.io i) → ∃ v, vs[m]? = some v ∧ σ[i]? = some (some v) := fun m i h => by
    obtain ⟨v, e1, q⟩ := paired_get p h
    exact ⟨v, e1, q⟩
  -- what the call may change is owned here
  have sub : ∀ b, Own (argSt vs) vals b → ∃ (i : Nat), i ∈ ioIx as ∧ ∃ xs, (r[i]? = some (.ow xs) ∨ r[i]? = some (.io xs)) ∧ σ[i]? = some (some (.ref b)) := fun b q => by
    rcases q with ⟨m, xs, h1, h2⟩ | ⟨m, xs, h1, h2⟩
    rotate_left
    · rcases hg m _ h1 with ⟨d, _, z⟩ | ⟨i, ys, h1, z, h2⟩ <;> cases z
    have : ∃ i, as[m]? = some (.io i) ∧ (r[i]? = some (.ow xs) ∨ r[i]? = some (.io xs)) := by
      rcases h1 with h | h
      · rcases hg m _ h with ⟨d, _, z⟩ | ⟨i, ys, h1, z, h2⟩ <;> cases z
      · rcases hg m _ h with ⟨d, _, z⟩ | ⟨i, ys, h1, z, h2⟩
        · cases z
        · cases z; exact ⟨i, h1, h2⟩
    obtain ⟨i, g1, g2⟩ := this
    obtain ⟨w, e1, e3⟩ := slot m i g1
    rw [argSt_get, e1] at h2
    cases h2
    exact ⟨i, mem_ioIx.mpr (List.mem_of_getElem? g1), xs, g2, e3⟩
  have hk : ∀ b o, H b = some o → (S b ∨ ¬ Mt o) → H' b = some o := fun b o hb z => f.fr b o hb fun q => by
    obtain ⟨i, _, xs, g1, g2⟩ := sub b q
    obtain ⟨ws, h1, h2⟩ := OwnL.lst s ⟨i, xs, g1, g2⟩
    rcases z with z | z
    · exact h2 z
    · rw [h1] at hb; cases hb; exact z trivial
  have mono : ∀ {v d}, Rp K H S v d → Rp K H' S' v d := fun q => Rp.mono hk f.ss _ _ q
  have monoL : ∀ {v d}, RpL K H S v d → RpL K H' S' v d := fun q => RpL.mono hk f.ss _ _ q
  have low : ∀ (j : Nat) (ys : List D), (r'[j]? = some (.ow ys) ∨ r'[j]? = some (.io ys)) → (j ∉ ioIx as ∧ (r[j]? = some (.ow ys) ∨ r[j]? = some (.io ys))) ∨
      ∃ (m : Nat) (xs : List D), as[m]? = some (.io j) ∧ (outVals vals outs)[m]? = some (.io ys) ∧ (r[j]? = some (.ow xs) ∨ r[j]? = some (.io xs)) := fun j ys h => by
    rcases h with h | h
    · rcases hr j _ h with ⟨n, z⟩ | ⟨m, xs, zs, q1, q2, q3, q4⟩
      · exact .inl ⟨n, .inl z⟩
      · rcases q4 with ⟨q4, z⟩ | ⟨q4, z⟩
        · cases z; exact .inr ⟨m, xs, q1, q3, .inl q4⟩
        · cases z
    · rcases hr j _ h with ⟨n, z⟩ | ⟨m, xs, zs, q1, q2, q3, q4⟩
      · exact .inl ⟨n, .inr z⟩
      · rcases q4 with ⟨q4, z⟩ | ⟨q4, z⟩
        · cases z
        · cases z; exact .inr ⟨m, xs, q1, q3, .inr q4⟩
  have src : ∀ (j : Nat) (ys : List D), (r'[j]? = some (.ow ys) ∨ r'[j]? = some (.io ys)) → ∃ xs, r[j]? = some (.ow xs) ∨ r[j]? = some (.io xs) := fun j ys h => by
    rcases low j ys h with ⟨_, z⟩ | ⟨_, xs, _, _, z⟩
    · exact ⟨ys, z⟩
    · exact ⟨xs, z⟩
  have dlow : ∀ (j : Nat) (kvs : List (Int × D)), r'[j]? = some (.od kvs) → r[j]? = some (.od kvs) := fun j kvs h => by
    rcases hr j _ h with ⟨n, z⟩ | ⟨m, xs, zs, q1, q2, q3, q4⟩
    · exact z
    · rcases q4 with ⟨q4, z⟩ | ⟨q4, z⟩ <;> cases z
  have ow' : ∀ b, Own σ r' b → Own σ r b := fun b q => by
    rcases q with ⟨j, ys, h1, h2⟩ | ⟨j, ys, h1, h2⟩
    · obtain ⟨xs, z⟩ := src j ys h1
      exact .inl ⟨j, xs, z, h2⟩
    · exact .inr ⟨j, ys, dlow j ys h1, h2⟩
  have go : Go K σ r S H σ r' S' H' := by
    refine ⟨⟨fun j d hj => ?_, fun j ys hj => ?_, fun j k ys zs b h1 h2 h3 h4 => ?_, f.sr.wf, by rw [hl2]; exact s.len, fun j kvs hj => ?_, fun j k xs ys b h1 h2 => s.oned j k xs ys b (dlow j xs h1) (dlow k ys h2)⟩, fun b o e n => f.fr b o e fun q => ?_, f.dm, f.ss, fun b hb => (f.sg b hb).imp id .inl, fun b hb => .inl (ow' b hb), fun j y hj hy => ?_, fun _ _ _ => rfl, fun j xs hj => ⟨rfl, ?_⟩, hl2⟩
    · rcases hr j _ hj with ⟨n, z⟩ | ⟨m, xs, zs, q1, q2, q3, q4⟩
      · obtain ⟨w, e1, q⟩ := s.fz j d z
        exact ⟨w, e1, mono q⟩
      · rcases q4 with ⟨_, z⟩ | ⟨_, z⟩ <;> cases z
    · rcases low j ys hj with ⟨n, z⟩ | ⟨m, xs, q1, q2, q3⟩
      · obtain ⟨w, e1, a, ws, rfl, g1, g2, g3⟩ := s.lone j ys z
        refine ⟨_, e1, a, ws, rfl, f.fr a _ g1 fun q => ?_, fun q => ?_, monoL g3⟩
        · obtain ⟨i, hi, us, h1, h2⟩ := sub a q
          have := s.one i j us ys a h1 z h2 e1
          subst this
          exact n hi
        · rcases f.sg a q with q | q
          · exact g2 q
          · rw [g1] at q; cases q
      · obtain ⟨w, e1, e3⟩ := slot m j q1
        obtain ⟨u, e4, q⟩ := f.sr.lone m ys (.inr q2)
        rw [argSt_get, e1] at e4
        cases e4
        exact ⟨w, e3, q⟩
    · obtain ⟨z1, q1⟩ := src j ys h1
      obtain ⟨z2, q2⟩ := src k zs h2
      exact s.one j k z1 z2 b q1 q2 h3 h4
    · obtain ⟨w, e1, a, ws, rfl, g1, g2, g3⟩ := s.dic j kvs (dlow j kvs hj)
      refine ⟨_, e1, a, ws, rfl, f.fr a _ g1 fun q => ?_, fun q => ?_, RpI.mono hk f.ss g3⟩
      · obtain ⟨i, hi, us, h1, h2⟩ := sub a q
        obtain ⟨vs', h3, _⟩ := OwnL.lst s ⟨i, us, h1, h2⟩
        rw [g1] at h3; cases h3
      · rcases f.sg a q with q | q
        · exact g2 q
        · rw [g1] at q; cases q
    · obtain ⟨i, _, xs, g1, g2⟩ := sub b q
      exact n (.inl ⟨i, xs, g1, g2⟩)
    · cases e3 : r'[j]? with
      | none =>
        have := get_lt hj
        rw [List.getElem?_eq_none_iff] at e3
        omega
      | some w =>
        refine ⟨w, rfl, fun z => ?_⟩
        subst z
        rcases hr j _ e3 with ⟨_, z⟩ | ⟨m, xs, zs, q1, q2, q3, q4⟩
        · rw [hj] at z; cases z; exact hy rfl
        · rcases q4 with ⟨_, z⟩ | ⟨_, z⟩ <;> cases z
    · cases e3 : r'[j]? with
      | none =>
        have := get_lt hj
        rw [List.getElem?_eq_none_iff] at e3
        omega
      | some w =>
        rcases hr j _ e3 with ⟨_, z⟩ | ⟨m, us, zs, q1, q2, q3, q4⟩
        · rw [hj] at z; cases z; exact ⟨xs, rfl⟩
        · rcases q4 with ⟨q4, z⟩ | ⟨q4, z⟩
          · rw [hj] at q4; cases q4
          · exact ⟨zs, by rw [z]⟩
  refine ⟨go, ?_⟩
  have rf := f.rn
  cases x with
  | fz _ => exact rf
  | ow xs =>
    obtain ⟨a, ws, e1, h1, h2, h3, h4⟩ := rf
    refine ⟨a, ws, e1, h1, h2, h3, fun z => ?_, h4⟩
    obtain ⟨us, g1, _⟩ := (ow' a z).mt s
    rw [h1] at g1; cases g1
  | em => exact rf
  | io _ => exact rf
  | od _ => exact rf
  | un => exact rf
end

section
variable {X : Cx} {M : Mat} {C : Ctx} {k : Nat}
theorem as_len : ∀ {es : List E} {fs : List Bool} {r r' : Env} {as : List Arg}, evAs C es fs r = .ok (as, r') → as.length = fs.length
  | [], [], r, r', as, h => by simp only [evAs] at h; cases h; rfl
  | [], _ :: _, r, r', as, h => by simp only [evAs] at h; cases h
  | _ :: _, [], r, r', as, h => by simp only [evAs] at h; cases h
  | e :: es, false :: fs, r, r', as, h => by
    simp only [evAs] at h
    obtain ⟨⟨d, r1⟩, e1, h⟩ := bind_ok h
    obtain ⟨⟨ds, r2⟩, e2, h⟩ := bind_ok h
    cases h
    simp [as_len e2]
  | e :: es, true :: fs, r, r', as, h => by
    cases e <;> simp only [evAs] at h <;> first
      | (cases h; done)
      | (obtain ⟨o, ho, h⟩ := bind_ok h
         obtain ⟨⟨ds, r2⟩, e2, h⟩ := bind_ok h
         cases h
         simp [as_len e2])
/-- from the meaning of the call to what the def is asked -/
theorem call_imp {X : Cx} {C : Ctx} {σ : Slots} {H : Hp} {Q : VK} {E : XK} {r r1 r' : Env} {S S1 : Addr → Prop} {H1 : Hp} {f : Nat} {as : List Arg} {x : Val} {vs : List V} {n : Nat} (s : SR X.K σ H r S) (g1 : Go X.K σ r S H σ r1 S1 H1) (w1 : Paired (RA X.K σ S1 H1) vs as) (hn : as.length = n)
    (ev : doCall C f as r1 = .ok (x, r')) (q : KE X.K σ r S H x r' Q) : spF X.K X.mg C.xc n (C.call f) vs H1 Q E := by
  simp only [doCall] at ev
  split at ev
  · rename_i nd
    obtain ⟨vals, e2, ev⟩ := bind_ok ev
    obtain ⟨⟨y, outs⟩, e3, ev⟩ := bind_ok ev
    obtain ⟨r2, e4, ev⟩ := bind_ok ev
    cases ev
    refine ⟨?_, S1, vals, args_sr g1.sr w1 e2 nd, fun y hy => ?_, .inl ⟨_, outs, e3, fun v H' S' fin => ?_⟩⟩
    · rw [Paired.length w1, hn]
    · obtain ⟨m, hm⟩ := List.mem_iff_getElem?.mp hy
      rcases (args_get g1.sr e2).2 m y hm with ⟨d, _, z⟩ | ⟨i, xs, _, z, _⟩
      · exact .inl ⟨d, z⟩
      · exact .inr ⟨xs, z⟩
    · obtain ⟨g2, w2⟩ := call_go g1.sr w1 e2 nd e4 fin
      exact q v H' S' (g1.trans s g2) (w2.older g1.dm)
  · cases ev
theorem no_call {X : Cx} {C : Ctx} {f : Nat} {es : List E} {p : Expr} (hf : ∀ vs, C.call f vs = .no) : PE X p (tE X.K C (.call f es)) := by
  refine ⟨fun pins s σ H Q I ⟨r, S, x, r', sr, ev, q⟩ => ?_⟩
  simp only [evE] at ev
  obtain ⟨⟨as, r1⟩, e1, ev⟩ := bind_ok ev
  simp only [doCall] at ev
  split at ev
  · obtain ⟨vals, e2, ev⟩ := bind_ok ev
    obtain ⟨⟨y, outs⟩, e3, ev⟩ := bind_ok ev
    rw [hf] at e3
    cases e3
  · cases ev
theorem nostar_all : ∀ {es : List E} {ps : List Expr} {pos : Pos} {env : PySem.Env}, mEs M es ps = true → (backTo pos (starEach ps env)).any (·.1) = false
  | [], [], _, _, _ => rfl
  | [], _ :: _, _, _, h => by simp only [mEs] at h; cases h
  | _ :: _, [], _, _, h => by simp only [mEs] at h; cases h
  | e :: es, p :: ps, pos, env, h => by
    simp only [mEs, Bool.and_eq_true] at h
    rw [star_cons h.1.1]
    have := nostar_all (pos := pos) (env := env) h.2
    unfold backTo at this ⊢
    rw [List.map_cons, List.any_cons, this]
    rfl
theorem snd_call0 (G : GX X M C k) {f : Nat} {es : List E} {x : Str} {pp pos : Pos} {ps : List Expr} (ih : SndL C k es) (h1 : glB M.sc x (M.fname f) = true) (h2 : nameOk x = true) (hk : M.kwd f = none) (h3 : mEs M es ps = true) :
    PE X (.Call (.Name x pp) ps [] pos) (tE X.K C (.call f es)) := by
  obtain ⟨hg, hx⟩ := gl_of G h1
  rcases G.fns f with hf | hf
  rotate_left
  · exact no_call hf
  obtain ⟨a, fd, pars, m, kp, b, hn, F⟩ := hf.it
  rw [hk] at b
  rw [← hx] at m
  have imp : ∀ σ H Q, tE X.K C (.call f es) σ H Q → tCall (spF X.K X.mg C.xc pars.length (C.call f)) [] E0 (tAs X.K C es (C.ios f)) σ H Q := fun σ H Q ⟨r, S, x, r', s, ev, q⟩ => by
    simp only [evE] at ev
    obtain ⟨⟨as, r1⟩, e1, ev⟩ := bind_ok ev
    refine ⟨r, S, as, r1, s, e1, fun vs H1 S1 g1 w1 => ?_⟩
    show spF X.K X.mg C.xc pars.length (C.call f) (vs ++ []) H1 Q E0
    rw [List.append_nil]
    exact call_imp s g1 w1 (by rw [as_len e1, hn]) ev q
  cases es with
  | nil =>
    cases ps with
    | nil =>
      refine pe_imp (pe_call0 F G.room hg m kp b .nil passL (name_of h2).1) fun σ H Q h => ?_
      have h := imp σ H Q h
      obtain ⟨r, S, as, r', s, ev, q⟩ := h
      cases hf : C.ios f with
      | nil =>
        rw [hf] at ev
        simp only [evAs] at ev
        cases ev
        exact q [] H S (.refl s) .nil
      | cons _ _ => rw [hf] at ev; simp only [evAs] at ev; cases ev
    | cons _ _ => simp only [mEs] at h3; cases h3
  | cons e es =>
    cases ps with
    | nil => simp only [mEs] at h3; cases h3
    | cons p ps =>
      have pa := pa_as G (e :: es) (C.ios f) (p :: ps) ih h3
      have nst : notStar p = true ∧ (backTo pos (starEach ps X.env)).any (·.1) = false := by
        simp only [mEs, Bool.and_eq_true] at h3
        exact ⟨h3.1.1, nostar_all h3.2⟩
      exact pe_imp (pe_call F G.room hg m kp b .nil passL pa (name_of h2).1 (star_cons nst.1) nst.2) imp
/-! ### the last argument by its default or by name -/
theorem mEk_split {l : Int ⊕ Expr} : ∀ {es : List E} {ps : List Expr}, mEk M l es ps = true → ∃ es0 e, es = es0 ++ [e] ∧ mEs M es0 ps = true ∧ (match l with | .inl i => e = .int i | .inr q => mE M e q = true)
  | [], _, h => by simp only [mEk] at h; cases h
  | [e], [], h => by
    refine ⟨[], e, rfl, by simp only [mEs], ?_⟩
    cases l with
    | inl i =>
      simp only [mEk] at h
      cases e <;> simp only [isInt] at h <;> first | (cases h; done) | (rw [of_decide_eq_true h])
    | inr q => simpa only [mEk] using h
  | e :: es, p :: ps, h => by
    have h' : notStar p = true ∧ mE M e p = true ∧ mEk M l es ps = true := by
      cases es with
      | nil => simp only [mEk, Bool.and_eq_true] at h; exact ⟨h.1.1, h.1.2, by simpa only [mEk] using h.2⟩
      | cons _ _ => simp only [mEk, Bool.and_eq_true] at h; exact ⟨h.1.1, h.1.2, by simpa only [mEk] using h.2⟩
    obtain ⟨es0, e1, rfl, h1, h2⟩ := mEk_split h'.2.2
    exact ⟨e :: es0, e1, rfl, by simp only [mEs, Bool.and_eq_true]; exact ⟨⟨h'.1, h'.2.1⟩, h1⟩, h2⟩
  | _ :: _ :: _, [], h => by simp only [mEk] at h; cases h
theorem evAs_d {e : E} {es : List E} {fs : List Bool} {r : Env} : evAs C (e :: es) (false :: fs) r = (do
    let (d, r1) ← fixed (evE C e r)
    let (as, r2) ← evAs C es fs r1
    .ok (.d d :: as, r2)) := by cases e <;> simp only [evAs]
theorem evAs_snoc : ∀ {es0 : List E} {fs0 : List Bool} {e : E} {r r' : Env} {as : List Arg}, evAs C (es0 ++ [e]) (fs0 ++ [false]) r = .ok (as, r') →
    ∃ as0 r1 d, evAs C es0 fs0 r = .ok (as0, r1) ∧ fixed (evE C e r1) = .ok (d, r') ∧ as = as0 ++ [.d d]
  | [], [], e, r, r', as, h => by
    rw [List.nil_append, List.nil_append, evAs_d] at h
    obtain ⟨⟨d, r1⟩, e1, h⟩ := bind_ok h
    obtain ⟨⟨as1, r2⟩, e2, h⟩ := bind_ok h
    simp only [evAs] at e2
    cases e2
    cases h
    exact ⟨[], r, d, by simp only [evAs], e1, rfl⟩
  | [], f :: fs0, e, r, r', as, h => by
    exfalso
    have : ∀ r1, evAs C [] (fs0 ++ [false]) r1 = .no := fun r1 => by cases fs0 <;> simp only [List.nil_append, List.cons_append, evAs]
    rw [List.nil_append, List.cons_append] at h
    cases f with
    | false =>
      rw [evAs_d] at h
      obtain ⟨⟨d, r1⟩, e1, h⟩ := bind_ok h
      obtain ⟨⟨as1, r2⟩, e2, h⟩ := bind_ok h
      rw [this] at e2
      cases e2
    | true =>
      cases e <;> simp only [evAs] at h <;> first
        | (cases h; done)
        | (obtain ⟨o, ho, h⟩ := bind_ok h
           obtain ⟨⟨ds, r2⟩, e2, h⟩ := bind_ok h
           rw [this] at e2
           cases e2)
  | e0 :: es0, [], e, r, r', as, h => by
    exfalso
    rw [List.nil_append, List.cons_append, evAs_d] at h
    obtain ⟨⟨d, r1⟩, e1, h⟩ := bind_ok h
    obtain ⟨⟨as1, r2⟩, e2, h⟩ := bind_ok h
    cases es0 <;> (simp only [List.nil_append, List.cons_append, evAs] at e2; cases e2)
  | e0 :: es0, f :: fs0, e, r, r', as, h => by
    rw [List.cons_append, List.cons_append] at h
    cases f with
    | false =>
      rw [evAs_d] at h
      obtain ⟨⟨d, r1⟩, e1, h⟩ := bind_ok h
      obtain ⟨⟨as1, r2⟩, e2, h⟩ := bind_ok h
      cases h
      obtain ⟨as0, r3, d2, q1, q2, rfl⟩ := evAs_snoc e2
      refine ⟨.d d :: as0, r3, d2, ?_, q2, rfl⟩
      rw [evAs_d, e1]
      simp only [ok_bind]
      rw [q1]
      rfl
    | true =>
      cases e0 <;> simp only [evAs] at h <;> first
        | (cases h; done)
        | (obtain ⟨o, ho, h⟩ := bind_ok h
           obtain ⟨⟨as1, r2⟩, e2, h⟩ := bind_ok h
           cases h
           obtain ⟨as0, r3, d2, q1, q2, rfl⟩ := evAs_snoc e2
           refine ⟨.io _ :: as0, r3, d2, ?_, q2, rfl⟩
           simp only [evAs]
           rw [ho]
           simp only [ok_bind]
           rw [q1]
           rfl)
theorem getLast_snoc {fs : List Bool} (h : fs.getLast? = some false) : ∃ fs0, fs = fs0 ++ [false] := by
  have := List.getLast?_eq_some_iff.mp h
  obtain ⟨ys, e⟩ := this
  exact ⟨ys, e⟩
theorem snd_callK (G : GX X M C k) {f : Nat} {es : List E} {x y : Str} {i : Int} {pp pos : Pos} {p : Expr} {ps : List Expr} {kws : List Keyword} (ih : SndL C k es) (h1 : glB M.sc x (M.fname f) = true) (h2 : nameOk x = true) (hk : M.kwd f = some (y, i))
    (h3 : (match kws with
      | [] => mEk M (.inl i) es (p :: ps)
      | k :: ks => (match kwShape (k :: ks) with
        | some (z, q) => decide (z = y) && mEk M (.inr q) es (p :: ps)
        | none => false)) = true) :
    PE X (.Call (.Name x pp) (p :: ps) kws pos) (tE X.K C (.call f es)) := by
  obtain ⟨hg, hx⟩ := gl_of G h1
  rcases G.fns f with hf | hf
  rotate_left
  · exact no_call hf
  obtain ⟨a, fd, pars, m, kp, b, hn, F⟩ := hf.it
  rw [hk] at b
  rw [← hx] at m
  obtain ⟨⟨ds, rd, b1⟩, b2, b3⟩ := b
  obtain ⟨fs0, hfs⟩ := getLast_snoc b3
  cases kws with
  | nil =>
    obtain ⟨es0, e, rfl, h4, rfl⟩ := mEk_split (l := .inl i) h3
    have ih0 : SndL C k es0 := fun e he => ih e (List.mem_append_left _ he)
    cases es0 with
    | nil => simp only [mEs] at h4; cases h4
    | cons e0 es0 =>
      have nst : notStar p = true ∧ (backTo pos (starEach ps X.env)).any (·.1) = false := by
        simp only [mEs, Bool.and_eq_true] at h4
        exact ⟨h4.1.1, nostar_all h4.2⟩
      refine pe_imp (pe_call F G.room hg m kp b1 rd passL (pa_as G (e0 :: es0) fs0 (p :: ps) ih0 h4) (name_of h2).1 (star_cons nst.1) nst.2) fun σ H Q ⟨r, S, x, r', s, ev, q⟩ => ?_
      simp only [evE] at ev
      obtain ⟨⟨as, r1⟩, e1, ev⟩ := bind_ok ev
      have hl := as_len e1
      rw [hfs] at e1
      obtain ⟨as0, r3, d, q1, q2, rfl⟩ := evAs_snoc e1
      have hd : d = .int i ∧ r3 = r1 := by
        simp only [evE, fixed, ok_bind, Val.fix] at q2
        cases q2
        exact ⟨rfl, rfl⟩
      obtain ⟨rfl, rfl⟩ := hd
      refine ⟨r, S, as0, r3, s, q1, fun vs H1 S1 g1 w1 => ?_⟩
      exact call_imp (vs := vs ++ [V.int i]) s g1 (w1.snoc (show RA X.K σ S1 H1 (.int i) (.d (.int i)) from .int i)) (by rw [hl, hn]) ev q
  | cons kw ks =>
    dsimp only at h3
    split at h3
    rotate_left
    · cases h3
    rename_i z q0 hs
    obtain ⟨kpos, hkw⟩ := kwShape_some hs
    rw [Bool.and_eq_true] at h3
    obtain rfl := of_decide_eq_true h3.1
    obtain ⟨es0, e, rfl, h4, h5⟩ := mEk_split (l := .inr q0) h3.2
    have ih0 : SndL C k es0 := fun e he => ih e (List.mem_append_left _ he)
    have ie := ih e (List.mem_append_right _ (List.mem_singleton.mpr rfl)) X M q0 G h5
    rw [hkw]
    cases es0 with
    | nil => simp only [mEs] at h4; cases h4
    | cons e0 es0 =>
      have nst : notStar p = true ∧ (backTo pos (starEach ps X.env)).any (·.1) = false := by
        simp only [mEs, Bool.and_eq_true] at h4
        exact ⟨h4.1.1, nostar_all h4.2⟩
      have npl : ((backTo pos (starEach (p :: ps) X.env)).any (·.1) || (backToKw pos (keywordEach [⟨some z, q0, kpos⟩] X.env)).any (·.1.isNone)) = false := by
        rw [nostar_all h4]
        rfl
      refine pe_imp (pe_callN F G.room hg m kp b2 passL (pa_as G (e0 :: es0) fs0 (p :: ps) ih0 h4) (pk_cons (nm := some z) (kpos := kpos) (pe_x ie.1) pk_nil) rfl rfl (name_of h2).1 (star_cons nst.1) npl) fun σ H Q ⟨r, S, x, r', s, ev, q⟩ => ?_
      simp only [evE] at ev
      obtain ⟨⟨as, r1⟩, e1, ev⟩ := bind_ok ev
      have hl := as_len e1
      rw [hfs] at e1
      obtain ⟨as0, r3, d, q1, q2, rfl⟩ := evAs_snoc e1
      refine ⟨r, S, as0, r3, s, q1, fun vs H1 S1 g1 w1 => ⟨r3, S1, d, r1, g1.sr, q2, fun v H2 S2 g2 w2 => ?_⟩⟩
      have wall : Paired (RA X.K σ S2 H2) (vs ++ [v]) (as0 ++ [.d d]) := (Paired.mapP w1 fun a b z => RA.go g1.sr g2 z).snoc (show RA X.K σ S2 H2 v (.d d) from w2)
      refine ⟨?_, rfl, call_imp (vs := vs ++ [v]) s (g1.trans s g2) wall (by rw [hl, hn]) ev q⟩
      have := Paired.length w1
      have h6 := as_len q1
      rw [hn, hfs, List.length_append] at *
      simp at *
      omega
theorem snd_call (G : GX X M C k) {f : Nat} {es : List E} {x : Str} {pp pos : Pos} {ps : List Expr} {kws : List Keyword} (ih : SndL C k es) (h : mE M (.call f es) (.Call (.Name x pp) ps kws pos) = true) :
    PE X (.Call (.Name x pp) ps kws pos) (tE X.K C (.call f es)) := by
  simp only [mE, Bool.and_eq_true] at h
  obtain ⟨⟨h1, h2⟩, h⟩ := h
  split at h
  · rename_i hk
    rw [Bool.and_eq_true] at h
    cases kws with
    | nil => exact snd_call0 G ih h1 h2 hk h.2
    | cons _ _ => exact absurd h.1 (by simp)
  · rename_i y i hk
    rw [Bool.and_eq_true] at h
    cases ps with
    | nil => exact absurd h.1 (by decide)
    | cons p ps =>
      refine snd_callK G ih h1 h2 hk ?_
      cases kws with
      | nil => exact h.2
      | cons kw ks =>
        have h2 := h.2
        dsimp only at h2 ⊢
        cases hs : kwShape (kw :: ks) with
        | none => rw [hs] at h2; cases h2
        | some zq => rw [hs] at h2; exact h2
theorem rb_all {K : PySem.W.Frag} {H : Hp} {S : Addr → Prop} {v : V} {d : D} (h : RB K S H v d) : Rp K H (fun b => S b ∨ ∃ ws, H b = some (.lst ws)) v d := by
  have ss : ∀ b, S b → S b ∨ ∃ ws, H b = some (.lst ws) := fun b hb => .inl hb
  rcases h with h | ⟨a, vs, xs, rfl, rfl, h1, h2⟩
  · exact Rp.mono (fun _ _ h _ => h) ss _ _ h
  · exact .lst (.inr ⟨vs, h1⟩) (.inl h1) (RpL.mono (fun _ _ h _ => h) ss _ _ h2)
theorem fz_get {ds : List D} {i : Nat} {x : Val} (h : (ds.map Val.fz)[i]? = some x) : ∃ d, ds[i]? = some d ∧ x = .fz d := by
  rw [List.getElem?_map] at h
  cases e : ds[i]? with
  | none => rw [e] at h; cases h
  | some d => rw [e] at h; cases h; exact ⟨d, rfl, rfl⟩
theorem lent_sr {K : PySem.W.Frag} {H : Hp} {S : Addr → Prop} {vs : List V} {ds : List D} (w : ∀ b, S b → H b ≠ none) (p : Paired (RB K S H) vs ds) : SR K (argSt vs) H (ds.map Val.fz) (fun b => S b ∨ ∃ ws, H b = some (.lst ws)) := by
  refine ⟨fun i d h => ?_, fun i xs h => ?_, fun i j xs ys a h1 _ _ _ => ?_, fun b hb => ?_, ?_, fun i kvs h => ?_, fun i j xs ys a h1 _ _ _ => ?_⟩
  · obtain ⟨d', h1, z⟩ := fz_get h
    cases z
    obtain ⟨v, e, q⟩ := paired_get p h1
    exact ⟨v, argSt_get.mpr e, rb_all q⟩
  · exfalso
    rcases h with h | h <;> (obtain ⟨d, _, z⟩ := fz_get h; cases z)
  · exfalso
    rcases h1 with h | h <;> (obtain ⟨d, _, z⟩ := fz_get h; cases z)
  · rcases hb with hb | ⟨ws, hb⟩
    · exact w b hb
    · rw [hb]; intro z; cases z
  · unfold argSt
    rw [List.length_map, List.length_map]
    exact (Paired.length p).symm
  · exfalso
    obtain ⟨d, _, z⟩ := fz_get h; cases z
  · exfalso
    obtain ⟨d, _, z⟩ := fz_get h1; cases z
theorem rp_flat {K : PySem.W.Frag} {H H' : Hp} {S S' : Addr → Prop} {v : V} {d : D} (h : Rp K H S v d) (f : flat d = true) : Rp K H' S' v d := by
  cases d <;> first
    | (cases f; done)
    | (cases h; first | exact .non | exact .bl _ | exact .int _ | exact .str _)
theorem snd_callB (G : GX X M C k) {f : Nat} {es : List E} {x : Str} {pp pos : Pos} {ps : List Expr} (ih : SndL C k es) (hk : M.kwd f = none) (h1 : glB M.sc x (M.fname f) = true) (h2 : nameOk x = true) (h3 : mEs M es ps = true) (ne : ps ≠ []) :
    PE X (.Call (.Name x pp) ps [] pos) (tE X.K C (.callB f es)) := by
  obtain ⟨hg, hx⟩ := gl_of G h1
  rcases G.fns f with hf | hf
  rotate_left
  · refine ⟨fun pins s σ H Q I ⟨r, S, x, r', sr, ev, q⟩ => ?_⟩
    simp only [evE] at ev
    obtain ⟨⟨as, r1⟩, e1, ev⟩ := bind_ok ev
    obtain ⟨ds, e2, ev⟩ := bind_ok ev
    obtain ⟨d, e3, ev⟩ := bind_ok ev
    unfold lentD at e3
    split at e3
    · obtain ⟨⟨y, outs⟩, e4, e3⟩ := bind_ok e3
      rw [hf] at e4
      cases e4
    · cases e3
  obtain ⟨a, fd, pars, m, kp, b, hn, F⟩ := hf.it
  rw [hk] at b
  rw [← hx] at m
  have imp : ∀ σ H Q, tE X.K C (.callB f es) σ H Q → tCall (spF X.K X.mg C.xc pars.length (C.call f)) [] E0 (tOs X.K C es) σ H Q := fun σ H Q ⟨r, S, x, r', s, ev, q⟩ => by
    simp only [evE] at ev
    obtain ⟨⟨os, r1⟩, e1, ev⟩ := bind_ok ev
    obtain ⟨ds, e2, ev⟩ := bind_ok ev
    obtain ⟨d, e3, ev⟩ := bind_ok ev
    cases ev
    unfold lentD at e3
    split at e3
    · rename_i hc
      rw [Bool.and_eq_true, decide_eq_true_eq] at hc
      obtain ⟨⟨y, outs⟩, e4, e3⟩ := bind_ok e3
      refine ⟨r, S, os, r1, s, e1, fun vs H1 S1 g1 w1 => ?_⟩
      have rb := ROL.rb g1.sr w1 e2
      show spF X.K X.mg C.xc pars.length (C.call f) (vs ++ []) H1 Q E0
      rw [List.append_nil]
      cases y with
      | fz d' =>
        dsimp only at e3
        split at e3
        · rename_i hfl
          cases e3
          refine ⟨?_, _, ds.map Val.fz, lent_sr g1.sr.wf rb, fun z hz => ?_, .inl ⟨_, outs, e4, fun v H' S' fin => ?_⟩⟩
          · rw [Paired.length rb, ← hc.2, hn]
          · obtain ⟨d2, _, rfl⟩ := List.mem_map.mp hz
            exact .inl ⟨d2, rfl⟩
          · have fr : ∀ b o, H1 b = some o → H' b = some o := fun b o hb => fin.fr b o hb fun q => by
              rcases q with ⟨i, xs, z, _⟩ | ⟨i, xs, z, _⟩
              · rcases z with z | z <;> (obtain ⟨_, _, z⟩ := fz_get z; cases z)
              · obtain ⟨_, _, z⟩ := fz_get z; cases z
            exact q.fin s g1 (S' := S1) ⟨fr, fun _ h => h, fun _ h => .inl h, fun b hb => by
              have := g1.sr.wf b hb
              cases e : H1 b with
              | none => exact absurd e this
              | some o => rw [fr b o e]; intro z; cases z⟩ (rp_flat (show Rp X.K H' S' v d from fin.rn) hfl)
        · cases e3
      | _ => cases e3
    · cases e3
  cases es with
  | nil =>
    cases ps with
    | nil => exact absurd rfl ne
    | cons _ _ => simp only [mEs] at h3; cases h3
  | cons e es =>
    cases ps with
    | nil => simp only [mEs] at h3; cases h3
    | cons p ps =>
      have pa := pa_os G (e :: es) (p :: ps) ih h3
      have nst : notStar p = true ∧ (backTo pos (starEach ps X.env)).any (·.1) = false := by
        have all : ∀ (es : List E) (ps : List Expr), mEs M es ps = true → (backTo pos (starEach ps X.env)).any (·.1) = false := by
          intro es
          induction es with
          | nil =>
            intro ps h
            cases ps with
            | nil => rfl
            | cons _ _ => simp only [mEs] at h; cases h
          | cons e es ih =>
            intro ps h
            cases ps with
            | nil => simp only [mEs] at h; cases h
            | cons p ps =>
              simp only [mEs, Bool.and_eq_true] at h
              rw [star_cons h.1.1]
              have := ih ps h.2
              unfold backTo at this ⊢
              rw [List.map_cons, List.any_cons, this]
              rfl
        simp only [mEs, Bool.and_eq_true] at h3
        exact ⟨h3.1.1, all es ps h3.2⟩
      exact pe_imp (pe_call F G.room hg m kp b .nil passL pa (name_of h2).1 (star_cons nst.1) nst.2) imp
end
end DL

set_option Elab.async false
set_option linter.all false
set_option maxRecDepth 100000
set_option maxHeartbeats 4000000
set_option autoImplicit false
/-! DL9: targets, what is walked, comprehensions. -/
namespace DL
open PySem PySem.Spec PyProof.Rows L2

/-! ### targets -/
def gB (K : PySem.W.Frag) (t : Tgt) : TG := fun v σ H Q => ∃ r S d r', SR K σ H r S ∧ Rp K H S v d ∧ bindT t d r = .ok r' ∧
  ∀ σ', Go K σ r S H σ' r' S H → (∀ j, j ∉ t.slots → σ'[j]? = σ[j]?) → Q σ' H
def gBs (K : PySem.W.Frag) (ts : List Tgt) : TGs := fun vs σ H Q => ∃ r S ds r', SR K σ H r S ∧ RpL K H S vs ds ∧ bindTs ts ds r = .ok r' ∧
  ∀ σ', Go K σ r S H σ' r' S H → (∀ j, j ∉ slotsL ts → σ'[j]? = σ[j]?) → Q σ' H
section
variable {X : Cx} {M : Mat} {C : Ctx} {k : Nat}
theorem put_ok {i : Nat} {x : Val} {r r' : Env} (h : put i x r = .ok r') : r' = r.set i x ∧ ∃ y, r[i]? = some y ∧ ∀ xs, y ≠ .io xs := by
  unfold put at h
  split at h
  · cases h
  · rename_i y hn hy
    cases h
    exact ⟨rfl, y, hy, fun xs z => hn xs z⟩
  · cases h
theorem pg_imp {tg : Expr} {t t' : TG} (h : PG X tg t) (k : ∀ v σ H Q, t' v σ H Q → t v σ H Q) : PG X tg t' := ⟨fun pins s σ H v u Q I r q => h.run pins s σ H v u Q I r (k v σ H Q q)⟩
theorem pgs_imp {tg : List Expr} {t t' : TGs} (h : PGs X tg t) (k : ∀ v σ H Q, t' v σ H Q → t v σ H Q) : PGs X tg t' := ⟨fun pins s σ H v u Q I r q => h.run pins s σ H v u Q I r (k v σ H Q q)⟩
theorem asg_cons {p : Expr} {ps : List Expr} {env : PySem.Env} (h : notStar p = true) : assignEach (p :: ps) env = (false, assign p env) :: assignEach ps env := by
  cases p <;> first | rfl | cases h
mutual
theorem pg_t (calm : X.calm = true) (nd : X.N.Nodup) (hN : X.N = M.N) (loc : ∀ x, locB M x = true → Loc X.env.scope x ∧ (X.fn x = true ∨ X.env.scope.names.lookup x = some .local)) : ∀ (t : Tgt) (p : Expr), mT M t p = true → PG X p (gB X.K t)
  | .one i, .Name x pos, h => by
    simp only [mT, Bool.and_eq_true] at h
    obtain ⟨h1, h2⟩ := loc x h.2
    refine pg_imp (pg_name (i := i) nd (by rw [hN]; exact of_decide_eq_true h.1) h1 h2) fun v σ H Q ⟨r, S, d, r', s, w, e, q⟩ => ?_
    obtain ⟨rfl, y, hy, hn⟩ := put_ok e
    refine q _ (put_go (.refl s) (x := .fz d) w hy hn) fun j hj => ?_
    rw [List.getElem?_set_ne (fun z => hj (by rw [← z]; simp [Tgt.slots]))]
  | .many ts, .Tuple es kk pos, h => by
    simp only [mT] at h
    obtain ⟨h1, h2, h3⟩ := pg_ts calm nd hN loc ts es h
    refine pg_imp (pg_tup calm h1 h2 h3) fun v σ H Q ⟨r, S, d, r', s, w, e, q⟩ => ?_
    cases d with
    | tuple ds =>
      cases w with
      | tup w1 w2 =>
        simp only [bindT] at e
        refine ⟨_, _, rfl, w1, ?_, r, S, ds, r', s, w2, e, q⟩
        rw [w2.length]
        have lens : ∀ (ts : List Tgt) (ds : List D) (r r' : Env), bindTs ts ds r = .ok r' → ds.length = ts.length := by
          intro ts
          induction ts with
          | nil =>
            intro ds r r' e
            cases ds with
            | nil => rfl
            | cons _ _ => simp only [bindTs] at e; cases e
          | cons t ts ih =>
            intro ds r r' e
            cases ds with
            | nil => simp only [bindTs] at e; cases e
            | cons d ds =>
              simp only [bindTs] at e
              obtain ⟨r1, _, e⟩ := bind_ok e
              simp [ih ds _ _ e]
        exact lens ts ds r r' e
    | _ => simp only [bindT] at e; cases e
  | .one _, .BoolOp .., h => by simp only [mT] at h; cases h
  | .one _, .NamedExpr .., h => by simp only [mT] at h; cases h
  | .one _, .BinOp .., h => by simp only [mT] at h; cases h
  | .one _, .UnaryOp .., h => by simp only [mT] at h; cases h
  | .one _, .Lambda .., h => by simp only [mT] at h; cases h
  | .one _, .IfExp .., h => by simp only [mT] at h; cases h
  | .one _, .Dict .., h => by simp only [mT] at h; cases h
  | .one _, .Set .., h => by simp only [mT] at h; cases h
  | .one _, .ListComp .., h => by simp only [mT] at h; cases h
  | .one _, .SetComp .., h => by simp only [mT] at h; cases h
  | .one _, .DictComp .., h => by simp only [mT] at h; cases h
  | .one _, .GeneratorExp .., h => by simp only [mT] at h; cases h
  | .one _, .Await .., h => by simp only [mT] at h; cases h
  | .one _, .Yield .., h => by simp only [mT] at h; cases h
  | .one _, .YieldFrom .., h => by simp only [mT] at h; cases h
  | .one _, .Compare .., h => by simp only [mT] at h; cases h
  | .one _, .Call .., h => by simp only [mT] at h; cases h
  | .one _, .FormattedValue .., h => by simp only [mT] at h; cases h
  | .one _, .JoinedStr .., h => by simp only [mT] at h; cases h
  | .one _, .Constant .., h => by simp only [mT] at h; cases h
  | .one _, .Attribute .., h => by simp only [mT] at h; cases h
  | .one _, .Subscript .., h => by simp only [mT] at h; cases h
  | .one _, .Starred .., h => by simp only [mT] at h; cases h
  | .one _, .List .., h => by simp only [mT] at h; cases h
  | .one _, .Tuple .., h => by simp only [mT] at h; cases h
  | .one _, .Slice .., h => by simp only [mT] at h; cases h
  | .many _, .BoolOp .., h => by simp only [mT] at h; cases h
  | .many _, .NamedExpr .., h => by simp only [mT] at h; cases h
  | .many _, .BinOp .., h => by simp only [mT] at h; cases h
  | .many _, .UnaryOp .., h => by simp only [mT] at h; cases h
  | .many _, .Lambda .., h => by simp only [mT] at h; cases h
  | .many _, .IfExp .., h => by simp only [mT] at h; cases h
  | .many _, .Dict .., h => by simp only [mT] at h; cases h
  | .many _, .Set .., h => by simp only [mT] at h; cases h
  | .many _, .ListComp .., h => by simp only [mT] at h; cases h
  | .many _, .SetComp .., h => by simp only [mT] at h; cases h
  | .many _, .DictComp .., h => by simp only [mT] at h; cases h
  | .many _, .GeneratorExp .., h => by simp only [mT] at h; cases h
  | .many _, .Await .., h => by simp only [mT] at h; cases h
  | .many _, .Yield .., h => by simp only [mT] at h; cases h
  | .many _, .YieldFrom .., h => by simp only [mT] at h; cases h
  | .many _, .Compare .., h => by simp only [mT] at h; cases h
  | .many _, .Call .., h => by simp only [mT] at h; cases h
  | .many _, .FormattedValue .., h => by simp only [mT] at h; cases h
  | .many _, .JoinedStr .., h => by simp only [mT] at h; cases h
  | .many _, .Constant .., h => by simp only [mT] at h; cases h
  | .many _, .Attribute .., h => by simp only [mT] at h; cases h
  | .many _, .Subscript .., h => by simp only [mT] at h; cases h
  | .many _, .Starred .., h => by simp only [mT] at h; cases h
  | .many _, .Name .., h => by simp only [mT] at h; cases h
  | .many _, .List .., h => by simp only [mT] at h; cases h
  | .many _, .Slice .., h => by simp only [mT] at h; cases h
theorem pg_ts (calm : X.calm = true) (nd : X.N.Nodup) (hN : X.N = M.N) (loc : ∀ x, locB M x = true → Loc X.env.scope x ∧ (X.fn x = true ∨ X.env.scope.names.lookup x = some .local)) : ∀ (ts : List Tgt) (ps : List Expr), mTs M ts ps = true →
    PGs X ps (gBs X.K ts) ∧ (assignEach ps X.env).length = ts.length ∧ (assignEach ps X.env).findIdx? (·.1) = none
  | [], [], _ => by
    refine ⟨pgs_imp pgs_nil fun v σ H Q ⟨r, S, ds, r', s, w, e, q⟩ => ?_, rfl, rfl⟩
    cases ds with
    | nil =>
      cases w
      simp only [bindTs] at e
      cases e
      exact ⟨rfl, q σ (.refl s) fun _ _ => rfl⟩
    | cons _ _ => simp only [bindTs] at e; cases e
  | t :: ts, p :: ps, h => by
    simp only [mTs, Bool.and_eq_true] at h
    have h1 := pg_t calm nd hN loc t p h.1.2
    obtain ⟨h2, h3, h4⟩ := pg_ts calm nd hN loc ts ps h.2
    refine ⟨pgs_imp (pgs_cons h1 h2 (by rw [asg_cons h.1.1]; rfl)) fun v σ H Q ⟨r, S, ds, r', s, w, e, q⟩ => ?_, by rw [asg_cons h.1.1, List.length_cons, h3, List.length_cons], by rw [asg_cons h.1.1]; simpa [List.findIdx?_cons] using h4⟩
    cases ds with
    | nil => simp only [bindTs] at e; cases e
    | cons d ds =>
      simp only [bindTs] at e
      obtain ⟨r1, e1, e⟩ := bind_ok e
      cases w with
      | cons w1 w2 =>
        refine ⟨_, _, rfl, r, S, d, r1, s, w1, e1, fun σ1 g1 n1 => ⟨r1, S, ds, r', g1.sr, w2, e, fun σ2 g2 n2 => ?_⟩⟩
        refine q σ2 (g1.trans s g2) fun j hj => ?_
        simp only [slotsL, List.mem_append, not_or] at hj
        rw [n2 j hj.2, n1 j hj.1]
  | [], _ :: _, h => by simp only [mTs] at h; cases h
  | _ :: _, [], h => by simp only [mTs] at h; cases h
end
end

/-! ### what is walked -/
theorem zip_get : ∀ {xs ys : List D} {i : Nat} {d1 d2 : D}, xs[i]? = some d1 → ys[i]? = some d2 → (zipD xs ys)[i]? = some (.tuple [d1, d2])
  | [], _, i, _, _, h, _ => by simp at h
  | _ :: _, [], i, _, _, _, h => by simp at h
  | x :: xs, y :: ys, 0, _, _, h, h' => by simp at h h'; subst h; subst h'; rfl
  | x :: xs, y :: ys, i + 1, _, _, h, h' => by
    have := zip_get (i := i) (by simpa using h) (by simpa using h')
    simpa [zipD] using this
theorem zip_len : ∀ {xs ys : List D}, (zipD xs ys).length = min xs.length ys.length
  | [], _ => by simp [zipD]
  | _ :: _, [] => by simp [zipD]
  | x :: xs, y :: ys => by simp [zipD, zip_len (xs := xs) (ys := ys)]
theorem noIo_sub {is js : List Nat} {r : Env} (h : ∀ i ∈ is, i ∈ js) (n : noIo js r = true) : noIo is r = true := by
  unfold noIo at n ⊢
  rw [List.all_eq_true] at n ⊢
  exact fun i hi => n i (h i hi)
/-- how a walk gives data: at the i-th turn the i-th, perhaps in a new object -/
structure Gives (K : PySem.W.Frag) (xs : List D) (Rel : Hp → (Addr → Prop) → Prop) (Y : Nat → Hp → V → Hp → Prop) : Prop where
  mono : ∀ {H H' : Hp} {S S' : Addr → Prop}, (∀ b o, H b = some o → (S b ∨ ¬ Mt o) → H' b = some o) → (∀ b, S b → S' b) → Rel H S → Rel H' S'
  turn : ∀ (i : Nat) (H : Hp) (x : V) (H' : Hp) (S : Addr → Prop), i < xs.length → Rel H S → (∀ b, S b → H b ≠ none) → Y i H x H' → ∃ d, xs[i]? = some d ∧ Ext S H S H' ∧ Rp K H' S x d
structure Src (K : PySem.W.Frag) (σ : Slots) (r : Env) (S : Addr → Prop) (H : Hp) (os : List Opd) (J : It) (xs : List D) : Prop where
  it : ∃ (A : Addr → Prop) (Rel : Hp → (Addr → Prop) → Prop) (Y : Nat → Hp → V → Hp → Prop), Walk J xs.length (fun H1 => ∀ b o, A b → H b = some o → H1 b = some o) Y ∧ Rel H S ∧ Gives K xs Rel Y ∧
    ∀ b, A b → ¬ Own σ r b ∨ ∃ (i : Nat) (ys : List D), i ∈ opdIx os ∧ r[i]? = some (.ow ys) ∧ σ[i]? = some (some (.ref b))
theorem gives_at {K : PySem.W.Frag} {xs : List D} {vs : List V} : Gives K xs (fun H S => RpL K H S vs xs) (YAt vs) where
  mono := fun hk hs h => RpL.mono hk hs _ _ h
  turn := fun i H x H' S hi h w y => by
    obtain ⟨rfl, hx⟩ := y
    obtain ⟨d, hd, q⟩ := h.get' hx
    exact ⟨d, hd, .refl w, q⟩
theorem srcV {K : PySem.W.Frag} {σ : Slots} {r : Env} {S : Addr → Prop} {H : Hp} {os : List Opd} {J : It} {xs : List D} (h : ∃ (A : Addr → Prop) (vs : List V), Walk J vs.length (fun H1 => ∀ b o, A b → H b = some o → H1 b = some o) (YAt vs) ∧ RpL K H S vs xs ∧
    ∀ b, A b → ¬ Own σ r b ∨ ∃ (i : Nat) (ys : List D), i ∈ opdIx os ∧ r[i]? = some (.ow ys) ∧ σ[i]? = some (some (.ref b))) : Src K σ r S H os J xs := by
  obtain ⟨A, vs, w, h, c⟩ := h
  exact ⟨A, _, YAt vs, by rw [← h.length]; exact w, h, gives_at, c⟩
def tI (K : PySem.W.Frag) (C : Ctx) (k : Ik) (es : List E) : TI := fun σ H R => ∃ r S os r1 ds xs, SR K σ H r S ∧ evOs C es r = .ok (os, r1) ∧ derefs r1 os = .ok ds ∧ itemsD k ds = .ok xs ∧ noIo (opdIx os) r1 = true ∧
  ∀ H' S' J, Go K σ r S H σ r1 S' H' → Src K σ r1 S' H' os J xs → R J H'
section
variable {K : PySem.W.Frag} {H H' : Hp} {S S' : Addr → Prop} {σ σ' : Slots} {r r' : Env}
theorem rd_own {a : Addr} {u : HO} (s : SR K σ H r S) (h : Rd H a u) (n : ¬ Mt u) : ¬ Own σ r a := fun z => by
  obtain ⟨o', h1, m, h2⟩ := z.mt s
  rcases h with h | ⟨o, h⟩
  · rw [h1] at h; cases h; exact n m
  · rw [h1] at h; cases h; exact m
theorem RO.lstW {H0 : Hp} {v : V} {o : Opd} {xs : List D} (s : SR K σ H r S) (h : RO K H0 σ r S H v o) (nio : noIo (opdIx [o]) r = true) (hd : deref r o = .ok (.list xs)) :
    (∃ (a : Addr) (vs : List V), v = .ref a ∧ Rd H a (.lst vs) ∧ RpL K H S vs xs ∧ (¬ Own σ r a ∨ ∃ (i : Nat) (ys : List D), i ∈ opdIx [o] ∧ r[i]? = some (.ow ys) ∧ σ[i]? = some (some (.ref a)))) ∨
    (∃ (a : Addr) (vs : List V), v = .ref a ∧ KLst K a vs ∧ RpL K H S vs xs) := by
  have key : Rp K H S v (.list xs) → (∃ (a : Addr) (vs : List V), v = .ref a ∧ Rd H a (.lst vs) ∧ RpL K H S vs xs ∧ ¬ Own σ r a) ∨ (∃ (a : Addr) (vs : List V), v = .ref a ∧ KLst K a vs ∧ RpL K H S vs xs) := fun q => by
    cases q with
    | lst q1 q2 q3 =>
      refine .inl ⟨_, _, rfl, q2, q3, fun z => ?_⟩
      obtain ⟨ws, h1, m, h2⟩ := z.mt s
      exact h2 q1
    | lstK q1 q3 => exact .inr ⟨_, _, rfl, q1, q3⟩
  have key2 : Rp K H S v (.list xs) → (∃ (a : Addr) (vs : List V), v = .ref a ∧ Rd H a (.lst vs) ∧ RpL K H S vs xs ∧ (¬ Own σ r a ∨ ∃ (i : Nat) (ys : List D), i ∈ opdIx [o] ∧ r[i]? = some (.ow ys) ∧ σ[i]? = some (some (.ref a)))) ∨ (∃ (a : Addr) (vs : List V), v = .ref a ∧ KLst K a vs ∧ RpL K H S vs xs) := fun q => (key q).imp (fun ⟨a, vs, e, h1, h2, h3⟩ => (⟨a, vs, e, h1, h2, .inl h3⟩ : ∃ (a : Addr) (vs : List V), v = .ref a ∧ Rd H a (.lst vs) ∧ RpL K H S vs xs ∧ (¬ Own σ r a ∨ ∃ (i : Nat) (ys : List D), i ∈ opdIx [o] ∧ r[i]? = some (.ow ys) ∧ σ[i]? = some (some (.ref a))))) id
  cases o with
  | ref i =>
    have h : σ[i]? = some (some v) := h
    simp only [deref] at hd
    cases hx : r[i]? with
    | none => rw [hx] at hd; cases hd
    | some x =>
      rw [hx] at hd
      cases x with
      | em => cases hd
      | fz y =>
        cases hd
        obtain ⟨w, e1, q⟩ := s.fz i _ hx
        rw [h] at e1
        cases e1
        exact key2 q
      | ow ys =>
        cases hd
        obtain ⟨w, e1, a, vs, rfl, q2, q3, q4⟩ := s.lone i _ (.inl hx)
        rw [h] at e1
        cases e1
        exact .inl ⟨a, vs, rfl, .inl q2, q4, .inr ⟨i, _, by simp [opdIx], hx, h⟩⟩
      | io ys =>
        have := List.all_eq_true.mp nio i (by simp [opdIx])
        simp [isIo, hx] at this
      | od _ => cases hd
      | un => cases hd
  | val x =>
    have h : RN K H0 σ r S H v x := h
    cases x with
    | em => exact h.elim
    | io _ => exact h.elim
    | od _ => exact h.elim
    | un => exact h.elim
    | ow ys =>
      cases hd
      obtain ⟨b, ws, rfl, _, h2, _, h4, h5⟩ := h
      exact .inl ⟨b, ws, rfl, .inl h2, h5, .inl h4⟩
    | fz y => cases hd; exact key2 h
theorem evOs_one {C : Ctx} {e : E} {os : List Opd} {r1 : Env} (h : evOs C [e] r = .ok (os, r1)) : ∃ o, os = [o] ∧ asO e (evE C e) r = .ok (o, r1) := by
  simp only [evOs] at h
  obtain ⟨⟨o, r2⟩, e1, h⟩ := bind_ok h
  simp only [ok_bind] at h
  cases h
  exact ⟨o, rfl, e1⟩
theorem derefs_one {o : Opd} {ds : List D} (h : derefs r [o] = .ok ds) : ∃ d, ds = [d] ∧ deref r o = .ok d := by
  simp only [derefs] at h
  obtain ⟨d, e1, h⟩ := bind_ok h
  simp only [ok_bind] at h
  cases h
  exact ⟨d, rfl, e1⟩
theorem os_len {C : Ctx} : ∀ {es : List E} {r r' : Env} {os : List Opd}, evOs C es r = .ok (os, r') → os.length = es.length
  | [], r, r', os, h => by simp only [evOs] at h; cases h; rfl
  | e :: es, r, r', os, h => by
    simp only [evOs] at h
    obtain ⟨⟨o, r1⟩, e1, h⟩ := bind_ok h
    obtain ⟨⟨os', r2⟩, e2, h⟩ := bind_ok h
    cases h
    simp [os_len e2]
theorem ds_len : ∀ {os : List Opd} {r : Env} {ds : List D}, derefs r os = .ok ds → ds.length = os.length
  | [], r, ds, h => by simp only [derefs] at h; cases h; rfl
  | o :: os, r, ds, h => by
    simp only [derefs] at h
    obtain ⟨d, e1, h⟩ := bind_ok h
    obtain ⟨ds', e2, h⟩ := bind_ok h
    cases h
    simp [ds_len e2]
theorem rpl_signs : ∀ cs : List Nat, RpL K H S (cs.map fun c => V.str ⟨#[c]⟩) (cs.map sign)
  | [] => .nil
  | c :: cs => .cons (.str _) (rpl_signs cs)
theorem rpl_range (lo : Int) : ∀ l : List Nat, RpL K H S (l.map fun (i : Nat) => V.int (lo + (i : Int))) (l.map fun (i : Nat) => PyData.int (lo + (i : Int)))
  | [] => .nil
  | c :: cs => .cons (.int _) (rpl_range lo cs)
theorem rpk_keys : ∀ {kvs : List (Key × V)} {ds : List (D × D)}, RpK K H S kvs ds → RpL K H S (kvs.map fun kv => kV kv.1) (ds.map (·.1))
  | [], _, h => by cases h; exact .nil
  | _ :: _, _, h => by
    cases h with
    | cons h1 h2 => exact .cons (.str _) (rpk_keys h2)
    | consI h1 h2 => exact .cons (.int _) (rpk_keys h2)
end
section
variable {X : Cx} {M : Mat} {C : Ctx} {k : Nat} {tg : Expr}
theorem bnd_of {i : Int} (h : bnd62 i = true) : -(2 ^ 62) ≤ i ∧ i < 2 ^ 62 := by
  unfold bnd62 at h
  rw [Bool.and_eq_true] at h
  have h1 := of_decide_eq_true h.1
  have h2 := of_decide_eq_true h.2
  omega
theorem pi_seqD {e : E} {p : Expr} (hp : PE X p (tO X.K C e)) : PI X tg p (tI X.K C .seq [e]) := by
  refine ⟨fun pins s σ H R I h => ?_⟩
  obtain ⟨r, S, os, r1, ds, xs, sr, e1, e2, e3, nio, q⟩ := h
  obtain ⟨o, rfl, f1⟩ := evOs_one e1
  obtain ⟨d, rfl, f2⟩ := derefs_one e2
  cases d with
  | list ys =>
    cases e3
    refine (pi_list hp).run pins s σ H R I ⟨r, S, o, r1, sr, f1, fun v H' S' g w => ?_⟩
    rcases w.lstW g.sr nio f2 with ⟨a, vs, rfl, h1, h2, h3⟩ | ⟨a, vs, rfl, h1, h2⟩
    · refine ⟨a, rfl, ⟨vs, .inl h1⟩, q H' S' _ g (srcV ⟨fun b => b = a, vs, walk_list.mono (fun H1 hk => ?_) (fun _ _ _ _ _ _ y => y), h2, fun b hb => by subst hb; exact h3⟩)⟩
      rcases h1 with h1 | ⟨o, h1⟩
      · exact .inl (.inl (hk a _ rfl h1))
      · exact .inl (.inr ⟨o, hk a _ rfl h1⟩)
    · exact ⟨a, rfl, ⟨vs, .inr h1⟩, q H' S' _ g (srcV ⟨fun _ => False, vs, walk_list.mono (fun H1 hk => .inr h1) (fun _ _ _ _ _ _ y => y), h2, fun b hb => hb.elim⟩)⟩
  | tuple ys =>
    cases e3
    refine (pi_tup hp).run pins s σ H R I ⟨r, S, o, r1, sr, f1, fun v H' S' g w => ?_⟩
    obtain ⟨a, vs, rfl, h1, h2⟩ := (w.rb g.sr f2).tup
    refine ⟨a, rfl, ⟨vs, h1⟩, q H' S' _ g (srcV ?_)⟩
    rcases h1 with h1 | h1
    · refine ⟨fun b => b = a, vs, walk_tup.mono (fun H1 hk => ?_) (fun _ _ _ _ _ _ y => y), h2, fun b hb => by subst hb; exact .inl (rd_own g.sr h1 fun z => z)⟩
      rcases h1 with h1 | ⟨o, h1⟩
      · exact .inl (.inl (hk a _ rfl h1))
      · exact .inl (.inr ⟨o, hk a _ rfl h1⟩)
    · exact ⟨fun _ => False, vs, walk_tup.mono (fun H1 hk => .inr h1) (fun _ _ _ _ _ _ y => y), h2, fun b hb => hb.elim⟩
  | str z =>
    cases e3
    refine (pi_str hp).run pins s σ H R I ⟨r, S, o, r1, sr, f1, fun v H' S' g w => ?_⟩
    cases (w.rb g.sr f2).str
    refine ⟨z, rfl, q H' S' _ g (srcV ⟨fun _ => False, z.cps.toList.map (fun c => V.str ⟨#[c]⟩), ?_, rpl_signs _, fun b hb => hb.elim⟩)⟩
    have hl : (z.cps.toList.map (fun c => V.str ⟨#[c]⟩)).length = z.cps.size := by simp
    rw [hl]
    refine walk_str.mono (fun _ _ => trivial) fun i H x H' hi _ y => ⟨y.1, ?_⟩
    obtain ⟨c, h1, h2⟩ := y.2
    rw [List.getElem?_map, h2]
    rw [← Array.getElem?_toList] at h1
    rw [h1]; rfl
  | dict kvs =>
    cases e3
    refine (pi_keys hp).run pins s σ H R I ⟨r, S, o, r1, sr, f1, fun v H' S' g w => ?_⟩
    obtain ⟨a, ob, vs, rfl, h1, h2⟩ := (w.rb g.sr f2).dct
    refine ⟨a, ob, rfl, .inl ⟨vs, h1, q H' S' _ g (srcV ⟨fun b => b = a, vs.map fun kv => kV kv.1, ?_, rpk_keys h2, fun b hb => by subst hb; exact .inl (rd_own (u := .frz ob (.dK vs)) g.sr (.inl h1) fun z => z)⟩)⟩⟩
    rw [List.length_map]
    refine walk_keys.mono (fun H1 hk => hk a _ rfl h1) fun i H x H' hi _ y => ⟨y.1, ?_⟩
    obtain ⟨kk, vv, g1, g2⟩ := y.2
    rw [List.getElem?_map, g1, g2]
    rfl
  | none => cases e3
  | bool _ => cases e3
  | int _ => cases e3
theorem pi_rng1 (G : GX X M C k) {a : E} {x : Str} {pp pos : Pos} {p : Expr} (hg : glB M.sc x "range" = true) (ns : notStar p = true) (ha : PA X [p] (tOs X.K C [a])) : PI X tg (.Call (.Name x pp) [p] [] pos) (tI X.K C .rng [a]) := by
  obtain ⟨h1, rfl⟩ := gl_of G hg
  refine ⟨fun pins s σ H R I h => ?_⟩
  obtain ⟨r, S, os, r1, ds, xs, sr, e1, e2, e3, nio, q⟩ := h
  obtain ⟨o, rfl, _⟩ := evOs_one e1
  obtain ⟨d, rfl, e2'⟩ := derefs_one e2
  cases d with
  | int n =>
    simp only [itemsD] at e3
    split at e3
    · rename_i hb
      cases e3
      refine (pi_range1 h1 (G.bn _ (by decide +kernel)) ha (star_cons ns)).run pins s σ H R I ⟨r, S, [o], r1, sr, e1, fun vs H' S' g w => ?_⟩
      obtain ⟨v, rfl, w1⟩ := paired1 w
      cases (w1.rb g.sr e2').int
      obtain ⟨b1, b2⟩ := bnd_of hb
      refine ⟨n, rfl, b1, b2, q H' S' _ g (srcV ⟨fun _ => False, (List.range n.toNat).map (fun (i : Nat) => V.int (0 + (i : Int))), ?_, rpl_range 0 _, fun b hb => hb.elim⟩)⟩
      have hl : ((List.range n.toNat).map (fun (i : Nat) => V.int (0 + (i : Int)))).length = n.toNat := by simp
      rw [hl]
      refine walk_range.mono (fun _ _ => trivial) fun i H x H' hi _ y => ⟨y.1, ?_⟩
      rw [y.2, List.getElem?_map, List.getElem?_range hi]
      rfl
    · cases e3
  | _ => cases e3
theorem pi_rng2 (G : GX X M C k) {a b : E} {x : Str} {pp pos : Pos} {p p2 : Expr} (hg : glB M.sc x "range" = true) (ns : notStar p = true) (ns2 : notStar p2 = true) (ha : PA X [p, p2] (tOs X.K C [a, b])) : PI X tg (.Call (.Name x pp) [p, p2] [] pos) (tI X.K C .rng [a, b]) := by
  obtain ⟨h1, rfl⟩ := gl_of G hg
  refine ⟨fun pins s σ H R I h => ?_⟩
  obtain ⟨r, S, os, r1, ds, xs, sr, e1, e2, e3, nio, q⟩ := h
  have two : ∃ d1 d2, ds = [d1, d2] := by
    have hl : ds.length = 2 := by rw [ds_len e2, os_len e1]; rfl
    match ds, hl with
    | [d1, d2], _ => exact ⟨d1, d2, rfl⟩
  obtain ⟨d1, d2, rfl⟩ := two
  cases d1 with
  | int m =>
    cases d2 with
    | int n =>
      simp only [itemsD] at e3
      split at e3
      · rename_i hb
        cases e3
        rw [Bool.and_eq_true] at hb
        refine (pi_range2 h1 (G.bn _ (by decide +kernel)) ha (by rw [star_cons ns, star_cons ns2]; rfl) (star_cons ns2)).run pins s σ H R I ⟨r, S, os, r1, sr, e1, fun vs H' S' g w => ?_⟩
        obtain ⟨v, v', rfl, w1, w2⟩ := paired2 (ROL.rb g.sr w e2)
        cases w1.int
        cases w2.int
        obtain ⟨b1, b2⟩ := bnd_of hb.1
        obtain ⟨b3, b4⟩ := bnd_of hb.2
        refine ⟨m, n, rfl, ⟨b1, b2, b3, b4⟩, q H' S' _ g (srcV ⟨fun _ => False, (List.range (n - m).toNat).map (fun (i : Nat) => V.int (m + (i : Int))), ?_, rpl_range m _, fun b hb => hb.elim⟩)⟩
        have hl : ((List.range (n - m).toNat).map (fun (i : Nat) => V.int (m + (i : Int)))).length = (n - m).toNat := by simp
        rw [hl]
        refine walk_range.mono (fun _ _ => trivial) fun i H x H' hi _ y => ⟨y.1, ?_⟩
        rw [y.2, List.getElem?_map, List.getElem?_range hi]
        rfl
      · cases e3
    | _ => cases e3
  | _ => cases e3
theorem rpl_rangeC {K : PySem.W.Frag} {H : Hp} {S : Addr → Prop} (lo c : Int) : ∀ l : List Nat, RpL K H S (l.map fun (i : Nat) => V.int (lo + (i : Int) * c)) (l.map fun (i : Nat) => PyData.int (lo + (i : Int) * c))
  | [] => .nil
  | i :: l => .cons (.int _) (rpl_rangeC lo c l)
theorem paired3 {α β : Type} {F : α → β → Prop} {l : List α} {a b c : β} (h : Paired F l [a, b, c]) : ∃ x y z, l = [x, y, z] ∧ F x a ∧ F y b ∧ F z c := by
  cases h with
  | cons h1 h2 =>
    cases h2 with
    | cons h3 h4 =>
      cases h4 with
      | cons h5 h6 =>
        cases h6
        exact ⟨_, _, _, rfl, h1, h3, h5⟩
theorem pi_rng3 (G : GX X M C k) {a b c : E} {x : Str} {pp pos : Pos} {p p2 p3 : Expr} (hg : glB M.sc x "range" = true) (ns : notStar p = true) (ns2 : notStar p2 = true) (ns3 : notStar p3 = true) (ha : PA X [p, p2, p3] (tOs X.K C [a, b, c])) : PI X tg (.Call (.Name x pp) [p, p2, p3] [] pos) (tI X.K C .rng [a, b, c]) := by
  obtain ⟨h1, rfl⟩ := gl_of G hg
  refine ⟨fun pins s σ H R I h => ?_⟩
  obtain ⟨r, S, os, r1, ds, xs, sr, e1, e2, e3, nio, q⟩ := h
  have three : ∃ d1 d2 d3, ds = [d1, d2, d3] := by
    have hl : ds.length = 3 := by rw [ds_len e2, os_len e1]; rfl
    match ds, hl with
    | [d1, d2, d3], _ => exact ⟨d1, d2, d3, rfl⟩
  obtain ⟨d1, d2, d3, rfl⟩ := three
  have hints : ∃ m n : Int, d1 = .int m ∧ d2 = .int n ∧ d3 = .int (-1) ∧ bnd62 m = true ∧ bnd62 n = true ∧ xs = rangeC m (-1) (m - n).toNat := by
    cases d1 <;> cases d2 <;> cases d3 <;> simp only [itemsD] at e3 <;> first
      | (cases e3; done)
      | skip
    split at e3
    · rename_i m n c hb
      cases e3
      rw [Bool.and_eq_true, Bool.and_eq_true, decide_eq_true_eq] at hb
      obtain ⟨⟨b1, b2⟩, rfl⟩ := hb
      exact ⟨m, n, rfl, rfl, rfl, b1, b2, rfl⟩
    · cases e3
  obtain ⟨m, n, rfl, rfl, rfl, hb1, hb2, rfl⟩ := hints
  refine (pi_range3 h1 (G.bn _ (by decide +kernel)) ha (star_cons ns) (by rw [star_cons ns2, star_cons ns3]; rfl)).run pins s σ H R I ⟨r, S, os, r1, sr, e1, fun vs H' S' g w => ?_⟩
  obtain ⟨v, v', v'', rfl, w1, w2, w3⟩ := paired3 (ROL.rb g.sr w e2)
  cases w1.int
  cases w2.int
  cases w3.int
  obtain ⟨b1, b2⟩ := bnd_of hb1
  obtain ⟨b3, b4⟩ := bnd_of hb2
  refine ⟨m, n, -1, (m - n).toNat, rfl, RgC.neg b1 b2 b3 b4, q H' S' _ g (srcV ⟨fun _ => False, (List.range (m - n).toNat).map (fun (i : Nat) => V.int (m + (i : Int) * (-1))), ?_, rpl_rangeC m (-1) _, fun b hb => hb.elim⟩)⟩
  have hl : ((List.range (m - n).toNat).map (fun (i : Nat) => V.int (m + (i : Int) * (-1)))).length = (m - n).toNat := by simp
  rw [hl]
  refine walk_rangeC.mono (fun _ _ => trivial) fun i H x H' hi _ y => ⟨y.1, ?_⟩
  rw [y.2, List.getElem?_map, List.getElem?_range hi]
  rfl
theorem pi_revD (G : GX X M C k) {a : E} {x : Str} {pp pos : Pos} {p : Expr} (hg : glB M.sc x "reversed" = true) (ns : notStar p = true) (ha : PA X [p] (tOs X.K C [a])) : PI X tg (.Call (.Name x pp) [p] [] pos) (tI X.K C .rev [a]) := by
  obtain ⟨h1, rfl⟩ := gl_of G hg
  refine ⟨fun pins s σ H R I h => ?_⟩
  obtain ⟨r, S, os, r1, ds, xs, sr, e1, e2, e3, nio, q⟩ := h
  obtain ⟨o, rfl, _⟩ := evOs_one e1
  obtain ⟨d, rfl, e2'⟩ := derefs_one e2
  cases d with
  | list ys =>
    cases e3
    refine (pi_reversed h1 (G.bn _ (by decide +kernel)) ha (star_cons ns)).run pins s σ H R I ⟨r, S, [o], r1, sr, e1, fun vs H' S' g w => ?_⟩
    obtain ⟨v, rfl, w1⟩ := paired1 w
    rcases w1.lstW g.sr nio e2' with ⟨a, vs, rfl, h1, h2, h3⟩ | ⟨a, vs, rfl, h1, h2⟩
    · refine ⟨a, vs, rfl, .inl h1, q H' S' _ g (srcV ⟨fun b => b = a, vs.reverse, ?_, h2.reverse, fun b hb => by subst hb; exact h3⟩)⟩
      rw [List.length_reverse]
      refine walk_rev.mono (fun H1 hk => ?_) fun i H x H' hi _ y => ⟨y.1, ?_⟩
      · rcases h1 with h1 | ⟨o, h1⟩
        · exact .inl (.inl (hk a _ rfl h1))
        · exact .inl (.inr ⟨o, hk a _ rfl h1⟩)
      · rw [List.getElem?_reverse hi]
        exact y.2
    · refine ⟨a, vs, rfl, .inr h1, q H' S' _ g (srcV ⟨fun _ => False, vs.reverse, ?_, h2.reverse, fun b hb => hb.elim⟩)⟩
      rw [List.length_reverse]
      refine walk_rev.mono (fun H1 hk => .inr h1) fun i H x H' hi _ y => ⟨y.1, ?_⟩
      rw [List.getElem?_reverse hi]
      exact y.2
  | _ => cases e3
theorem derefs_two {r : Env} {o1 o2 : Opd} {d1 d2 : D} (h : derefs r [o1, o2] = .ok [d1, d2]) : deref r o1 = .ok d1 ∧ deref r o2 = .ok d2 := by
  simp only [derefs] at h
  obtain ⟨a, e1, h⟩ := bind_ok h
  obtain ⟨b, e2, h⟩ := bind_ok h
  cases h
  obtain ⟨c, e3, e2⟩ := bind_ok e2
  cases e2
  exact ⟨e1, e3⟩
/-- an operand that is a list, as it is walked -/
theorem RO.lstA {H0 : Hp} {K : PySem.W.Frag} {H : Hp} {S : Addr → Prop} {σ : Slots} {r : Env} {v : V} {o : Opd} {xs : List D} (s : SR K σ H r S) (h : RO K H0 σ r S H v o) (nio : noIo (opdIx [o]) r = true) (hd : deref r o = .ok (.list xs)) :
    ∃ (a : Addr) (vs : List V) (A : Addr → Prop), v = .ref a ∧ SqL K H a vs ∧ RpL K H S vs xs ∧ (∀ b, A b → ¬ Own σ r b ∨ ∃ (i : Nat) (ys : List D), i ∈ opdIx [o] ∧ r[i]? = some (.ow ys) ∧ σ[i]? = some (some (.ref b))) ∧
      ∀ H1 : Hp, (∀ b o, A b → H b = some o → H1 b = some o) → SqL K H1 a vs := by
  rcases h.lstW s nio hd with ⟨a, vs, rfl, h1, h2, h3⟩ | ⟨a, vs, rfl, h1, h2⟩
  · refine ⟨a, vs, fun b => b = a, rfl, .inl h1, h2, fun b hb => by subst hb; exact h3, fun H1 hk => ?_⟩
    rcases h1 with h1 | ⟨o, h1⟩
    · exact .inl (.inl (hk a _ rfl h1))
    · exact .inl (.inr ⟨o, hk a _ rfl h1⟩)
  · exact ⟨a, vs, fun _ => False, rfl, .inr h1, h2, fun b hb => hb.elim, fun H1 _ => .inr h1⟩
theorem gives_zip {K : PySem.W.Frag} {xs ys : List D} {us ws : List V} : Gives K (zipD xs ys) (fun H S => RpL K H S us xs ∧ RpL K H S ws ys) (YPair (fun i => us[i]?) (fun i => ws[i]?)) where
  mono := fun hk hs h => ⟨RpL.mono hk hs _ _ h.1, RpL.mono hk hs _ _ h.2⟩
  turn := fun i H x H' S hi h w y => by
    obtain ⟨T, u, z, rfl, hT, rfl, h1, h2⟩ := y
    obtain ⟨d1, e1, q1⟩ := h.1.get' h1
    obtain ⟨d2, e2, q2⟩ := h.2.get' h2
    have ex := Ext.new (S := S) (o := .tup [u, z]) w hT
    refine ⟨.tuple [d1, d2], zip_get e1 e2, ex, .tup (SqT.of upd_same) (.cons (ex.rp q1) (.cons (ex.rp q2) .nil))⟩
theorem pi_zipD (G : GX X M C k) {a b : E} {x : Str} {pp pos tpos : Pos} {p p2 : Expr} {elts : List Expr} {kk : Nat} (hg : glB M.sc x "zip" = true) (ns : notStar p = true) (ns2 : notStar p2 = true) (ha : PA X [p, p2] (tOs X.K C [a, b])) :
    PI X (.Tuple elts kk tpos) (.Call (.Name x pp) [p, p2] [] pos) (tI X.K C .zip [a, b]) := by
  obtain ⟨h1, rfl⟩ := gl_of G hg
  refine ⟨fun pins s σ H R I h => ?_⟩
  obtain ⟨r, S, os, r1, ds, xs, sr, e1, e2, e3, nio, q⟩ := h
  have hl : ds.length = 2 := by rw [ds_len e2, os_len e1]; rfl
  have hl2 : os.length = 2 := by rw [os_len e1]; rfl
  refine (pi_zip h1 (G.bn _ (by decide +kernel)) ha (star_cons ns) (by rw [star_cons ns2]; rfl)).run pins s σ H R I ⟨r, S, os, r1, sr, e1, fun vs H' S' g w => ?_⟩
  match ds, hl, os, hl2, e1, e2, e3, nio, q, w with
  | [d1, d2], _, [o1, o2], _, e1, e2, e3, nio, q, w =>
    cases d1 with
    | list xs1 =>
      cases d2 with
      | list xs2 =>
        simp only [itemsD] at e3
        cases e3
        obtain ⟨t1, t2⟩ := derefs_two e2
        obtain ⟨v1, v2, rfl, w1, w2⟩ := paired2 w
        have n1 : noIo (opdIx [o1]) r1 = true := noIo_sub (fun i hi => by cases o1 <;> simp [opdIx] at hi ⊢; exact .inl hi) nio
        have n2 : noIo (opdIx [o2]) r1 = true := noIo_sub (fun i hi => by cases o1 <;> cases o2 <;> simp [opdIx] at hi ⊢ <;> first | exact .inr hi | exact hi) nio
        obtain ⟨a1, us, A1, rfl, k1, k2, k3, k4⟩ := w1.lstA g.sr n1 t1
        obtain ⟨a2, ws, A2, rfl, m1, m2, m3, m4⟩ := w2.lstA g.sr n2 t2
        refine ⟨a1, a2, us, ws, rfl, k1, m1, q H' S' _ g ⟨fun b => A1 b ∨ A2 b, _, YPair (fun i => us[i]?) (fun i => ws[i]?), ?_, ⟨k2, m2⟩, gives_zip, fun b hb => ?_⟩⟩
        · exact (walk_zip (by rw [zip_len, k2.length, m2.length])).mono (fun H1 hk => ⟨k4 H1 fun b o hb => hk b o (.inl hb), m4 H1 fun b o hb => hk b o (.inr hb)⟩) fun _ _ _ _ _ _ y => y
        · rcases hb with hb | hb
          · rcases k3 b hb with z | ⟨i, ys, hi, z⟩
            · exact .inl z
            · exact .inr ⟨i, ys, by cases o1 <;> simp [opdIx] at hi ⊢; exact .inl hi, z⟩
          · rcases m3 b hb with z | ⟨i, ys, hi, z⟩
            · exact .inl z
            · exact .inr ⟨i, ys, by cases o1 <;> cases o2 <;> simp [opdIx] at hi ⊢ <;> first | exact .inr hi | exact hi, z⟩
      | _ => simp only [itemsD] at e3; cases e3
    | _ => simp only [itemsD] at e3; cases e3
end
end DL

set_option Elab.async false
set_option linter.all false
set_option maxRecDepth 100000
set_option maxHeartbeats 4000000
set_option autoImplicit false
/-! DL10: comprehensions. -/
namespace DL
open PySem PySem.Spec PyProof.Rows L2

section
variable {K : PySem.W.Frag} {H H' : Hp} {S S' : Addr → Prop} {σ σ' : Slots} {r r' : Env}
theorem Go.keep {σ σ' : Slots} {r r' : Env} (s : SR K σ H r S) (g : Go K σ r S H σ' r' S' H') : ∀ b o, H b = some o → (S b ∨ ¬ Mt o) → H' b = some o := fun b o e z => g.fr b o e fun q => by
  obtain ⟨o', e2, m, n⟩ := q.mt s
  rcases z with z | z
  · exact n z
  · rw [e2] at e; cases e; exact z m
/-- the slots' values at masked places do not matter -/
theorem Go.reslot {σ0 σ1 σ2 : Slots} {r0 : Env} {S0 : Addr → Prop} {H0 : Hp} (g : Go K σ0 r0 S0 H0 σ1 r S H) (l0 : σ2.length = σ1.length) (h0 : ∀ (j : Nat) (x : Val), r0[j]? = some x → x ≠ .em → σ2[j]? = σ0[j]?)
    (h1 : ∀ (j : Nat) (x : Val), r[j]? = some x → x ≠ .em → σ2[j]? = σ1[j]?) : Go K σ2 r0 S0 H0 σ2 r S H := by
  have owe : ∀ b, Own σ2 r0 b ↔ Own σ0 r0 b := fun b => by
    constructor
    · rintro (⟨j, xs, q, e⟩ | ⟨j, xs, q, e⟩)
      · refine .inl ⟨j, xs, q, ?_⟩
        rcases q with q | q
        · rw [← h0 j _ q (fun z => by cases z)]; exact e
        · rw [← h0 j _ q (fun z => by cases z)]; exact e
      · exact .inr ⟨j, xs, q, by rw [← h0 j _ q (fun z => by cases z)]; exact e⟩
    · rintro (⟨j, xs, q, e⟩ | ⟨j, xs, q, e⟩)
      · refine .inl ⟨j, xs, q, ?_⟩
        rcases q with q | q
        · rw [h0 j _ q (fun z => by cases z)]; exact e
        · rw [h0 j _ q (fun z => by cases z)]; exact e
      · exact .inr ⟨j, xs, q, by rw [h0 j _ q (fun z => by cases z)]; exact e⟩
  have own : ∀ (j : Nat) (xs : List D), (r[j]? = some (.ow xs) ∨ r[j]? = some (.io xs)) → σ2[j]? = σ1[j]? := fun j xs q => by
    rcases q with q | q
    · exact h1 j _ q (fun z => by cases z)
    · exact h1 j _ q (fun z => by cases z)
  refine ⟨⟨fun j d hj => ?_, fun j xs hj => ?_, fun j k xs ys b q1 q2 e1 e2 => ?_, g.sr.wf, by rw [g.sr.len, l0], fun j kvs hj => ?_, fun j k xs ys b q1 q2 e1 e2 => ?_⟩, fun b o e n => g.fr b o e fun z => n ((owe b).mpr z), g.dm, g.ss, fun b hb => ?_, fun b hb => ?_, g.ne, fun _ _ _ => rfl, fun j xs hj => ⟨rfl, (g.io j xs hj).2⟩, g.ln⟩
  · rw [h1 j _ hj (fun z => by cases z)]; exact g.sr.fz j d hj
  · rw [own j xs hj]; exact g.sr.lone j xs hj
  · rw [own j xs q1] at e1
    rw [own k ys q2] at e2
    exact g.sr.one j k xs ys b q1 q2 e1 e2
  · rw [h1 j _ hj (fun z => by cases z)]; exact g.sr.dic j kvs hj
  · rw [h1 j _ q1 (fun z => by cases z)] at e1
    rw [h1 k _ q2 (fun z => by cases z)] at e2
    exact g.sr.oned j k xs ys b q1 q2 e1 e2
  · rcases g.sg b hb with z | z | z
    · exact .inl z
    · exact .inr (.inl z)
    · exact .inr (.inr ((owe b).mpr z))
  · rcases hb with ⟨j, xs, q, e⟩ | ⟨j, xs, q, e⟩
    · rw [own j xs q] at e
      rcases g.ow b (.inl ⟨j, xs, q, e⟩) with z | z
      · exact .inl ((owe b).mpr z)
      · exact .inr z
    · rw [h1 j _ q (fun z => by cases z)] at e
      rcases g.ow b (.inr ⟨j, xs, q, e⟩) with z | z
      · exact .inl ((owe b).mpr z)
      · exact .inr z
theorem SR.reslot {σ1 σ2 : Slots} (s : SR K σ1 H r S) (l0 : σ2.length = σ1.length) (h1 : ∀ (j : Nat) (x : Val), r[j]? = some x → x ≠ .em → σ2[j]? = σ1[j]?) : SR K σ2 H r S :=
  (Go.reslot (Go.refl s) l0 h1 h1).sr
/-- an object that is nobody's is changed -/
theorem Go.side {σ0 : Slots} {r0 : Env} {S0 : Addr → Prop} {H0 : Hp} {p : Addr} {o : HO} (g : Go K σ0 r0 S0 H0 σ r S H) (h0 : H0 p = none) (hS : ¬ S p) (hO : ¬ Own σ r p) (hm : ∀ u, H p = some u → Mt u) : Go K σ0 r0 S0 H0 σ r S (upd H p o) := by
  have hk : ∀ b u, H b = some u → (S b ∨ ¬ Mt u) → upd H p o b = some u := fun b u e z => by
    rw [upd_ne (fun q => ?_)]
    · exact e
    · subst q
      rcases z with z | z
      · exact hS z
      · exact z (hm u e)
  have dm : ∀ b, H b ≠ none → upd H p o b ≠ none := fun b hb => by
    unfold upd
    split
    · intro z; cases z
    · exact hb
  refine ⟨⟨fun j d hj => ?_, fun j xs hj => ?_, g.sr.one, fun b hb => dm b (g.sr.wf b hb), g.sr.len, fun j kvs hj => ?_, g.sr.oned⟩, fun b u e n => ?_, fun b hb => dm b (g.dm b hb), g.ss, g.sg, g.ow, g.ne, g.em, g.io, g.ln⟩
  · obtain ⟨w, e, q⟩ := g.sr.fz j d hj
    exact ⟨w, e, Rp.mono hk (fun _ h => h) _ _ q⟩
  · obtain ⟨w, e, a, vs, rfl, h1, h2, h3⟩ := g.sr.lone j xs hj
    refine ⟨_, e, a, vs, rfl, ?_, h2, RpL.mono hk (fun _ h => h) _ _ h3⟩
    rw [upd_ne (fun q => by subst q; exact hO (.inl ⟨j, xs, hj, e⟩))]
    exact h1
  · obtain ⟨w, e, a, vs, rfl, h1, h2, h3⟩ := g.sr.dic j kvs hj
    refine ⟨_, e, a, vs, rfl, ?_, h2, RpI.mono hk (fun _ h => h) h3⟩
    rw [upd_ne (fun q => by subst q; exact hO (.inr ⟨j, kvs, hj, e⟩))]
    exact h1
  · rw [upd_ne (fun q => by subst q; rw [h0] at e; cases e)]
    exact g.fr b u e n
theorem freeze_get {i j : Nat} {x : Val} (h : (freeze i r)[j]? = some x) : r[j]? = some x ∨ (j = i ∧ ∃ xs, r[i]? = some (.ow xs) ∧ x = .fz (.list xs)) := by
  unfold freeze at h
  split at h
  · rename_i xs hx
    rcases get_set h with ⟨rfl, rfl⟩ | ⟨_, z⟩
    · exact .inr ⟨rfl, xs, hx, rfl⟩
    · exact .inl z
  · exact .inl h
theorem freeze_len (i : Nat) (r : Env) : (freeze i r).length = r.length := by
  unfold freeze
  split
  · rw [List.length_set]
  · rfl
theorem give_own : ∀ {os : List Opd} {r : Env} {j : Nat} {xs : List D}, (give os r)[j]? = some (.ow xs) → r[j]? = some (.ow xs) ∧ j ∉ opdIx os
  | [], r, j, xs, h => ⟨h, by simp [opdIx]⟩
  | .ref i :: os, r, j, xs, h => by
    obtain ⟨h1, h2⟩ := give_own (os := os) h
    rcases freeze_get h1 with z | ⟨_, ys, _, z⟩
    · refine ⟨z, fun m => ?_⟩
      simp only [opdIx, List.mem_cons] at m
      rcases m with rfl | m
      · unfold freeze at h1
        rw [z] at h1
        simp only at h1
        rw [List.getElem?_set_self (get_lt z)] at h1
        cases h1
      · exact h2 m
    · cases z
  | .val _ :: os, r, j, xs, h => by
    obtain ⟨h1, h2⟩ := give_own (os := os) h
    exact ⟨h1, by simpa [opdIx] using h2⟩
theorem give_io : ∀ {os : List Opd} {r : Env} {j : Nat} {xs : List D}, (give os r)[j]? = some (.io xs) → r[j]? = some (.io xs)
  | [], r, j, xs, h => h
  | .ref i :: os, r, j, xs, h => by
    have h1 := give_io (os := os) h
    rcases freeze_get h1 with z | ⟨_, ys, _, z⟩
    · exact z
    · cases z
  | .val _ :: os, r, j, xs, h => give_io (os := os) h
theorem give_keep : ∀ {os : List Opd} {r : Env} {j : Nat} {y : Val}, (give os r)[j]? = some y → (∀ d, y ≠ .fz d) → r[j]? = some y
  | [], r, j, y, h, _ => h
  | .ref i :: os, r, j, y, h, n => by
    have h1 := give_keep (os := os) h n
    rcases freeze_get h1 with z | ⟨_, ys, _, z⟩
    · exact z
    · exact absurd z (n _)
  | .val _ :: os, r, j, y, h, n => give_keep (os := os) h n
theorem hidden_mem : ∀ {os : List Opd} {r : Env} {j : Nat}, j ∈ hidden os r → j ∈ opdIx os ∧ ∃ xs, r[j]? = some (.ow xs)
  | [], r, j, h => by simp [hidden] at h
  | .ref i :: os, r, j, h => by
    simp only [hidden] at h
    split at h
    · rename_i xs hx
      rcases List.mem_cons.mp h with rfl | h
      · exact ⟨by simp [opdIx], xs, hx⟩
      · obtain ⟨h1, h2⟩ := hidden_mem h
        exact ⟨by simp [opdIx, h1], h2⟩
    · obtain ⟨h1, h2⟩ := hidden_mem h
      exact ⟨by simp [opdIx, h1], h2⟩
  | .val _ :: os, r, j, h => by
    obtain ⟨h1, h2⟩ := hidden_mem (os := os) h
    exact ⟨by simpa [opdIx] using h1, h2⟩
theorem mem_hidden : ∀ {os : List Opd} {r : Env} {j : Nat} {xs : List D}, j ∈ opdIx os → r[j]? = some (.ow xs) → j ∈ hidden os r
  | [], r, j, xs, h, _ => by simp [opdIx] at h
  | .ref i :: os, r, j, xs, h, e => by
    simp only [opdIx, List.mem_cons] at h
    simp only [hidden]
    rcases h with rfl | h
    · rw [e]; exact List.mem_cons_self
    · split
      · exact List.mem_cons_of_mem _ (mem_hidden h e)
      · exact mem_hidden h e
  | .val _ :: os, r, j, xs, h, e => mem_hidden (os := os) (by simpa [opdIx] using h) e
theorem wipeV_out {vs : List Nat} {j : Nat} (h : j ∉ vs) : (L2.wipe σ vs)[j]? = σ[j]? := by
  induction vs with
  | nil => rfl
  | cons v vs ih =>
    unfold L2.wipe
    rw [List.getElem?_set_ne (fun z => h (by simp [z])), ih fun z => h (List.mem_cons_of_mem _ z)]
theorem wipeV_in {vs : List Nat} {j : Nat} (h : j ∈ vs) (hj : j < σ.length) : (L2.wipe σ vs)[j]? = some none := by
  induction vs with
  | nil => cases h
  | cons v vs ih =>
    unfold L2.wipe
    by_cases e : v = j
    · subst e
      rw [List.getElem?_set_self (by rw [L2.wipe_length]; exact hj)]
    · rw [List.getElem?_set_ne e]
      rcases List.mem_cons.mp h with z | z
      · exact absurd z.symm e
      · exact ih z
theorem wipeV_eq {vs : List Nat} (hl : σ'.length = σ.length) (h : ∀ j, j ∉ vs → σ'[j]? = σ[j]?) : L2.wipe σ' vs = L2.wipe σ vs := by
  apply List.ext_getElem?
  intro j
  by_cases m : j ∈ vs
  · by_cases hj : j < σ.length
    · rw [wipeV_in m hj, wipeV_in m (by omega)]
    · rw [List.getElem?_eq_none (by rw [L2.wipe_length]; omega), List.getElem?_eq_none (by rw [L2.wipe_length]; omega)]
  · rw [wipeV_out m, wipeV_out m, h j m]
end

section
variable {X : Cx} {M : Mat} {C : Ctx} {k : Nat}
def tCs (K : PySem.W.Frag) (C : Ctx) (c : List E) : TT := fun σ H Q => ∃ r S b r', SR K σ H r S ∧ evCs C c r = .ok (b, r') ∧ ∀ H' S', Go K σ r S H σ r' S' H' → Q b H'
theorem pts_cs (G : GX X M C k) {c : List E} {ps : List Expr} (ih : SndL C k c) (h : mEs M c ps = true) : PTs X ps (tCs X.K C c) := by
  match c, ps, h with
  | [], [], _ => exact ⟨fun pins s σ H Q I ⟨r, S, b, r', sr, e, q⟩ => by
      simp only [evCs] at e
      cases e
      exact pts_nil.run pins s σ H Q I (q H S (.refl sr))⟩
  | [e], [p], h =>
    simp only [mEs, Bool.and_eq_true] at h
    have h1 := (ih e List.mem_cons_self X M p G h.1.2).2
    exact ⟨fun pins s σ H Q I ⟨r, S, b, r', sr, e, q⟩ => by
      simp only [evCs] at e
      exact (pts_one h1).run pins s σ H Q I ⟨r, S, b, r', sr, e, q⟩⟩
  | [], _ :: _, h => simp only [mEs] at h; cases h
  | _ :: _, [], h => simp only [mEs] at h; cases h
  | e :: e' :: c, [p], h => simp only [mEs, Bool.and_false] at h; cases h
  | [e], p :: p' :: ps, h => simp only [mEs, Bool.and_false] at h; cases h
  | e :: e' :: c, p :: p' :: ps, h => exact ⟨fun pins s σ H Q I ⟨r, S, b, r', sr, e, q⟩ => by simp only [evCs] at e; cases e⟩
theorem GX.inner (G : GX X M C k) {scope : Scope} (hk : scope.kind = .function) (s : Shared) (H : Hp) (Ca : Addr) (cl : List (Str × Addr)) (fp : List Addr) : GX (X.blk s H scope (compEnvC scope cl Ca X.env) fp) (inner M scope) C k where
  calm := G.calm
  kind := hk
  nd := G.nd
  hN := G.hN
  sc := by show relS scope X.env.scope = relS scope M.sc; rw [G.sc]
  fnb := fun x h => by
    show (scope.names.lookup x == some .cell) = true
    have h : (match scope.names.lookup x with | some .cell => true | _ => false) = true := h
    split at h
    · rename_i e; rw [e]; rfl
    · cases h
  room := G.room
  bn := G.bn
  gl := G.gl
  fns := fun f => (G.fns f).imp (fun h => ⟨h.it⟩) id
  xcs := G.xcs
  err := G.err
theorem ownOf_snd (N : List Str) : ∀ is : List Nat, (ownOf N is).map (·.2) = is
  | [] => rfl
  | i :: is => by simp [ownOf, ownOf_snd N is]

/-- [elt for t in .. if ..], whatever is walked -/
theorem snd_lc (G : GX X M C k) {hid : Bool} {t : Tgt} {ik : Ik} {es c : List E} {elt : E} {pelt tg iter : Expr} {ifs : List Expr} {scope : Scope} {pos : Pos} (hi : PI X tg iter (tI X.K C ik es)) (hns : ∀ x, foldedSetIterable iter X.env x = pure x)
    (hb : blkC M.N M.sc scope (ownOf M.N t.slots) = true) (hT : mT (inner M scope) t tg = true) (hc : mEs (inner M scope) c ifs = true) (he : mE (inner M scope) elt pelt = true) (ihc : SndL C k c) (ihe : SndE C k elt) :
    PE X (.ListComp pelt [⟨tg, iter, ifs, 0⟩] scope pos) (tLc (tI X.K C ik es) (gB X.K t) (tCs X.K C c) (tX X.K C elt) t.slots) ∧
    (∀ {i : Nat} {y : Str} {py spos : Pos}, X.N[i]? = some y → X.env.scope.names.lookup y = some .local → (py.line == pos.line) = true → (scope.names.any fun (n, k) => n == y && (k == .local || k == .cell)) = false →
      PS X (.Assign [.Name y py] (.ListComp pelt [⟨tg, iter, ifs, 0⟩] scope pos) spos) (tAsg (tLc (tI X.K C ik es) (gB X.K t) (tCs X.K C c) (tX X.K C elt) t.slots) (gName i))) := by
  have ok : BlkOk X.N X.env.scope scope (ownOf M.N t.slots) := by rw [G.hN, G.sc]; exact blkOk_by hb
  have hg : ∀ (s : Shared) (H : Hp) (Ca : Addr) (cl : List (Str × Addr)) (fp : List Addr), PG (X.blk s H scope (compEnvC scope cl Ca X.env) fp) tg (gB X.K t) := fun s H Ca cl fp => by
    have G' := G.inner (scope := scope) ok.kind s H Ca cl fp
    exact pg_t (M := inner M scope) G'.calm G'.nd G'.hN (fun x hx => loc_of G' hx) t tg hT
  have ht : ∀ (s : Shared) (H : Hp) (Ca : Addr) (cl : List (Str × Addr)) (fp : List Addr), PTs (X.blk s H scope (compEnvC scope cl Ca X.env) fp) ifs (tCs X.K C c) := fun s H Ca cl fp => pts_cs (G.inner (scope := scope) ok.kind s H Ca cl fp) ihc hc
  have hx : ∀ (s : Shared) (H : Hp) (Ca : Addr) (cl : List (Str × Addr)) (fp : List Addr), PE (X.blk s H scope (compEnvC scope cl Ca X.env) fp) pelt (tX X.K C elt) := fun s H Ca cl fp =>
    pe_x (X := X.blk s H scope (compEnvC scope cl Ca X.env) fp) (ihe _ _ _ (G.inner (scope := scope) ok.kind s H Ca cl fp) he).1
  have e2 := ownOf_snd M.N t.slots
  refine ⟨?_, fun {i y py spos} h1 h2 h3 h4 => ?_⟩
  · have := pe_lc (pos := pos) G.calm G.nd hi ok hg ht hx hns
    rw [e2] at this
    exact this
  · have := ps_setLc (pos := pos) (spos := spos) (py := py) (i := i) (y := y) G.calm G.nd h1 h2 (sw_true G.kind h2 h3 h4) hi ok hg ht hx hns
    rw [e2] at this
    exact this

/-- the meaning of a comprehension is its reading -/
theorem lc_imp {hid : Bool} {t : Tgt} {ik : Ik} {es c : List E} {elt : E} {K : PySem.W.Frag} {σ : Slots} {H : Hp} {Q : VK} (h : tE K C (.lc hid t ik es c elt) σ H Q) :
    tLc (tI K C ik es) (gB K t) (tCs K C c) (tX K C elt) t.slots σ H Q := by
  obtain ⟨r, S, x, r', s, ev, q⟩ := h
  simp only [evE] at ev
  obtain ⟨⟨os, r1⟩, e1, ev⟩ := bind_ok ev
  obtain ⟨ds, e2, ev⟩ := bind_ok ev
  obtain ⟨xs, e3, ev⟩ := bind_ok ev
  dsimp only at ev
  split at ev
  · rename_i nio
    obtain ⟨⟨acc, r3⟩, e4, ev⟩ := bind_ok ev
    cases ev
    have nio1 : noIo (opdIx os) r1 = true := by
      unfold noIo at nio ⊢
      rw [List.all_append, Bool.and_eq_true] at nio
      exact nio.1
    refine ⟨r, S, os, r1, ds, xs, s, e1, e2, e3, nio1, fun H1 S1 J g1 src Dn hD => ?_⟩
    obtain ⟨A, Rel, Y, wk, hrel, gv, hA⟩ := src.it
    -- the base: given up, or not
    generalize hms : t.slots ++ (if hid = true then hidden os r1 else []) = ms at e4 q
    generalize hr1' : (if hid = true then r1 else give os r1) = r1' at e4 q
    have base : ∃ S1', Go K σ r1 S1 H1 σ r1' S1' H1 := by
      rw [← hr1']
      cases hid with
      | true => exact ⟨S1, .refl g1.sr⟩
      | false => exact give_any os r1 S1 g1.sr
    obtain ⟨S1', g1'⟩ := base
    have nioM : noIo ms r1' = true := by
      unfold noIo at nio ⊢
      rw [List.all_append, Bool.and_eq_true] at nio
      rw [List.all_eq_true]
      intro i hi
      have io1 : isIo r1 i = false := by
        rw [← hms] at hi
        rcases List.mem_append.mp hi with hi | hi
        · have := List.all_eq_true.mp nio.2 i hi
          simpa using this
        · cases hid with
          | true =>
            have := List.all_eq_true.mp nio.1 i (hidden_mem hi).1
            simpa using this
          | false => simp at hi
      have : isIo r1' i = false := by
        cases hq : r1'[i]? with
        | none => simp [isIo, hq]
        | some y =>
          cases y with
          | io ys =>
            have : r1[i]? = some (.io ys) := by
              rw [← hr1'] at hq
              cases hid with
              | true => exact hq
              | false => exact give_io hq
            simp [isIo, this] at io1
          | od ys =>
            have : r1[i]? = some (.od ys) := by
              rw [← hr1'] at hq
              cases hid with
              | true => exact hq
              | false => exact give_keep hq fun d z => by cases z
            simp [isIo, this] at io1
          | un =>
            have : r1[i]? = some .un := by
              rw [← hr1'] at hq
              cases hid with
              | true => exact hq
              | false => exact give_keep hq fun d z => by cases z
            simp [isIo, this] at io1
          | _ => simp [isIo, hq]
      simp [this]
    -- masked, wiped
    generalize hσw : L2.wipe σ t.slots = σw
    have lw : σw.length = σ.length := by rw [← hσw, L2.wipe_length]
    have tm : ∀ i ∈ t.slots, i ∈ ms := fun i hi => by rw [← hms]; exact List.mem_append_left _ hi
    have hem : ∀ i ∈ t.slots, ∀ y, (wipeE ms r1')[i]? = some y → y = .em := fun i hi y hy => by
      rcases wipe_get hy with ⟨_, z⟩ | ⟨n, _⟩
      · exact z
      · exact absurd (tm i hi) n
    have agree : ∀ (j : Nat), j ∉ t.slots → σw[j]? = σ[j]? := fun j hj => by rw [← hσw]; exact wipeV_out hj
    have sw : SR K σw H1 (wipeE ms r1') S1' := (mask_sr g1'.sr).reslot lw fun j y hy ny => agree j fun m => ny (hem j m y hy)
    -- what is walked stands
    have stand : ∀ b, A b → ¬ Own σw (wipeE ms r1') b := fun b hb z => by
      rcases z with z | ⟨j, ys, q1, q2⟩
      rotate_left
      · have q2' : σ[j]? = some (some (.ref b)) := by
          rw [← agree j fun m => ?_]
          · exact q2
          · have := hem j m _ q1; cases this
        have q3 : r1[j]? = some (.od ys) := by
          rcases wipe_get q1 with ⟨_, z⟩ | ⟨_, q1⟩
          · cases z
          · rw [← hr1'] at q1
            cases hid with
            | true => exact q1
            | false => exact give_keep q1 fun d z => by cases z
        rcases hA b hb with n | ⟨i, zs, hi, h2, h3⟩
        · exact n (.inr ⟨j, ys, q3, q2'⟩)
        · obtain ⟨ws, k1, _⟩ := OwnL.lst g1.sr ⟨i, zs, .inl h2, h3⟩
          obtain ⟨us, k2, _⟩ := OwnD.dct g1.sr ⟨j, ys, q3, q2'⟩
          rw [k1] at k2; cases k2
      have z2 : OwnL σ (wipeE ms r1') b := by
        obtain ⟨j, ys, q1, q2⟩ := z
        refine ⟨j, ys, q1, ?_⟩
        rw [← agree j fun m => ?_]
        · exact q2
        · rcases q1 with q1 | q1 <;> (have := hem j m _ q1; cases this)
      obtain ⟨_, j, nj, ys, q1, q2⟩ := ownL_wipe z2
      have q1' : r1[j]? = some (.ow ys) ∨ r1[j]? = some (.io ys) := by
        rw [← hr1'] at q1
        cases hid with
        | true => exact q1
        | false => exact q1.imp (fun z => (give_own z).1) give_io
      rcases hA b hb with n | ⟨i, zs, hi, h2, h3⟩
      · exact n (.inl ⟨j, ys, q1', q2⟩)
      · have := g1.sr.one j i ys zs b q1' (.inl h2) q2 h3
        subst this
        cases hid with
        | true =>
          apply nj
          rw [← hms]
          exact List.mem_append_right _ (mem_hidden hi h2)
        | false =>
          rw [← hr1'] at q1
          rcases q1 with q1 | q1
          · exact (give_own q1).2 hi
          · have := give_io q1
            rw [h2] at this
            cases this
    have hD0 : H Dn = none := by
      cases e : H Dn with
      | none => rfl
      | some o => exact absurd hD (g1.dm Dn (by rw [e]; intro z; cases z))
    have notS : ¬ S1' Dn := fun z => sw.wf Dn z hD
    have g00 : Go K σw (wipeE ms r1') S1' H1 σw (wipeE ms r1') S1' (upd H1 Dn (.lst [])) := Go.ext sw (.new sw.wf hD)
    rw [← hσw] at *
    refine lc_it wk (Pv := fun i H' => ∃ r S accD accV, Go K (L2.wipe σ t.slots) (wipeE ms r1') S1' H1 (L2.wipe σ t.slots) r S H' ∧ lcLoop t.slots (bindT t) (evCs C c) (fun r => fixed (evE C elt r)) (xs.drop i) accD r = .ok (acc, r3) ∧
        H' Dn = some (.lst accV) ∧ RpL K H' S accV accD ∧ ¬ S Dn ∧ ¬ Own (L2.wipe σ t.slots) r Dn ∧ (∀ i ∈ t.slots, ∀ y, r[i]? = some y → y = .em)) ?_ ?_ ?_ ?_
    · exact ⟨_, S1', [], [], g00, by simpa using e4, upd_same, .nil, notS, (fun z => by
        obtain ⟨ws, h1, _⟩ := Own.mt sw z
        rw [hD] at h1; cases h1), hem⟩
    · rintro i H' _ ⟨r, S, accD, accV, g, _⟩ b o hb ho
      exact g.fr b o ho (stand b hb)
    · rintro i x H2 H3 hi ⟨r, S, accD, accV, g2, el, hDl2, hac2, nS, nO, emp⟩ hy
      have hrel2 : Rel H2 S := gv.mono (g2.keep sw) g2.ss (gv.mono (g1'.keep g1.sr) g1'.ss hrel)
      obtain ⟨d, hd, ex, hvx⟩ := gv.turn i H2 x H3 S hi hrel2 g2.sr.wf hy
      have g := g2.trans sw (Go.ext g2.sr ex)
      have hDl := ex.fr _ _ hDl2
      have hac := ex.rpL hac2
      have hdr : xs.drop i = d :: xs.drop (i + 1) := by
        have hlt : i < xs.length := get_lt hd
        rw [List.drop_eq_getElem_cons hlt]
        congr 1
        rw [List.getElem?_eq_getElem hlt] at hd
        exact Option.some.inj hd
      rw [hdr] at el
      simp only [lcLoop] at el
      obtain ⟨ra, f1, el⟩ := bind_ok el
      obtain ⟨⟨b, rb⟩, f2, el⟩ := bind_ok el
      refine ⟨r, S, d, ra, g.sr, hvx, f1, fun σ2 g2 n2 => ⟨?_, ra, S, b, rb, g2.sr, f2, fun H4 S4 g4 => ?_⟩⟩
      · have l2 : σ2.length = (L2.wipe σ t.slots).length := by rw [← g2.sr.len, ← g.sr.len, g2.ln]
        rw [wipeV_eq l2 n2]
        exact wipeV_eq (L2.wipe_length _ _) fun j hj => wipeV_out hj
      · dsimp only at el
        have gA := g2.trans g.sr g4
        -- the turn's end, back at the wiped slots
        have fin : ∀ {r5 : Env} {S5 : Addr → Prop} {H5 : Hp}, Go K σ2 rb S4 H4 σ2 r5 S5 H5 → Go K (L2.wipe σ t.slots) (wipeE ms r1') S1' H1 (L2.wipe σ t.slots) (wipeE t.slots r5) S5 H5 ∧ ¬ S5 Dn ∧ ¬ Own (L2.wipe σ t.slots) (wipeE t.slots r5) Dn ∧ H5 Dn = some (.lst accV) := fun {r5 S5 H5} g5 => by
          have gB := gA.trans g.sr g5
          have gC := g.trans sw gB
          have nr : ∀ (j : Nat) (y : Val), (wipeE t.slots r5)[j]? = some y → y ≠ .em → (L2.wipe σ t.slots)[j]? = σ2[j]? := fun j y hy ny => by
            rcases wipe_get hy with ⟨_, z⟩ | ⟨nj, _⟩
            · exact absurd z ny
            · exact (n2 j nj).symm
          have own5 : ∀ b, Own (L2.wipe σ t.slots) (wipeE t.slots r5) b → Own σ2 r5 b := fun b q => by
            rcases q with ⟨j, ys, q1, q2⟩ | ⟨j, ys, q1, q2⟩
            rotate_left
            · rcases wipe_get q1 with ⟨_, z⟩ | ⟨n, z⟩
              · cases z
              · exact .inr ⟨j, ys, z, by rw [n2 j n]; exact q2⟩
            have : j ∉ t.slots ∧ (r5[j]? = some (.ow ys) ∨ r5[j]? = some (.io ys)) := by
              rcases q1 with q1 | q1 <;> (rcases wipe_get q1 with ⟨_, z⟩ | ⟨n, z⟩)
              · cases z
              · exact ⟨n, .inl z⟩
              · cases z
              · exact ⟨n, .inr z⟩
            exact .inl ⟨j, ys, this.2, by rw [n2 j this.1]; exact q2⟩
          have go : Go K (L2.wipe σ t.slots) (wipeE ms r1') S1' H1 (L2.wipe σ t.slots) (wipeE t.slots r5) S5 H5 := by
            refine ⟨(mask_sr gC.sr).reslot (by rw [← gC.sr.len, gC.ln, sw.len]) nr, gC.fr, gC.dm, gC.ss, gC.sg, fun b hb => gC.ow b (own5 b hb), fun j y h1 h2 => ?_, fun _ _ _ => rfl, fun j ys hj => ⟨rfl, ?_⟩, by rw [wipe_length]; exact gC.ln⟩
            · have nj : j ∉ t.slots := fun m => h2 (hem j m y h1)
              rw [wipe_out nj]
              exact gC.ne j y h1 h2
            · have nj : j ∉ t.slots := fun m => by have := hem j m _ hj; cases this
              rw [wipe_out nj]
              exact (gC.io j ys hj).2
          have oD : ¬ Own σ2 r5 Dn := fun z => by
            rcases gB.ow Dn z with z | z
            · exact nO z
            · rw [hDl] at z; cases z
          refine ⟨go, fun z => ?_, fun z => oD (own5 Dn z), gB.fr Dn _ hDl nO⟩
          · rcases gB.sg Dn z with z | z | z
            · exact nS z
            · rw [hDl] at z; cases z
            · exact nO z
        have empW : ∀ (r5 : Env), ∀ i ∈ t.slots, ∀ y, (wipeE t.slots r5)[i]? = some y → y = .em := fun r5 i hi y hy => by
          rcases wipe_get hy with ⟨_, z⟩ | ⟨n, _⟩
          · exact z
          · exact absurd hi n
        cases b with
        | false =>
          simp only [Bool.false_eq_true, if_false] at el ⊢
          obtain ⟨go, h1, h2, h3⟩ := fin (.refl g4.sr)
          exact ⟨_, S4, accD, accV, go, el, h3, (g.sr |> gA.rpL) hac, h1, h2, empW rb⟩
        | true =>
          simp only [if_true] at el ⊢
          obtain ⟨⟨y, rc⟩, f3, el⟩ := bind_ok el
          refine ⟨rb, S4, y, rc, g4.sr, f3, fun v H5 S5 g5 w5 => ?_⟩
          obtain ⟨go, h1, h2, h3⟩ := fin g5
          dsimp only at el
          split at el
          · rename_i hlen
            have hacl := (gA.trans g.sr g5).rpL g.sr hac
            have hz : accV.length < sizeLine := by
              have := len_of hlen
              rw [← hacl.length] at this
              omega
            refine ⟨accV, h3, hz, _, S5, accD ++ [y], accV ++ [v], go.side hD h1 h2 fun u hu => ?_, el, upd_same, ?_, h1, h2, empW rc⟩
            · rw [h3] at hu; cases hu; trivial
            · have hk : ∀ b u, H5 b = some u → (S5 b ∨ ¬ Mt u) → upd H5 Dn (.lst (accV ++ [v])) b = some u := fun b u e z => by
                rw [upd_ne (fun q => ?_)]
                · exact e
                · subst q
                  rcases z with z | z
                  · exact h1 z
                  · rw [h3] at e; cases e; exact z trivial
              exact (RpL.mono hk (fun _ h => h) _ _ hacl).append (.cons (Rp.mono hk (fun _ h => h) _ _ w5) .nil)
          · cases el
    · rintro H2 ⟨r, S2, accD, accV, g, el, hDl, hac, nS, nO, emp⟩
      rw [List.drop_of_length_le (by omega)] at el
      simp only [lcLoop] at el
      cases el
      -- back to the def's slots
      have gS : Go K σ (wipeE ms r1') S1' H1 σ r3 S2 H2 := g.reslot (σ2 := σ) (by rw [L2.wipe_length]) (fun j y hy ny => (agree j fun m => ny (hem j m y hy)).symm) (fun j y hy ny => (agree j fun m => ny (emp j m y hy)).symm)
      have gF := unmask g1'.sr nioM (fun _ _ => rfl) gS
      refine q _ _ _ ((g1.trans s g1').trans s gF) ⟨Dn, accV, rfl, hD0, hDl, nS, fun z => ?_, hac⟩
      have hlr : r3.length = r1'.length := by rw [gS.ln, wipe_length]
      rcases z with ⟨j, ys, q1, q2⟩ | ⟨j, ys, q1, q2⟩
      · by_cases m : j ∈ ms
        · rw [back_in hlr m] at q1
          obtain ⟨ws, h1, _⟩ := OwnL.lst g1'.sr ⟨j, ys, q1, q2⟩
          rw [hD] at h1; cases h1
        · rw [back_out m] at q1
          refine nO (.inl ⟨j, ys, q1, ?_⟩)
          rw [agree j fun z => m (tm j z)]
          exact q2
      · by_cases m : j ∈ ms
        · rw [back_in hlr m] at q1
          obtain ⟨ws, h1, _⟩ := OwnD.dct g1'.sr ⟨j, ys, q1, q2⟩
          rw [hD] at h1; cases h1
        · rw [back_out m] at q1
          refine nO (.inr ⟨j, ys, q1, ?_⟩)
          rw [agree j fun z => m (tm j z)]
          exact q2
  · cases ev
end
end DL

set_option Elab.async false
set_option linter.all false
set_option maxRecDepth 100000
set_option maxHeartbeats 4000000
set_option autoImplicit false
/-! DLW: [f(y) for x in e for y in x]. -/
namespace DL
open PySem PySem.Spec PyProof.Rows L2
theorem lc_it1 {J : It} {n : Nat} {G : Hp → Prop} {Y : Nat → Hp → V → Hp → Prop} (w : Walk J n G Y) {Stp : V → Hp → (Hp → Prop) → Prop} {Qd : Hp → Prop} (Pv : Nat → Hp → Prop) {H0 : Hp} (h0 : Pv 0 H0) (hG : ∀ i H, i ≤ n → Pv i H → G H)
    (hs : ∀ i x H H', i < n → Pv i H → Y i H x H' → Stp x H' (Pv (i + 1))) (hd : ∀ H, Pv n H → Qd H) :
    ∃ W : Nat → Nat → Hp → Prop, (∃ m, W 0 m H0) ∧ ∀ i m H, W i m H →
      (J.stop i H ∧ Qd H) ∨ (J.go i H ∧ ∃ Nx : Hp → Prop, (∀ H', Nx H' → ∃ m', m' < m ∧ W (i + 1) m' H') ∧ ∀ x H', J.yld i H x H' → Stp x H' Nx) := by
  refine ⟨fun i m H => m = n - i ∧ i ≤ n ∧ Pv i H, ⟨n, by simp, Nat.zero_le _, h0⟩, ?_⟩
  rintro i m H ⟨rfl, hi, p⟩
  have q := hG i H hi p
  by_cases hlt : i < n
  · refine .inr ⟨w.goes i H hlt q, Pv (i + 1), fun H' p' => ⟨n - (i + 1), by omega, rfl, hlt, p'⟩, fun x H' y => hs i x H H' hlt p (w.yields i H x H' hlt q y)⟩
  · have e : i = n := by omega
    subst e
    exact .inl ⟨w.stops H q, hd H p⟩
/-- data that stands still is walked -/
def Src0 (K : PySem.W.Frag) (S : Addr → Prop) (H : Hp) (J : It) (xs : List D) : Prop :=
  ∃ (A : Addr → Prop) (Rel : Hp → (Addr → Prop) → Prop) (Y : Nat → Hp → V → Hp → Prop), Walk J xs.length (fun H1 => ∀ b o, A b → H b = some o → H1 b = some o) Y ∧ Rel H S ∧ Gives K xs Rel Y ∧ ∀ b, A b → S b ∨ ∃ o, H b = some o ∧ ¬ Mt o
def tI0 (K : PySem.W.Frag) (i0 : Nat) : TI := fun σ H R => ∃ r S d ys, SR K σ H r S ∧ r[i0]? = some (.fz d) ∧ items0 d = .ok ys ∧ ∀ J, Src0 K S H J ys → R J H
theorem src0_of {K : PySem.W.Frag} {S : Addr → Prop} {H : Hp} {J : It} {xs : List D} {A : Addr → Prop} {vs : List V} (w : Walk J vs.length (fun H1 => ∀ b o, A b → H b = some o → H1 b = some o) (YAt vs)) (h : RpL K H S vs xs) (c : ∀ b, A b → S b ∨ ∃ o, H b = some o ∧ ¬ Mt o) : Src0 K S H J xs :=
  ⟨A, _, YAt vs, by rw [← h.length]; exact w, h, gives_at, c⟩
theorem rd_stable {H : Hp} {a : Addr} {u : HO} (h : Rd H a u) (n : ¬ Mt u) : ∃ o, H a = some o ∧ ¬ Mt o := by
  rcases h with h | ⟨o, h⟩
  · exact ⟨_, h, n⟩
  · exact ⟨_, h, fun z => z⟩
section
variable {X : Cx} {M : Mat} {C : Ctx} {k : Nat} {tg : Expr}
theorem pi_seq0 {i0 : Nat} {p : Expr} (hp : PE X p (tVar i0)) : PI X tg p (tI0 X.K i0) := by
  refine ⟨fun pins s σ H R I h => ?_⟩
  obtain ⟨r, S, d, ys, sr, hr, e3, q⟩ := h
  obtain ⟨v, hv, w⟩ := sr.fz i0 d hr
  cases d with
  | list ys =>
    cases e3
    refine (pi_list hp).run pins s σ H R I ⟨v, hv, ?_⟩
    cases w with
    | lst q1 q2 q3 =>
      refine ⟨_, rfl, ⟨_, .inl q2⟩, q _ (src0_of (A := fun b => b = _) (walk_list.mono (fun H1 hk => ?_) (fun _ _ _ _ _ _ y => y)) q3 fun b hb => by rw [hb]; exact .inl q1)⟩
      rcases q2 with q2 | ⟨o, q2⟩
      · exact .inl (.inl (hk _ _ rfl q2))
      · exact .inl (.inr ⟨o, hk _ _ rfl q2⟩)
    | lstK q1 q3 => exact ⟨_, rfl, ⟨_, .inr q1⟩, q _ (src0_of (A := fun _ => False) (walk_list.mono (fun H1 hk => .inr q1) (fun _ _ _ _ _ _ y => y)) q3 fun b hb => hb.elim)⟩
  | tuple ys =>
    cases e3
    refine (pi_tup hp).run pins s σ H R I ⟨v, hv, ?_⟩
    obtain ⟨a, vs, rfl, h1, h2⟩ := RB.tup (.inl w)
    refine ⟨a, rfl, ⟨vs, h1⟩, q _ ?_⟩
    rcases h1 with h1 | h1
    · refine src0_of (A := fun b => b = a) (walk_tup.mono (fun H1 hk => ?_) (fun _ _ _ _ _ _ y => y)) h2 fun b hb => by rw [hb]; exact .inr (rd_stable h1 fun z => z)
      rcases h1 with h1 | ⟨o, h1⟩
      · exact .inl (.inl (hk a _ rfl h1))
      · exact .inl (.inr ⟨o, hk a _ rfl h1⟩)
    · exact src0_of (A := fun _ => False) (walk_tup.mono (fun H1 hk => .inr h1) (fun _ _ _ _ _ _ y => y)) h2 fun b hb => hb.elim
  | str z =>
    cases e3
    refine (pi_str hp).run pins s σ H R I ⟨v, hv, ?_⟩
    cases RB.str (.inl w)
    refine ⟨z, rfl, q _ (src0_of (A := fun _ => False) (vs := z.cps.toList.map (fun c => V.str ⟨#[c]⟩)) ?_ (rpl_signs _) fun b hb => hb.elim)⟩
    have hl : (z.cps.toList.map (fun c => V.str ⟨#[c]⟩)).length = z.cps.size := by simp
    rw [hl]
    refine walk_str.mono (fun _ _ => trivial) fun i H x H' hi _ y => ⟨y.1, ?_⟩
    obtain ⟨c, h1, h2⟩ := y.2
    rw [List.getElem?_map, h2]
    rw [← Array.getElem?_toList] at h1
    rw [h1]; rfl
  | _ => cases e3
/-- [elt for x in e for y in x] -/
theorem snd_fl2 (G : GX X M C k) {i0 i1 : Nat} {e elt : E} {pelt tg iter tg1 iter1 : Expr} {scope : Scope} {pos : Pos} (hi : PI X tg iter (tI X.K C .seq [e])) (hns : ∀ x, foldedSetIterable iter X.env x = pure x)
    (hb : blkC M.N M.sc scope (ownOf M.N [i0, i1]) = true) (hT : mT (inner M scope) (.one i0) tg = true) (hp1 : plainE iter1 = true) (hi0 : nmE (inner M scope) i0 iter1 = true) (hT1 : mT (inner M scope) (.one i1) tg1 = true) (he : mE (inner M scope) elt pelt = true) (ihe : SndE C k elt) :
    PE X (.ListComp pelt [⟨tg, iter, [], 0⟩, ⟨tg1, iter1, [], 0⟩] scope pos) (tLc2 (tI X.K C .seq [e]) (gB X.K (.one i0)) (tCs X.K C []) (tI0 X.K i0) (gB X.K (.one i1)) (tCs X.K C []) (tX X.K C elt) [i0, i1] [i1]) := by
  have hi1 : mE (inner M scope) (.v i0) iter1 = true := by
    cases iter1 with
    | Name x px => simp only [mE]; exact hi0
    | _ => exact absurd (show false = true from hi0) Bool.false_ne_true
  have ok : BlkOk X.N X.env.scope scope (ownOf M.N [i0, i1]) := by rw [G.hN, G.sc]; exact blkOk_by hb
  have hg : ∀ (t : Tgt) (tg : Expr), mT (inner M scope) t tg = true → ∀ (s : Shared) (H : Hp) (Ca : Addr) (cl : List (Str × Addr)) (fp : List Addr), PG (X.blk s H scope (compEnvC scope cl Ca X.env) fp) tg (gB X.K t) := fun t tg hT s H Ca cl fp => by
    have G' := G.inner (scope := scope) ok.kind s H Ca cl fp
    exact pg_t (M := inner M scope) G'.calm G'.nd G'.hN (fun x hx => loc_of G' hx) t tg hT
  have ht : ∀ (s : Shared) (H : Hp) (Ca : Addr) (cl : List (Str × Addr)) (fp : List Addr), PTs (X.blk s H scope (compEnvC scope cl Ca X.env) fp) [] (tCs X.K C []) := fun s H Ca cl fp => pts_cs (G.inner (scope := scope) ok.kind s H Ca cl fp) (fun _ h => by cases h) rfl
  have hi1' : ∀ (s : Shared) (H : Hp) (Ca : Addr) (cl : List (Str × Addr)) (fp : List Addr), PI (X.blk s H scope (compEnvC scope cl Ca X.env) fp) tg1 iter1 (tI0 X.K i0) := fun s H Ca cl fp =>
    pi_seq0 (X := X.blk s H scope (compEnvC scope cl Ca X.env) fp) (pe_slot (G.inner (scope := scope) ok.kind s H Ca cl fp) hi1)
  have hx : ∀ (s : Shared) (H : Hp) (Ca : Addr) (cl : List (Str × Addr)) (fp : List Addr), PE (X.blk s H scope (compEnvC scope cl Ca X.env) fp) pelt (tX X.K C elt) := fun s H Ca cl fp =>
    pe_x (X := X.blk s H scope (compEnvC scope cl Ca X.env) fp) (ihe _ _ _ (G.inner (scope := scope) ok.kind s H Ca cl fp) he).1
  have e2 := ownOf_snd M.N [i0, i1]
  have := pe_lc2 (pos := pos) G.calm G.nd hi ok (vs1 := [i1]) (fun i h => by rw [e2]; simp at h; simp [h]) (hg _ _ hT) ht hi1' (hg _ _ hT1) ht hx hns (fun env x => by cases iter1 <;> first | rfl | (exact absurd (show false = true from hp1) Bool.false_ne_true))
  rw [e2] at this
  exact this
end
theorem eltF_ok {C : Ctx} {i1 : Nat} {elt : E} {y d : D} {r : Env} (h : eltF C i1 elt y = .ok d) (hr : r[i1]? = some (.fz y)) : fixed (evE C elt r) = .ok (d, r) := by
  have tk : take i1 r = .ok (.fz y, r) := by unfold take; rw [hr]
  unfold eltF at h
  split at h
  · split at h
    · rename_i e
      cases h
      subst e
      show fixed (evE C (.v _) r) = _
      simp only [evE, tk]
      rfl
    · cases h
  · split at h
    · rename_i j e
      subst e
      split at h
      · rename_i x hio hc
        show fixed (evE C (.call _ [.v _]) r) = _
        have ea : evAs C [.v j] [false] r = .ok ([.d y], r) := by
          simp only [evAs, evE, tk, fixed, ok_bind, Val.fix]
        simp only [evE, hio, ea, ok_bind, doCall, ioIx, argVals, hc, setIos, List.nodup_nil, if_true, fixed]
        rw [h]
        rfl
      · cases h
    · cases h
  · cases h
/-- back at the slots as they were -/
theorem go_fin {K : PySem.W.Frag} {σ0 σ' σ2 : Slots} {r0 r5 : Env} {S0 S5 : Addr → Prop} {H0 H5 : Hp} {is : List Nat} (g : Go K σ0 r0 S0 H0 σ2 r5 S5 H5) (hl : σ'.length = σ2.length)
    (hr : ∀ j : Nat, j ∉ is → σ'[j]? = σ2[j]?) (hem : ∀ i ∈ is, ∀ y, r0[i]? = some y → y = Val.em) (he : ∀ j : Nat, r0[j]? = some Val.em → (wipeE is r5)[j]? = some Val.em → σ'[j]? = σ0[j]?) (h0 : ∀ j : Nat, j ∉ is → ∀ xs, r0[j]? = some (Val.io xs) → σ2[j]? = σ0[j]? → σ'[j]? = σ0[j]?) :
    Go K σ0 r0 S0 H0 σ' (wipeE is r5) S5 H5 := by
  have nr : ∀ (j : Nat) (y : Val), (wipeE is r5)[j]? = some y → y ≠ .em → σ'[j]? = σ2[j]? := fun j y hy ny => by
    rcases wipe_get hy with ⟨_, z⟩ | ⟨nj, _⟩
    · exact absurd z ny
    · exact hr j nj
  have own5 : ∀ b, Own σ' (wipeE is r5) b → Own σ2 r5 b := fun b q => by
    rcases q with ⟨j, ys, q1, q2⟩ | ⟨j, ys, q1, q2⟩
    rotate_left
    · rcases wipe_get q1 with ⟨_, z⟩ | ⟨n, z⟩
      · cases z
      · exact .inr ⟨j, ys, z, by rw [← hr j n]; exact q2⟩
    have : j ∉ is ∧ (r5[j]? = some (.ow ys) ∨ r5[j]? = some (.io ys)) := by
      rcases q1 with q1 | q1 <;> (rcases wipe_get q1 with ⟨_, z⟩ | ⟨n, z⟩)
      · cases z
      · exact ⟨n, .inl z⟩
      · cases z
      · exact ⟨n, .inr z⟩
    exact .inl ⟨j, ys, this.2, by rw [← hr j this.1]; exact q2⟩
  refine ⟨(mask_sr g.sr).reslot hl nr, g.fr, g.dm, g.ss, g.sg, fun b hb => g.ow b (own5 b hb), fun j y h1 h2 => ?_, he, fun j ys hj => ?_, by rw [wipe_length]; exact g.ln⟩
  · have nj : j ∉ is := fun m => h2 (hem j m y h1)
    rw [wipe_out nj]
    exact g.ne j y h1 h2
  · have nj : j ∉ is := fun m => by have := hem j m _ hj; cases this
    rw [wipe_out nj]
    exact ⟨h0 j nj ys hj (g.io j ys hj).1, (g.io j ys hj).2⟩
theorem fl2_imp {i0 i1 : Nat} {e elt : E} {K : PySem.W.Frag} {C : Ctx} {σ : Slots} {H : Hp} {Q : VK} (h : tE K C (.fl2 i0 i1 e elt) σ H Q) :
    tLc2 (tI K C .seq [e]) (gB K (.one i0)) (tCs K C []) (tI0 K i0) (gB K (.one i1)) (tCs K C []) (tX K C elt) [i0, i1] [i1] σ H Q := by
  obtain ⟨r, S, x, r', s, ev, q⟩ := h
  simp only [evE] at ev
  obtain ⟨⟨o, r1⟩, e1, ev⟩ := bind_ok ev
  have e1 : evOs C [e] r = .ok ([o], r1) := by
    simp only [evOs, e1]
    rfl
  obtain ⟨os, hos⟩ : ∃ os, os = [o] := ⟨_, rfl⟩
  rw [← hos] at e1
  simp only [← hos] at ev
  obtain ⟨ds, e2, ev⟩ := bind_ok ev
  obtain ⟨xs, e3, ev⟩ := bind_ok ev
  split at ev
  case isFalse => cases ev
  rename_i cond
  obtain ⟨acc, e4, ev⟩ := bind_ok ev
  cases ev
  rw [Bool.and_eq_true, Bool.and_eq_true, Bool.and_eq_true] at cond
  obtain ⟨nio, ne01, lt0, lt1⟩ := cond
  have ne01 : i0 ≠ i1 := of_decide_eq_true ne01
  have lt0 : i0 < r1.length := of_decide_eq_true lt0
  have lt1 : i1 < r1.length := of_decide_eq_true lt1
  have nio1 : noIo (opdIx os) r1 = true := by
    unfold noIo at nio ⊢
    rw [List.all_append, Bool.and_eq_true] at nio
    exact nio.1
  refine ⟨r, S, os, r1, ds, xs, s, e1, e2, e3, nio1, fun H1 S1 J g1 src Dn hD => ?_⟩
  obtain ⟨A, Rel, Y, wk, hrel, gv, hA⟩ := src.it
  generalize hrg : give os r1 = rg at q
  obtain ⟨S1', g1'⟩ : ∃ S1', Go K σ r1 S1 H1 σ rg S1' H1 := by rw [← hrg]; exact give_any os r1 S1 g1.sr
  have lrg : rg.length = r1.length := g1'.ln
  have nioM : noIo [i0, i1] rg = true := by
    unfold noIo at nio ⊢
    rw [List.all_append, Bool.and_eq_true] at nio
    rw [List.all_eq_true]
    intro i hi
    have io1 : isIo r1 i = false := by
      have := List.all_eq_true.mp nio.2 i hi
      simpa using this
    have : isIo rg i = false := by
      cases hq : rg[i]? with
      | none => simp [isIo, hq]
      | some y =>
        cases y with
        | io ys =>
          have : r1[i]? = some (.io ys) := by rw [← hrg] at hq; exact give_io hq
          simp [isIo, this] at io1
        | od ys =>
          have : r1[i]? = some (.od ys) := by rw [← hrg] at hq; exact give_keep hq fun d z => by cases z
          simp [isIo, this] at io1
        | un =>
          have : r1[i]? = some .un := by rw [← hrg] at hq; exact give_keep hq fun d z => by cases z
          simp [isIo, this] at io1
        | _ => simp [isIo, hq]
    simp [this]
  generalize hms : [i0, i1] = ms at *
  have m0 : i0 ∈ ms := by rw [← hms]; simp
  have m1 : i1 ∈ ms := by rw [← hms]; simp
  generalize hσw : L2.wipe σ ms = σw
  generalize hrw : wipeE ms rg = rw at *
  have lw : σw.length = σ.length := by rw [← hσw, L2.wipe_length]
  have lrw : rw.length = rg.length := by rw [← hrw, wipe_length]
  have hem : ∀ i ∈ ms, ∀ y, rw[i]? = some y → y = .em := fun i hi y hy => by
    rw [← hrw] at hy
    rcases wipe_get hy with ⟨_, z⟩ | ⟨n, _⟩
    · exact z
    · exact absurd hi n
  have em0 : rw[i0]? = some .em := by
    cases hz : rw[i0]? with
    | none => rw [List.getElem?_eq_none_iff] at hz; omega
    | some y => rw [hem i0 m0 y hz]
  have em1 : rw[i1]? = some .em := by
    cases hz : rw[i1]? with
    | none => rw [List.getElem?_eq_none_iff] at hz; omega
    | some y => rw [hem i1 m1 y hz]
  have agree : ∀ (j : Nat), j ∉ ms → σw[j]? = σ[j]? := fun j hj => by rw [← hσw]; exact wipeV_out hj
  have sw : SR K σw H1 rw S1' := by
    rw [← hrw]
    exact (mask_sr g1'.sr).reslot lw fun j y hy ny => agree j fun m => ny (hem j m y (by rw [← hrw]; exact hy))
  have nO : ¬ Own σw rw Dn := fun z => by
    obtain ⟨ws, h1, _⟩ := Own.mt sw z
    rw [hD] at h1; cases h1
  have notS : ¬ S1' Dn := fun z => sw.wf Dn z hD
  -- what is walked stands
  have stand : ∀ b, A b → ¬ Own σw rw b := fun b hb z => by
    rcases z with z | ⟨j, ys, q1, q2⟩
    rotate_left
    · have nj : j ∉ ms := fun m => by have := hem j m _ q1; cases this
      have q2' : σ[j]? = some (some (.ref b)) := by rw [← agree j nj]; exact q2
      have q3 : r1[j]? = some (.od ys) := by
        rw [← hrw] at q1
        rcases wipe_get q1 with ⟨_, z⟩ | ⟨_, q1⟩
        · cases z
        · rw [← hrg] at q1
          exact give_keep q1 fun d z => by cases z
      rcases hA b hb with n | ⟨i, zs, hi, h2, h3⟩
      · exact n (.inr ⟨j, ys, q3, q2'⟩)
      · obtain ⟨ws, k1, _⟩ := OwnL.lst g1.sr ⟨i, zs, .inl h2, h3⟩
        obtain ⟨us, k2, _⟩ := OwnD.dct g1.sr ⟨j, ys, q3, q2'⟩
        rw [k1] at k2; cases k2
    obtain ⟨j, ys, q1, q2⟩ := z
    have nj : j ∉ ms := fun m => by
      rcases q1 with q1 | q1 <;> (have := hem j m _ q1; cases this)
    have q2' : σ[j]? = some (some (.ref b)) := by rw [← agree j nj]; exact q2
    have qg : rg[j]? = some (.ow ys) ∨ rg[j]? = some (.io ys) := by
      rw [← hrw, wipe_out nj] at q1
      exact q1
    have q1' : r1[j]? = some (.ow ys) ∨ r1[j]? = some (.io ys) := by
      rw [← hrg] at qg
      exact qg.imp (fun z => (give_own z).1) give_io
    rcases hA b hb with n | ⟨i, zs, hi, h2, h3⟩
    · exact n (.inl ⟨j, ys, q1', q2'⟩)
    · have := g1.sr.one j i ys zs b q1' (.inl h2) q2' h3
      subst this
      rw [← hrg] at qg
      rcases qg with qg | qg
      · exact (give_own qg).2 hi
      · have := give_io qg
        rw [h2] at this
        cases this
  refine lc_it1 wk (Pv := fun i H' => ∃ S' accD accV, Go K σw rw S1' H1 σw rw S' H' ∧ outF (eltF C i1 elt) (xs.drop i) accD = .ok acc ∧ H' Dn = some (.lst accV) ∧ RpL K H' S' accV accD ∧ ¬ S' Dn) ?_ ?_ ?_ ?_
  · exact ⟨S1', [], [], Go.ext sw (.new sw.wf hD), by simpa using e4, upd_same, .nil, notS⟩
  · rintro i H' _ ⟨S', accD, accV, g, _⟩ b o hb ho
    exact g.fr b o ho (stand b hb)
  · rintro i x H2 H3 hi ⟨S2, accD, accV, g, el, hDl2, hac2, nS⟩ hy
    have hrel2 : Rel H2 S2 := gv.mono (g.keep sw) g.ss (gv.mono (g1'.keep g1.sr) g1'.ss hrel)
    obtain ⟨d, hd, ex, hvx⟩ := gv.turn i H2 x H3 S2 hi hrel2 g.sr.wf hy
    have g3 := g.trans sw (Go.ext g.sr ex)
    have hDl := ex.fr _ _ hDl2
    have hac := ex.rpL hac2
    have hdr : xs.drop i = d :: xs.drop (i + 1) := by
      have hlt : i < xs.length := get_lt hd
      rw [List.drop_eq_getElem_cons hlt]
      congr 1
      rw [List.getElem?_eq_getElem hlt] at hd
      exact Option.some.inj hd
    rw [hdr] at el
    simp only [outF] at el
    obtain ⟨ys, f1, el⟩ := bind_ok el
    obtain ⟨acc1, f2, el⟩ := bind_ok el
    generalize hra : rw.set i0 (.fz d) = ra
    have lra : ra.length = rw.length := by rw [← hra, List.length_set]
    have ra0 : ra[i0]? = some (.fz d) := by rw [← hra]; exact List.getElem?_set_self (by omega)
    have ra1 : ra[i1]? = some .em := by rw [← hra, List.getElem?_set_ne ne01]; exact em1
    have put0 : bindT (.one i0) d rw = .ok ra := by simp only [bindT, put, em0, hra]
    have wra : wipeE [i0] ra = rw := by
      apply List.ext_getElem?
      intro j
      by_cases c : j = i0
      · subst c
        rw [em0]
        exact wipe_in (by simp) ra0
      · rw [wipe_out (by simpa using c), ← hra, List.getElem?_set_ne (fun z => c z.symm)]
    refine ⟨rw, S2, d, ra, g3.sr, hvx, put0, fun σ2 g2 n2 => ?_⟩
    have n2 : ∀ j, j ≠ i0 → σ2[j]? = σw[j]? := fun j hj => n2 j (by simpa [Tgt.slots] using hj)
    have l2 : σ2.length = σw.length := by rw [← g2.sr.len, ← g3.sr.len, g2.ln]
    refine ⟨?_, ra, S2, true, ra, g2.sr, rfl, fun H4 S4 g4 => ?_⟩
    · rw [← hσw]
      exact wipeV_eq (l2.trans lw) fun j hj => by rw [n2 j (fun z => hj (by rw [z]; exact m0)), agree j hj]
    simp only [if_true]
    have gB2 := g2.trans g3.sr g4
    have gA := g3.trans sw gB2
    have own2 : ∀ b, Own σ2 ra b → Own σw rw b := fun b z => by
      rcases z with ⟨j, zs, q1, q2⟩ | ⟨j, zs, q1, q2⟩
      · have nj : j ≠ i0 := fun c => by rw [c, ra0] at q1; rcases q1 with q1 | q1 <;> cases q1
        have e : rw[j]? = ra[j]? := by rw [← hra, List.getElem?_set_ne (fun z => nj z.symm)]
        exact .inl ⟨j, zs, by rw [e]; exact q1, by rw [← n2 j nj]; exact q2⟩
      · have nj : j ≠ i0 := fun c => by rw [c, ra0] at q1; cases q1
        have e : rw[j]? = ra[j]? := by rw [← hra, List.getElem?_set_ne (fun z => nj z.symm)]
        exact .inr ⟨j, zs, by rw [e]; exact q1, by rw [← n2 j nj]; exact q2⟩
    have nO2 : ¬ Own σ2 ra Dn := fun z => nO (own2 Dn z)
    have hD4 : H4 Dn = some (.lst accV) := gB2.fr Dn _ hDl nO
    have hac4 : RpL K H4 S4 accV accD := gB2.rpL g3.sr hac
    have nS4 : ¬ S4 Dn := fun z => by
      rcases gB2.sg Dn z with z | z | z
      · exact nS z
      · rw [hDl] at z; cases z
      · exact nO z
    refine ⟨ra, S4, d, ys, g4.sr, ra0, f1, fun J1 src1 => ?_⟩
    obtain ⟨A1, Rel1, Y1, wk1, hrel1, gv1, hA1⟩ := src1
    refine lc_it1 wk1 (Pv := fun j H' => ∃ S' accD' accV', Go K σw rw S1' H1 σ2 ra S' H' ∧ inF (eltF C i1 elt) (ys.drop j) accD' = .ok acc1 ∧ H' Dn = some (.lst accV') ∧ RpL K H' S' accV' accD' ∧ ¬ S' Dn ∧ (∀ b o, H4 b = some o → (S4 b ∨ ¬ Mt o) → H' b = some o) ∧ (∀ b, S4 b → S' b)) ?_ ?_ ?_ ?_
    · exact ⟨S4, accD, accV, gA, by simpa using f2, hD4, hac4, nS4, fun _ _ h _ => h, fun _ h => h⟩
    · rintro j H' _ ⟨S', accD', accV', g5, _, _, _, _, kp, ss⟩ b o hb ho
      refine kp b o ho ?_
      rcases hA1 b hb with z | ⟨o', z1, z2⟩
      · exact .inl z
      · rw [ho] at z1; cases z1; exact .inr z2
    · rintro j y H5 H6 hj ⟨S5, accD', accV', g5, el1, hD5, hac5, nS5, kp, ss⟩ hy1
      have hrel5 := gv1.mono kp ss hrel1
      obtain ⟨d1, hd1, ex1, hvy⟩ := gv1.turn j H5 y H6 S5 hj hrel5 g5.sr.wf hy1
      have g6 := g5.trans sw (Go.ext g5.sr ex1)
      have hdr1 : ys.drop j = d1 :: ys.drop (j + 1) := by
        have hlt : j < ys.length := get_lt hd1
        rw [List.drop_eq_getElem_cons hlt]
        congr 1
        rw [List.getElem?_eq_getElem hlt] at hd1
        exact Option.some.inj hd1
      rw [hdr1] at el1
      simp only [inF] at el1
      obtain ⟨z, f3, el1⟩ := bind_ok el1
      split at el1
      case isFalse => cases el1
      rename_i hlen
      generalize hσ6 : L2.wipe σ2 [i1] = σ6
      have l6 : σ6.length = σ2.length := by rw [← hσ6, L2.wipe_length]
      have ag6 : ∀ j, j ≠ i1 → σ6[j]? = σ2[j]? := fun j hj => by rw [← hσ6]; exact wipeV_out (by simpa using hj)
      have sr6 : SR K σ6 H6 ra S5 := g6.sr.reslot l6 fun j y hy ny => ag6 j fun c => by
        rw [c, ra1] at hy
        cases hy
        exact ny rfl
      generalize hrc : ra.set i1 (.fz d1) = rc
      have rc1 : rc[i1]? = some (.fz d1) := by rw [← hrc]; exact List.getElem?_set_self (by omega)
      have put1 : bindT (.one i1) d1 ra = .ok rc := by simp only [bindT, put, ra1, hrc]
      have wrc : wipeE [i1] rc = ra := by
        apply List.ext_getElem?
        intro j
        by_cases c : j = i1
        · subst c
          rw [ra1]
          exact wipe_in (by simp) rc1
        · rw [wipe_out (by simpa using c), ← hrc, List.getElem?_set_ne (fun z => c z.symm)]
      refine ⟨ra, S5, d1, rc, sr6, hvy, put1, fun σ3 g7 n3 => ?_⟩
      have n3 : ∀ j, j ≠ i1 → σ3[j]? = σ6[j]? := fun j hj => n3 j (by simpa [Tgt.slots] using hj)
      have l3 : σ3.length = σ6.length := by rw [← g7.sr.len, ← sr6.len, g7.ln]
      refine ⟨?_, rc, S5, true, rc, g7.sr, rfl, fun H7 S7 g8 => ?_⟩
      · rw [← hσ6]
        exact wipeV_eq (l3.trans l6) fun j hj => by
          have hj : j ≠ i1 := by simpa using hj
          rw [n3 j hj, ag6 j hj]
      simp only [if_true]
      refine ⟨rc, S7, z, rc, g8.sr, eltF_ok f3 rc1, fun v H8 S8 g9 w9 => ?_⟩
      have gT := g7.trans sr6 (g8.trans g7.sr g9)
      have own6 : ∀ b, Own σ6 ra b → Own σ2 ra b := fun b z => by
        rcases z with ⟨j, zs, q1, q2⟩ | ⟨j, zs, q1, q2⟩
        · have nj : j ≠ i1 := fun c => by rw [c, ra1] at q1; rcases q1 with q1 | q1 <;> cases q1
          exact .inl ⟨j, zs, q1, by rw [← ag6 j nj]; exact q2⟩
        · have nj : j ≠ i1 := fun c => by rw [c, ra1] at q1; cases q1
          exact .inr ⟨j, zs, q1, by rw [← ag6 j nj]; exact q2⟩
      have nO6 : ¬ Own σ6 ra Dn := fun z => nO2 (own6 Dn z)
      have hD6 : H6 Dn = some (.lst accV') := ex1.fr _ _ hD5
      have hD8 : H8 Dn = some (.lst accV') := gT.fr Dn _ hD6 nO6
      have nS8 : ¬ S8 Dn := fun z => by
        rcases gT.sg Dn z with z | z | z
        · exact nS5 z
        · rw [hD6] at z; cases z
        · exact nO6 z
      have hac8 : RpL K H8 S8 accV' accD' := gT.rpL sr6 (ex1.rpL hac5)
      -- from the base to the turn's end, back at the inner slots
      have gb6 : Go K σw rw S1' H1 σ6 ra S5 H6 := by
        refine ⟨sr6, g6.fr, g6.dm, g6.ss, g6.sg, fun b hb => g6.ow b (own6 b hb), g6.ne, fun j h1 h2 => ?_, fun j zs hj => ?_, g6.ln⟩
        · by_cases c : j = i1
          · have lsr := g1'.sr.len
            have l26 := g5.sr.len
            have e1 : σ6[i1]? = some none := by rw [← hσ6]; exact wipeV_in (by simp) (by omega)
            have e2 : σw[i1]? = some none := by rw [← hσw]; exact wipeV_in m1 (by omega)
            rw [c, e1, e2]
          · rw [ag6 j c]
            exact g6.em j h1 h2
        · have nj : j ≠ i1 := fun c => by rw [c, em1] at hj; cases hj
          rw [ag6 j nj]
          exact g6.io j zs hj
      have gC := gb6.trans sw gT
      have gE : Go K σw rw S1' H1 σ2 ra S8 H8 := by
        have := go_fin (is := [i1]) (σ' := σ2) gC (by omega) (fun j hj => by
          have hj : j ≠ i1 := by simpa using hj
          rw [n3 j hj, ag6 j hj]) (fun i hi y hy => by simp at hi; subst hi; exact hem _ m1 y hy) (fun j h1 h2 => by
          rw [wrc] at h2
          have : j ≠ i0 := fun c => by rw [c, ra0] at h2; cases h2
          exact n2 j this) (fun j hj zs h1 _ => by
          have : j ≠ i0 := fun c => by rw [c, em0] at h1; cases h1
          exact n2 j this)
        rw [wrc] at this
        exact this
      have hz : accV'.length < sizeLine := by
        have := len_of hlen
        rw [← hac8.length] at this
        omega
      refine ⟨accV', hD8, hz, S8, accD' ++ [z], accV' ++ [v], gE.side hD nS8 nO2 fun u hu => ?_, el1, upd_same, ?_, nS8, fun b o hb ho => ?_, fun b hb => gT.ss b (ss b hb)⟩
      · rw [hD8] at hu; cases hu; trivial
      · have hk : ∀ b u, H8 b = some u → (S8 b ∨ ¬ Mt u) → upd H8 Dn (.lst (accV' ++ [v])) b = some u := fun b u e z => by
          rw [upd_ne (fun q => ?_)]
          · exact e
          · subst q
            rcases z with z | z
            · exact nS8 z
            · rw [hD8] at e; cases e; exact z trivial
        exact (RpL.mono hk (fun _ h => h) _ _ hac8).append (.cons (Rp.mono hk (fun _ h => h) _ _ w9) .nil)
      · rw [upd_ne (fun q => ?_)]
        · exact gT.keep sr6 b o (ex1.fr _ _ (kp b o hb ho)) (ho.imp (fun z => ss b z) id)
        · subst q
          rcases ho with z | z
          · exact nS4 z
          · rw [hD4] at hb; cases hb; exact z trivial
    · rintro H5 ⟨S5, accD', accV', g5, el1, hD5, hac5, nS5, kp, ss⟩
      rw [List.drop_of_length_le (by omega)] at el1
      simp only [inF] at el1
      cases el1
      refine ⟨S5, _, accV', ?_, el, hD5, hac5, nS5⟩
      have := go_fin (is := [i0]) (σ' := σw) g5 l2.symm (fun j hj => (n2 j (by simpa using hj)).symm) (fun i hi y hy => by simp at hi; subst hi; exact hem _ m0 y hy) (fun j _ _ => rfl) (fun j _ _ _ _ => rfl)
      rw [wra] at this
      exact this
  · rintro H2 ⟨S2, accD, accV, g, el, hDl, hac, nS⟩
    rw [List.drop_of_length_le (by omega)] at el
    simp only [outF] at el
    cases el
    have gS : Go K σ rw S1' H1 σ rw S2 H2 := g.reslot (σ2 := σ) lw.symm (fun j y hy ny => (agree j fun m => ny (hem j m y hy)).symm) (fun j y hy ny => (agree j fun m => ny (hem j m y hy)).symm)
    rw [← hrw] at gS
    have gF := unmask g1'.sr nioM (fun _ _ => rfl) gS
    rw [hrw] at gF
    have hD0 : H Dn = none := by
      cases e : H Dn with
      | none => rfl
      | some o => exact absurd hD (g1.dm Dn (by rw [e]; intro z; cases z))
    refine q _ _ _ ((g1.trans s g1').trans s gF) ⟨Dn, accV, rfl, hD0, hDl, nS, fun z => ?_, hac⟩
    obtain ⟨o, k1, k2, k3⟩ := Own.mt gF.sr z
    rcases z with ⟨j, ys, q1, q2⟩ | ⟨j, ys, q1, q2⟩
    · by_cases m : j ∈ ms
      · rw [back_in lrw m] at q1
        obtain ⟨ws, h1, _⟩ := OwnL.lst g1'.sr ⟨j, ys, q1, q2⟩
        rw [hD] at h1; cases h1
      · rw [back_out m] at q1
        refine nO (.inl ⟨j, ys, q1, ?_⟩)
        rw [agree j m]
        exact q2
    · by_cases m : j ∈ ms
      · rw [back_in lrw m] at q1
        obtain ⟨ws, h1, _⟩ := OwnD.dct g1'.sr ⟨j, ys, q1, q2⟩
        rw [hD] at h1; cases h1
      · rw [back_out m] at q1
        refine nO (.inr ⟨j, ys, q1, ?_⟩)
        rw [agree j m]
        exact q2
/-! ### f-strings -/
theorem fsT_str {d : D} {t : Str} (h : fsT d = some t) : (d = .str t ∧ t.length ≤ 16777216) ∨ ∃ i : Int, d = .int i ∧ t = toString i ∧ i.natAbs < 2 ^ 1900 := by
  unfold fsT at h
  split at h
  · split at h
    · cases h; exact .inl ⟨rfl, by assumption⟩
    · cases h
  · split at h
    · cases h; exact .inr ⟨_, rfl, rfl, by assumption⟩
    · cases h
  · cases h
theorem pj_fs {X : Cx} {M : Mat} {C : Ctx} {k : Nat} (G : GX X M C k) : ∀ (es : List E) (vs : List Expr), SndL C k es → mFs M es vs = true →
    ∃ ts, PJ X vs ts ∧ ∀ (acc : Str) (σ : Slots) (H : Hp) (Q : Str → Hp → Prop), (∃ r S ds r' out, SR X.K σ H r S ∧ evDs C es r = .ok (ds, r') ∧ fsD ds acc = .ok out ∧ ∀ H' S', Go X.K σ r S H σ r' S' H' → Q out H') → tJs ts acc σ H Q
  | [], [], _, _ => ⟨[], .nil, fun acc σ H Q ⟨r, S, ds, r', out, s, ev, ef, q⟩ => by
      simp only [evDs] at ev
      cases ev
      simp only [fsD] at ef
      cases ef
      exact q H S (.refl s)⟩
  | [], _ :: _, _, h => by simp only [mFs] at h; cases h
  | _ :: _, [], _, h => by simp only [mFs] at h; cases h
  | e :: es, v :: vs, ih, h => by
    simp only [mFs, Bool.and_eq_true] at h
    obtain ⟨ts, h2, k2⟩ := pj_fs G es vs (fun e he => ih e (List.mem_cons_of_mem _ he)) h.2
    have part : ∃ t, PE X v t ∧ ∀ σ H Q, (∃ r S d r' z, SR X.K σ H r S ∧ fixed (evE C e r) = .ok (d, r') ∧ fsT d = some z ∧ ∀ H' S', Go X.K σ r S H σ r' S' H' → Q (.str z) H') → t σ H Q := by
      have h1 := h.1
      split at h1
      · rename_i p c pos
        rw [Bool.and_eq_true] at h1
        obtain rfl := of_decide_eq_true h1.1
        refine ⟨tFmt (tX X.K C e), pe_fmt (pe_x (ih e List.mem_cons_self X M p G h1.2).1), fun σ H Q ⟨r, S, d, r', z, s, ev, ef, q⟩ => ⟨r, S, d, r', s, ev, fun v H1 S1 g1 w1 => ?_⟩⟩
        rcases fsT_str ef with ⟨rfl, hz⟩ | ⟨i, rfl, rfl, hz⟩
        · cases w1
          exact .inl ⟨_, rfl, by rw [sizeLine_eq]; omega, q _ _ g1⟩
        · cases w1
          exact .inr ⟨i, rfl, Nat.lt_of_lt_of_le (PySem.Flt.log2_lt_of (by decide) hz) (by decide), q _ _ g1⟩
      · rename_i x kk pos
        split at h1
        · rename_i s0
          obtain rfl := of_decide_eq_true h1
          refine ⟨tC (.str (Str.ofString s0)), pe_str, fun σ H Q ⟨r, S, d, r', z, s, ev, ef, q⟩ => ?_⟩
          simp only [evE, fixed, ok_bind, Val.fix] at ev
          cases ev
          rcases fsT_str ef with ⟨h3, hz⟩ | ⟨i, h3, _⟩
          · cases h3
            exact q H S (.refl s)
          · cases h3
        · cases h1
      · cases h1
    obtain ⟨t, h1, k1⟩ := part
    refine ⟨t :: ts, .cons h1 h2, fun acc σ H Q ⟨r, S, ds, r', out, s, ev, ef, q⟩ => ?_⟩
    simp only [evDs] at ev
    obtain ⟨⟨d, r1⟩, e1, ev⟩ := bind_ok ev
    obtain ⟨⟨ds', r2⟩, e2, ev⟩ := bind_ok ev
    cases ev
    simp only [fsD] at ef
    split at ef
    · rename_i z hz
      split at ef
      · rename_i hl
        show t σ H fun x H1 => ∃ y : Str, x = .str y ∧ (acc ++ y).length ≤ sizeLine ∧ tJs ts (acc ++ y) σ H1 Q
        exact k1 σ H _ ⟨r, S, d, r1, z, s, e1, hz, fun H1 S1 g1 => ⟨z, rfl, len_of hl, k2 _ σ H1 Q ⟨r1, S1, ds', _, out, g1.sr, e2, ef, fun H2 S2 g2 => q H2 S2 (g1.trans s g2)⟩⟩⟩
      · cases ef
    · cases ef
theorem snd_fs {X : Cx} {M : Mat} {C : Ctx} {k : Nat} (G : GX X M C k) {es : List E} {vs : List Expr} {pos : Pos} (ih : SndL C k es) (h2 : 2 ≤ vs.length) (h : mFs M es vs = true) : PE X (.JoinedStr vs pos) (tE X.K C (.fs es)) := by
  obtain ⟨ts, h1, k1⟩ := pj_fs G es vs ih h
  match vs, h2, h1 with
  | v1 :: v2 :: rest, _, h1 =>
    refine pe_imp (pe_joined h1) fun σ H Q ⟨r, S, x, r', s, ev, q⟩ => ?_
    simp only [evE] at ev
    obtain ⟨⟨ds, r1⟩, e1, ev⟩ := bind_ok ev
    obtain ⟨z, e2, ev⟩ := bind_ok ev
    cases ev
    exact k1 _ σ H _ ⟨r, S, ds, _, z, s, e1, e2, fun H' S' g => q _ H' S' g (.str _)⟩
  | [], h2, _ => exact absurd h2 (by decide)
  | [_], h2, _ => exact absurd h2 (by simp)
end DL

set_option Elab.async false
set_option linter.all false
set_option maxRecDepth 100000
set_option maxHeartbeats 4000000
set_option autoImplicit false
/-! DLY: tuple(reversed(range(..))). -/
namespace DL
open PySem PySem.Spec PyProof.Rows L2
section
variable {prog : Program} {w : World} {A : Around} {E : Value → Shared → Prop} {s : Shared}
theorem hint_rg {I : Addr} {x left step : Int} {Q : Value → Shared → Prop} (hit : IsRangeIter s.heap I x left step) (h : ∀ u tk, s.toks ≤ tk → Q (.int left u) { s with toks := tk }) :
    wpAny (model prog w) A (call (.builtin "range_iterator.__length_hint__") [.ref I]) Q E s := by
  have hT : s.TypeIs (.ref I) "range_iterator" := ⟨_, hit, rfl⟩
  have body : wpAny (model prog w) A.in1 (Builtin.«range_iterator.__length_hint__» ⟨[.ref I], []⟩) (fun fin s' => ∃ v, fin = .done (.ret v) ∧ Q v s') E s := by
    show wpAny _ _ (field (.ref I) 1 >>= _) _ _ s
    apply wpAny_bind
    apply wpAny_field hit rfl (x := rawInt left) rfl
    show wpAny _ _ (retInt left) _ _ s
    unfold retInt
    apply wpAny_bind
    apply wpAny_mkInt
    exact wpAny_pure ⟨_, rfl, h _ _ (Nat.le_succ _)⟩
  exact wpAny_call_entry F.slot_range_iterator_length_hint hT F.entry_range_iterator_length_hint body (F.args_range_iterator_length_hint_1 _)
theorem collect_rgI {I : Addr} {a c : Int} {n : Nat} {Q : List Value → Shared → Prop} (hh : A.handled = none) (hit : IsRangeIter s.heap I a n c) (hb : I < s.heap.objs.size) (hn : n ≤ 2 ^ 24)
    (h : ∀ (h' : Heap) (tk : Nat) (acc : Array Value), (∀ b o, b ≠ I → s.heap.get? b = some o → h'.get? b = some o) → ItemsOf (fun i v => ∃ t, v = .int (a + i * c) t) acc n → Q acc.toList { s with heap := h', toks := tk }) :
    wpAny (model prog w) A (collect (.ref I)) Q E s := by
  have W := (Walks.range (prog := prog) (w := w) (A := A.in1) hh I a c n).toS
  have h0 : IsRangeIter s.heap I (a + ((0 : Nat) : Int) * c) ((n : Int) - ((0 : Nat) : Int)) c := by
    have e1 : a + ((0 : Nat) : Int) * c = a := by simp
    have e2 : (n : Int) - ((0 : Nat) : Int) = n := by simp
    rw [e1, e2]; exact hit
  refine wpAny_collect_iter_range W (fun i s1 st => ⟨_, st, rfl⟩) h0 (fun b hb' => ?_) (by simp) (fun s1 Q' E' st hq => ?_) (fun s' acc hm hi => ?_) (by rw [sizeLine_eq]; omega)
  · simp at hb'
    rw [hb']; exact hb
  · have e2 : (n : Int) - ((0 : Nat) : Int) = n := by simp
    refine hint_rg st fun u tk ht => hq _ u tk ht ?_
    unfold Builtin.List.listTooLong
    rw [sizeLine_eq]
    exact decide_eq_false (by omega)
  · rw [Moved.eq_with hm]
    exact h s'.heap s'.toks acc (fun b o hb' e => hm.heap b o (by simpa using hb') e) hi
theorem tuple_rgI {I : Addr} {a c : Int} {n : Nat} {Q : Value → Shared → Prop} (hh : A.handled = none) (hit : IsRangeIter s.heap I a n c) (hb : I < s.heap.objs.size) (hn : n ≤ 2 ^ 24)
    (h : ∀ (h' : Heap) (tk : Nat) (acc : Array Value), (∀ b o, b ≠ I → s.heap.get? b = some o → h'.get? b = some o) → ItemsOf (fun i v => ∃ t, v = .int (a + i * c) t) acc n → Q (.ref h'.objs.size) { s with heap := h'.push { cls := .type "tuple", data := .seq acc }, toks := tk }) :
    wpAny (model prog w) A (call (.type "tuple") [.ref I]) Q E s := by
  have new : ∀ {R : Value → Shared → Prop} (A : Around), A.handled = none → (∀ (h' : Heap) (tk : Nat) (acc : Array Value), (∀ b o, b ≠ I → s.heap.get? b = some o → h'.get? b = some o) → ItemsOf (fun i v => ∃ t, v = .int (a + i * c) t) acc n →
      R (.ref h'.objs.size) { s with heap := h'.push { cls := .type "tuple", data := .seq acc }, toks := tk }) → codeAny (model prog w) A (.call (.builtin "tuple.__new__") ⟨[.type "tuple", .ref I], []⟩) (wants R E) s := by
    intro R A hh h
    apply codeAny_of_tree
    show wpAny _ A.in1 (checkBuiltinCall "tuple.__new__" ⟨[.type "tuple", .ref I], []⟩ >>= fun _ => again (.builtin "tuple.__new__" ⟨[.type "tuple", .ref I], []⟩)) _ _ s
    apply wpAny_bind
    apply wpAny_of_eq (F.newCall_tuple_1 _)
    refine wpAny_pure ⟨plainId_quiet F.plain_tuple_new _, codeAny_builtin F.entry_tuple_new ?_⟩
    rw [Around.under_plainId F.plain_tuple_new _]
    have k1 := sub_tuple_self
    have k2 := init_tuple_lookup
    have k3 := madeHere_tuple
    have kT : s.TypeIs (.ref I) "range_iterator" := ⟨_, hit, rfl⟩
    have hin : A.in1.handled = none := hh
    wp_walk using wpAny_typeOf kT, collect_rgI (A := A.in1) hin hit hb hn
    intro h' tk acc hk hi
    have ea : acc.toList.toArray = acc := by simp
    have sz : acc.size ≤ sizeLine := by rw [hi.1, sizeLine_eq]; omega
    have fin := h h' tk acc hk hi
    show wpAny _ _ (Builtin.Tuple.tupleExact acc.toList.toArray >>= fun v => ret v) _ _ _
    rw [ea]
    unfold Builtin.Tuple.tupleExact
    apply wpAny_bind
    exact wpAny_newObj_type (wpAny_pure fin) sz
  have made := new (R := fun v s1 => s1.TypeIs v "tuple" ∧ Q v s1) A.in1 hh fun h' tk acc hk hi => ⟨⟨_, Heap.get?_push_size _ rfl, rfl⟩, h h' tk acc hk hi⟩
  apply callType_codes F.called_tuple (F.typeCall_tuple_1 _) F.entry_object_init made
  intro obj s1 q
  have lk := F.called_tuple.init.lookup
  have md := F.called_tuple.made
  refine ⟨q.1, F.args_object_init_2 _ _, ?_⟩
  apply object_init_meets lk md (by decide)
  exact ⟨q.1, rfl, q.2⟩
end
/-! ### as a rule -/
theorem rpl_rev {K : PySem.W.Frag} {H : Hp} {S : Addr → Prop} : ∀ {vs : List V} {ds : List D}, RpL K H S vs ds → RpL K H S vs.reverse ds.reverse
  | _, _, .nil => .nil
  | _, _, .cons a h => by
    rw [List.reverse_cons, List.reverse_cons]
    exact (rpl_rev h).append (.cons a .nil)
section
variable {X : Cx}
def tRevRg (te : L2.St → Hp → (Int → Int → Hp → Prop) → Prop) : TE := fun σ H Q => te σ H fun a b H1 => RgOk a b ∧ ∀ q, H1 q = none → Q (.ref q) (upd H1 q (.tup (rgV a b).reverse))
theorem vals_rgr {a b : Int} {acc : Array Value} (h : ItemsOf (fun i v => ∃ t, v = .int (a + (((b - a).toNat : Nat) : Int) - 1 + i * -1) t) acc (b - a).toNat) : Vals (rgV a b).reverse acc.toList := by
  have e : acc.toList.length = (b - a).toNat := by rw [Array.length_toList]; exact h.1
  have er : (rgV a b).reverse = (List.range (b - a).toNat).map fun i => V.int (a + (((b - a).toNat : Nat) : Int) - 1 + ((i : Nat) : Int) * -1) := by
    apply List.ext_getElem
    · simp [rgV]
    · intro i h1 h2
      simp [rgV] at h1 h2 ⊢
      omega
  rw [er, ← e]
  refine vals_of_get acc.toList _ fun j u hj => ?_
  obtain ⟨t, rfl⟩ := h.2 j u (by rw [← hj, Array.getElem?_toList])
  exact ⟨t, by rw [e]⟩
theorem pe_revRg {e : Expr} {te : L2.St → Hp → (Int → Int → Hp → Prop) → Prop} {p p2 pos pos2 : Pos} (hc : X.calm = true) (hg : Gl X "tuple") (hm : X.mg "tuple" = none) (hg2 : Gl X "reversed") (hm2 : X.mg "reversed" = none) (he : PRg X e te)
    (na : starEach [e] X.env = (false, eval e X.env) :: starEach [] X.env) :
    PE X (.Call (.Name "tuple" p) [.Call (.Name "reversed" p2) [e] [] pos2] [] pos) (tRevRg te) := by
  refine ⟨fun pins s σ H Q I h => ?_⟩
  have inner : ∀ {R : Value → Shared → Prop}, (∀ (r : Addr) (s1 : Shared) (H1 : Hp) (a b : Int) (h1 : Inv X pins σ H1 s1), RgOk a b → (∀ q, H1 q = none → Q (.ref q) (upd H1 q (.tup (rgV a b).reverse))) →
      R (.ref s1.heap.objs.size) { s1 with heap := s1.heap.push (rngRevObj a b 1) }) → wpAny (model X.prog X.w) X.A (eval (.Call (.Name "reversed" p2) [e] [] pos2) X.env) R X.xe s := fun {R} hR => by
    refine Call_ (ld_blt I hg2 hm2 PyProof.Rows.boot_reversed (PyProof.Rows.callWith_type1 (args_cons (thn (he pins s σ H _ I h) fun u s1 hx => args_nil ?_) na) na rfl))
    obtain ⟨r, a, b, t, w1, v, H1, rfl, hr, I1, ok, q⟩ := hx
    obtain ⟨b1, b2, b3, b4, b5⟩ := id ok
    exact call_reversed_range hr (smallRev_one b1 b2 b3 b4) (hR r s1 H1 a b I1 ok q)
  refine Call_ (ld_blt I hg hm boot_tuple (PyProof.Rows.callWith_type1 (args_cons (inner fun r s1 H1 a b I1 ok q => args_nil ?_) rfl) rfl rfl))
  obtain ⟨b1, b2, b3, b4, b5⟩ := ok
  obtain ⟨n, hn⟩ : ∃ n, n = (b - a).toNat := ⟨_, rfl⟩
  have hs : Builtin.Range.rangeSize a b 1 = (n : Int) := by rw [hn]; exact rangeSize_nat a b
  have hit : IsRangeIter (s1.heap.push (rngRevObj a b 1)) s1.heap.objs.size (a + (n : Int) - 1) n (-1) := by
    have e1 : a + (n : Int) - 1 = a + (Builtin.Range.rangeSize a b 1 - 1) * 1 := by rw [hs]; omega
    rw [e1]
    rw [← hs]
    exact Heap.get?_push_size _ rfl
  have up : ∀ b' o, s1.heap.get? b' = some o → (s1.heap.push (rngRevObj a b 1)).get? b' = some o := fun _ _ e => Heap.get?_push_of_some _ e
  have J : Inv X pins σ H1 { s1 with heap := s1.heap.push (rngRevObj a b 1) } := I1.kept (t' := s1.toks) up
  have free := I1.hok.fresh (Nat.le_refl s1.heap.objs.size)
  obtain ⟨g0, g1, _, g3, g4, g5⟩ := I1.fpOk (H' := H1) (Nat.le_refl s1.heap.objs.size) free
  have hb : s1.heap.objs.size < (s1.heap.push (rngRevObj a b 1)).objs.size := by rw [Heap.size_push]; exact Nat.lt_succ_self _
  refine tuple_rgI (I1.ok.hd hc) hit hb (by rw [hn]; exact b5) fun h' tk acc hk hi => ?_
  rw [hn] at hi
  have J2 : Inv X pins σ H1 { s1 with heap := h', toks := tk } := J.turned (t' := tk) (fun b' o hb' e => hk b' o hb' e) g0 g1 g3 g4 g5
  have len : (rgV a b).reverse.length ≤ sizeLine := by rw [List.length_reverse, rgV_length, sizeLine_eq]; omega
  have ob : ObjOk X.prog X.w (upd H1 h'.objs.size (.tup (rgV a b).reverse)) (h'.push { cls := .type "tuple", data := .seq acc }) h'.objs.size (.tup (rgV a b).reverse) := by
    refine ⟨len, acc.toList, vals_rgr hi, ?_⟩
    rw [Array.toArray_toList]
    exact IsTup.new _ _
  exact ⟨V.ref h'.objs.size, upd H1 h'.objs.size (.tup (rgV a b).reverse), J2.laid (t' := tk) (fun _ _ e => Heap.get?_push_of_some _ e) (Nat.le_refl _) ob, rfl, q _ (J2.hok.fresh (Nat.le_refl _))⟩
end
/-! ### index and count of a tuple -/
section
variable {X : Cx}
theorem mt_tidx : MtR X "tuple.index" (fun x xs H Q => ∃ (a : Addr) (ns : List Int) (n : Int) (j : Nat), x = .ref a ∧ xs = [.int n] ∧ SqT X.K H a (ns.map V.int) ∧ ns[j]? = some n ∧ (∀ m, m < j → ns[m]? ≠ some n) ∧ Q (.int (j : Nat)) H) := by
  intro pins s σ H x xs v us Q I rx rxs h
  obtain ⟨a, ns, n, j, rfl, rfl, hs, hj, hno, q⟩ := h
  cases rx
  obtain ⟨u, rfl, ru⟩ := rxs.one
  obtain ⟨its, rv, ⟨⟨cls, dd, data, sl⟩, ho, hc, nn, hd⟩, _⟩ := I.tuple hs
  simp only at hc hd
  subst hc hd
  have hl := rv.length
  rw [List.length_map] at hl
  have fl : (ns.map V.int).all flatV = true := by rw [List.all_map]; exact List.all_eq_true.mpr fun _ _ => rfl
  have at' : ∀ (m : Nat) (hm : m < its.toArray.size) (z : Int), ns[m]? = some z → eqU (.int n) its.toArray[m] = (z == n) := fun m hm z hz => by
    have hz' : (ns.map V.int)[m]? = some (.int z) := by rw [List.getElem?_map, hz]; rfl
    obtain ⟨u2, hu2, ru2⟩ := rv.get hz'
    obtain ⟨_, e2⟩ := List.getElem?_eq_some_iff.mp hu2
    have e1 : its.toArray[m] = u2 := by simpa using e2
    rw [e1, eqU_of ru2 rfl]
    rfl
  have hj' : j < its.toArray.size := by
    have := (List.getElem?_eq_some_iff.mp hj).1
    simp
    omega
  have hit : eqU (.int n) its.toArray[j] = true := by rw [at' j hj' n hj]; exact beq_self_eq_true n
  have hbe : ∀ m (hm : m < its.toArray.size), m < j → eqU (.int n) its.toArray[m] = false := fun m hm hmj => by
    have hm2 : m < ns.length := by simp at hm; omega
    have hz := List.getElem?_eq_getElem hm2
    rw [at' m hm _ hz]
    refine beq_eq_false_iff_ne.mpr fun z => hno m hmj ?_
    rw [hz, z]
  have eqs : ∀ y, y ∈ its.toArray → SeqAt.EqAt X.A.in1 s y u (eqU (.int n) y) := fun y hy => mem_eqAt ru rfl rv fl y (by simpa using hy)
  exact call_meets PySem.F.slot_tuple_index ⟨_, ho, rfl⟩ PySem.F.entry_tuple_index (PySem.F.args_tuple_index_2 _ _) (TI.tuple_indexAt a its.toArray nn dd sl u (eqU (.int n)) j hj' hit hbe)
    ⟨ho, eqs, .int (j : Nat), H, I.tok _, ⟨_, rfl⟩, q⟩
theorem cntU : ∀ {n : Int} {vs : List V} {us : List Value} {c : V → Bool}, Vals vs us → (∀ v ∈ vs, flatV v = true ∧ eqV v (.int n) = c v) → us.countP (eqU (.int n)) = vs.countP c
  | _, _, _, _, .nil, _ => rfl
  | n, v :: vs, u :: us, c, .cons r t, h => by
    obtain ⟨h1, h2⟩ := h v (by simp)
    rw [List.countP_cons, List.countP_cons, cntU t fun w hw => h w (by simp [hw]), eqU_of r h1, h2]
theorem mt_tcnt : MtR X "tuple.count" (fun x xs H Q => ∃ (a : Addr) (vs : List V) (n : Int) (c : V → Bool), x = .ref a ∧ xs = [.int n] ∧ SqT X.K H a vs ∧ (∀ v ∈ vs, flatV v = true ∧ eqV v (.int n) = c v) ∧ Q (.int (vs.countP c : Nat)) H) := by
  intro pins s σ H x xs v us Q I rx rxs h
  obtain ⟨a, vs, n, c, rfl, rfl, hs, hv, q⟩ := h
  cases rx
  obtain ⟨u, rfl, ru⟩ := rxs.one
  obtain ⟨its, rv, ⟨⟨cls, dd, data, sl⟩, ho, hc, nn, hd⟩, _⟩ := I.tuple hs
  simp only at hc hd
  subst hc hd
  have fl : vs.all flatV = true := List.all_eq_true.mpr fun w hw => (hv w hw).1
  have eqs : ∀ y, y ∈ its.toArray → SeqAt.EqAt X.A.in1 s y u (eqU (.int n) y) := fun y hy => mem_eqAt ru rfl rv fl y (by simpa using hy)
  have ec : its.toArray.toList.countP (eqU (.int n)) = vs.countP c := cntU rv hv
  refine call_meets PySem.F.slot_tuple_count ⟨_, ho, rfl⟩ PySem.F.entry_tuple_count (PySem.F.args_tuple_count_2 _ _) (SeqAt.tuple_countAt a its.toArray nn dd sl u (eqU (.int n))) ⟨ho, eqs, ?_⟩
  rw [ec]
  exact ⟨.int (vs.countP c : Nat), H, I.tok _, ⟨_, rfl⟩, q⟩
end
end DL

set_option Elab.async false
set_option linter.all false
set_option maxRecDepth 100000
set_option maxHeartbeats 4000000
set_option autoImplicit false
/-! DLT: sets made of a list of ints. -/
namespace DL
open PySem PySem.Spec PyProof.Rows L2
section
variable {P : Program} {w : World} {A : Around} {E : Value → Shared → Prop} {s : Shared}
abbrev freshSet (w : World) : Obj := { cls := .type "set", dict := none, data := .set #[] 0 (.fresh 0 0 (!w.params.followText "set-order")) }
/-- the update of a fresh set by a list of ints -/
theorem set_fill {l : Addr} {items : Array Value} {ns : List Int} {a : Addr} (hh : A.handled = none) (hs : s.heap.get? a = some (freshSet w)) (hl : s.heap.IsList l items) (hla : l ≠ a) (hit : IntsAre items.toList ns) (hb : ns.length + 1 < scanBound) :
    wpAny (model P w) A (pyIter (.ref l)) (fun it s2 => ∃ I, it = .ref I ∧ ∀ R : Result → Shared → Prop,
      (∀ (h' : Heap) (tk c : Nat), SetR w h' a (fun j => decide (j ∈ ns)) c → c ≤ ns.length → (∀ b o, b ≠ a → s.heap.get? b = some o → h'.get? b = some o) → R (.ok (.ret .none)) { s with heap := h', toks := tk }) →
      codeAny (model P w) A (.builtin "set.update.loop" ⟨[.ref a, .ref I], []⟩) R s2) E s := by
  have hsz : items.size = ns.length := by
    have := IntsAre.length hit
    rwa [Array.length_toList] at this
  have hlS : l < s.heap.objs.size := by obtain ⟨_, e, _⟩ := hl; exact Heap.lt_size e
  have haS : a < s.heap.objs.size := Heap.lt_size hs
  refine wpAny_pyIter_list hl ⟨s.heap.objs.size, rfl, fun R h => ?_⟩
  have hneI : l ≠ s.heap.objs.size := Nat.ne_of_lt hlS
  have hSf : a ∉ [s.heap.objs.size, l] := by
    simp only [List.mem_cons, List.not_mem_nil, or_false, not_or]
    exact ⟨Nat.ne_of_lt haS, fun z => hla z.symm⟩
  have hval : ∀ (i : Nat) (v : Value), items[i]? = some v → ∃ k t, ns[i]? = some k ∧ v = .int k t := fun i v hv => by
    have hi : i < ns.length := by rw [← hsz]; exact (Array.getElem?_eq_some_iff.mp hv).1
    obtain ⟨t, e⟩ := IntsAre.int_at hit i v (by rw [Array.getElem?_toList]; exact hv)
    exact ⟨ns[i], t, List.getElem?_eq_getElem hi, by rw [e, List.getD_eq_getElem?_getD, List.getElem?_eq_getElem hi]; rfl⟩
  refine set_update_ints ((Walks.list (A := A.in1) (by simpa using hh) _ l hneI items).toS) a hSf ns hsz hb hval (items.size - 0) 0 _ (by omega) (Nat.zero_le _) ⟨⟨_, Heap.get?_push_size _ rfl, rfl, rfl⟩, hl.push _⟩ ⟨0, Nat.le_refl 0, setR_new_at (Heap.get?_push_of_some _ hs)⟩ fun s' c' hm hc' hS' => ?_
  obtain ⟨h', g2, d', tk', os'⟩ := s'
  have eg : g2 = s.gens := hm.gens
  have ed : d' = s.drawn := hm.drawn
  have eo : os' = s.os := hm.os
  subst eg; subst ed; subst eo
  refine h h' tk' c' hS' (by omega) fun b o hb e => ?_
  refine hm.heap b o (fun z => ?_) (Heap.get?_push_of_some _ e)
  rcases List.mem_cons.mp z with z | z
  · exact hb z
  · exact absurd (Heap.lt_size e) (by rw [List.mem_singleton.mp z]; exact Nat.lt_irrefl _)
theorem set_of_list {l : Addr} {items : Array Value} {ns : List Int} {Q : Value → Shared → Prop} (hh : A.handled = none) (hl : s.heap.IsList l items) (hit : IntsAre items.toList ns) (hb : ns.length + 1 < scanBound)
    (h : ∀ (h' : Heap) (tk c : Nat), SetR w h' s.heap.objs.size (fun j => decide (j ∈ ns)) c → c ≤ ns.length → (∀ b o, s.heap.get? b = some o → h'.get? b = some o) → Q (.ref s.heap.objs.size) { s with heap := h', toks := tk }) :
    wpAny (model P w) A (call (.type "set") [.ref l]) Q E s := by
  obtain ⟨ol, hol, hcl, nl, hdl⟩ := id hl
  have hlS : l < s.heap.objs.size := Heap.lt_size hol
  have hS : (s.heap.push (freshSet w)).get? s.heap.objs.size = some (freshSet w) := Heap.get?_push_size _ rfl
  have hT : Shared.TypeIs { s with heap := s.heap.push (freshSet w) } (.ref s.heap.objs.size) "set" := ⟨_, hS, rfl⟩
  obtain ⟨c, tl, hmro⟩ := F.called_set.mro
  have hmade := F.called_set.made
  have hsub := F.called_set.sub
  have h1 := F.called_set.notType
  have h2 := F.called_set.canCreate
  have hct := F.typeCall_set_1 (.ref l)
  have hli := F.called_set.init.lookup
  have hbi := F.called_set.init.bind (.ref s.heap.objs.size)
  refine wpAny_call (codeAny_of_tree ?_)
  show wpAny _ _ (callAny (.type "set") _) _ _ _
  refine wpAny_pure ⟨Code.quiet_builtin _ (by decide +kernel), codeAny_builtin F.entry_type_call ?_⟩
  rw [Around.under_plain (weight_type_call_type "set" [.ref l] []) rfl]
  repeat (any_goals (first | assumption | wp_step))
  refine codeAny_mono (code_set_led1 (.ref l) (E := E) (Q₁ := fun obj s₁ => obj = .ref s.heap.objs.size ∧ s₁ = { s with heap := s.heap.push (freshSet w) }) ⟨rfl, rfl⟩) fun r s₁ hr => ?_
  cases r with
  | error e => exact hr
  | ok fl =>
   cases fl with
   | ret obj =>
    obtain ⟨rfl, rfl⟩ := hr
    repeat (any_goals (first | assumption | wp_step))
    refine codeAny_mono (codeAny_call_builtin (R := wants (fun r s₂ => r = .none ∧ ∃ h' tk c, s₂ = { s with heap := h', toks := tk } ∧ SetR w h' s.heap.objs.size (fun j => decide (j ∈ ns)) c ∧ c ≤ ns.length ∧ ∀ b o, s.heap.get? b = some o → h'.get? b = some o) E) F.called_set.init.plain F.entry_set_init (check_set_init_1 hT ?_)) fun r₂ s₂ hr₂ => ?_
    · obtain ⟨ocls, odict, odata, oslots⟩ := ol
      simp only at hcl hdl
      subst hcl
      subst hdl
      have hol' : (s.heap.push (freshSet w)).get? l = some { cls := .type "list", dict := odict, data := .seq items nl, slots := oslots } := Heap.get?_push_of_some _ hol
      have a1 := F.sub_list_set
      have a2 := F.sub_list_frozenset
      have a3 : (Value.type "list" == Value.type "dict") = false := by decide
      unfold Builtin.«set.__init__» noKeywords Builtin.Frozenset.updateFrom
      generalize hPI : pyIter = PI
      wp_walk
      subst hPI
      have hl1 : (s.heap.push (freshSet w)).IsList l items := ⟨_, hol', rfl, nl, rfl⟩
      refine wpAny_mono (set_fill (a := s.heap.objs.size) (by simp [hh]) hS hl1 (Nat.ne_of_lt hlS) hit hb) (fun it s2 hq => ?_) fun _ _ e => e
      obtain ⟨I, rfl, q⟩ := hq
      refine wpAny_bind (wpAny_runValue (q _ fun h' tk c' q1 q2 q3 => ?_))
      show wpAny _ _ _ _ _ _
      refine wpAny_pure ?_
      show wpAny _ _ (ret Value.none) _ _ _
      exact wpAny_pure ⟨rfl, h', tk, c', rfl, q1, q2, fun b o e => q3 b o (Nat.ne_of_lt (Heap.lt_size e)) (Heap.get?_push_of_some _ e)⟩
    · cases r₂ with
      | error e => exact hr₂
      | ok fl₂ =>
       cases fl₂ with
       | ret r =>
        obtain ⟨rfl, h', tk, c', rfl, q1, q2, q3⟩ := hr₂
        repeat (any_goals (first | assumption | wp_step))
        exact h _ _ _ q1 q2 q3
       | _ => exact hr₂.elim
   | _ => exact hr.elim
/-- the update of a fresh set by a tuple of ints -/
theorem set_fillT {l : Addr} {items : Array Value} {ns : List Int} {a : Addr} (hh : A.handled = none) (hs : s.heap.get? a = some (freshSet w)) (hl : s.heap.IsTuple l items) (hla : l ≠ a) (hit : IntsAre items.toList ns) (hb : ns.length + 1 < scanBound) :
    wpAny (model P w) A (pyIter (.ref l)) (fun it s2 => ∃ I, it = .ref I ∧ ∀ R : Result → Shared → Prop,
      (∀ (h' : Heap) (tk c : Nat), SetR w h' a (fun j => decide (j ∈ ns)) c → c ≤ ns.length → (∀ b o, b ≠ a → s.heap.get? b = some o → h'.get? b = some o) → R (.ok (.ret .none)) { s with heap := h', toks := tk }) →
      codeAny (model P w) A (.builtin "set.update.loop" ⟨[.ref a, .ref I], []⟩) R s2) E s := by
  have hsz : items.size = ns.length := by
    have := IntsAre.length hit
    rwa [Array.length_toList] at this
  have hlS : l < s.heap.objs.size := by obtain ⟨_, e, _⟩ := hl; exact Heap.lt_size e
  have haS : a < s.heap.objs.size := Heap.lt_size hs
  refine wpAny_pyIter_tuple hl ⟨s.heap.objs.size, rfl, fun R h => ?_⟩
  have hneI : l ≠ s.heap.objs.size := Nat.ne_of_lt hlS
  have hSf : a ∉ [s.heap.objs.size, l] := by
    simp only [List.mem_cons, List.not_mem_nil, or_false, not_or]
    exact ⟨Nat.ne_of_lt haS, fun z => hla z.symm⟩
  have hval : ∀ (i : Nat) (v : Value), items[i]? = some v → ∃ k t, ns[i]? = some k ∧ v = .int k t := fun i v hv => by
    have hi : i < ns.length := by rw [← hsz]; exact (Array.getElem?_eq_some_iff.mp hv).1
    obtain ⟨t, e⟩ := IntsAre.int_at hit i v (by rw [Array.getElem?_toList]; exact hv)
    exact ⟨ns[i], t, List.getElem?_eq_getElem hi, by rw [e, List.getD_eq_getElem?_getD, List.getElem?_eq_getElem hi]; rfl⟩
  refine set_update_ints ((Walks.tuple (A := A.in1) (by simpa using hh) _ l hneI items).toS) a hSf ns hsz hb hval (items.size - 0) 0 _ (by omega) (Nat.zero_le _) ⟨⟨_, Heap.get?_push_size _ rfl, rfl, rfl⟩, hl.push _⟩ ⟨0, Nat.le_refl 0, setR_new_at (Heap.get?_push_of_some _ hs)⟩ fun s' c' hm hc' hS' => ?_
  obtain ⟨h', g2, d', tk', os'⟩ := s'
  have eg : g2 = s.gens := hm.gens
  have ed : d' = s.drawn := hm.drawn
  have eo : os' = s.os := hm.os
  subst eg; subst ed; subst eo
  refine h h' tk' c' hS' (by omega) fun b o hb e => ?_
  refine hm.heap b o (fun z => ?_) (Heap.get?_push_of_some _ e)
  rcases List.mem_cons.mp z with z | z
  · exact hb z
  · exact absurd (Heap.lt_size e) (by rw [List.mem_singleton.mp z]; exact Nat.lt_irrefl _)
theorem set_of_tup {l : Addr} {items : Array Value} {ns : List Int} {Q : Value → Shared → Prop} (hh : A.handled = none) (hl : s.heap.IsTuple l items) (hit : IntsAre items.toList ns) (hb : ns.length + 1 < scanBound)
    (h : ∀ (h' : Heap) (tk c : Nat), SetR w h' s.heap.objs.size (fun j => decide (j ∈ ns)) c → c ≤ ns.length → (∀ b o, s.heap.get? b = some o → h'.get? b = some o) → Q (.ref s.heap.objs.size) { s with heap := h', toks := tk }) :
    wpAny (model P w) A (call (.type "set") [.ref l]) Q E s := by
  obtain ⟨ol, hol, hcl, nl, hdl⟩ := id hl
  have hlS : l < s.heap.objs.size := Heap.lt_size hol
  have hS : (s.heap.push (freshSet w)).get? s.heap.objs.size = some (freshSet w) := Heap.get?_push_size _ rfl
  have hT : Shared.TypeIs { s with heap := s.heap.push (freshSet w) } (.ref s.heap.objs.size) "set" := ⟨_, hS, rfl⟩
  obtain ⟨c, tl, hmro⟩ := F.called_set.mro
  have hmade := F.called_set.made
  have hsub := F.called_set.sub
  have h1 := F.called_set.notType
  have h2 := F.called_set.canCreate
  have hct := F.typeCall_set_1 (.ref l)
  have hli := F.called_set.init.lookup
  have hbi := F.called_set.init.bind (.ref s.heap.objs.size)
  refine wpAny_call (codeAny_of_tree ?_)
  show wpAny _ _ (callAny (.type "set") _) _ _ _
  refine wpAny_pure ⟨Code.quiet_builtin _ (by decide +kernel), codeAny_builtin F.entry_type_call ?_⟩
  rw [Around.under_plain (weight_type_call_type "set" [.ref l] []) rfl]
  repeat (any_goals (first | assumption | wp_step))
  refine codeAny_mono (code_set_led1 (.ref l) (E := E) (Q₁ := fun obj s₁ => obj = .ref s.heap.objs.size ∧ s₁ = { s with heap := s.heap.push (freshSet w) }) ⟨rfl, rfl⟩) fun r s₁ hr => ?_
  cases r with
  | error e => exact hr
  | ok fl =>
   cases fl with
   | ret obj =>
    obtain ⟨rfl, rfl⟩ := hr
    repeat (any_goals (first | assumption | wp_step))
    refine codeAny_mono (codeAny_call_builtin (R := wants (fun r s₂ => r = .none ∧ ∃ h' tk c, s₂ = { s with heap := h', toks := tk } ∧ SetR w h' s.heap.objs.size (fun j => decide (j ∈ ns)) c ∧ c ≤ ns.length ∧ ∀ b o, s.heap.get? b = some o → h'.get? b = some o) E) F.called_set.init.plain F.entry_set_init (check_set_init_1 hT ?_)) fun r₂ s₂ hr₂ => ?_
    · obtain ⟨ocls, odict, odata, oslots⟩ := ol
      simp only at hcl hdl
      subst hcl
      subst hdl
      have hol' : (s.heap.push (freshSet w)).get? l = some { cls := .type "tuple", dict := odict, data := .seq items nl, slots := oslots } := Heap.get?_push_of_some _ hol
      have a1 := F.sub_tuple_set
      have a2 := F.sub_tuple_frozenset
      have a3 : (Value.type "tuple" == Value.type "dict") = false := by decide
      unfold Builtin.«set.__init__» noKeywords Builtin.Frozenset.updateFrom
      generalize hPI : pyIter = PI
      wp_walk
      subst hPI
      have hl1 : (s.heap.push (freshSet w)).IsTuple l items := ⟨_, hol', rfl, nl, rfl⟩
      refine wpAny_mono (set_fillT (a := s.heap.objs.size) (by simp [hh]) hS hl1 (Nat.ne_of_lt hlS) hit hb) (fun it s2 hq => ?_) fun _ _ e => e
      obtain ⟨I, rfl, q⟩ := hq
      refine wpAny_bind (wpAny_runValue (q _ fun h' tk c' q1 q2 q3 => ?_))
      show wpAny _ _ _ _ _ _
      refine wpAny_pure ?_
      show wpAny _ _ (ret Value.none) _ _ _
      exact wpAny_pure ⟨rfl, h', tk, c', rfl, q1, q2, fun b o e => q3 b o (Nat.ne_of_lt (Heap.lt_size e)) (Heap.get?_push_of_some _ e)⟩
    · cases r₂ with
      | error e => exact hr₂
      | ok fl₂ =>
       cases fl₂ with
       | ret r =>
        obtain ⟨rfl, h', tk, c', rfl, q1, q2, q3⟩ := hr₂
        repeat (any_goals (first | assumption | wp_step))
        exact h _ _ _ q1 q2 q3
       | _ => exact hr₂.elim
   | _ => exact hr.elim
end
end DL

set_option Elab.async false
set_option linter.all false
set_option maxRecDepth 100000
set_option maxHeartbeats 4000000
set_option autoImplicit false
/-! DLU: sorted(set(xs)), len(set(xs)) of ints. -/
namespace DL
open PySem PySem.Spec PyProof.Rows L2
theorem mem_ins {x z : Int} : ∀ {l : List Int}, z ∈ insI x l ↔ z = x ∨ z ∈ l
  | [] => by simp [insI]
  | y :: l => by
    unfold insI
    by_cases c : x < y
    · simp [c]
    · by_cases c2 : x = y
      · simp [c2]
      · simp [c, c2, @mem_ins x z l]
        constructor
        · rintro (h | h | h) <;> simp [h]
        · rintro (h | h | h) <;> simp [h]
theorem ins_lt {x : Int} : ∀ {l : List Int}, l.Pairwise (· < ·) → (insI x l).Pairwise (· < ·)
  | [], _ => by simp [insI]
  | y :: l, h => by
    obtain ⟨h1, h2⟩ := List.pairwise_cons.mp h
    unfold insI
    by_cases c : x < y
    · rw [if_pos c]
      refine List.pairwise_cons.mpr ⟨fun z hz => ?_, h⟩
      rcases List.mem_cons.mp hz with rfl | hz
      · exact c
      · have := h1 z hz
        omega
    · rw [if_neg c]
      by_cases c2 : x = y
      · rw [if_pos c2]
        exact h
      · rw [if_neg c2]
        refine List.pairwise_cons.mpr ⟨fun z hz => ?_, ins_lt h2⟩
        rcases mem_ins.mp hz with rfl | hz
        · omega
        · exact h1 z hz
theorem sset_lt : ∀ (ns : List Int), (ssetI ns).Pairwise (· < ·)
  | [] => List.Pairwise.nil
  | x :: ns => ins_lt (sset_lt ns)
theorem mem_sset {z : Int} : ∀ {ns : List Int}, z ∈ ssetI ns ↔ z ∈ ns
  | [] => by simp [ssetI]
  | x :: ns => by
    have := @mem_sset z ns
    show z ∈ insI x (ssetI ns) ↔ _
    rw [mem_ins, this]
    simp
theorem lt_unique : ∀ {l m : List Int}, l.Pairwise (· < ·) → m.Pairwise (· < ·) → (∀ z, z ∈ l ↔ z ∈ m) → l = m
  | [], [], _, _, _ => rfl
  | [], y :: m, _, _, h => absurd ((h y).mpr (by simp)) (by simp)
  | x :: l, [], _, _, h => absurd ((h x).mp (by simp)) (by simp)
  | x :: l, y :: m, hl, hm, h => by
    obtain ⟨l1, l2⟩ := List.pairwise_cons.mp hl
    obtain ⟨m1, m2⟩ := List.pairwise_cons.mp hm
    have e : x = y := by
      have a := (h x).mp (by simp)
      have b := (h y).mpr (by simp)
      rcases List.mem_cons.mp a with a | a
      · exact a
      · rcases List.mem_cons.mp b with b | b
        · exact b.symm
        · have := l1 y b
          have := m1 x a
          omega
    subst e
    refine congrArg (x :: ·) (lt_unique l2 m2 fun z => ?_)
    have hz := h z
    simp only [List.mem_cons] at hz
    constructor
    · intro q
      rcases hz.mp (.inr q) with rfl | q2
      · have := l1 z q
        omega
      · exact q2
    · intro q
      rcases hz.mpr (.inr q) with rfl | q2
      · have := m1 z q
        omega
      · exact q2
theorem nodup_len {α : Type} [DecidableEq α] {l m : List α} (hl : l.Nodup) (hm : m.Nodup) (h : ∀ z, z ∈ l ↔ z ∈ m) : l.length = m.length := by
  have h1 : l.Perm m := (List.perm_ext_iff_of_nodup hl hm).mpr fun a => h a
  exact h1.length_eq
theorem sset_nodup (ns : List Int) : (ssetI ns).Nodup := (sset_lt ns).imp fun h => Int.ne_of_lt h
section
variable {P : Program} {w : World} {A : Around} {E : Value → Shared → Prop} {s : Shared} {a : Addr}
theorem sorted_setB {S : Int → Bool} {n : Nat} {Q : Value → Shared → Prop} (R : SetR w s.heap a S n) (hh : A.handled = none) (h64 : n ≤ 16777216)
    (hQ : ∀ s' p (out : Array Value) (c : Nat) (ns : List Int), (∀ b o, s.heap.get? b = some o → s'.heap.get? b = some o) → s'.gens = s.gens → s'.os = s.os → s.heap.objs.size ≤ p →
      s'.heap.get? p = some (seqObj "list" out c) → IntsAre out.toList ns → ns.Pairwise (· < ·) → (∀ k, k ∈ ns ↔ S k = true) → ns.length = n → Q (.ref p) s') :
    wpAny (model P w) A (call (.builtin "sorted") [.ref a]) Q E s := by
  obtain ⟨o, es, ep, t, ho, hex, hd, g, nd, hm, hb, hf, hn, hr, hl⟩ := R
  refine Calls.call_function_entry kind_sorted plain_sorted entry_sorted (args_sorted1 _) ?_
  unfold Builtin.«sorted»
  refine wpAny_bind (m := checkCount "sorted" 1 1 _) (wpAny_pure ?_)
  refine wpAny_bind (collect_set (A := A.in1) hh ⟨o, ho, hex.1, hd⟩ hf hb hr hl fun s1 vs k1 hz g1 o1 pm => ?_)
  have hvl : vs.length = n := by rw [pm.length_eq, List.length_map, Array.length_toList]; exact hn
  have hI : IntsAre vs (vs.map Builtin.Re.reRawOf) := ints_of vs fun v hv => by
    obtain ⟨e, he, q⟩ := List.mem_map.mp (pm.mem_iff.mp hv)
    obtain ⟨k, tk, h1, _⟩ := g e he
    exact ⟨k, tk, by rw [← q]; exact h1⟩
  have pk : (vs.map Builtin.Re.reRawOf).Perm (es.toList.map keyOf) := by
    have q := pm.map Builtin.Re.reRawOf
    rw [List.map_map] at q
    exact q
  refine wpAny_bind (wpAny_newList ?_ (by rw [hvl, sizeLine_eq]; omega))
  have hoL : (s1.heap.push (seqObj "list" vs.toArray 0)).get? s1.heap.objs.size = some (seqObj "list" vs.toArray 0) := Heap.get?_push_size _ rfl
  refine wpAny_bind (wpAny_holding (wpAny_call_entry slot_list_sort ⟨_, hoL, rfl⟩ entry_list_sort (SrtO.list_sort_ord SrtO.swo_int hoL (by rw [hvl, sizeLine_eq]; omega) (fun h2 => SrtO.ints_sortable hI h2) fun out h1 h2 => ⟨_, rfl, ?_⟩) (args_list_sort _)))
  obtain ⟨a1, a2, a3⟩ := SrtO.ints_out hI h1 h2
  obtain ⟨c, hc⟩ := sortedHeap_at (vs := vs) (out := out.toArray) hoL
  have pn : (out.map SrtO.iv).Perm (es.toList.map keyOf) := a2.trans pk
  refine wpAny_pure ⟨_, rfl, hQ _ s1.heap.objs.size out.toArray c (out.map SrtO.iv) (fun b u e => ?_) g1 o1 hz hc (by simpa using a1) (lt_of_le_nodup _ a3 (pn.nodup_iff.mpr nd)) (fun k => by rw [pn.mem_iff, ← hm k]) ?_⟩
  · have q := k1 b u e
    have hlt := Heap.lt_size q
    show (sortedHeap (s1.heap.push (seqObj "list" vs.toArray 0)) s1.heap.objs.size vs out.toArray).get? b = some u
    rw [sortedHeap_old (Nat.ne_of_lt hlt) (by rw [size_push']; exact Nat.lt_succ_of_lt hlt)]
    exact Heap.get?_push_of_some _ q
  · rw [pn.length_eq, List.length_map, Array.length_toList]; exact hn
end
/-- sorted(a set) -/
def rSortedB (w : World) : List V → Hp → VK → Prop := fun vs H Q => ∃ (a : Addr) (S : Int → Bool) (n : Nat), vs = [V.ref a] ∧ H a = some (SetO w a S n) ∧ n ≤ 16777216 ∧
  ∀ (ns : List Int) (p : Addr), ns.Pairwise (· < ·) → (∀ k : Int, k ∈ ns ↔ S k = true) → ns.length = n → H p = none → Q (.ref p) (upd H p (.lst (ns.map V.int)))
theorem cr_sortedB {X : Cx} (hc : X.calm = true) : CallR X (.builtin "sorted") (rSortedB X.w) := by
  intro pins s σ H vs us Q I r h
  obtain ⟨a, S, n, rfl, ha, h64, q⟩ := h
  have R := setO_get I ha
  rw [Vals.ref1 r]
  refine sorted_setB R (I.ok.hd hc) h64 fun s' p out c ns k g o hp hg hi hs hm hl => ?_
  have hlen : (ns.map V.int).length ≤ sizeLine := by rw [List.length_map, hl, sizeLine_eq]; omega
  have hn : H p = none := I.hok.fresh hp
  have J : Inv X pins σ (upd H p (.lst (ns.map V.int))) { s with heap := s'.heap, gens := s'.gens, drawn := s'.drawn, toks := s'.toks } :=
    I.call (ch := []) (Un.laid k hp hn) (I.hok.laid k hp ⟨hlen, out.toList, c, vals_of_ints hi, hg⟩) (by rw [g]; exact I.bare) (fun _ z => nomatch z)
  have e : s' = { s with heap := s'.heap, gens := s'.gens, drawn := s'.drawn, toks := s'.toks } := by
    cases s'
    cases s
    cases o
    rfl
  rw [e]
  exact ⟨.ref p, _, J, rfl, q ns p hs hm hl hn⟩
section
variable {X : Cx}
def rSetLi (K : PySem.W.Frag) (w : World) : List V → Hp → VK → Prop := fun xs H Q => ∃ (a : Addr) (ns : List Int), xs = [.ref a] ∧ (SqL K H a (ns.map V.int) ∨ SqT K H a (ns.map V.int)) ∧ ns.length < 4000 ∧
  ∀ (p : Addr), H p = none → Q (.ref p) (upd H p (SetO w p (fun j => decide (j ∈ ns)) (ssetI ns).length))
theorem cr_setL (hc : X.calm = true) : CallR X (.type "set") (rSetLi X.K X.w) := by
  intro pins s σ H xs us Q I r h
  obtain ⟨a, ns, rfl, h1, hn, q⟩ := h
  rw [Vals.ref1 r]
  have fin : ∀ (h' : Heap) (tk c : Nat), SetR X.w h' s.heap.objs.size (fun j => decide (j ∈ ns)) c → (∀ b o, s.heap.get? b = some o → h'.get? b = some o) → EP X pins σ Q (.ref s.heap.objs.size) { s with heap := h', toks := tk } := fun h' tk c R hk => by
    have ec : c = (ssetI ns).length := by
      obtain ⟨o, es, ep, t, _, _, _, _, nd, mem, _, _, hsz, _⟩ := R
      rw [← hsz, ← Array.length_toList, ← List.length_map (f := keyOf)]
      refine nodup_len nd (sset_nodup ns) fun z => ?_
      rw [mem_sset, ← mem z]
      simp
    subst ec
    exact ⟨.ref _, upd H s.heap.objs.size (SetO X.w s.heap.objs.size (fun j => decide (j ∈ ns)) (ssetI ns).length), I.laid (t' := tk) hk (Nat.le_refl _) (setO_new R), rfl, q _ (I.hok.fresh (Nat.le_refl _))⟩
  rcases h1 with h1 | h1
  · obtain ⟨its, rv, hl, _⟩ := I.list h1
    exact set_of_list (I.ok.hd hc) hl.isList rv.ints (by unfold scanBound; omega) fun h' tk c R _ hk => fin h' tk c R hk
  · obtain ⟨its, rv, hl, _⟩ := I.tuple h1
    exact set_of_tup (I.ok.hd hc) hl rv.ints (by unfold scanBound; omega) fun h' tk c R _ hk => fin h' tk c R hk
theorem sset_le : ∀ (ns : List Int), (ssetI ns).length ≤ ns.length
  | [] => Nat.le_refl _
  | x :: ns => by
    have h : ∀ (l : List Int), (insI x l).length ≤ l.length + 1 := fun l => by
      induction l with
      | nil => exact Nat.le_refl _
      | cons y l ih =>
        unfold insI
        split
        · exact Nat.le_refl _
        · split
          · simp
          · simp only [List.length_cons]; omega
    have := sset_le ns
    have h1 := h (ssetI ns)
    show (insI x (ssetI ns)).length ≤ _
    simp only [List.length_cons]
    omega
/-- the road of sorted(set(xs)): what is asked of the list, and what comes -/
theorem sset_road {K : PySem.W.Frag} {w : World} {H : Hp} {a : Addr} {ns : List Int} {Q : V → Hp → Prop} (h1 : SqL K H a (ns.map V.int)) (hn : ns.length < 4000)
    (q : ∀ (p p2 : Addr), H p = none → upd H p (SetO w p (fun j => decide (j ∈ ns)) (ssetI ns).length) p2 = none → Q (.ref p2) (upd (upd H p (SetO w p (fun j => decide (j ∈ ns)) (ssetI ns).length)) p2 (.lst ((ssetI ns).map V.int)))) :
    rSetLi K w [.ref a] H fun v H1 => rSortedB w [v] H1 Q := by
  refine ⟨a, ns, rfl, .inl h1, hn, fun p hp => ?_⟩
  show rSortedB w [V.ref p] _ Q
  have := sset_le ns
  refine ⟨p, _, _, rfl, upd_same, by omega, fun ns' p2 hs hm hl hp2 => ?_⟩
  have e : ns' = ssetI ns := lt_unique hs (sset_lt ns) fun z => by
    rw [hm z, mem_sset]
    simp
  rw [e]
  exact q p p2 hp hp2
theorem rpl_intsU {K : PySem.W.Frag} {H : Hp} {S : Addr → Prop} : ∀ (l : List Int), RpL K H S (l.map V.int) (l.map PyData.int)
  | [] => .nil
  | x :: l => .cons (.int x) (rpl_intsU l)
/-- sorted(set(xs)): a new list -/
theorem sset_new {K : PySem.W.Frag} {w : World} {S : Addr → Prop} {H : Hp} {a : Addr} {ns : List Int} {Q : V → Hp → Prop} (wf : ∀ b, S b → H b ≠ none) (h1 : SqL K H a (ns.map V.int)) (hn : ns.length < 4000)
    (q : ∀ v H' S', Ext S H S' H' → RF K H S' H' v (.ow ((ssetI ns).map .int)) → Q v H') : rSetLi K w [.ref a] H fun v H1 => rSortedB w [v] H1 Q :=
  sset_road h1 hn fun p p2 hp hp2 => by
    have hne : p2 ≠ p := fun z => by rw [z, upd_same] at hp2; cases hp2
    have hp2' : H p2 = none := by rwa [upd_ne hne] at hp2
    have e1 := Ext.new (o := SetO w p (fun j => decide (j ∈ ns)) (ssetI ns).length) wf hp
    have e2 := Ext.new (o := .lst ((ssetI ns).map V.int)) e1.wf hp2
    exact q _ _ S ⟨fun b o h => e2.fr b o (e1.fr b o h), fun _ h => h, fun _ h => .inl h, e2.wf⟩ ⟨p2, _, rfl, hp2', upd_same, fun z => wf p2 z hp2', rpl_intsU _⟩
/-- len(a set) -/
def rLenSet (w : World) : List V → Hp → VK → Prop := fun vs H Q => ∃ (a : Addr) (S : Int → Bool) (n : Nat), vs = [V.ref a] ∧ H a = some (SetO w a S n) ∧ Q (.int n) H
theorem cr_lenSet : CallR X (.builtin "len") (rLenSet X.w) := by
  intro pins s σ H vs us Q I r h
  obtain ⟨a, S, n, rfl, ha, q⟩ := h
  have R := setO_get I ha
  rw [Vals.ref1 r]
  obtain ⟨o, es, ep, t, ho, hex, hd, _, _, _, hb, hf, hsz, _⟩ := R
  refine PySem.call_len_set ho hex hd hf (by unfold scanBound at hb; omega) ?_
  exact ⟨.int n, H, I.tok _, ⟨_, by rw [hsz]⟩, q⟩
/-- len(set(xs)) -/
theorem lset_new {K : PySem.W.Frag} {w : World} {S : Addr → Prop} {H : Hp} {a : Addr} {ns : List Int} {Q : V → Hp → Prop} (wf : ∀ b, S b → H b ≠ none) (h1 : SqL K H a (ns.map V.int) ∨ SqT K H a (ns.map V.int)) (hn : ns.length < 4000)
    (q : ∀ v H' S', Ext S H S' H' → RF K H S' H' v (.fz (.int (ssetI ns).length)) → Q v H') : rSetLi K w [.ref a] H fun v H1 => rLenSet w [v] H1 Q := by
  refine ⟨a, ns, rfl, h1, hn, fun p hp => ?_⟩
  show rLenSet w [V.ref p] _ Q
  refine ⟨p, _, _, rfl, upd_same, ?_⟩
  exact q _ _ S (Ext.new wf hp) (.int _)
end
end DL

set_option Elab.async false
set_option linter.all false
set_option maxRecDepth 100000
set_option maxHeartbeats 4000000
set_option autoImplicit false
/-! DLV: tuple(reversed(a tuple)). -/
namespace DL
open PySem PySem.Spec PyProof.Rows L2 RT
theorem walks_rt {prog : Program} {w : World} {A : Around} (hh : A.handled = none) (I l : Addr) (hne : l ≠ I) (items : Array Value) (hsz : items.size ≤ sizeLine) :
    Walks prog w A I [I, l] [I] items.size (fun i v => items[items.size - 1 - i]? = some v) (fun i h => i ≤ items.size ∧ IsRt h I l ((items.size : Int) - 1 - (i : Int)) ∧ IsTup h l items) where
  sub := fun b hb => by simp at hb; simp [hb]
  frame := fun _ _ _ x hk => ⟨x.1, x.2.1.at fun o e => hk I (by simp) o e, (let ⟨o, ho, r⟩ := x.2.2; ⟨o, hk l (by simp) o ho, r⟩)⟩
  item := fun i s Q E hi x hQ => by
    have e : (items.size : Int) - 1 - (i : Int) = ((items.size - 1 - i : Nat) : Int) := by omega
    have hit := x.2.1
    rw [e] at hit
    have hx : items[items.size - 1 - i]? = some (items[items.size - 1 - i]'(by omega)) := Array.getElem?_eq_getElem (by omega)
    refine next_rt_item hit x.2.2 hx hsz fun h' hit' hs' => ?_
    have e2 : ((items.size - 1 - i : Nat) : Int) - 1 = (items.size : Int) - 1 - ((i + 1 : Nat) : Int) := by omega
    rw [e2] at hit'
    exact hQ _ h' (s.toks + 1) hx ⟨hi, hit', (let ⟨o, ho, r⟩ := x.2.2; ⟨o, (hs'.2 l hne).trans ho, r⟩)⟩ fun b o hb eo => hs'.extBut b o (fun h => hb (by simp [h])) eo
  done := fun s Q E x hQ => by
    have e : (items.size : Int) - 1 - (items.size : Int) = -1 := by omega
    have hit := x.2.1
    rw [e] at hit
    exact next_rt_end hh hit fun h' he' => hQ h' s.toks fun b o hb eo => he' b o (fun h => hb (by simp [h])) eo
  self := fun _ _ _ _ x hQ => iter_rt x.2.1 hQ
theorem nolen_rt : typeLookup (.type "reversed") "__len__" = pure none := by rw [typeLookup_type, builtinLookup_eq_fast]; kernel_rfl
theorem hint_rt : typeLookup (.type "reversed") "__length_hint__" = pure (some (.builtin "reversed.__length_hint__")) := by rw [typeLookup_type, builtinLookup_eq_fast]; kernel_rfl
theorem slot_rt_hint : Slot "reversed" "__length_hint__" "reversed.__length_hint__" :=
  .of (owner := "reversed") (n := "__length_hint__") (by rw [typeLookup_type, builtinLookup_eq_fast]; kernel_rfl) (by decide +kernel) (by decide +kernel) (by decide +kernel)
    (by first | exact .inl (by decide +kernel) | exact .inr (by decide +kernel)) (by rw [isSubtype_type]; kernel_rfl)
theorem type_rt_hint : typeOf (.builtin "reversed.__length_hint__") = pure (.type "method_descriptor") := by show builtinType _ = _; rw [builtinType_eq_fast]; kernel_rfl
theorem entry_rt_hint : entryFor table "reversed.__length_hint__" = some Builtin.«reversed.__length_hint__» := entryFor_of_tree (by kernel_rfl)
theorem args_rt_hint (a : Value) : argsOk "reversed.__length_hint__" ⟨[a], []⟩ := by
  unfold argsOk; rw [signature?_of (id := "reversed.__length_hint__") (n := ['_', '_', 't', 'n', 'i', 'h', '_', 'h', 't', 'g', 'n', 'e', 'l', '_', '_']) (o := ['d', 'e', 's', 'r', 'e', 'v', 'e', 'r']) (by kernel_rfl) owner_rt]; kernel_rfl
section
variable {prog : Program} {w : World} {A : Around} {E : Value → Shared → Prop} {s : Shared}
theorem hint_rt_ok {it t : Addr} {items : Array Value} {Q : Value → Shared → Prop} (hit : IsRt s.heap it t ((items.size : Int) - 1)) (ht : IsTup s.heap t items) (hn : items.size ≤ sizeLine)
    (h : ∀ tk tk2, Q (.int items.size tk) { s with toks := tk2 }) : wpAny (model prog w) A (call (.builtin "reversed.__length_hint__") [.ref it]) Q E s := by
  obtain ⟨o, ho, hc, hd⟩ := id hit
  rw [sizeLine_eq] at hn
  refine wpAny_call_entry slot_rt_hint hit.typeIs entry_rt_hint ?_ (args_rt_hint _)
  unfold Builtin.«reversed.__length_hint__»
  refine wpAny_bind (wpAny_of_eq (a := Value.ref it) rfl ?_)
  try dsimp only
  refine wpAny_bind (wpAny_field ho hd (x := .ref t) rfl ?_)
  try dsimp only
  rw [if_neg (show ¬ ((Value.ref t == Value.none) = true) from by rw [show (Value.ref t == Value.none) = false from rfl]; decide)]
  refine wpAny_bind (PyProof.Rows.len_tuple ht (by omega) ?_)
  refine wpAny_bind (wpAny_of_eq (a := some (items.size : Int)) rfl ?_)
  try dsimp only
  refine wpAny_bind (wpAny_field (s := { s with toks := s.toks + 1 + 1 }) ho hd (x := rawInt ((items.size : Int) - 1)) rfl ?_)
  try dsimp only [rawInt]
  rw [if_neg (by omega)]
  unfold retInt
  refine wpAny_bind (wpAny_mkInt ?_)
  refine wpAny_pure ⟨_, rfl, ?_⟩
  have e : (items.size : Int) - 1 + 1 = items.size := by omega
  rw [e]
  exact h _ _
theorem collect_rt {it l : Addr} {items : Array Value} {Q : List Value → Shared → Prop} (hh : A.handled = none) (hit : IsRt s.heap it l ((items.size : Int) - 1)) (hl : IsTup s.heap l items) (hne : l ≠ it) (hn : items.size ≤ sizeLine)
    (hQ : ∀ (h' : Heap) (tk : Nat) (acc : Array Value), (∀ b o, b ≠ it → s.heap.get? b = some o → h'.get? b = some o) → ItemsOf (fun i v => items[items.size - 1 - i]? = some v) acc items.size → Q acc.toList { s with heap := h', toks := tk }) :
    wpAny (model prog w) A (collect (.ref it)) Q E s := by
  have W := (walks_rt (prog := prog) (w := w) (A := A.in1) hh it l hne items hn).toS
  obtain ⟨oi, hoi, _⟩ := id hit
  obtain ⟨ol, hol, _⟩ := id hl
  have hSi : s.heap.objs.size ≠ it := Nat.ne_of_gt (Heap.lt_size hoi)
  have hSl : s.heap.objs.size ≠ l := Nat.ne_of_gt (Heap.lt_size hol)
  have hSf : s.heap.objs.size ∉ [it, l] := by simp only [List.mem_cons, List.not_mem_nil, or_false, not_or]; exact ⟨hSi, hSl⟩
  unfold collect
  refine wpAny_bind (wpAny_runValue (codeAny_builtin F.entry_proto_collect ?_))
  rw [Around.under_plainId F.plain_proto_collect _]
  show wpAny _ A.in1 (newList [] >>= fun l' => again (.builtin "list.__iadd__" ⟨[l', .ref it], []⟩)) _ _ s
  refine wpAny_bind (wpAny_newObj_type ?_)
  refine wpAny_pure ⟨plainId_quiet F.plain_list_iadd _, codeAny_builtin F.entry_list_iadd ?_⟩
  rw [Around.under_plainId F.plain_list_iadd _]
  have hS₁ : (s.heap.push { cls := .type "list", data := .seq ([] : List Value).toArray }).get? s.heap.objs.size = some { cls := .type "list", data := .seq ([] : List Value).toArray } := Heap.get?_push_size _ rfl
  have hit1 : IsRt (s.heap.push { cls := .type "list", data := .seq ([] : List Value).toArray }) it l ((items.size : Int) - 1) := hit.at fun o e => Heap.get?_push_of_some _ e
  have hl1 : IsTup (s.heap.push { cls := .type "list", data := .seq ([] : List Value).toArray }) l items := hl.push _
  have hT : ({ s with heap := s.heap.push { cls := .type "list", data := .seq ([] : List Value).toArray } } : Shared).TypeIs (.ref it) "reversed" := IsRt.typeIs (s := { s with heap := s.heap.push { cls := .type "list", data := .seq ([] : List Value).toArray } }) hit1
  have h1 : Builtin.List.listSameRef (.ref s.heap.objs.size) (.ref it) = false := by simp [Builtin.List.listSameRef, hSi]
  show wpAny _ A.in1 (Builtin.List.listExtendWith (.ref s.heap.objs.size) (.ref it) (.ref s.heap.objs.size)) _ _ _
  unfold Builtin.List.listExtendWith
  refine wpAny_bind (wpAny_typeOf hT ?_)
  rw [if_neg (by rw [h1]; decide)]
  refine wpAny_bind (iter_rt (s := { s with heap := s.heap.push { cls := .type "list", data := .seq ([] : List Value).toArray } }) hit1 ?_)
  refine wpAny_bind (wpAny_holding ?_)
  unfold Builtin.List.listLengthHint
  refine wpAny_bind (wpAny_specialOf hT nolen_rt ?_)
  show wpAny _ A.in1 (specialOf (Value.ref it) (Str.ofString "__length_hint__") >>= _) _ _ _
  refine wpAny_bind (wpAny_specialOf hT hint_rt ?_)
  generalize hid : ("reversed.__length_hint__" : String) = id0
  wp_delta
  rw [show splitId id0 = some ("reversed", "__length_hint__") from by subst hid; decide +kernel]
  subst hid
  refine wpAny_bind (wpAny_isInstance (b := true) hT (by rw [isSubtype_type]; kernel_rfl) ?_)
  rw [if_neg (by decide)]
  try dsimp only
  rw [if_neg (by decide +kernel)]
  refine wpAny_bind (wpAny_rule ?_)
  have tyR : typeOf (.builtin "reversed.__length_hint__") = pure (.type "method_descriptor") := type_rt_hint
  unfold bindSpecial
  refine wpAny_bind (wpAny_bind ?_)
  rw [tyR]
  refine wpAny_pure ?_
  rw [if_pos (by decide)]
  refine wpAny_pure ?_
  try dsimp only
  refine wpAny_bind (wpAny_attempt ?_)
  refine hint_rt_ok (s := { s with heap := s.heap.push { cls := .type "list", data := .seq ([] : List Value).toArray } }) hit1 hl1 hn fun tk tk2 => ?_
  try dsimp only
  have ea : ∀ (i : Int) (t : Tok), asInt? (Value.int i t) = pure (some i) := fun _ _ => rfl
  rw [ea, pure_bind]
  try dsimp only
  have hn' : items.size ≤ 16777216 := by rw [sizeLine_eq] at hn; omega
  rw [if_neg (show ¬ (!Builtin.List.listFitsIndex (items.size : Int)) = true from by
    unfold Builtin.List.listFitsIndex
    simp
    omega), if_neg (by omega), if_neg (show ¬ Builtin.List.listTooLong (items.size : Int).toNat = true from by
    unfold Builtin.List.listTooLong
    simp
    omega)]
  refine wpAny_pure ?_
  try dsimp only
  have e0 : ((items.size : Nat) : Int) - 1 - ((0 : Nat) : Int) = (items.size : Int) - 1 := by omega
  -- the loop, from any heap that has kept what stood
  have loop : ∀ (h2 : Heap) (c : Nat), h2.get? s.heap.objs.size = some { cls := .type "list", dict := none, data := .seq ([] : List Value).toArray c, slots := #[] } → (∀ b o, b ≠ s.heap.objs.size → s.heap.get? b = some o → h2.get? b = some o) →
      codeAny (model prog w) A (.builtin "list.extend.loop" ⟨[.ref s.heap.objs.size, .ref it, .ref s.heap.objs.size], []⟩) (fun r s' => match r with
        | .ok (.ret v) => wpAny (model prog w) A (match v with
            | .ref a => do
              match (← load a).data with
              | .seq xs _ => pure xs.toList
              | _ => unsupported "internal:collect"
            | _ => unsupported "internal:collect") Q E s'
        | .ok _ => False
        | .error e => E e s') { s with heap := h2, toks := tk2 } := fun h2 c hS hk => by
    refine codeAny_extend_loopS W hn _ hSf _ items.size 0 _ _ _ rfl (Nat.zero_le _) ⟨Nat.zero_le _, by rw [e0]; exact hit.at fun o e => hk it o (Ne.symm hSi) e, (let ⟨o, ho, r⟩ := hl; ⟨o, hk l o (Ne.symm hSl) ho, r⟩)⟩ hS (ItemsOf.nil _) fun s' acc' c' hm hS' hacc => ?_
    show wpAny _ A (load s.heap.objs.size >>= _) _ _ s'
    refine wpAny_bind (wpAny_load hS' ?_)
    refine wpAny_pure ?_
    rw [Moved.eq_with hm]
    refine hQ s'.heap s'.toks acc' (fun b o hb e => ?_) hacc
    have hbS : b ≠ s.heap.objs.size := fun z => absurd (Heap.lt_size e) (by rw [z]; exact Nat.lt_irrefl _)
    refine hm.heap b o (fun hmem => ?_) (hk b o hbS e)
    rcases List.mem_cons.mp hmem with e' | hmem
    · exact hbS e'
    · exact hb (List.mem_singleton.mp hmem)
  by_cases hz : items.size = 0
  · rw [if_neg (by rw [hz]; decide +kernel)]
    exact wpAny_pure ⟨plainId_quiet F.plain_extend_loop _, loop _ _ hS₁ fun b o hb e => Heap.get?_push_of_some _ e⟩
  · rw [if_pos (by
      rw [Bool.or_eq_true]
      refine .inl ?_
      rw [bne_iff_ne]
      omega)]
    refine wpAny_bind (wpAny_rule ?_)
    refine wpAny_bind ?_
    show wpAny _ A.in1 (updateSeq s.heap.objs.size (·.push .none) >>= fun _ => updateSeq s.heap.objs.size (·.pop)) _ _ _
    refine wpAny_bind (wpAny_updateSeq hS₁ rfl ?_)
    have hS₂ := Heap.get?_update_self (Obj.mapSeq (·.push Value.none)) hS₁ rfl
    refine wpAny_updateSeq hS₂ rfl ?_
    have hS₃ := Heap.get?_update_self (Obj.mapSeq (·.pop)) hS₂ rfl
    exact wpAny_pure ⟨plainId_quiet F.plain_extend_loop _, loop _ _ hS₃ fun b o hb e => (Heap.get?_update_other _ _ (Ne.symm hb)).trans ((Heap.get?_update_other _ _ (Ne.symm hb)).trans (Heap.get?_push_of_some _ e))⟩
theorem code_tuple_new_rt {it l : Addr} {items : Array Value} {Q₁ : Value → Shared → Prop} (hh : A.handled = none) (hit : IsRt s.heap it l ((items.size : Int) - 1)) (hl : IsTup s.heap l items) (hne : l ≠ it) (hn : items.size ≤ sizeLine)
    (h : ∀ (h' : Heap) (tk : Nat) (acc : Array Value), (∀ b o, b ≠ it → s.heap.get? b = some o → h'.get? b = some o) → ItemsOf (fun i v => items[items.size - 1 - i]? = some v) acc items.size →
      Q₁ (.ref h'.objs.size) { s with heap := h'.push { cls := .type "tuple", data := .seq acc }, toks := tk }) :
    codeAny (model prog w) A (.call (.builtin "tuple.__new__") ⟨[.type "tuple", .ref it], []⟩) (wants Q₁ E) s := by
  refine codeAny_of_tree ?_
  show wpAny _ A.in1 (do checkBuiltinCall "tuple.__new__" ⟨[.type "tuple", .ref it], []⟩; again (.builtin "tuple.__new__" ⟨[.type "tuple", .ref it], []⟩)) _ _ s
  refine wpAny_bind (wpAny_of_eq (F.newCall_tuple_1 _) (wpAny_pure ⟨plainId_quiet F.plain_tuple_new _, codeAny_builtin F.entry_tuple_new ?_⟩))
  rw [Around.under_plainId F.plain_tuple_new _]
  have hsub := sub_tuple_self
  have hinit := init_tuple_lookup
  have hmh := madeHere_tuple
  have hTI : s.TypeIs (.ref it) "reversed" := hit.typeIs
  have hh1 : A.in1.handled = none := hh
  wp_walk using wpAny_typeOf hTI, collect_rt (A := A.in1) hh1 hit hl hne hn
  intro h' tk acc hk hacc
  show wpAny _ _ (Builtin.Tuple.tupleExact acc.toList.toArray >>= fun v => ret v) _ _ _
  unfold Builtin.Tuple.tupleExact
  refine wpAny_bind (wpAny_newObj_type ?_ (by show acc.toList.toArray.size ≤ sizeLine; simp only [Array.toArray_toList]; rw [hacc.1]; exact hn))
  refine wpAny_pure ?_
  have e : acc.toList.toArray = acc := by simp
  rw [e]
  exact h h' tk acc hk hacc
theorem call_tuple_rt {it l : Addr} {items : Array Value} {Q : Value → Shared → Prop} (hh : A.handled = none) (hit : IsRt s.heap it l ((items.size : Int) - 1)) (hl : IsTup s.heap l items) (hne : l ≠ it) (hn : items.size ≤ sizeLine)
    (hQ : ∀ (h' : Heap) (tk : Nat) (acc : Array Value), (∀ b o, b ≠ it → s.heap.get? b = some o → h'.get? b = some o) → ItemsOf (fun i v => items[items.size - 1 - i]? = some v) acc items.size →
      Q (.ref h'.objs.size) { s with heap := h'.push { cls := .type "tuple", data := .seq acc }, toks := tk }) :
    wpAny (model prog w) A (call (.type "tuple") [.ref it]) Q E s := by
  refine callType_codes (Q₁ := fun obj s₁ => s₁.TypeIs obj "tuple" ∧ Q obj s₁) F.called_tuple (F.typeCall_tuple_1 _) F.entry_object_init
    (code_tuple_new_rt (A := A.in1) hh hit hl hne hn fun h' tk acc hk hacc => ⟨⟨_, Heap.get?_push_size _ rfl, rfl⟩, hQ h' tk acc hk hacc⟩) fun obj s₁ h₁ => ?_
  exact ⟨h₁.1, F.args_object_init_2 obj _, object_init_meets F.called_tuple.init.lookup F.called_tuple.made (by decide) prog w A.in1 _ s₁ ⟨h₁.1, rfl, h₁.2⟩⟩
end
/-- tuple(reversed(x)), x a list or a tuple: a new tuple -/
def tTupRevA (K : PySem.W.Frag) (te : TA) : TE := fun σ H Q => te σ H fun vs H1 => ∃ (a : Addr) (xs : List V), vs = [.ref a] ∧ (SqL K H1 a xs ∨ SqT K H1 a xs) ∧ ∀ q, H1 q = none → Q (.ref q) (upd H1 q (.tup xs.reverse))
theorem pe_tupRevA {X : Cx} {e : Expr} {te : TA} {p p2 pos pos2 : Pos} (hc : X.calm = true) (hg : Gl X "tuple") (hm : X.mg "tuple" = none) (hg2 : Gl X "reversed") (hm2 : X.mg "reversed" = none) (he : PA X [e] te)
    (hs : starEach [e] X.env = (false, eval e X.env) :: starEach [] X.env)
    (hs2 : starEach [.Call (.Name "reversed" p2) [e] [] pos2] X.env = (false, eval (.Call (.Name "reversed" p2) [e] [] pos2) X.env) :: starEach [] X.env := by rfl) :
    PE X (.Call (.Name "tuple" p) [.Call (.Name "reversed" p2) [e] [] pos2] [] pos) (tTupRevA X.K te) := by
  refine ⟨fun pins s σ H Q I h => ?_⟩
  refine Call_ (ld_blt I hg hm boot_tuple (PyProof.Rows.callWith_type1 (args_cons (Call_ (ld_blt I hg2 hm2 PyProof.Rows.boot_reversed (PyProof.Rows.callWith_type1 (thn (he.run pos2 pins s σ H _ I h) fun us s1 ⟨vs, H1, I1, r1, q1⟩ => ?_) hs rfl))) hs2) hs2 rfl))
  obtain ⟨a, xs, ev, hq, q⟩ := q1
  subst ev
  rw [Vals.ref1 r1]
  rcases hq with hq | hq
  · obtain ⟨its, rv, p', hz⟩ := I1.list hq
    refine call_reversed_list p'.isList (args_nil ?_)
    have k0 : ∀ b o, s1.heap.get? b = some o → (s1.heap.push (revObj a ((its.toArray.size : Int) - 1))).get? b = some o := fun b o e => Heap.get?_push_of_some _ e
    have I2 : Inv X pins σ H1 { s1 with heap := s1.heap.push (revObj a ((its.toArray.size : Int) - 1)) } := I1.kept (t' := s1.toks) k0
    obtain ⟨f0, f1, f2, f3, f4, f5⟩ := I1.fpOk (H' := H1) (b := s1.heap.objs.size) (Nat.le_refl _) (I1.hok.fresh (Nat.le_refl _))
    have hl := p'.isList
    obtain ⟨ol, hol, _⟩ := id hl
    have hne : a ≠ s1.heap.objs.size := Nat.ne_of_lt (Heap.lt_size hol)
    have hn : its.toArray.size ≤ sizeLine := by rw [List.size_toArray, ← rv.length]; exact hz
    refine call_tuple_rev (s := { s1 with heap := s1.heap.push (revObj a ((its.toArray.size : Int) - 1)) }) (I1.ok.hd hc) ⟨_, Heap.get?_push_size _ rfl, rfl, rfl⟩ (hl.push _) hne hn fun h' tk acc hk hi => ?_
    have I3 : Inv X pins σ H1 { s1 with heap := h', toks := tk } := I2.turned (t' := tk) (fun b o hb e => hk b o hb e) f0 f1 f3 f4 f5
    refine ⟨.ref h'.objs.size, upd H1 h'.objs.size (.tup xs.reverse), I3.laid (t' := tk) (fun c o e => Heap.get?_push_of_some _ e) (Nat.le_refl _) (show ObjOk X.prog X.w _ _ _ (.tup xs.reverse) from ⟨by rw [List.length_reverse]; exact hz, acc.toList, vals_rev rv hi, ?_⟩), rfl, q _ (I3.hok.fresh (Nat.le_refl _))⟩
    rw [Array.toArray_toList]
    exact IsTup.new _ _
  · obtain ⟨its, rv, p', hz⟩ := I1.tuple hq
    have hn : its.toArray.size ≤ sizeLine := by rw [List.size_toArray, ← rv.length]; exact hz
    refine call_reversed_tup p' (fun A E Q k => PyProof.Rows.len_tuple p' (by rw [sizeLine_eq] at hn; omega) k) (args_nil ?_)
    have k0 : ∀ b o, s1.heap.get? b = some o → (s1.heap.push (rtObj a ((its.toArray.size : Int) - 1))).get? b = some o := fun b o e => Heap.get?_push_of_some _ e
    have I2 : Inv X pins σ H1 { s1 with heap := s1.heap.push (rtObj a ((its.toArray.size : Int) - 1)), toks := s1.toks + 1 + 1 } := I1.kept (t' := s1.toks + 1 + 1) k0
    obtain ⟨f0, f1, f2, f3, f4, f5⟩ := I1.fpOk (H' := H1) (b := s1.heap.objs.size) (Nat.le_refl _) (I1.hok.fresh (Nat.le_refl _))
    have hl := p'
    obtain ⟨ol, hol, _⟩ := id hl
    have hne : a ≠ s1.heap.objs.size := Nat.ne_of_lt (Heap.lt_size hol)
    refine call_tuple_rt (s := { s1 with heap := s1.heap.push (rtObj a ((its.toArray.size : Int) - 1)), toks := s1.toks + 1 + 1 }) (I1.ok.hd hc) ⟨_, Heap.get?_push_size _ rfl, rfl, rfl⟩ (hl.push _) hne hn fun h' tk acc hk hi => ?_
    have I3 : Inv X pins σ H1 { s1 with heap := h', toks := tk } := I2.turned (t' := tk) (fun b o hb e => hk b o hb e) f0 f1 f3 f4 f5
    refine ⟨.ref h'.objs.size, upd H1 h'.objs.size (.tup xs.reverse), I3.laid (t' := tk) (fun c o e => Heap.get?_push_of_some _ e) (Nat.le_refl _) (show ObjOk X.prog X.w _ _ _ (.tup xs.reverse) from ⟨by rw [List.length_reverse]; exact hz, acc.toList, vals_rev rv hi, ?_⟩), rfl, q _ (I3.hok.fresh (Nat.le_refl _))⟩
    rw [Array.toArray_toList]
    exact IsTup.new _ _
end DL

set_option Elab.async false
set_option linter.all false
set_option maxRecDepth 100000
set_option maxHeartbeats 4000000
set_option autoImplicit false
/-! DL11: every expression. -/
namespace DL
open PySem PySem.Spec PyProof.Rows L2

section
variable {X : Cx} {M : Mat} {C : Ctx} {k : Nat}

/-! ### and, or -/
def tAndE (K : PySem.W.Frag) (C : Ctx) (es : List E) : TE := fun σ H Q => ∃ r S x r', SR K σ H r S ∧ evAnd C es r = .ok (x, r') ∧ KE K σ r S H x r' Q
def tOrE (K : PySem.W.Frag) (C : Ctx) (es : List E) : TE := fun σ H Q => ∃ r S x r', SR K σ H r S ∧ evOr C es r = .ok (x, r') ∧ KE K σ r S H x r' Q
theorem pe_andL (G : GX X M C k) : ∀ (es : List E) (ps : List Expr) (pos : Pos), SndL C k es → mEs M es ps = true → es ≠ [] → PE X (.BoolOp .And ps pos) (tAndE X.K C es)
  | [], _, _, _, _, n => absurd rfl n
  | [e], ps, pos, ih, h, _ => by
    match ps, h with
    | [p], h =>
      simp only [mEs, Bool.and_eq_true] at h
      exact pe_imp (pe_one ((ih e List.mem_cons_self X M p G h.1.2).1)) fun σ H Q ⟨r, S, x, r', s, ev, q⟩ => by
        simp only [evAnd] at ev
        exact ⟨r, S, x, r', s, ev, q⟩
    | [], h => simp only [mEs] at h; cases h
    | _ :: _ :: _, h => simp only [mEs, Bool.and_false] at h; cases h
  | e :: e2 :: es, ps, pos, ih, h, _ => by
    match ps, h with
    | p :: p2 :: ps, h =>
      simp only [mEs, Bool.and_eq_true] at h
      have h1 := (ih e List.mem_cons_self X M p G h.1.2).1
      have h2 := pe_andL G (e2 :: es) (p2 :: ps) pos (fun e he => ih e (List.mem_cons_of_mem _ he)) (by simp only [mEs, Bool.and_eq_true]; exact h.2) (by simp)
      refine pe_imp (pe_andT (pe_x h1) h2) fun σ H Q ⟨r, S, x, r', s, ev, q⟩ => ?_
      simp only [evAnd] at ev
      obtain ⟨⟨d, r1⟩, e1, ev⟩ := bind_ok ev
      obtain ⟨b, e2, ev⟩ := bind_ok ev
      refine ⟨r, S, d, r1, s, e1, fun v H1 S1 g1 w1 => ⟨b, tru_v (.inl w1) e2, ?_⟩⟩
      cases b with
      | true =>
        rw [if_pos rfl] at ev ⊢
        exact ⟨r1, S1, x, r', g1.sr, ev, q.go s g1⟩
      | false =>
        rw [if_neg Bool.false_ne_true] at ev ⊢
        cases ev
        exact q.data s g1 w1
    | [], h => simp only [mEs] at h; cases h
    | [_], h => simp only [mEs, Bool.and_false] at h; cases h
theorem pe_orL (G : GX X M C k) : ∀ (es : List E) (ps : List Expr) (pos : Pos), SndL C k es → mEs M es ps = true → es ≠ [] → PE X (.BoolOp .Or ps pos) (tOrE X.K C es)
  | [], _, _, _, _, n => absurd rfl n
  | [e], ps, pos, ih, h, _ => by
    match ps, h with
    | [p], h =>
      simp only [mEs, Bool.and_eq_true] at h
      exact pe_imp (pe_one ((ih e List.mem_cons_self X M p G h.1.2).1)) fun σ H Q ⟨r, S, x, r', s, ev, q⟩ => by
        simp only [evOr] at ev
        exact ⟨r, S, x, r', s, ev, q⟩
    | [], h => simp only [mEs] at h; cases h
    | _ :: _ :: _, h => simp only [mEs, Bool.and_false] at h; cases h
  | e :: e2 :: es, ps, pos, ih, h, _ => by
    match ps, h with
    | p :: p2 :: ps, h =>
      simp only [mEs, Bool.and_eq_true] at h
      have h1 := (ih e List.mem_cons_self X M p G h.1.2).1
      have h2 := pe_orL G (e2 :: es) (p2 :: ps) pos (fun e he => ih e (List.mem_cons_of_mem _ he)) (by simp only [mEs, Bool.and_eq_true]; exact h.2) (by simp)
      refine pe_imp (pe_orT (pe_x h1) h2) fun σ H Q ⟨r, S, x, r', s, ev, q⟩ => ?_
      simp only [evOr] at ev
      obtain ⟨⟨d, r1⟩, e1, ev⟩ := bind_ok ev
      obtain ⟨b, e2, ev⟩ := bind_ok ev
      refine ⟨r, S, d, r1, s, e1, fun v H1 S1 g1 w1 => ⟨b, tru_v (.inl w1) e2, ?_⟩⟩
      cases b with
      | false =>
        rw [if_neg Bool.false_ne_true] at ev ⊢
        exact ⟨r1, S1, x, r', g1.sr, ev, q.go s g1⟩
      | true =>
        rw [if_pos rfl] at ev ⊢
        cases ev
        exact q.data s g1 w1
    | [], h => simp only [mEs] at h; cases h
    | [_], h => simp only [mEs, Bool.and_false] at h; cases h
def tAndT (K : PySem.W.Frag) (C : Ctx) (es : List E) : TT := fun σ H Q => ∃ r S c r', SR K σ H r S ∧ tested (fixed (evAnd C es r)) = .ok (c, r') ∧ ∀ H' S', Go K σ r S H σ r' S' H' → Q c H'
def tOrT (K : PySem.W.Frag) (C : Ctx) (es : List E) : TT := fun σ H Q => ∃ r S c r', SR K σ H r S ∧ tested (fixed (evOr C es r)) = .ok (c, r') ∧ ∀ H' S', Go K σ r S H σ r' S' H' → Q c H'
theorem pw_imp {e : Expr} {t t' : TT} (h : PW X e t) (k : ∀ σ H Q, t' σ H Q → t σ H Q) : PW X e t' := ⟨fun wh pins s σ H Q I q => h.run wh pins s σ H Q I (k σ H Q q)⟩
theorem tested_ok {k : Res (D × Env)} {b : Bool} {r' : Env} (h : tested k = .ok (b, r')) : ∃ d, k = .ok (d, r') ∧ truth d = .ok b := by
  obtain ⟨⟨d, r1⟩, e1, e2⟩ := bind_ok h
  obtain ⟨c, e3, e4⟩ := bind_ok e2
  cases e4
  exact ⟨d, e1, e3⟩
theorem fixed_ok {k : Res (Val × Env)} {d : D} {r' : Env} (h : fixed k = .ok (d, r')) : ∃ x, k = .ok (x, r') ∧ x.fix = .ok d := by
  obtain ⟨⟨x, r1⟩, e1, e2⟩ := bind_ok h
  obtain ⟨c, e3, e4⟩ := bind_ok e2
  cases e4
  exact ⟨x, e1, e3⟩
theorem tested_mk {k : Res (D × Env)} {b : Bool} {d : D} {r' : Env} (h : k = .ok (d, r')) (e : truth d = .ok b) : tested k = .ok (b, r') := by
  unfold tested
  rw [h]
  simp only [ok_bind]
  rw [e]
  rfl
theorem pw_andL (G : GX X M C k) : ∀ (es : List E) (ps : List Expr) (pos : Pos), SndL C k es → mEs M es ps = true → es ≠ [] → PW X (.BoolOp .And ps pos) (tAndT X.K C es)
  | [], _, _, _, _, n => absurd rfl n
  | [e], ps, pos, ih, h, _ => by
    match ps, h with
    | [p], h =>
      simp only [mEs, Bool.and_eq_true] at h
      exact pw_imp (pw_and1 ((ih e List.mem_cons_self X M p G h.1.2).2)) fun σ H Q ⟨r, S, x, r', s, ev, q⟩ => by
        simp only [evAnd] at ev
        exact ⟨r, S, x, r', s, ev, q⟩
    | [], h => simp only [mEs] at h; cases h
    | _ :: _ :: _, h => simp only [mEs, Bool.and_false] at h; cases h
  | e :: e2 :: es, ps, pos, ih, h, _ => by
    match ps, h with
    | p :: p2 :: ps, h =>
      simp only [mEs, Bool.and_eq_true] at h
      have h1 := (ih e List.mem_cons_self X M p G h.1.2).2
      have h2 := pw_andL G (e2 :: es) (p2 :: ps) pos (fun e he => ih e (List.mem_cons_of_mem _ he)) (by simp only [mEs, Bool.and_eq_true]; exact h.2) (by simp)
      refine pw_imp (pw_and h1 h2) fun σ H Q ⟨r, S, c, r', s, ev, q⟩ => ?_
      obtain ⟨d, ev, ed⟩ := tested_ok ev
      obtain ⟨x, ev, ex⟩ := fixed_ok ev
      simp only [evAnd] at ev
      obtain ⟨⟨d1, r1⟩, e1, ev⟩ := bind_ok ev
      obtain ⟨b, e2, ev⟩ := bind_ok ev
      refine ⟨r, S, b, r1, s, tested_mk e1 e2, fun H1 S1 g1 => ?_⟩
      cases b with
      | true =>
        rw [if_pos rfl] at ev ⊢
        refine ⟨r1, S1, c, r', g1.sr, tested_mk (d := d) ?_ ed, fun H' S' g => q H' S' (g1.trans s g)⟩
        unfold fixed
        rw [ev]
        simp only [ok_bind]
        rw [ex]
        rfl
      | false =>
        rw [if_neg Bool.false_ne_true] at ev ⊢
        cases ev
        cases ex
        rw [e2] at ed
        cases ed
        exact q H1 S1 g1
    | [], h => simp only [mEs] at h; cases h
    | [_], h => simp only [mEs, Bool.and_false] at h; cases h
theorem pw_orL (G : GX X M C k) : ∀ (es : List E) (ps : List Expr) (pos : Pos), SndL C k es → mEs M es ps = true → es ≠ [] → PW X (.BoolOp .Or ps pos) (tOrT X.K C es)
  | [], _, _, _, _, n => absurd rfl n
  | [e], ps, pos, ih, h, _ => by
    match ps, h with
    | [p], h =>
      simp only [mEs, Bool.and_eq_true] at h
      exact pw_imp (pw_or1 ((ih e List.mem_cons_self X M p G h.1.2).2)) fun σ H Q ⟨r, S, x, r', s, ev, q⟩ => by
        simp only [evOr] at ev
        exact ⟨r, S, x, r', s, ev, q⟩
    | [], h => simp only [mEs] at h; cases h
    | _ :: _ :: _, h => simp only [mEs, Bool.and_false] at h; cases h
  | e :: e2 :: es, ps, pos, ih, h, _ => by
    match ps, h with
    | p :: p2 :: ps, h =>
      simp only [mEs, Bool.and_eq_true] at h
      have h1 := (ih e List.mem_cons_self X M p G h.1.2).2
      have h2 := pw_orL G (e2 :: es) (p2 :: ps) pos (fun e he => ih e (List.mem_cons_of_mem _ he)) (by simp only [mEs, Bool.and_eq_true]; exact h.2) (by simp)
      refine pw_imp (pw_or h1 h2) fun σ H Q ⟨r, S, c, r', s, ev, q⟩ => ?_
      obtain ⟨d, ev, ed⟩ := tested_ok ev
      obtain ⟨x, ev, ex⟩ := fixed_ok ev
      simp only [evOr] at ev
      obtain ⟨⟨d1, r1⟩, e1, ev⟩ := bind_ok ev
      obtain ⟨b, e2, ev⟩ := bind_ok ev
      refine ⟨r, S, b, r1, s, tested_mk e1 e2, fun H1 S1 g1 => ?_⟩
      cases b with
      | false =>
        rw [if_neg Bool.false_ne_true] at ev ⊢
        refine ⟨r1, S1, c, r', g1.sr, tested_mk (d := d) ?_ ed, fun H' S' g => q H' S' (g1.trans s g)⟩
        unfold fixed
        rw [ev]
        simp only [ok_bind]
        rw [ex]
        rfl
      | true =>
        rw [if_pos rfl] at ev ⊢
        cases ev
        cases ex
        rw [e2] at ed
        cases ed
        exact q H1 S1 g1
    | [], h => simp only [mEs] at h; cases h
    | [_], h => simp only [mEs, Bool.and_false] at h; cases h

/-! ### a if t else b, as a test -/
theorem pt_ifExp {t a b : Expr} {pos : Pos} {tt ta tb : TT} (ht : PT X t tt) (ha : PT X a ta) (hb : PT X b tb) : PT X (.IfExp t a b pos) (fun σ H Q => tt σ H fun c H1 => if c = true then ta σ H1 Q else tb σ H1 Q) := by
  refine ⟨fun pins s σ H Q I h => ?_⟩
  show wpAny (model X.prog X.w) X.A (do if ← isTrue t X.env (eval t X.env) then isTrue a X.env (eval a X.env) else isTrue b X.env (eval b X.env)) (TP X pins σ Q) X.xe s
  refine wpAny_bind (thn (ht.run pins s σ H _ I h) fun c s1 ⟨H1, I1, q1⟩ => ?_)
  cases c with
  | true => exact ha.run pins s1 σ H1 Q I1 q1
  | false => exact hb.run pins s1 σ H1 Q I1 q1
theorem fixed_ite {C : Ctx} {c a b : E} {r r1 : Env} {x : Bool} (h : tested (fixed (evE C c r)) = .ok (x, r1)) : evE C (.ite c a b) r = if x = true then evE C a r1 else evE C b r1 := by
  simp only [evE]
  rw [h]
  rfl

/-! ### built-ins -/
def biTy : Bi → Bool
  | .int => true
  | .str => true
  | .tuple => true
  | .list => true
  | _ => false
theorem pe_biB (G : GX X M C k) {b : Bi} {id : String} {es : List E} {x : Str} {pp pos : Pos} {p : Expr} {ps : List Expr} (cr : CallR X (.builtin id) (rB X.K b)) (hb : bootBuiltins (biName b) = some (.builtin id)) (hn : biName b ≠ "__name__")
    (hm : biName b ∈ bnames) (hd : (biName b == ("__debug__" : Str)) = false) (hg : glB M.sc x (biName b) = true) (ha : PA X (p :: ps) (tOs X.K C es)) (hs : starEach (p :: ps) X.env = (false, eval p X.env) :: starEach ps X.env) (hpl : (backTo pos (starEach ps X.env)).any (·.1) = false) :
    PE X (.Call (.Name x pp) (p :: ps) [] pos) (tE X.K C (.bi b es)) := by
  obtain ⟨h1, rfl⟩ := gl_of G hg
  refine pe_imp (pe_callB cr h1 (G.bn _ hm) hb ha hn hd hs hpl) fun σ H Q ⟨r, S, y, r', s, ev, q⟩ => ?_
  simp only [evE] at ev
  obtain ⟨⟨os, r1⟩, e1, ev⟩ := bind_ok ev
  obtain ⟨ds, e2, ev⟩ := bind_ok ev
  obtain ⟨z, e3, ev⟩ := bind_ok ev
  cases ev
  exact ⟨r, S, os, r1, s, e1, fun vs H1 S1 g1 w1 => ⟨S1, ds, _, g1.sr.wf, ROL.rb g1.sr w1 e2, e3, fun v H' S' x f => q.fin s g1 x f⟩⟩
theorem pe_biT (G : GX X M C k) {b : Bi} {id : String} {es : List E} {x : Str} {pp pos : Pos} {p : Expr} {ps : List Expr} (cr : CallR X (.type id) (rB X.K b)) (hb : bootBuiltins (biName b) = some (.type id)) (hn : biName b ≠ "__name__")
    (hm : biName b ∈ bnames) (hd : (biName b == ("__debug__" : Str)) = false) (hg : glB M.sc x (biName b) = true) (ha : PA X (p :: ps) (tOs X.K C es)) (hs : starEach (p :: ps) X.env = (false, eval p X.env) :: starEach ps X.env) (hpl : (backTo pos (starEach ps X.env)).any (·.1) = false) :
    PE X (.Call (.Name x pp) (p :: ps) [] pos) (tE X.K C (.bi b es)) := by
  obtain ⟨h1, rfl⟩ := gl_of G hg
  refine pe_imp (pe_callTy cr h1 (G.bn _ hm) hb ha hn hd hs hpl) fun σ H Q ⟨r, S, y, r', s, ev, q⟩ => ?_
  simp only [evE] at ev
  obtain ⟨⟨os, r1⟩, e1, ev⟩ := bind_ok ev
  obtain ⟨ds, e2, ev⟩ := bind_ok ev
  obtain ⟨z, e3, ev⟩ := bind_ok ev
  cases ev
  exact ⟨r, S, os, r1, s, e1, fun vs H1 S1 g1 w1 => ⟨S1, ds, _, g1.sr.wf, ROL.rb g1.sr w1 e2, e3, fun v H' S' x f => q.fin s g1 x f⟩⟩
/-- operands behind an inner call of a type -/
theorem pe_sset (G : GX X M C k) {es : List E} {x z : Str} {q : Expr} {qs : List Expr} {pp pp2 pos pos2 : Pos} (hg : glB M.sc x "sorted" = true) (hg2 : glB M.sc z "set" = true) (ha : PA X (q :: qs) (tOs X.K C es)) (hs : starEach (q :: qs) X.env = (false, eval q X.env) :: starEach qs X.env)
    (hpl : (backTo pos2 (starEach qs X.env)).any (·.1) = false) :
    PE X (.Call (.Name x pp) [.Call (.Name z pp2) (q :: qs) [] pos2] [] pos) (tE X.K C (.bi .sset es)) := by
  obtain ⟨h1, rfl⟩ := gl_of G hg
  obtain ⟨h2, rfl⟩ := gl_of G hg2
  have hset := pe_callTy (p := pp2) (pos := pos2) (cr_setL G.calm) h2 (G.bn _ (by decide +kernel)) (by decide +kernel) ha (by decide +kernel) (by decide +kernel) hs hpl
  refine pe_imp (pe_callB (cr_sortedB G.calm) h1 (G.bn _ (by decide +kernel)) (by decide +kernel) (pa_cons hset pa_nil rfl) (by decide +kernel) (by decide +kernel) rfl rfl) fun σ H Q ⟨r, S, y, r', s, ev, q⟩ => ?_
  simp only [evE] at ev
  obtain ⟨⟨os, r1⟩, e1, ev⟩ := bind_ok ev
  obtain ⟨ds, e2, ev⟩ := bind_ok ev
  obtain ⟨z, e3, ev⟩ := bind_ok ev
  cases ev
  refine ⟨r, S, os, r1, s, e1, fun vs H1 S1 g1 w1 => ?_⟩
  have p := ROL.rb g1.sr w1 e2
  match ds, p, e3 with
  | [.list ys], p, e3 =>
    obtain ⟨v, rfl, b⟩ := paired1 p
    obtain ⟨a, us, rfl, c1, c2⟩ := b.lst
    simp only [biD] at e3
    split at e3
    · rename_i ns hn
      split at e3
      · rename_i hlt
        cases e3
        cases c2.ints hn
        exact sset_new g1.sr.wf c1 hlt fun v H' S' x f => q.fin s g1 x f
      · cases e3
    · cases e3
theorem pe_lset (G : GX X M C k) {es : List E} {x z : Str} {q : Expr} {qs : List Expr} {pp pp2 pos pos2 : Pos} (hg : glB M.sc x "len" = true) (hg2 : glB M.sc z "set" = true) (ha : PA X (q :: qs) (tOs X.K C es)) (hs : starEach (q :: qs) X.env = (false, eval q X.env) :: starEach qs X.env)
    (hpl : (backTo pos2 (starEach qs X.env)).any (·.1) = false) :
    PE X (.Call (.Name x pp) [.Call (.Name z pp2) (q :: qs) [] pos2] [] pos) (tE X.K C (.bi .lset es)) := by
  obtain ⟨h1, rfl⟩ := gl_of G hg
  obtain ⟨h2, rfl⟩ := gl_of G hg2
  have hset := pe_callTy (p := pp2) (pos := pos2) (cr_setL G.calm) h2 (G.bn _ (by decide +kernel)) (by decide +kernel) ha (by decide +kernel) (by decide +kernel) hs hpl
  refine pe_imp (pe_callB cr_lenSet h1 (G.bn _ (by decide +kernel)) (by decide +kernel) (pa_cons hset pa_nil rfl) (by decide +kernel) (by decide +kernel) rfl rfl) fun σ H Q ⟨r, S, y, r', s, ev, q⟩ => ?_
  simp only [evE] at ev
  obtain ⟨⟨os, r1⟩, e1, ev⟩ := bind_ok ev
  obtain ⟨ds, e2, ev⟩ := bind_ok ev
  obtain ⟨z, e3, ev⟩ := bind_ok ev
  cases ev
  refine ⟨r, S, os, r1, s, e1, fun vs H1 S1 g1 w1 => ?_⟩
  have p := ROL.rb g1.sr w1 e2
  match ds, p, e3 with
  | [.list ys], p, e3 =>
    obtain ⟨v, rfl, b⟩ := paired1 p
    obtain ⟨a, us, rfl, c1, c2⟩ := b.lst
    simp only [biD] at e3
    split at e3
    · rename_i ns hn
      split at e3
      · rename_i hlt
        cases e3
        cases c2.ints hn
        exact lset_new g1.sr.wf (.inl c1) hlt fun v H' S' x f => q.fin s g1 x f
      · cases e3
    · cases e3
  | [.tuple ys], p, e3 =>
    obtain ⟨v, rfl, b⟩ := paired1 p
    obtain ⟨a, us, rfl, c1, c2⟩ := b.tup
    simp only [biD] at e3
    split at e3
    · rename_i ns hn
      split at e3
      · rename_i hlt
        cases e3
        cases c2.ints hn
        exact lset_new g1.sr.wf (.inr c1) hlt fun v H' S' x f => q.fin s g1 x f
      · cases e3
    · cases e3
theorem rgOk_of {a b : Int} (h : rgOk a b = true) : RgOk a b := by
  unfold rgOk at h
  rw [Bool.and_eq_true, Bool.and_eq_true] at h
  obtain ⟨h1, h2⟩ := bnd_of h.1.1
  obtain ⟨h3, h4⟩ := bnd_of h.1.2
  exact ⟨h1, h2, h3, h4, of_decide_eq_true h.2⟩
theorem rpl_rgV {K : PySem.W.Frag} {H : Hp} {S : Addr → Prop} {a b : Int} : RpL K H S (rgV a b) (range a (b - a).toNat) := rpl_range a (List.range (b - a).toNat)
/-- list(range(a, b, c)) -/
def rgC (a c : Int) (n : Nat) : List V := (List.range n).map fun (i : Nat) => V.int (a + (i : Int) * c)
theorem pe_lstRg3 {e : Expr} {es : List Expr} {te : TA} {p p2 pos pos2 : Pos} (hc : X.calm = true) (hg : Gl X "list") (hm : X.mg "list" = none) (hg2 : Gl X "range") (hm2 : X.mg "range" = none) (he : PA X (e :: es) te)
    (hs : starEach (e :: es) X.env = (false, eval e X.env) :: starEach es X.env) (hpl : (backTo pos2 (starEach es X.env)).any (·.1) = false)
    (hs2 : starEach [.Call (.Name "range" p2) (e :: es) [] pos2] X.env = (false, eval (.Call (.Name "range" p2) (e :: es) [] pos2) X.env) :: starEach [] X.env := by rfl) :
    PE X (.Call (.Name "list" p) [.Call (.Name "range" p2) (e :: es) [] pos2] [] pos) (fun σ H Q => te σ H fun vs H1 => ∃ (a b c : Int) (n : Nat), vs = [.int a, .int b, .int c] ∧ RgC a b c n ∧ n ≤ 16777216 ∧ ∀ q, H1 q = none → Q (.ref q) (upd H1 q (.lst (rgC a c n)))) := by
  refine ⟨fun pins s σ H Q I h => ?_⟩
  refine Call_ (ld_blt I hg hm boot_list (PyProof.Rows.callWith_type1 (args_cons (Call_ (ld_blt I hg2 hm2 boot_range (PyProof.Rows.callWith_type1 (thn (he.run pos2 pins s σ H _ I h) fun us s1 ⟨vs, H1, I1, r1, q1⟩ => ?_) hs hpl))) hs2) hs2 rfl))
  obtain ⟨a, b, c, n, ev, ⟨c1, c2, c3, c4⟩, hn, q⟩ := q1
  subst ev
  obtain ⟨u1, u2, u3, rfl, r1, r2, r3⟩ : ∃ u1 u2 u3, us = [u1, u2, u3] ∧ RelV (.int a) u1 ∧ RelV (.int b) u2 ∧ RelV (.int c) u3 := by
    cases r1 with
    | cons q1 r => cases r with
      | cons q2 r => cases r with
        | cons q3 r => cases r; exact ⟨_, _, _, rfl, q1, q2, q3⟩
  obtain ⟨t1, rfl⟩ := r1
  obtain ⟨t2, rfl⟩ := r2
  obtain ⟨t3, rfl⟩ := r3
  refine call_range_3 c1 ?_ (.inl (PyProof.noPylong_small c2))
  have k0 : ∀ b' o, s1.heap.get? b' = some o → (s1.heap.push { cls := .type "range", data := .fields #[.int a t1, .int b t2, .int c t3] }).get? b' = some o := fun b' o e => Heap.get?_push_of_some _ e
  have I2 : Inv X pins σ H1 { s1 with heap := s1.heap.push { cls := .type "range", data := .fields #[.int a t1, .int b t2, .int c t3] } } := I1.kept (t' := s1.toks) k0
  refine args_nil ?_
  refine call_list_range (n := n) (I2.ok.hd hc) (IsRange.new ..) c3 c4 (by omega) fun h' tk acc c' hk e' hi => ?_
  have hv : Vals (rgC a c n) acc.toList := by
    have e : acc.toList.length = n := by rw [Array.length_toList]; exact hi.1
    unfold rgC
    rw [← e]
    refine vals_of_get acc.toList _ fun j u hj => ?_
    obtain ⟨t, rfl⟩ := hi.2 j u (by rw [← hj, Array.getElem?_toList])
    exact ⟨t, rfl⟩
  refine ⟨.ref _, upd H1 _ (.lst (rgC a c n)), I2.laid hk (Nat.le_refl _) (show ObjOk X.prog X.w _ _ _ (.lst (rgC a c n)) from ⟨?_, acc.toList, c', hv, ?_⟩), rfl, q _ (I2.hok.fresh (Nat.le_refl _))⟩
  · unfold rgC
    rw [List.length_map, List.length_range, sizeLine_eq]; omega
  · rw [Array.toArray_toList]; exact e'
theorem rpl_rgC {K : PySem.W.Frag} {H : Hp} {S : Addr → Prop} (a c : Int) (n : Nat) : RpL K H S (rgC a c n) (rangeC a c n) := rpl_rangeC a c _
theorem pe_lrng3 (G : GX X M C k) {es : List E} {x z : Str} {q : Expr} {qs : List Expr} {pp pp2 pos pos2 : Pos} (l3 : es.length = 3) (hg : glB M.sc x "list" = true) (hg2 : glB M.sc z "range" = true) (ha : PA X (q :: qs) (tOs X.K C es))
    (hs : starEach (q :: qs) X.env = (false, eval q X.env) :: starEach qs X.env) (hpl : (backTo pos2 (starEach qs X.env)).any (·.1) = false) :
    PE X (.Call (.Name x pp) [.Call (.Name z pp2) (q :: qs) [] pos2] [] pos) (tE X.K C (.bi .lrng es)) := by
  obtain ⟨h1, rfl⟩ := gl_of G hg
  obtain ⟨h2, rfl⟩ := gl_of G hg2
  refine pe_imp (pe_lstRg3 G.calm h1 (G.bn _ (by decide +kernel)) h2 (G.bn _ (by decide +kernel)) ha hs hpl) fun σ H Q ⟨r, S, y, r', s, ev, q⟩ => ?_
  simp only [evE] at ev
  obtain ⟨⟨os, r1⟩, e1, ev⟩ := bind_ok ev
  obtain ⟨ds, e2, ev⟩ := bind_ok ev
  obtain ⟨z, e3, ev⟩ := bind_ok ev
  cases ev
  refine ⟨r, S, os, r1, s, e1, fun vs H1 S1 g1 w1 => ?_⟩
  have p := ROL.rb g1.sr w1 e2
  match ds, p, e3, (ds_len e2).trans (os_len e1) with
  | [d1, d2, d3], p, e3, _ =>
    obtain ⟨v1, v2, v3, rfl, b1, b2, b3⟩ := paired3 p
    cases d1 <;> cases d2 <;> cases d3 <;> simp only [biD] at e3 <;> try (cases e3; done)
    split at e3
    · rename_i a b c hc
      cases e3
      simp only [Bool.and_eq_true, decide_eq_true_eq] at hc
      obtain ⟨⟨⟨⟨c1, c2⟩, c3⟩, c4⟩, c5⟩ := hc
      rw [b1.int, b2.int, b3.int]
      exact ⟨_, _, _, _, rfl, ⟨by omega, by omega, c3, (Int.toNat_of_nonneg c4).symm⟩, by omega, fun p hp => q.fin s g1 (.new g1.sr.wf hp) (.new g1.sr.wf hp (rpl_rgC _ _ _))⟩
    · cases e3
  | [], _, _, hl => exact absurd (hl.trans l3) (by decide)
  | [_], _, _, hl => exact absurd (hl.trans l3) (by simp)
  | [_, _], _, _, hl => exact absurd (hl.trans l3) (by simp)
  | _ :: _ :: _ :: _ :: _, _, _, hl => have := hl.trans l3; simp at this
/-- list(range(..)), tuple(range(..)) -/
theorem pe_rngs (G : GX X M C k) {b : Bi} {es : List E} {x z : Str} {qs : List Expr} {pp pp2 pos pos2 : Pos} (hb : b = .lrng ∨ b = .trng) (l3 : es.length ≠ 3) (ih : SndL C k es) (hg : glB M.sc x (biName b) = true) (hg2 : glB M.sc z "range" = true) (h : mEs M es qs = true) :
    PE X (.Call (.Name x pp) [.Call (.Name z pp2) qs [] pos2] [] pos) (tE X.K C (.bi b es)) := by
  obtain ⟨h1, rfl⟩ := gl_of G hg
  obtain ⟨h2, rfl⟩ := gl_of G hg2
  have bad : (es.length ≠ 1 ∧ es.length ≠ 2) → PE X (.Call (.Name (biName b) pp) [.Call (.Name "range" pp2) qs [] pos2] [] pos) (tE X.K C (.bi b es)) := fun hn => ⟨fun pins s σ H Q I ⟨r, S, y, r', sr, ev, q⟩ => by
    simp only [evE] at ev
    obtain ⟨⟨os, r1⟩, e1, ev⟩ := bind_ok ev
    obtain ⟨ds, e2, ev⟩ := bind_ok ev
    obtain ⟨z, e3, ev⟩ := bind_ok ev
    have hl := (ds_len e2).trans (os_len e1)
    exfalso
    match ds, hl, e3 with
    | [], _, e3 => rcases hb with rfl | rfl <;> (simp only [biD] at e3; cases e3)
    | [_], hl, _ => exact hn.1 hl.symm
    | [_, _], hl, _ => exact hn.2 hl.symm
    | [_, _, _], hl, _ => exact l3 hl.symm
    | _ :: _ :: _ :: _ :: _, _, e3 => rcases hb with rfl | rfl <;> (simp only [biD] at e3; cases e3)⟩
  match es, qs, ih, h, bad with
  | [e], [q], ih, h, _ =>
    simp only [mEs, Bool.and_eq_true] at h
    have p1 := pe_opd G h.1.2 (ih e (by simp) X M q G h.1.2).1
    have prg := prg_1 (p := pp2) (pos := pos2) h2 (G.bn _ (by decide +kernel)) p1 (star_cons h.1.1)
    have key : ∀ {σ H} {Q : VK} {T : Int → Int → Hp → Prop}, tE X.K C (.bi b [e]) σ H Q → (∀ (r : Env) (S : Addr → Prop) (x : Val) (r1 : Env) (n : Int) (s : SR X.K σ H r S), rgOk 0 n = true → biD b [.int n] = .ok x → KE X.K σ r S H x r1 Q → ∀ H1 S1, Go X.K σ r S H σ r1 S1 H1 → T 0 n H1) → tRg1 (tO X.K C e) σ H T := fun {σ H Q T} ⟨r, S, y, r', s, ev, q⟩ hT => by
      simp only [evE] at ev
      obtain ⟨⟨os, r1⟩, e1, ev⟩ := bind_ok ev
      obtain ⟨ds, e2, ev⟩ := bind_ok ev
      obtain ⟨z, e3, ev⟩ := bind_ok ev
      cases ev
      obtain ⟨o, rfl, ho⟩ := evOs_one e1
      obtain ⟨d, rfl, hd⟩ := derefs_one e2
      refine ⟨r, S, o, r1, s, ho, fun v H1 S1 g1 w1 => ?_⟩
      have hint : ∃ n, d = .int n ∧ rgOk 0 n = true := by
        rcases hb with rfl | rfl <;>
        · cases d with
          | int n =>
            simp only [biD] at e3
            split at e3
            · exact ⟨n, rfl, by assumption⟩
            · cases e3
          | _ => simp only [biD] at e3; cases e3
      obtain ⟨n, rfl, hn⟩ := hint
      exact ⟨n, (w1.rb g1.sr hd).int, hT r S _ _ n s hn e3 q H1 S1 g1⟩
    rcases hb with rfl | rfl
    · refine pe_imp (pe_listRg G.calm h1 (G.bn _ (by decide +kernel)) prg rfl) fun σ H Q h => key h fun r S x r1 n s hn e3 q H1 S1 g1 => ⟨rgOk_of hn, fun p hp => ?_⟩
      simp only [biD, hn, if_true] at e3
      cases e3
      exact q.fin s g1 (.new g1.sr.wf hp) (.new g1.sr.wf hp (by have := rpl_rgV (K := X.K) (H := H1) (S := S1) (a := 0) (b := n); rwa [show n - 0 = n by omega] at this))
    · refine pe_imp (pe_tupRg G.calm h1 (G.bn _ (by decide +kernel)) prg rfl) fun σ H Q h => key h fun r S x r1 n s hn e3 q H1 S1 g1 => ⟨rgOk_of hn, fun p hp => ?_⟩
      simp only [biD, hn, if_true] at e3
      cases e3
      exact q.fin s g1 (.new g1.sr.wf hp) (.newT g1.sr.wf hp (by have := rpl_rgV (K := X.K) (H := H1) (S := S1) (a := 0) (b := n); rwa [show n - 0 = n by omega] at this))
  | [e, e'], [q, q'], ih, h, _ =>
    simp only [mEs, Bool.and_eq_true] at h
    have p1 := pe_opd G h.1.2 (ih e (by simp) X M q G h.1.2).1
    have p2 := pe_opd G h.2.1.2 (ih e' (by simp) X M q' G h.2.1.2).1
    have prg := prg_2 (p := pp2) (pos := pos2) h2 (G.bn _ (by decide +kernel)) p1 p2 (star_cons h.1.1) (star_cons h.2.1.1) (by rw [star_cons h.2.1.1]; rfl)
    have key : ∀ {σ H} {Q : VK} {T : Int → Int → Hp → Prop}, tE X.K C (.bi b [e, e']) σ H Q → (∀ (r : Env) (S : Addr → Prop) (x : Val) (r1 : Env) (m n : Int) (s : SR X.K σ H r S), rgOk m n = true → biD b [.int m, .int n] = .ok x → KE X.K σ r S H x r1 Q → ∀ H1 S1, Go X.K σ r S H σ r1 S1 H1 → T m n H1) → tRg2 (tO X.K C e) (tO X.K C e') σ H T := fun {σ H Q T} ⟨r, S, y, r', s, ev, q⟩ hT => by
      simp only [evE] at ev
      obtain ⟨⟨os, r1⟩, e1, ev⟩ := bind_ok ev
      obtain ⟨ds, e2, ev⟩ := bind_ok ev
      obtain ⟨z, e3, ev⟩ := bind_ok ev
      cases ev
      simp only [evOs] at e1
      obtain ⟨⟨o1, r2⟩, f1, e1⟩ := bind_ok e1
      obtain ⟨⟨os2, r3⟩, f2, e1⟩ := bind_ok e1
      obtain ⟨⟨o2, r4⟩, f3, f2⟩ := bind_ok f2
      obtain ⟨⟨os3, r5⟩, f4, f2⟩ := bind_ok f2
      cases f4
      cases f2
      cases e1
      simp only [derefs] at e2
      obtain ⟨d1, f5, e2⟩ := bind_ok e2
      obtain ⟨ds2, f6, e2⟩ := bind_ok e2
      obtain ⟨d2, f7, f6⟩ := bind_ok f6
      obtain ⟨ds3, f8, f6⟩ := bind_ok f6
      cases f8
      cases f6
      cases e2
      refine ⟨r, S, o1, r2, s, f1, fun v1 H1 S1 g1 w1 => ⟨r2, S1, o2, _, g1.sr, f3, fun v2 H2 S2 g2 w2 => ?_⟩⟩
      have b1 := (w1.go g1.sr g2).rb g2.sr f5
      have b2 := w2.rb g2.sr f7
      have hint : ∃ m n, d1 = .int m ∧ d2 = .int n ∧ rgOk m n = true := by
        rcases hb with rfl | rfl <;>
        · cases d1 with
          | int m =>
            cases d2 with
            | int n =>
              simp only [biD] at e3
              split at e3
              · exact ⟨m, n, rfl, rfl, by assumption⟩
              · cases e3
            | _ => simp only [biD] at e3; cases e3
          | _ => simp only [biD] at e3; cases e3
      obtain ⟨m, n, rfl, rfl, hn⟩ := hint
      exact ⟨m, n, b1.int, b2.int, hT r S _ _ m n s hn e3 q H2 S2 (g1.trans s g2)⟩
    rcases hb with rfl | rfl
    · refine pe_imp (pe_listRg G.calm h1 (G.bn _ (by decide +kernel)) prg rfl) fun σ H Q h => key h fun r S x r1 m n s hn e3 q H1 S1 g1 => ⟨rgOk_of hn, fun p hp => ?_⟩
      simp only [biD, hn, if_true] at e3
      cases e3
      exact q.fin s g1 (.new g1.sr.wf hp) (.new g1.sr.wf hp rpl_rgV)
    · refine pe_imp (pe_tupRg G.calm h1 (G.bn _ (by decide +kernel)) prg rfl) fun σ H Q h => key h fun r S x r1 m n s hn e3 q H1 S1 g1 => ⟨rgOk_of hn, fun p hp => ?_⟩
      simp only [biD, hn, if_true] at e3
      cases e3
      exact q.fin s g1 (.new g1.sr.wf hp) (.newT g1.sr.wf hp rpl_rgV)
  | [], _, _, h, bad => exact bad ⟨by simp, by simp⟩
  | _ :: _ :: _ :: _, _, _, h, bad => exact bad ⟨by simp, by simp⟩
  | [_], [], _, h, _ => simp only [mEs] at h; cases h
  | [_], _ :: _ :: _, _, h, _ => simp only [mEs, Bool.and_false] at h; cases h
  | [_, _], [], _, h, _ => simp only [mEs] at h; cases h
  | [_, _], [_], _, h, _ => simp only [mEs, Bool.and_false] at h; cases h
  | [_, _], _ :: _ :: _ :: _, _, h, _ => simp only [mEs, Bool.and_false] at h; cases h
/-- tuple(reversed(x)) -/
theorem pe_trev (G : GX X M C k) {es : List E} {x z : Str} {q : Expr} {pp pp2 pos pos2 : Pos} (hg : glB M.sc x "tuple" = true) (hg2 : glB M.sc z "reversed" = true) (ha : PA X [q] (tOs X.K C es)) (hs : starEach [q] X.env = (false, eval q X.env) :: starEach [] X.env) :
    PE X (.Call (.Name x pp) [.Call (.Name z pp2) [q] [] pos2] [] pos) (tE X.K C (.bi .trev es)) := by
  obtain ⟨h1, rfl⟩ := gl_of G hg
  obtain ⟨h2, rfl⟩ := gl_of G hg2
  refine pe_imp (pe_tupRevA G.calm h1 (G.bn _ (by decide +kernel)) h2 (G.bn _ (by decide +kernel)) ha hs rfl) fun σ H Q ⟨r, S, y, r', s, ev, q⟩ => ?_
  simp only [evE] at ev
  obtain ⟨⟨os, r1⟩, e1, ev⟩ := bind_ok ev
  obtain ⟨ds, e2, ev⟩ := bind_ok ev
  obtain ⟨z, e3, ev⟩ := bind_ok ev
  cases ev
  refine ⟨r, S, os, r1, s, e1, fun vs H1 S1 g1 w1 => ?_⟩
  have p := ROL.rb g1.sr w1 e2
  match ds, p, e3 with
  | [.list ys], p, e3 =>
    obtain ⟨v, rfl, b⟩ := paired1 p
    obtain ⟨a, us, rfl, c1, c2⟩ := b.lst
    simp only [biD] at e3
    cases e3
    exact ⟨a, us, rfl, .inl c1, fun p hp => q.fin s g1 (.new g1.sr.wf hp) (.newT g1.sr.wf hp c2.reverse)⟩
  | [.tuple ys], p, e3 =>
    obtain ⟨v, rfl, b⟩ := paired1 p
    obtain ⟨a, us, rfl, c1, c2⟩ := b.tup
    simp only [biD] at e3
    cases e3
    exact ⟨a, us, rfl, .inr c1, fun p hp => q.fin s g1 (.new g1.sr.wf hp) (.newT g1.sr.wf hp c2.reverse)⟩
/-- xs[::-1] -/
theorem pe_srev (G : GX X M C k) {es : List E} {p q : Expr} {pos : Pos} (ih : SndL C k es) (hq : revShape q = true) (h : mEs M es [p] = true) : PE X (.Subscript p q pos) (tE X.K C (.bi .srev es)) := by
  obtain ⟨kk, p1, p2, p3, rfl⟩ := revShape_ok hq
  match es, ih, h with
  | [e], ih, h =>
    simp only [mEs, Bool.and_eq_true] at h
    refine pe_imp (pe_revL (pe_opd G h.1.2 (ih e (by simp) X M p G h.1.2).1)) fun σ H Q ⟨r, S, y, r', s, ev, q⟩ => ?_
    simp only [evE] at ev
    obtain ⟨⟨os, r1⟩, e1, ev⟩ := bind_ok ev
    obtain ⟨ds, e2, ev⟩ := bind_ok ev
    obtain ⟨z, e3, ev⟩ := bind_ok ev
    cases ev
    obtain ⟨o, rfl, ho⟩ := evOs_one e1
    obtain ⟨d, rfl, hd⟩ := derefs_one e2
    refine ⟨r, S, o, r1, s, ho, fun v H1 S1 g1 w1 => ?_⟩
    cases d with
    | list ys =>
      obtain ⟨a, us, rfl, c1, c2⟩ := (w1.rb g1.sr hd).lst
      simp only [biD] at e3
      cases e3
      exact ⟨a, us, rfl, c1, fun p hp => q.fin s g1 (.new g1.sr.wf hp) (.new g1.sr.wf hp c2.reverse)⟩
    | _ => simp only [biD] at e3; cases e3
  | [], _, h => simp only [mEs] at h; cases h
  | _ :: _ :: _, _, h => simp only [mEs, Bool.and_false] at h; cases h
theorem no_star : ∀ (es : List E) (ps : List Expr) (pos : Pos) (env : PySem.Env), mEs M es ps = true → (backTo pos (starEach ps env)).any (·.1) = false
  | [], [], _, _, _ => rfl
  | [], _ :: _, _, _, h => by simp only [mEs] at h; cases h
  | _ :: _, [], _, _, h => by simp only [mEs] at h; cases h
  | e :: es, p :: ps, pos, env, h => by
    simp only [mEs, Bool.and_eq_true] at h
    rw [star_cons h.1.1]
    have := no_star es ps pos env h.2
    unfold backTo at this ⊢
    rw [List.map_cons, List.any_cons, this]
    rfl
theorem snd_bi0 (G : GX X M C k) {b : Bi} {es : List E} {x : Str} {pp pos : Pos} {ps : List Expr} (ih : SndL C k es) (hsr : isSrev b = false) (hn : biIn b = none) (hg : glB M.sc x (biName b) = true) (h : mEs M es ps = true) (ne : ps ≠ []) :
    PE X (.Call (.Name x pp) ps [] pos) (tE X.K C (.bi b es)) := by
  have ha := pa_os G es ps ih h
  cases ps with
  | nil => exact absurd rfl ne
  | cons p ps =>
   cases es with
   | nil => simp only [mEs] at h; cases h
   | cons e es =>
    have hs : starEach (p :: ps) X.env = (false, eval p X.env) :: starEach ps X.env := by
      simp only [mEs, Bool.and_eq_true] at h
      exact star_cons h.1.1
    have hpl : (backTo pos (starEach ps X.env)).any (·.1) = false := by
      simp only [mEs, Bool.and_eq_true] at h
      exact no_star es ps pos X.env h.2
    cases b with
    | len => exact pe_biB G bi_len (by decide +kernel) (by decide +kernel) (by decide +kernel) (by decide +kernel) hg ha hs hpl
    | int => exact pe_biT G bi_int (by decide +kernel) (by decide +kernel) (by decide +kernel) (by decide +kernel) hg ha hs hpl
    | str => exact pe_biT G bi_str (by decide +kernel) (by decide +kernel) (by decide +kernel) (by decide +kernel) hg ha hs hpl
    | tuple => exact pe_biT G bi_tuple (by decide +kernel) (by decide +kernel) (by decide +kernel) (by decide +kernel) hg ha hs hpl
    | list => exact pe_biT G bi_list (by decide +kernel) (by decide +kernel) (by decide +kernel) (by decide +kernel) hg ha hs hpl
    | abs => exact pe_biB G bi_abs (by decide +kernel) (by decide +kernel) (by decide +kernel) (by decide +kernel) hg ha hs hpl
    | sum => exact pe_biB G (bi_sum G.calm) (by decide +kernel) (by decide +kernel) (by decide +kernel) (by decide +kernel) hg ha hs hpl
    | all => exact pe_biB G (bi_all G.calm) (by decide +kernel) (by decide +kernel) (by decide +kernel) (by decide +kernel) hg ha hs hpl
    | any => exact pe_biB G (bi_any G.calm) (by decide +kernel) (by decide +kernel) (by decide +kernel) (by decide +kernel) hg ha hs hpl
    | min => exact pe_biB G (bi_min G.calm G.hu) (by decide +kernel) (by decide +kernel) (by decide +kernel) (by decide +kernel) hg ha hs hpl
    | max => exact pe_biB G (bi_max G.calm) (by decide +kernel) (by decide +kernel) (by decide +kernel) (by decide +kernel) hg ha hs hpl
    | sorted => exact pe_biB G (bi_sorted G.hu) (by decide +kernel) (by decide +kernel) (by decide +kernel) (by decide +kernel) hg ha hs hpl
    | sset => cases hn
    | lset => cases hn
    | lrng => cases hn
    | trng => cases hn
    | trev => cases hn
    | srev => exact absurd hsr (by decide)
theorem snd_bi (G : GX X M C k) {b : Bi} {es : List E} {x : Str} {pp pos : Pos} {ps : List Expr} (ih : SndL C k es) (h : mE M (.bi b es) (.Call (.Name x pp) ps [] pos) = true) :
    PE X (.Call (.Name x pp) ps [] pos) (tE X.K C (.bi b es)) := by
  simp only [mE, Bool.and_eq_true] at h
  obtain ⟨⟨hsr, hg⟩, h⟩ := h
  split at h
  · rename_i hn
    rw [Bool.and_eq_true] at h
    exact snd_bi0 G ih (by simpa using hsr) hn hg h.2 (fun z => by rw [z] at h; exact absurd h.1 (by decide))
  · rename_i y hn
    split at h
    · rename_i z qs hs
      obtain ⟨py, pos2, rfl⟩ := inShape_some hs
      rw [Bool.and_eq_true, Bool.and_eq_true] at h
      obtain ⟨⟨h1, h2⟩, h3⟩ := h
      cases qs with
      | nil => exact absurd h2 (by decide)
      | cons q qs =>
        have ha := pa_os G es (q :: qs) ih h3
        have hst : starEach (q :: qs) X.env = (false, eval q X.env) :: starEach qs X.env ∧ (backTo pos2 (starEach qs X.env)).any (·.1) = false := by
          match es, h3 with
          | e :: es, h =>
            simp only [mEs, Bool.and_eq_true] at h
            exact ⟨star_cons h.1.1, nostar_all h.2⟩
          | [], h => simp only [mEs] at h; cases h
        cases b with
        | sset => cases hn; exact pe_sset G hg h1 ha hst.1 hst.2
        | lset => cases hn; exact pe_lset G hg h1 ha hst.1 hst.2
        | lrng =>
          cases hn
          by_cases l3 : es.length = 3
          · exact pe_lrng3 G l3 hg h1 ha hst.1 hst.2
          · exact pe_rngs G (.inl rfl) l3 ih hg h1 h3
        | trng =>
          cases hn
          by_cases l3 : es.length = 3
          · refine ⟨fun pins s σ H Q I ⟨r, S, y, r', sr, ev, q⟩ => ?_⟩
            exfalso
            simp only [evE] at ev
            obtain ⟨⟨os, r1⟩, e1, ev⟩ := bind_ok ev
            obtain ⟨ds, e2, ev⟩ := bind_ok ev
            obtain ⟨z, e3, ev⟩ := bind_ok ev
            have hl := (ds_len e2).trans (os_len e1)
            match ds, hl.trans l3, e3 with
            | [_, _, _], _, e3 => simp only [biD] at e3; cases e3
          · exact pe_rngs G (.inr rfl) l3 ih hg h1 h3
        | trev =>
          cases hn
          cases qs with
          | nil => exact pe_trev G hg h1 ha hst.1
          | cons q2 qs =>
            refine ⟨fun pins s σ H Q I ⟨r, S, y, r', sr, ev, q⟩ => ?_⟩
            exfalso
            simp only [evE] at ev
            obtain ⟨⟨os, r1⟩, e1, ev⟩ := bind_ok ev
            obtain ⟨ds, e2, ev⟩ := bind_ok ev
            obtain ⟨z, e3, ev⟩ := bind_ok ev
            have hl := (ds_len e2).trans (os_len e1)
            match es, h3, hl with
            | [], h3, _ => simp only [mEs] at h3; cases h3
            | [_], h3, _ => simp only [mEs, Bool.and_false] at h3; cases h3
            | _ :: _ :: _, _, hl =>
              match ds, hl, e3 with
              | _ :: _ :: _, _, e3 => simp only [biD] at e3; cases e3
        | _ => cases hn
    · cases h

/-! ### dicts -/
theorem RpI.get {K : PySem.W.Frag} {H : Hp} {S : Addr → Prop} {n : Int} {d : D} : ∀ {vs : List (Key × V)} {ds : List (Int × D)}, RpI K H S vs ds → getI ds n = some d → ∃ v, valV vs (.inl n) = some v ∧ Rp K H S v d
  | _, _, .nil, e => by cases e
  | _, _, .cons (i := i) (v := v) h t, e => by
    unfold getI at e
    by_cases c : i = n
    · rw [if_pos c] at e
      cases e
      exact ⟨v, valV_pos (by rw [c]), h⟩
    · rw [if_neg c] at e
      obtain ⟨w, h1, h2⟩ := RpI.get t e
      exact ⟨w, by rw [valV_neg (fun z => c (by simpa using z))]; exact h1, h2⟩
theorem putK_pos {p : Key × V} {r : List (Key × V)} {k : Key} {v : V} (e : p.1 = k) (n : ∀ q ∈ r, q.1 ≠ k) : putK (p :: r) k v = (k, v) :: r := by
  subst e
  unfold putK
  rw [if_pos (by simp)]
  rw [List.map_cons, if_pos rfl]
  congr 1
  rw [List.map_congr_left (g := id)]
  · simp
  · intro q hq
    rw [if_neg (n q hq)]
    rfl
theorem putK_neg {p : Key × V} {r : List (Key × V)} {k : Key} {v : V} (e : p.1 ≠ k) : putK (p :: r) k v = p :: putK r k v := by
  unfold putK
  by_cases c : (r.any fun kv => decide (kv.1 = k)) = true
  · rw [if_pos c, if_pos (by rw [List.any_cons, c, Bool.or_true]), List.map_cons, if_neg e]
  · rw [if_neg c, if_neg (by rw [List.any_cons, decide_eq_false e, Bool.false_or]; exact c), List.cons_append]
theorem od_slot {K : PySem.W.Frag} {σ : Slots} {H : Hp} {r : Env} {S : Addr → Prop} {i : Nat} (s : SR K σ H r S) (h : isOd r i = true) : ∃ v, σ[i]? = some (some v) ∧ ∃ kvs, r[i]? = some (.od kvs) := by
  unfold isOd at h
  split at h
  · rename_i kvs hk
    obtain ⟨v, e, _⟩ := s.dic i kvs hk
    exact ⟨v, e, kvs, hk⟩
  · cases h
theorem snd_dget (G : GX X M C k) {i : Nat} {ke : E} {x : Str} {px pos : Pos} {q : Expr} (ik : SndE C k ke) (hpl : plainE q = true) (hx : (decide (M.N[i]? = some x) && visB M.sc x && nameOk x) = true) (hk : mE M ke q = true) :
    PE X (.Subscript (.Name x px) q pos) (tE X.K C (.dget i ke)) := by
  have ns : NoSl q := by intro ov iv; cases q <;> first | rfl | (exact absurd (show false = true from hpl) Bool.false_ne_true)
  refine pe_imp (pe_dget (by have := G.hu; omega) (pe_slot G (show mE M (.v i) (.Name x px) = true by simp only [mE]; exact hx)) (pe_opd G hk (ik X M q G hk).1) ns) fun σ H Q ⟨r, S, y, r', s, ev, q⟩ => ?_
  simp only [evE] at ev
  split at ev
  · cases ev
  rename_i hod
  obtain ⟨v0, hv0, _⟩ := od_slot s (by simpa using hod)
  obtain ⟨⟨o, r1⟩, e1, ev⟩ := bind_ok ev
  obtain ⟨d2, e2, ev⟩ := bind_ok ev
  have key : ∃ n kvs d, d2 = .int n ∧ r1[i]? = some (.od kvs) ∧ getI kvs n = some d ∧ y = .fz d ∧ r' = r1 := by
    cases d2 with
    | int n =>
      dsimp only at ev
      split at ev
      · rename_i kvs hkv
        split at ev
        · rename_i d hd
          cases ev
          exact ⟨n, kvs, d, rfl, hkv, hd, rfl, rfl⟩
        · cases ev
      · cases ev
    | _ => cases ev
  obtain ⟨n, kvs, d, rfl, hkv, hd, rfl, rfl⟩ := key
  refine ⟨v0, hv0, r, S, o, r', s, e1, fun v H1 S1 g1 w1 => ?_⟩
  obtain ⟨v1, hv1, a, vs, rfl, k1, k2, k3⟩ := g1.sr.dic i kvs hkv
  rw [hv0] at hv1
  cases hv1
  cases (w1.rb g1.sr e2).int
  obtain ⟨w, q1, q2⟩ := k3.get hd
  refine ⟨a, w, rfl, ?_, q.data s g1 q2⟩
  rw [← q1]
  exact DGet.k (k := .inl n) k1
/-! ### pop -/
theorem lst_slot {K : PySem.W.Frag} {H : Hp} {S : Addr → Prop} {σ : Slots} {r : Env} {i : Nat} {xs : List D} (s : SR K σ H r S) (h : r[i]? = some (.ow xs) ∨ r[i]? = some (.io xs)) : ∃ a vs, σ[i]? = some (some (.ref a)) ∧ H a = some (.lst vs) ∧ RpL K H S vs xs := by
  obtain ⟨a, vs, e, h1, _, h3⟩ := own_addr s h
  exact ⟨a, vs, e, h1, h3⟩
theorem isList_get {r : Env} {i : Nat} (h : isList r i = true) : ∃ xs, r[i]? = some (.ow xs) ∨ r[i]? = some (.io xs) := by
  unfold isList at h
  split at h
  · exact ⟨_, .inr (by assumption)⟩
  · exact ⟨_, .inl (by assumption)⟩
  · cases h
theorem RpL.eraseIdx {K : PySem.W.Frag} {H : Hp} {S : Addr → Prop} : ∀ {vs : List V} {ds : List D} (n : Nat), RpL K H S vs ds → RpL K H S (vs.eraseIdx n) (ds.eraseIdx n)
  | _, _, n, .nil => .nil
  | _, _, 0, .cons h t => t
  | _, _, n + 1, .cons h t => .cons h (t.eraseIdx n)
theorem RpL.dropLast {K : PySem.W.Frag} {H : Hp} {S : Addr → Prop} {vs : List V} {ds : List D} (h : RpL K H S vs ds) : RpL K H S vs.dropLast ds.dropLast := by
  rw [List.dropLast_eq_take, List.dropLast_eq_take, h.length]
  exact h.take _
theorem popX_some {xs ys : List D} {n : Int} {d : D} (h : popX xs n = some (d, ys)) : ∃ j, L2.ixN xs.length n = some j ∧ xs[j]? = some d ∧ ys = xs.eraseIdx j ∧ xs.length ≤ 16777216 := by
  unfold popX at h
  split at h
  · rename_i hl
    split at h
    · rename_i j hj
      split at h
      · rename_i d' hd
        cases h
        exact ⟨j, hj, hd, rfl, by simpa [lenOk] using hl⟩
      · cases h
    · cases h
  · cases h
theorem snd_popl (G : GX X M C k) {i : Nat} {x : Str} {px apos cpos : Pos} (hx : (decide (M.N[i]? = some x) && visB M.sc x && nameOk x) = true) (hl : (apos.endLine == cpos.line) = true) :
    PE X (.Call (.Attribute (.Name x px) "pop" apos) [] [] cpos) (tE X.K C (.popl i)) := by
  refine pe_imp (pe_bm0 PySem.F.plainAttrs_list PySem.F.slot_list_pop PySem.F.type_list_pop mt_pop (pe_slot G (show mE M (.v i) (.Name x px) = true by simp only [mE]; exact hx)) (hline := hl)) fun σ H Q ⟨r, S, y, r', s, ev, q⟩ => ?_
  simp only [evE] at ev
  have key : ∃ (xs : List D) (d : D) (x' : Val), xs[xs.length - 1]? = some d ∧ y = .fz d ∧ r' = r.set i x' ∧ ((r[i]? = some (.ow xs) ∧ x' = .ow xs.dropLast) ∨ (r[i]? = some (.io xs) ∧ x' = .io xs.dropLast)) := by
    split at ev
    · rename_i xs hxs
      split at ev
      · rename_i d hd
        cases ev
        exact ⟨xs, d, _, hd, rfl, rfl, .inl ⟨hxs, rfl⟩⟩
      · cases ev
    · rename_i xs hxs
      split at ev
      · rename_i d hd
        cases ev
        exact ⟨xs, d, _, hd, rfl, rfl, .inr ⟨hxs, rfl⟩⟩
      · cases ev
    · cases ev
  obtain ⟨xs, d, x', hd, rfl, rfl, hr⟩ := key
  obtain ⟨a, vs, ea, h1, h3⟩ := lst_slot s (hr.imp (·.1) (·.1))
  obtain ⟨v, hv, rv⟩ := h3.get hd
  rw [← h3.length] at hv
  have g := upd_go s hr ea h3.dropLast
  exact ⟨.ref a, ea, .inl ⟨rfl, vs, SqL.of h1⟩, a, vs, v, rfl, rfl, h1, hv, q.data s g (g.rp s rv)⟩
theorem snd_popa (G : GX X M C k) {i : Nat} {e : E} {x : Str} {px apos cpos : Pos} {p : Expr} (ie : SndE C k e) (hx : (decide (M.N[i]? = some x) && visB M.sc x && nameOk x) = true) (hl : (apos.endLine == cpos.line) = true) (hn : notStar p = true) (he : mE M e p = true) :
    PE X (.Call (.Attribute (.Name x px) "pop" apos) [p] [] cpos) (tE X.K C (.popa i e)) := by
  have few : ∀ env : PySem.Env, ((backTo cpos (starEach [p] env)).all (fun x => !x.1) && (backToKw cpos (keywordEach [] env)).all (fun x => x.1.isSome)
      && decide ([p].length + ([] : List Keyword).length + (if ([] : List Keyword).isEmpty then 0 else 1) < 30)) = true := fun env => by rw [star_cons hn]; rfl
  refine pe_imp (pe_bm PySem.F.plainAttrs_list PySem.F.slot_list_pop PySem.F.type_list_pop mt_popAt (pe_slot G (show mE M (.v i) (.Name x px) = true by simp only [mE]; exact hx)) (pa_cons (pe_x (ie X M p G he).1) pa_nil (star_cons hn)) rfl (few _) hl (star_cons hn) rfl) fun σ H Q ⟨r, S, y, r', s, ev, q⟩ => ?_
  simp only [evE] at ev
  split at ev
  · cases ev
  rename_i hil
  obtain ⟨⟨d0, r1⟩, e1, ev⟩ := bind_ok ev
  obtain ⟨xs0, hx0⟩ := isList_get (show isList r i = true by simpa using hil)
  obtain ⟨a0, vs0, ea0, h01, _⟩ := lst_slot s hx0
  have key : ∃ (n : Int) (xs ys : List D) (d : D) (x' : Val), d0 = .int n ∧ popX xs n = some (d, ys) ∧ y = .fz d ∧ r' = r1.set i x' ∧ ((r1[i]? = some (.ow xs) ∧ x' = .ow ys) ∨ (r1[i]? = some (.io xs) ∧ x' = .io ys)) := by
    dsimp only at ev
    unfold popD at ev
    cases d0 with
    | int n =>
      dsimp only at ev
      split at ev
      · rename_i xs hxs
        split at ev
        · rename_i d ys hd
          cases ev
          exact ⟨n, xs, ys, d, _, rfl, hd, rfl, rfl, .inl ⟨hxs, rfl⟩⟩
        · cases ev
      · rename_i xs hxs
        split at ev
        · rename_i d ys hd
          cases ev
          exact ⟨n, xs, ys, d, _, rfl, hd, rfl, rfl, .inr ⟨hxs, rfl⟩⟩
        · cases ev
      · cases ev
    | _ => cases ev
  obtain ⟨n, xs, ys, d, x', rfl, hp, rfl, rfl, hr⟩ := key
  obtain ⟨j, hj, hd, rfl, hlen⟩ := popX_some hp
  refine ⟨.ref a0, ea0, .inl ⟨rfl, vs0, SqL.of h01⟩, r, S, .int n, r1, s, e1, fun v H1 S1 g w => ?_⟩
  obtain ⟨a, vs, ea, h1, h3⟩ := lst_slot g.sr (hr.imp (·.1) (·.1))
  rw [ea0] at ea
  cases ea
  cases RB.int (.inl w)
  obtain ⟨u, hu, ru⟩ := h3.get hd
  have hj' : L2.ixN vs.length n = some j := by rw [h3.length]; exact hj
  obtain ⟨k1, k2, k3, k4⟩ := L2.ixN_seq hj'
  have hvl := h3.length
  have g2 := upd_go g.sr hr ea0 (h3.eraseIdx j)
  exact ⟨a0, vs, n, j, u, rfl, rfl, h1, by omega, by omega, k1, hu, q.data s (g.trans s g2) (g2.rp g.sr ru)⟩
/-! ### methods -/
theorem base_ok {p : Expr} {z : Str} {env : PySem.Env} (h : baseOk p = true) : attributeBase p z env (eval p env) = eval p env := by
  cases p with
  | Call f as ks pos => cases f <;> first | rfl | cases h
  | _ => rfl
theorem RpL.strs {K : PySem.W.Frag} {H : Hp} {S : Addr → Prop} : ∀ {vs : List V} {ds : List D} {ns : List Str}, RpL K H S vs ds → strs? ds = some ns → vs = ns.map V.str
  | _, [], ns, h, e => by cases h; cases e; rfl
  | _, d :: ds, ns, h, e => by
    cases h with
    | cons h1 h2 =>
      cases d <;> simp only [strs?] at e <;> try (cases e; done)
      rename_i i
      cases e1 : strs? ds with
      | none => rw [e1] at e; cases e
      | some ms =>
        rw [e1] at e
        cases e
        cases h1
        rw [RpL.strs h2 e1]
        rfl
theorem idxI_some {n : Int} : ∀ {ns : List Int} {j : Nat}, idxI n ns = some j → ns[j]? = some n ∧ ∀ m, m < j → ns[m]? ≠ some n
  | [], j, h => by cases h
  | x :: r, j, h => by
    unfold idxI at h
    by_cases c : x = n
    · rw [if_pos c] at h
      cases h
      exact ⟨by simp [c], fun m hm => absurd hm (Nat.not_lt_zero _)⟩
    · rw [if_neg c] at h
      cases e : idxI n r with
      | none => rw [e] at h; cases h
      | some i =>
        rw [e] at h
        cases h
        obtain ⟨h1, h2⟩ := idxI_some e
        refine ⟨by simpa using h1, fun m hm => ?_⟩
        cases m with
        | zero => simpa using c
        | succ m =>
          have hm : m + 1 < i + 1 := hm
          simpa using h2 m (by omega)
theorem fzOf {m : Meth} {d : D} {ds : List D} {x : Val} (hm : m ≠ .splt) (h : mtD m d ds = .ok x) : ∃ y, x = .fz y := by
  unfold mtD at h
  split at h <;> (repeat (split at h)) <;> first | (cases h; exact ⟨_, rfl⟩) | (cases h; done) | exact absurd rfl hm
theorem inv_str1 {m : Meth} {d : D} {ds : List D} {x : Val} (hm : m = .swith ∨ m = .rmpre ∨ m = .part ∨ m = .splt) (h : mtD m d ds = .ok x) : ∃ a b, d = .str a ∧ ds = [.str b] := by
  rcases hm with rfl | rfl | rfl | rfl <;>
  · cases d with
    | str a =>
      cases ds with
      | nil => simp only [mtD] at h; cases h
      | cons e es =>
        cases es with
        | nil => cases e <;> first | exact ⟨_, _, rfl, rfl⟩ | (simp only [mtD] at h; cases h)
        | cons _ _ => simp only [mtD] at h; cases h
    | _ => simp only [mtD] at h; cases h
theorem inv_index {m : Meth} {d : D} {ds : List D} {x : Val} (hm : m = .index) (h : mtD m d ds = .ok x) : ∃ xs n ns j, d = .list xs ∧ ds = [.int n] ∧ ints? xs = some ns ∧ idxI n ns = some j ∧ x = .fz (.int (j : Int)) := by
  unfold mtD at h
  split at h <;> first | (cases hm; done) | (cases h; done) | skip
  split at h
  · rename_i ns hn
    split at h
    · rename_i j hj
      cases h
      exact ⟨_, _, _, _, rfl, rfl, hn, hj, rfl⟩
    · cases h
  · cases h
theorem inv_count {m : Meth} {d : D} {ds : List D} {x : Val} (hm : m = .count) (h : mtD m d ds = .ok x) : ∃ xs n ns, d = .list xs ∧ ds = [.int n] ∧ ints? xs = some ns ∧ x = .fz (.int (ns.count n : Nat)) := by
  unfold mtD at h
  split at h <;> first | (cases hm; done) | (cases h; done) | skip
  split at h
  · rename_i ns hn
    cases h
    exact ⟨_, _, _, rfl, rfl, hn, rfl⟩
  · cases h
theorem inv_join {m : Meth} {d : D} {ds : List D} {x : Val} (hm : m = .join) (h : mtD m d ds = .ok x) : ∃ a d1 xs ys, d = .str a ∧ ds = [d1] ∧ (d1 = .list xs ∨ d1 = .tuple xs) ∧ strs? xs = some ys ∧ joinOk a ys = true ∧ x = .fz (.str (Txt.join a ys)) := by
  unfold mtD at h
  split at h <;> first | (cases hm; done) | (cases h; done) | skip
  · split at h
    · rename_i ys hn
      split at h
      · rename_i hj
        cases h
        exact ⟨_, _, _, _, rfl, rfl, .inl rfl, hn, hj, rfl⟩
      · cases h
    · cases h
  · split at h
    · rename_i ys hn
      split at h
      · rename_i hj
        cases h
        exact ⟨_, _, _, _, rfl, rfl, .inr rfl, hn, hj, rfl⟩
      · cases h
    · cases h
theorem mt_parts {m : Meth} {a : E} {es : List E} {σ : Slots} {H : Hp} {Q : VK} {T : String} {rr : V → List V → Hp → VK → Prop} (h : tE X.K C (.mt m a es) σ H Q)
    (st : ∀ (d : D) (ds : List D) (x : Val), mtD m d ds = .ok x → ∀ (S1 : Addr → Prop) (H1 : Hp) (v : V), Rp X.K H1 S1 v d → tyV X.K T v H1)
    (go : ∀ (d : D) (ds : List D) (x : Val), mtD m d ds = .ok x → ∀ (S2 : Addr → Prop) (H2 : Hp) (v : V) (vs : List V), Rp X.K H2 S2 v d → RpL X.K H2 S2 vs ds → (∀ u, (∀ y, x = .fz y → Rp X.K H2 S2 u y) → Q u H2) → rr v vs H2 Q) (hm : m ≠ .splt := by nofun) :
    tBM X.K T rr (tX X.K C a) (tDs X.K C es) σ H Q := by
  obtain ⟨r, S, x, r', s, ev, q⟩ := h
  simp only [evE] at ev
  obtain ⟨⟨d, r1⟩, e1, ev⟩ := bind_ok ev
  obtain ⟨⟨ds, r2⟩, e2, ev⟩ := bind_ok ev
  obtain ⟨z, e3, ev⟩ := bind_ok ev
  cases ev
  refine ⟨r, S, d, r1, s, e1, fun v H1 S1 g1 w1 => ⟨st d ds _ e3 S1 H1 v w1, r1, S1, ds, _, g1.sr, e2, fun vs H2 S2 g2 w2 => ?_⟩⟩
  have hgo := go d ds x e3 S2 H2 v vs (g2.rp g1.sr w1) w2
  obtain ⟨y, rfl⟩ : ∃ y, x = .fz y := fzOf hm e3
  exact hgo fun u hu => q.data s (g1.trans s g2) (hu y rfl)
theorem tyV_list {K : PySem.W.Frag} {H : Hp} {S : Addr → Prop} {v : V} {ds : List D} (h : Rp K H S v (.list ds)) : tyV K "list" v H := by
  obtain ⟨a, vs, rfl, h1, _⟩ := (show RB K S H v (.list ds) from .inl h).lst
  exact .inl ⟨rfl, _, h1⟩
theorem tyV_str {K : PySem.W.Frag} {H : Hp} {S : Addr → Prop} {v : V} {x : Str} (h : Rp K H S v (.str x)) : tyV K "str" v H := by
  cases h; rfl
theorem few1 {p : Expr} {cpos : Pos} {env : PySem.Env} (h : notStar p = true) : ((backTo cpos (starEach [p] env)).all (fun x => !x.1) && (backToKw cpos (keywordEach [] env)).all (fun x => x.1.isSome)
      && decide ([p].length + ([] : List Keyword).length + (if ([] : List Keyword).isEmpty then 0 else 1) < 30)) = true := by
  rw [star_cons h]; rfl
theorem rpl_strs0 {K : PySem.W.Frag} {H : Hp} {S : Addr → Prop} : ∀ ns : List Str, RpL K H S (ns.map V.str) (ns.map PyData.str)
  | [] => .nil
  | n :: ns => .cons (.str n) (rpl_strs0 ns)
theorem snd_trr (G : GX X M C k) {e : E} {x z u : Str} {q : Expr} {pp pp2 pp3 pos pos2 pos3 : Pos} (ie : SndE C k e) (hg : glB M.sc x "tuple" = true) (hg2 : glB M.sc z "reversed" = true) (hg3 : glB M.sc u "range" = true) (hn : notStar q = true) (h : mE M e q = true) :
    PE X (.Call (.Name x pp) [.Call (.Name z pp2) [.Call (.Name u pp3) [q] [] pos3] [] pos2] [] pos) (tE X.K C (.trr e)) := by
  obtain ⟨h1, rfl⟩ := gl_of G hg
  obtain ⟨h2, rfl⟩ := gl_of G hg2
  obtain ⟨h3, rfl⟩ := gl_of G hg3
  have p1 := pe_opd G h (ie X M q G h).1
  have prg := prg_1 (p := pp3) (pos := pos3) h3 (G.bn _ (by decide +kernel)) p1 (star_cons hn)
  refine pe_imp (pe_revRg G.calm h1 (G.bn _ (by decide +kernel)) h2 (G.bn _ (by decide +kernel)) prg rfl) fun σ H Q ⟨r, S, y, r', s, ev, q⟩ => ?_
  simp only [evE] at ev
  obtain ⟨⟨o, r1⟩, e1, ev⟩ := bind_ok ev
  obtain ⟨d, e2, ev⟩ := bind_ok ev
  refine ⟨r, S, o, r1, s, e1, fun v H1 S1 g1 w1 => ?_⟩
  cases d with
  | int n =>
    dsimp only at ev
    split at ev
    · rename_i hn
      cases ev
      exact ⟨n, (w1.rb g1.sr e2).int, rgOk_of hn, fun p hp => q.fin s g1 (.new g1.sr.wf hp) (.newT g1.sr.wf hp (rpl_rev (by have := rpl_rgV (K := X.K) (H := H1) (S := S1) (a := 0) (b := n); rwa [show n - 0 = n by omega] at this)))⟩
    · cases ev
  | _ => cases ev
theorem snd_mt (G : GX X M C k) {m : Meth} {a : E} {es : List E} {p : Expr} {z : Str} {apos cpos : Pos} {ps : List Expr} (ia : SndE C k a) (ih : SndL C k es) (hz : z = mtName m) (hl : (apos.endLine == cpos.line) = true)
    (hb : baseOk p = true) (hf : mtFew m es = true) (ha : mE M a p = true) (hes : mEs M es ps = true) : PE X (.Call (.Attribute p z apos) ps [] cpos) (tE X.K C (.mt m a es)) := by
  subst hz
  have ho := pe_x (ia X M p G ha).1
  cases m with
  | tidx =>
    refine ⟨fun pins s σ H Q I ⟨r, S, x, r', s', ev, q⟩ => ?_⟩
    simp only [evE] at ev
    obtain ⟨⟨d, r1⟩, e1, ev⟩ := bind_ok ev
    obtain ⟨⟨ds, r2⟩, e2, ev⟩ := bind_ok ev
    obtain ⟨y, e3, ev⟩ := bind_ok ev
    simp only [mtD] at e3
    cases e3
  | tcnt =>
    refine ⟨fun pins s σ H Q I ⟨r, S, x, r', s', ev, q⟩ => ?_⟩
    simp only [evE] at ev
    obtain ⟨⟨d, r1⟩, e1, ev⟩ := bind_ok ev
    obtain ⟨⟨ds, r2⟩, e2, ev⟩ := bind_ok ev
    obtain ⟨y, e3, ev⟩ := bind_ok ev
    simp only [mtD] at e3
    cases e3
  | swith =>
    match es, ps, hf, hes with
    | [e], [q], _, hes =>
      have ns : notStar q = true := by simp only [mEs, Bool.and_eq_true] at hes; exact hes.1.1
      refine pe_imp (pe_bm PySem.F.plainAttrs_str PySem.F.slot_str_startswith PySem.F.type_str_startswith mt_startswith ho (pa_ds G [e] [q] ih hes) (base_ok hb) (few1 ns) hl (star_cons ns) rfl) fun σ H Q h => ?_
      refine mt_parts h (fun d ds x e S1 H1 v w => ?_) fun d ds x e S2 H2 v vs w1 w2 hq => ?_
      · obtain ⟨a, b, rfl, rfl⟩ := inv_str1 (.inl rfl) e
        exact tyV_str w
      · obtain ⟨a, b, rfl, rfl⟩ := inv_str1 (.inl rfl) e
        simp only [mtD] at e
        cases e
        cases w1
        cases w2 with
        | cons q1 q2 =>
          cases q2
          cases q1
          exact ⟨a, b, rfl, rfl, hq _ fun y hy => by cases hy; exact .bl _⟩
    | [_], [], _, h => simp only [mEs] at h; cases h
    | [_], _ :: _ :: _, _, h => simp only [mEs, Bool.and_false] at h; cases h
    | [], _, h, _ => cases h
    | _ :: _ :: _, _, h, _ => cases h
  | rmpre =>
    match es, ps, hf, hes with
    | [e], [q], _, hes =>
      have ns : notStar q = true := by simp only [mEs, Bool.and_eq_true] at hes; exact hes.1.1
      refine pe_imp (pe_bm PySem.F.plainAttrs_str PySem.F.slot_str_removeprefix PySem.F.type_str_removeprefix mt_removeprefix ho (pa_ds G [e] [q] ih hes) (base_ok hb) (few1 ns) hl (star_cons ns) rfl) fun σ H Q h => ?_
      refine mt_parts h (fun d ds x e S1 H1 v w => ?_) fun d ds x e S2 H2 v vs w1 w2 hq => ?_
      · obtain ⟨a, b, rfl, rfl⟩ := inv_str1 (.inr (.inl rfl)) e
        exact tyV_str w
      · obtain ⟨a, b, rfl, rfl⟩ := inv_str1 (.inr (.inl rfl)) e
        simp only [mtD] at e
        split at e
        · rename_i hlen
          cases e
          cases w1
          cases w2 with
          | cons q1 q2 =>
            cases q2
            cases q1
            exact ⟨a, b, rfl, rfl, len_of hlen, hq _ fun y hy => by cases hy; exact .str _⟩
        · cases e
    | [_], [], _, h => simp only [mEs] at h; cases h
    | [_], _ :: _ :: _, _, h => simp only [mEs, Bool.and_false] at h; cases h
    | [], _, h, _ => cases h
    | _ :: _ :: _, _, h, _ => cases h
  | part =>
    match es, ps, hf, hes with
    | [e], [q], _, hes =>
      have ns : notStar q = true := by simp only [mEs, Bool.and_eq_true] at hes; exact hes.1.1
      refine pe_imp (pe_bm PySem.F.plainAttrs_str PySem.F.slot_str_partition PySem.F.type_str_partition mt_partition ho (pa_ds G [e] [q] ih hes) (base_ok hb) (few1 ns) hl (star_cons ns) rfl) fun σ H Q h => ?_
      obtain ⟨r, S, x, r', s, ev, q⟩ := h
      simp only [evE] at ev
      obtain ⟨⟨d, r1⟩, e1, ev⟩ := bind_ok ev
      obtain ⟨⟨ds, r2⟩, e2, ev⟩ := bind_ok ev
      obtain ⟨y, e3, ev⟩ := bind_ok ev
      cases ev
      obtain ⟨a, b, rfl, rfl⟩ := inv_str1 (.inr (.inr (.inl rfl))) e3
      simp only [mtD] at e3
      split at e3
      · rename_i hc
        cases e3
        rw [Bool.and_eq_true, Bool.not_eq_true'] at hc
        refine ⟨r, S, _, r1, s, e1, fun v H1 S1 g1 w1 => ⟨tyV_str w1, r1, S1, _, _, g1.sr, e2, fun vs H2 S2 g2 w2 => ?_⟩⟩
        cases w1
        cases w2 with
        | cons q1 q2 =>
          cases q2
          cases q1
          exact ⟨a, b, rfl, rfl, hc.2, len_of hc.1, fun p hp => q.fin s (g1.trans s g2) (.new g2.sr.wf hp) (.newT g2.sr.wf hp (.cons (.str _) (.cons (.str _) (.cons (.str _) .nil))))⟩
      · cases e3
    | [_], [], _, h => simp only [mEs] at h; cases h
    | [_], _ :: _ :: _, _, h => simp only [mEs, Bool.and_false] at h; cases h
    | [], _, h, _ => cases h
    | _ :: _ :: _, _, h, _ => cases h
  | splt =>
    match es, ps, hf, hes with
    | [e], [q], _, hes =>
      have ns : notStar q = true := by simp only [mEs, Bool.and_eq_true] at hes; exact hes.1.1
      refine pe_imp (pe_bm PySem.F.plainAttrs_str PySem.F.slot_str_split PySem.F.type_str_split mt_split ho (pa_ds G [e] [q] ih hes) (base_ok hb) (few1 ns) hl (star_cons ns) rfl) fun σ H Q h => ?_
      obtain ⟨r, S, x, r', s, ev, q⟩ := h
      simp only [evE] at ev
      obtain ⟨⟨d, r1⟩, e1, ev⟩ := bind_ok ev
      obtain ⟨⟨ds, r2⟩, e2, ev⟩ := bind_ok ev
      obtain ⟨y, e3, ev⟩ := bind_ok ev
      cases ev
      obtain ⟨a, b, rfl, rfl⟩ := inv_str1 (.inr (.inr (.inr rfl))) e3
      simp only [mtD] at e3
      split at e3
      · rename_i hc
        cases e3
        rw [Bool.and_eq_true, Bool.not_eq_true'] at hc
        refine ⟨r, S, _, r1, s, e1, fun v H1 S1 g1 w1 => ⟨tyV_str w1, r1, S1, _, _, g1.sr, e2, fun vs H2 S2 g2 w2 => ?_⟩⟩
        cases w1
        cases w2 with
        | cons q1 q2 =>
          cases q2
          cases q1
          exact ⟨a, b, rfl, rfl, hc.2, len_of hc.1, fun p hp => q.fin s (g1.trans s g2) (.new g2.sr.wf hp) (.new g2.sr.wf hp (rpl_strs0 _))⟩
      · cases e3
    | [_], [], _, h => simp only [mEs] at h; cases h
    | [_], _ :: _ :: _, _, h => simp only [mEs, Bool.and_false] at h; cases h
    | [], _, h, _ => cases h
    | _ :: _ :: _, _, h, _ => cases h
  | lower =>
    match es, ps, hf, hes with
    | [], [], _, _ =>
      refine pe_imp (pe_bm0 PySem.F.plainAttrs_str PySem.F.slot_str_lower PySem.F.type_str_lower mt_lower ho (base_ok hb) hl) fun σ H Q h => ?_
      obtain ⟨r, S, x, r', s, ev, q⟩ := h
      simp only [evE] at ev
      obtain ⟨⟨d, r1⟩, e1, ev⟩ := bind_ok ev
      obtain ⟨⟨ds, r2⟩, e2, ev⟩ := bind_ok ev
      obtain ⟨y, e3, ev⟩ := bind_ok ev
      simp only [evDs] at e2
      cases e2
      cases ev
      refine ⟨r, S, d, r1, s, e1, fun v H1 S1 g1 w1 => ?_⟩
      cases d <;> simp only [mtD] at e3 <;> try (cases e3; done)
      split at e3
      · rename_i hlen
        cases e3
        cases w1
        exact ⟨rfl, _, rfl, rfl, hlen, q.data s g1 (.str _)⟩
      · cases e3
    | [], _ :: _, _, h => simp only [mEs] at h; cases h
    | _ :: _, _, h, _ => cases h
  | index =>
    match es, ps, hf, hes with
    | [e], [q], _, hes =>
      have ns : notStar q = true := by simp only [mEs, Bool.and_eq_true] at hes; exact hes.1.1
      refine pe_imp (pe_bm PySem.F.plainAttrs_list PySem.F.slot_list_index PySem.F.type_list_index mt_index ho (pa_ds G [e] [q] ih hes) (base_ok hb) (few1 ns) hl (star_cons ns) rfl) fun σ H Q h => ?_
      refine mt_parts h (fun d ds x e S1 H1 v w => ?_) fun d ds x e S2 H2 v vs w1 w2 hq => ?_
      · obtain ⟨xs, n, ns, j, rfl, rfl, hn, hj, rfl⟩ := inv_index rfl e
        exact tyV_list w
      · obtain ⟨xs, n, ns, j, rfl, rfl, hn, hj, rfl⟩ := inv_index rfl e
        obtain ⟨a, us, rfl, c1, c2⟩ := (show RB X.K S2 H2 v (.list xs) from .inl w1).lst
        cases c2.ints hn
        obtain ⟨k1, k2⟩ := idxI_some hj
        cases w2 with
        | cons q1 q2 =>
          cases q2
          cases q1
          refine ⟨a, ns.map V.int, .int n, j, .int n, rfl, rfl, c1, rfl, ?_, ?_, ?_, fun m z' hm hz' => ?_, hq _ fun y hy => ?_⟩
          · rw [List.all_map]; exact List.all_eq_true.mpr fun _ _ => rfl
          · rw [List.getElem?_map, k1]; rfl
          · show (n == n) = true
            exact beq_self_eq_true n
          · rw [List.getElem?_map] at hz'
            cases hm2 : ns[m]? with
            | none => rw [hm2] at hz'; cases hz'
            | some w =>
              rw [hm2] at hz'
              cases hz'
              show (w == n) = false
              refine beq_eq_false_iff_ne.mpr fun z => ?_
              subst z
              exact k2 m hm hm2
          · cases hy; exact .int _
    | [_], [], _, h => simp only [mEs] at h; cases h
    | [_], _ :: _ :: _, _, h => simp only [mEs, Bool.and_false] at h; cases h
    | [], _, h, _ => cases h
    | _ :: _ :: _, _, h, _ => cases h
  | count =>
    match es, ps, hf, hes with
    | [e], [q], _, hes =>
      have ns : notStar q = true := by simp only [mEs, Bool.and_eq_true] at hes; exact hes.1.1
      refine pe_imp (pe_bm PySem.F.plainAttrs_list PySem.F.slot_list_count PySem.F.type_list_count mt_lcount ho (pa_ds G [e] [q] ih hes) (base_ok hb) (few1 ns) hl (star_cons ns) rfl) fun σ H Q h => ?_
      refine mt_parts h (fun d ds x e S1 H1 v w => ?_) fun d ds x e S2 H2 v vs w1 w2 hq => ?_
      · obtain ⟨xs, n, ns, rfl, rfl, hn, rfl⟩ := inv_count rfl e
        exact tyV_list w
      · obtain ⟨xs, n, ns, rfl, rfl, hn, rfl⟩ := inv_count rfl e
        obtain ⟨a, us, rfl, c1, c2⟩ := (show RB X.K S2 H2 v (.list xs) from .inl w1).lst
        cases c2.ints hn
        cases w2 with
        | cons q1 q2 =>
          cases q2
          cases q1
          exact ⟨a, ns, n, rfl, rfl, c1, hq _ fun y hy => by cases hy; exact .int _⟩
    | [_], [], _, h => simp only [mEs] at h; cases h
    | [_], _ :: _ :: _, _, h => simp only [mEs, Bool.and_false] at h; cases h
    | [], _, h, _ => cases h
    | _ :: _ :: _, _, h, _ => cases h
  | join =>
    match es, ps, hf, hes with
    | [e], [q], _, hes =>
      have ns : notStar q = true := by simp only [mEs, Bool.and_eq_true] at hes; exact hes.1.1
      refine pe_imp (pe_bm PySem.F.plainAttrs_str PySem.F.slot_str_join PySem.F.type_str_join mt_join ho (pa_ds G [e] [q] ih hes) (base_ok hb) (few1 ns) hl (star_cons ns) rfl) fun σ H Q h => ?_
      refine mt_parts h (fun d ds x e S1 H1 v w => ?_) fun d ds x e S2 H2 v vs w1 w2 hq => ?_
      · obtain ⟨a, d1, xs, ys, rfl, rfl, h1, hn, hj, rfl⟩ := inv_join rfl e
        exact tyV_str w
      · obtain ⟨a, d1, xs, ys, rfl, rfl, h1, hn, hj, rfl⟩ := inv_join rfl e
        cases w1
        cases w2 with
        | cons q1 q2 =>
          cases q2
          have fin : ∀ y, Val.fz (PyData.str (Txt.join a ys)) = .fz y → Rp X.K H2 S2 (.str (Txt.join a ys)) y := fun y hy => by cases hy; exact .str _
          rcases h1 with rfl | rfl
          · obtain ⟨b, us, rfl, c1, c2⟩ := (show RB X.K S2 H2 _ (.list xs) from .inl q1).lst
            cases c2.strs hn
            exact ⟨a, b, ys, rfl, rfl, .inl c1, of_decide_eq_true hj, hq _ fin⟩
          · obtain ⟨b, us, rfl, c1, c2⟩ := (show RB X.K S2 H2 _ (.tuple xs) from .inl q1).tup
            cases c2.strs hn
            exact ⟨a, b, ys, rfl, rfl, .inr c1, of_decide_eq_true hj, hq _ fin⟩
    | [_], [], _, h => simp only [mEs] at h; cases h
    | [_], _ :: _ :: _, _, h => simp only [mEs, Bool.and_false] at h; cases h
    | [], _, h, _ => cases h
    | _ :: _ :: _, _, h, _ => cases h
/-! ### all of them -/
theorem noslice {p : Expr} (h : plainE p = true) : PlainIx p := by
  intro o i
  cases p <;> first | rfl | (exact absurd (show false = true from h) Bool.false_ne_true)
theorem nofold {p : Expr} (h : plainE p = true) (env : PySem.Env) : ∀ x, foldedSetIterable p env x = pure x := by
  intro x
  cases p <;> first | rfl | (exact absurd (show false = true from h) Bool.false_ne_true)
theorem star_of_plain {p : Expr} (h : plainE p = true) : notStar p = true := by
  cases p <;> first | rfl | (exact absurd (show false = true from h) Bool.false_ne_true)
def SndO (C : Ctx) (k : Nat) (o : Option E) : Prop := ∀ (X : Cx) (M : Mat) (p : Option Expr), GX X M C k → mO M o p = true →
  PO X p (fun σ H Q => ∃ r S l r', SR X.K σ H r S ∧ evPart C o r = .ok (l, r') ∧ ∀ H' S', Go X.K σ r S H σ r' S' H' → Q l H')
theorem po_imp {p : Option Expr} {t t' : TO} (h : PO X p t) (kk : ∀ σ H Q, t' σ H Q → t σ H Q) : PO X p t' := ⟨fun pins s σ H Q I q => h.run pins s σ H Q I (kk σ H Q q)⟩
theorem snd_none : SndO C k none := by
  intro X M p G h
  cases p with
  | some _ => simp only [mO] at h; cases h
  | none =>
    refine po_imp po_none fun σ H Q ⟨r, S, l, r', s, ev, q⟩ => ?_
    simp only [evPart] at ev
    cases ev
    exact q H S (.refl s)
theorem snd_some {e : E} (ih : SndE C k e) : SndO C k (some e) := by
  intro X M p G h
  cases p with
  | none => simp only [mO] at h; cases h
  | some p =>
    simp only [mO] at h
    refine po_imp (po_some (pe_opd G h (ih X M p G h).1)) fun σ H Q ⟨r, S, l, r', s, ev, q⟩ => ?_
    simp only [evPart] at ev
    obtain ⟨⟨o, r1⟩, e1, ev⟩ := bind_ok ev
    obtain ⟨d, e2, ev⟩ := bind_ok ev
    refine ⟨r, S, o, r1, s, e1, fun v H1 S1 g w => ?_⟩
    cases d with
    | int i =>
      cases ev
      cases (w.rb g.sr e2).int
      exact ⟨i, rfl, q H1 S1 g⟩
    | _ => cases ev
/-- a walked thing -/
def mSrc (M : Mat) (k : Ik) (es : List E) (iter : Expr) : Bool := match k with
  | .seq => plainE iter && mEs M es [iter]
  | .rng => (match callShape iter with
    | some (x, ps) => glB M.sc x "range" && mEs M es ps
    | none => false)
  | .rev => (match callShape iter with
    | some (x, ps) => glB M.sc x "reversed" && mEs M es ps
    | none => false)
  | .zip => false
theorem snd_src (G : GX X M C k) {ik : Ik} {es : List E} {tg iter : Expr} (ih : SndL C k es) (h : mSrc M ik es iter = true) : PI X tg iter (tI X.K C ik es) ∧ ∀ x, foldedSetIterable iter X.env x = pure x := by
  have bad : (∀ ds xs, ds.length = es.length → itemsD ik ds ≠ .ok xs) → PI X tg iter (tI X.K C ik es) := fun hn => ⟨fun pins s σ H R I ⟨r, S, os, r1, ds, xs, sr, e1, e2, e3, _⟩ => absurd e3 (hn ds xs (by rw [ds_len e2, os_len e1]))⟩
  unfold mSrc at h
  split at h
  · rw [Bool.and_eq_true] at h
    match es, ih, h with
    | [e], ih, h =>
      have h2 := h.2
      simp only [mEs, Bool.and_eq_true] at h2
      exact ⟨pi_seqD (pe_opd G h2.1.2 (ih _ (by simp) X M _ G h2.1.2).1), nofold h.1 _⟩
    | [], _, h => exact absurd h.2 (by simp only [mEs]; decide)
    | _ :: _ :: _, _, h => exact absurd h.2 (by simp only [mEs, Bool.and_false]; decide)
  · split at h
    · rename_i x ps hs
      obtain ⟨pp, pos, rfl⟩ := callShape_some hs
      rw [Bool.and_eq_true] at h
      refine ⟨?_, fun _ => rfl⟩
      have pa := pa_os G es ps ih h.2
      match es, ps, h, pa, bad with
      | [a], [p], h, pa, _ =>
        have h2 := h.2
        simp only [mEs, Bool.and_eq_true] at h2
        exact pi_rng1 G h.1 h2.1.1 pa
      | [a, b], [p, q], h, pa, _ =>
        have h2 := h.2
        simp only [mEs, Bool.and_eq_true] at h2
        exact pi_rng2 G h.1 h2.1.1 h2.2.1.1 pa
      | [], _, h, pa, bad =>
        refine bad fun ds xs hl e => ?_
        match ds, hl with
        | [], _ => cases e
      | [a, b, c], [p, q, u], h, pa, _ =>
        have h2 := h.2
        simp only [mEs, Bool.and_eq_true] at h2
        exact pi_rng3 G h.1 h2.1.1 h2.2.1.1 h2.2.2.1.1 pa
      | a :: b :: c :: d :: es, _, h, pa, bad =>
        refine bad fun ds xs hl e => ?_
        match ds, hl with
        | _ :: _ :: _ :: _ :: _, _ => simp only [itemsD] at e; cases e
      | [_], [], h, _, _ => exact absurd h.2 (by simp only [mEs]; decide)
      | [_], _ :: _ :: _, h, _, _ => exact absurd h.2 (by simp only [mEs, Bool.and_false]; decide)
      | [_, _], [], h, _, _ => exact absurd h.2 (by simp only [mEs]; decide)
      | [_, _], [_], h, _, _ => exact absurd h.2 (by simp only [mEs, Bool.and_false]; decide)
      | [_, _], _ :: _ :: _ :: _, h, _, _ => exact absurd h.2 (by simp only [mEs, Bool.and_false]; decide)
      | [_, _, _], [], h, _, _ => exact absurd h.2 (by simp only [mEs]; decide)
      | [_, _, _], [_], h, _, _ => exact absurd h.2 (by simp only [mEs, Bool.and_false]; decide)
      | [_, _, _], [_, _], h, _, _ => exact absurd h.2 (by simp only [mEs, Bool.and_false]; decide)
      | [_, _, _], _ :: _ :: _ :: _ :: _, h, _, _ => exact absurd h.2 (by simp only [mEs, Bool.and_false]; decide)
    · cases h
  · split at h
    · rename_i x ps hs
      obtain ⟨pp, pos, rfl⟩ := callShape_some hs
      rw [Bool.and_eq_true] at h
      refine ⟨?_, fun _ => rfl⟩
      have pa := pa_os G es ps ih h.2
      match es, ps, h, pa, bad with
      | [a], [p], h, pa, _ =>
        have h2 := h.2
        simp only [mEs, Bool.and_eq_true] at h2
        exact pi_revD G h.1 h2.1.1 pa
      | [], _, h, pa, bad =>
        refine bad fun ds xs hl e => ?_
        match ds, hl with
        | [], _ => cases e
      | a :: b :: es, _, h, pa, bad =>
        refine bad fun ds xs hl e => ?_
        match ds, hl with
        | _ :: _ :: _, _ => simp only [itemsD] at e; cases e
      | [_], [], h, _, _ => exact absurd h.2 (by simp only [mEs]; decide)
      | [_], _ :: _ :: _, h, _, _ => exact absurd h.2 (by simp only [mEs, Bool.and_false]; decide)
    · cases h
  · cases h
def mSrcF (M : Mat) (k : Ik) (es : List E) (tg iter : Expr) : Bool := match k with
  | .zip => isTupE tg && (match callShape iter with
    | some (x, ps) => glB M.sc x "zip" && mEs M es ps
    | none => false)
  | k => mSrc M k es iter
theorem snd_srcF (G : GX X M C k) {ik : Ik} {es : List E} {tg iter : Expr} (ih : SndL C k es) (h : mSrcF M ik es tg iter = true) : PI X tg iter (tI X.K C ik es) ∧ ∀ x, foldedSetIterable iter X.env x = pure x := by
  cases ik with
  | zip =>
    have bad : (∀ ds xs, ds.length = es.length → itemsD .zip ds ≠ .ok xs) → PI X tg iter (tI X.K C .zip es) := fun hn => ⟨fun pins s σ H R I ⟨r, S, os, r1, ds, xs, sr, e1, e2, e3, _⟩ => absurd e3 (hn ds xs (by rw [ds_len e2, os_len e1]))⟩
    unfold mSrcF at h
    rw [Bool.and_eq_true] at h
    obtain ⟨ht, h⟩ := h
    cases tg with
    | Tuple elts kk tpos =>
      split at h
      · rename_i x ps hs
        obtain ⟨pp, pos, rfl⟩ := callShape_some hs
        rw [Bool.and_eq_true] at h
        refine ⟨?_, fun _ => rfl⟩
        have pa := pa_os G es ps ih h.2
        match es, ps, h, pa, bad with
        | [a, b], [p, q], h, pa, _ =>
          have h2 := h.2
          simp only [mEs, Bool.and_eq_true] at h2
          exact pi_zipD G h.1 h2.1.1 h2.2.1.1 pa
        | [], _, h, pa, bad =>
          refine bad fun ds xs hl e => ?_
          match ds, hl with
          | [], _ => cases e
        | [_], _, h, pa, bad =>
          refine bad fun ds xs hl e => ?_
          match ds, hl with
          | [_], _ => simp only [itemsD] at e; cases e
        | _ :: _ :: _ :: _, _, h, pa, bad =>
          refine bad fun ds xs hl e => ?_
          match ds, hl with
          | _ :: _ :: _ :: _, _ => simp only [itemsD] at e; cases e
        | [_, _], [], h, _, _ => exact absurd h.2 (by simp only [mEs]; decide)
        | [_, _], [_], h, _, _ => exact absurd h.2 (by simp only [mEs, Bool.and_false]; decide)
        | [_, _], _ :: _ :: _ :: _, h, _, _ => exact absurd h.2 (by simp only [mEs, Bool.and_false]; decide)
      · cases h
    | _ => exact absurd (show false = true from ht) Bool.false_ne_true
  | seq => exact snd_src G ih h
  | rng => exact snd_src G ih h
  | rev => exact snd_src G ih h
end

section
variable {C : Ctx} {k : Nat}
theorem pe_lock {X : Cx} {e : Expr} {t : TE} (h : PE X e t) : PE X e (fun σ H Q => t σ H fun v H' => ∃ (d : Addr) (u : HO), v = .ref d ∧ H' d = some u ∧ Mut (some u) ∧ ∀ od, Q v (upd H' d (.frz od u))) :=
  ⟨fun pins s σ H Q I q => wpAny_mono (h.run pins s σ H _ I q) (fun u s' ⟨v, H', I', r, d, w, ev, hd, hm, q⟩ => by
    obtain ⟨od, I2⟩ := I'.lock hd hm
    subst ev
    exact ⟨_, _, I2, r, q od⟩) (fun _ _ h => h)⟩
theorem evDs_len {C : Ctx} : ∀ {es : List E} {r r' : Env} {ds : List D}, evDs C es r = .ok (ds, r') → ds.length = es.length
  | [], r, r', ds, h => by simp only [evDs] at h; cases h; rfl
  | e :: es, r, r', ds, h => by
    simp only [evDs] at h
    obtain ⟨⟨d, r1⟩, e1, h⟩ := bind_ok h
    obtain ⟨⟨ds', r2⟩, e2, h⟩ := bind_ok h
    cases h
    simp [evDs_len e2]
theorem pe_lock2 {X : Cx} {e : Expr} {t : TE} (h : PE X e t) : PE X e (fun σ H Q => t σ H fun v H' => Q v H' ∨ ∃ (d : Addr) (u : HO), v = .ref d ∧ H' d = some u ∧ Mut (some u) ∧ ∀ od, Q v (upd H' d (.frz od u))) :=
  ⟨fun pins s σ H Q I q => wpAny_mono (h.run pins s σ H _ I q) (fun u s' ⟨v, H', I', r, q⟩ => by
    rcases q with q | ⟨d, w, ev, hd, hm, q⟩
    · exact ⟨_, _, I', r, q⟩
    · obtain ⟨od, I2⟩ := I'.lock hd hm
      subst ev
      exact ⟨_, _, I2, r, q od⟩) (fun _ _ h => h)⟩
mutual
theorem snd_E : ∀ (e : E), SndE C k e
  | .v i => fun X M p G h => by
    have pe : PE X p (tE X.K C (.v i)) := by
      refine pe_imp (pe_lock2 (pe_slot G h)) fun σ H Q ⟨r, S, x, r', s, ev, q⟩ => ?_
      simp only [evE, take] at ev
      split at ev
      · rename_i d hd
        cases ev
        obtain ⟨v, e, w⟩ := s.fz i d hd
        exact ⟨v, e, .inl (q v H S (.refl s) w)⟩
      · rename_i xs hd
        cases ev
        obtain ⟨a, vs, e, h1, h2, h3⟩ := own_addr s (.inl hd)
        have g := freeze_go s hd e
        obtain ⟨w, e', w'⟩ := g.sr.fz i (.list xs) (List.getElem?_set_self (get_lt hd))
        exact ⟨w, e', .inl (q w H _ g w')⟩
      · rename_i kvs hd
        cases ev
        obtain ⟨v, e, a, vs, rfl, h1, h2, h3⟩ := s.dic i kvs hd
        refine ⟨_, e, .inr ⟨a, _, rfl, h1, trivial, fun od => ?_⟩⟩
        have g := lockd_go (o := od) s hd e h1 h3 h2
        obtain ⟨w, e', w'⟩ := g.sr.fz i (.dict (dictI kvs)) (List.getElem?_set_self (get_lt hd))
        rw [e] at e'
        cases e'
        exact q _ _ _ g w'
      · cases ev
    cases p with
    | Name x pos => exact ⟨pe, pt_of pe fun _ => rfl⟩
    | _ => exact absurd (show false = true from h) Bool.false_ne_true
  | .gl i => fun X M p G h => by
    cases p with
    | Name x pos =>
      simp only [mE, Bool.and_eq_true] at h
      obtain ⟨h1, rfl⟩ := gl_of G h.1
      have pe : PE X (.Name (M.gname i) pos) (tE X.K C (.gl i)) := by
        cases hg : C.gl i with
        | none => exact ⟨fun pins s σ H Q I ⟨r, S, x, r', sr, ev, q⟩ => by simp only [evE] at ev; rw [hg] at ev; cases ev⟩
        | some d =>
          obtain ⟨v, u, h3, h4, h5⟩ := G.gl i d hg
          refine pe_imp (pe_glob h1 h3 h4 (name_of h.2).1) fun σ H Q ⟨r, S, x, r', s, ev, q⟩ => ?_
          simp only [evE] at ev
          rw [hg] at ev
          cases ev
          exact q v H S (.refl s) (h5 H S)
      exact ⟨pe, pt_of pe fun _ => rfl⟩
    | _ => exact absurd (show false = true from h) Bool.false_ne_true
  | .non => fun X M p G h => by
    cases p with
    | Constant c kk pos =>
      cases c with
      | none =>
        have pe : PE X (.Constant .none kk pos) (tE X.K C .non) := pe_imp pe_non fun σ H Q ⟨r, S, x, r', s, ev, q⟩ => by
          simp only [evE] at ev
          cases ev
          exact q _ H S (.refl s) .non
        exact ⟨pe, pt_of pe fun _ => rfl⟩
      | _ => exact absurd (show false = true from h) Bool.false_ne_true
    | _ => exact absurd (show false = true from h) Bool.false_ne_true
  | .bl b => fun X M p G h => by
    cases p with
    | Constant c kk pos =>
      cases c with
      | bool c =>
        simp only [mE] at h
        obtain rfl := of_decide_eq_true h
        have pe : PE X (.Constant (.bool b) kk pos) (tE X.K C (.bl b)) := pe_imp pe_bl fun σ H Q ⟨r, S, x, r', s, ev, q⟩ => by
          simp only [evE] at ev
          cases ev
          exact q _ H S (.refl s) (.bl _)
        exact ⟨pe, pt_of pe fun _ => rfl⟩
      | _ => exact absurd (show false = true from h) Bool.false_ne_true
    | _ => exact absurd (show false = true from h) Bool.false_ne_true
  | .int i => fun X M p G h => by
    cases p with
    | Constant c kk pos =>
      cases c with
      | int j =>
        simp only [mE] at h
        obtain rfl := of_decide_eq_true h
        have pe : PE X (.Constant (.int i) kk pos) (tE X.K C (.int i)) := pe_imp pe_int fun σ H Q ⟨r, S, x, r', s, ev, q⟩ => by
          simp only [evE] at ev
          cases ev
          exact q _ H S (.refl s) (.int _)
        exact ⟨pe, pt_of pe fun _ => rfl⟩
      | _ => exact absurd (show false = true from h) Bool.false_ne_true
    | _ => exact absurd (show false = true from h) Bool.false_ne_true
  | .str z => fun X M p G h => by
    cases p with
    | Constant c kk pos =>
      cases c with
      | str x =>
        simp only [mE] at h
        obtain rfl := of_decide_eq_true h
        have pe : PE X (.Constant (.str (Str.ofString z)) kk pos) (tE X.K C (.str z)) := pe_imp pe_str fun σ H Q ⟨r, S, x, r', s, ev, q⟩ => by
          simp only [evE] at ev
          cases ev
          exact q _ H S (.refl s) (.str _)
        exact ⟨pe, pt_of pe fun _ => rfl⟩
      | _ => exact absurd (show false = true from h) Bool.false_ne_true
    | _ => exact absurd (show false = true from h) Bool.false_ne_true
  | .tup es => fun X M p G h => by
    have ih := snd_L es
    cases p with
    | Tuple ps kk pos =>
      simp only [mE] at h
      have pe : PE X (.Tuple ps kk pos) (tE X.K C (.tup es)) := pe_imp (pe_tup (pa_ds G es ps ih h)) fun σ H Q ⟨r, S, x, r', s, ev, q⟩ => by
        simp only [evE] at ev
        obtain ⟨⟨ds, r1⟩, e1, ev⟩ := bind_ok ev
        dsimp only at ev
        split at ev
        · rename_i hl
          cases ev
          exact ⟨r, S, ds, _, s, e1, fun vs H1 S1 g1 w1 => ⟨by rw [w1.length]; exact len_of hl, fun p hp => q.fin s g1 (.new g1.sr.wf hp) (.newT g1.sr.wf hp w1)⟩⟩
        · cases ev
      exact ⟨pe, pt_of pe fun _ => rfl⟩
    | _ => exact absurd (show false = true from h) Bool.false_ne_true
  | .trr e => fun X M p G h => by
    have ie := snd_E e
    cases p with
    | Call f ps kws pos =>
      cases f with
      | Name x pp =>
        cases kws with
        | nil =>
          simp only [mE, Bool.and_eq_true] at h
          obtain ⟨h1, h⟩ := h
          split at h
          · rename_i z qs hs
            obtain ⟨pz, p2, rfl⟩ := inShape_some hs
            rw [Bool.and_eq_true] at h
            obtain ⟨h2, h⟩ := h
            split at h
            · rename_i u q hs2
              obtain ⟨pu, p3, rfl⟩ := inShape_some hs2
              rw [Bool.and_eq_true, Bool.and_eq_true] at h
              have pe := snd_trr G (pp := pp) (pp2 := pz) (pp3 := pu) (pos := pos) (pos2 := p2) (pos3 := p3) ie h1 h2 h.1 h.2.1 h.2.2
              exact ⟨pe, pt_of pe fun _ => rfl⟩
            · cases h
          · cases h
        | cons _ _ => exact absurd (show false = true from h) Bool.false_ne_true
      | _ => cases kws <;> exact absurd (show false = true from h) Bool.false_ne_true
    | _ => exact absurd (show false = true from h) Bool.false_ne_true
  | .fs es => fun X M p G h => by
    have ih := snd_L es
    cases p with
    | JoinedStr vs pos =>
      simp only [mE, Bool.and_eq_true] at h
      have pe := snd_fs G (pos := pos) ih (of_decide_eq_true h.1) h.2
      exact ⟨pe, pt_of pe fun _ => rfl⟩
    | _ => exact absurd (show false = true from h) Bool.false_ne_true
  | .lst es => fun X M p G h => by
    have ih := snd_L es
    cases p with
    | List ps pos =>
      simp only [mE] at h
      have pe : PE X (.List ps pos) (tE X.K C (.lst es)) := pe_imp (pe_lst (pa_ds G es ps ih h)) fun σ H Q ⟨r, S, x, r', s, ev, q⟩ => by
        simp only [evE] at ev
        obtain ⟨⟨ds, r1⟩, e1, ev⟩ := bind_ok ev
        dsimp only at ev
        split at ev
        · rename_i hl
          cases ev
          exact ⟨r, S, ds, _, s, e1, fun vs H1 S1 g1 w1 => ⟨by rw [w1.length]; exact len_of hl, fun p hp => q.fin s g1 (.new g1.sr.wf hp) (.new g1.sr.wf hp w1)⟩⟩
        · cases ev
      exact ⟨pe, pt_of pe fun _ => rfl⟩
    | _ => exact absurd (show false = true from h) Bool.false_ne_true
  | .dct z a => fun X M p G h => by
    cases a with
    | int i =>
      cases p with
      | Dict ks vs pos =>
        simp only [mE] at h
        split at h
        · rename_i y j hsh
          obtain ⟨k1, p1, k2, p2, rfl, rfl⟩ := dctShape_some hsh
          rw [Bool.and_eq_true] at h
          obtain rfl := of_decide_eq_true h.1
          obtain rfl := of_decide_eq_true h.2
          have pe : PE X (.Dict [some (.Constant (.str (Str.ofString z)) k1 p1)] [.Constant (.int i) k2 p2] pos) (tE X.K C (.dct z (.int i))) := pe_imp (pe_lock (pe_disp (pps_cons pe_str pe_int pps_nil) rfl rfl (fun z => nomatch z) (Nat.le_of_ble_eq_true rfl))) fun σ H Q ⟨r, S, x, r', s, ev, q⟩ => by
            simp only [evE, fixed, ok_bind, Val.fix] at ev
            cases ev
            intro p hp
            refine ⟨upd_same, [(.inr (Str.ofString z), .int i)], rfl, Nat.le_of_ble_eq_true rfl, p, _, rfl, upd_same, trivial, fun od => ?_⟩
            rw [upd_upd, upd_upd]
            exact q.fin s (.refl s) (.new s.wf hp) (.dct upd_same (.cons (.int i) .nil))
          exact ⟨pe, pt_of pe fun _ => rfl⟩
        · cases h
      | _ => exact absurd (show false = true from h) Bool.false_ne_true
    | _ => cases p <;> exact absurd (show false = true from h) Bool.false_ne_true
  | .dct0 => fun X M p G h => by
    cases p with
    | Dict ks vs pos =>
      cases ks with
      | nil =>
        cases vs with
        | nil =>
          have pe : PE X (.Dict [] [] pos) (tE X.K C .dct0) := pe_imp (pe_lock pe_dnewK) fun σ H Q ⟨r, S, x, r', s, ev, q⟩ => by
            simp only [evE] at ev
            cases ev
            intro p hp
            refine ⟨p, .dK [], rfl, upd_same, trivial, fun od => ?_⟩
            rw [upd_upd]
            exact q.fin s (.refl s) (.new s.wf hp) (.dct upd_same .nil)
          exact ⟨pe, pt_of pe fun _ => rfl⟩
        | cons _ _ => exact absurd (show false = true from h) Bool.false_ne_true
      | cons _ _ => exact absurd (show false = true from h) Bool.false_ne_true
    | _ => exact absurd (show false = true from h) Bool.false_ne_true
  | .dsp ks es => fun X M p G h => by
    have ih := snd_L es
    cases p with
    | Dict pks pvs pos =>
      simp only [mE, Bool.and_eq_true] at h
      obtain ⟨⟨⟨⟨⟨⟨h1, h2⟩, h3⟩, h4⟩, h5⟩, h6⟩, h7⟩ := h
      have h2 := of_decide_eq_true h2
      have h3 := of_decide_eq_true h3
      have h4 := of_decide_eq_true h4
      have h5 := of_decide_eq_true h5
      obtain ⟨trs, hp, ht⟩ := pps_ds G (pos := pos) ks es pks pvs ih h1 h2 h7
      have h6 : pks ≠ [] := fun z => by rw [z] at h6; cases h6
      obtain ⟨kl, hall⟩ := dspKeys_all h1
      have pe : PE X (.Dict pks pvs pos) (tE X.K C (.dsp ks es)) := pe_imp (pe_lock (pe_disp hp hall h3 h6 h5)) fun σ H Q ⟨r, S, x, r', s, ev, q⟩ => by
        simp only [evE] at ev
        obtain ⟨⟨ds, r1⟩, e1, ev⟩ := bind_ok ev
        cases ev
        intro p hp0
        have g0 : Go X.K σ r S H σ r S (upd H p (.dK [])) := Go.ext s (.new s.wf hp0)
        refine ht _ _ _ ⟨r, S, ds, _, g0.sr, e1, fun vs H1 S1 g1 w1 => ?_⟩
        obtain ⟨k1, _⟩ := over_go (o := HO.dK []) (o' := HO.dK []) s hp0 trivial g1
        have nd : (((ks.map dkK).zip vs).map (·.1)).Nodup := by
          rw [List.map_fst_zip (by rw [List.length_map, w1.length, evDs_len e1]; omega)]
          exact h4
        have em : mergeK [] ((ks.map dkK).zip vs) = (ks.map dkK).zip vs := mergeK_new (kvs := []) (by simpa using nd)
        refine ⟨k1, (ks.map dkK).zip vs, zipV_map, by rw [List.length_zip, List.length_map]; omega, p, _, rfl, upd_same, trivial, fun od => ?_⟩
        rw [upd_upd, em]
        obtain ⟨_, g2⟩ := over_go (o := HO.dK []) (o' := HO.frz od (.dK ((ks.map dkK).zip vs))) s hp0 trivial g1
        refine q.data s g2 (.dct upd_same ?_)
        have hk : ∀ b u, H1 b = some u → (S1 b ∨ ¬ Mt u) → upd H1 p (.frz od (.dK ((ks.map dkK).zip vs))) b = some u := fun b u e z => by
          rw [upd_ne (fun q => ?_)]
          · exact e
          · subst q
            rcases z with z | z
            · rcases g1.sg b z with z | z | z
              · exact s.wf b z hp0
              · rw [upd_same] at z; cases z
              · obtain ⟨u, e, _⟩ := Own.mt s z
                rw [hp0] at e; cases e
            · rw [k1] at e; cases e; exact z trivial
        exact RpK.mono hk (fun _ h => h) _ _ (rpk_zip w1)
      exact ⟨pe, pt_of pe fun _ => rfl⟩
    | _ => exact absurd (show false = true from h) Bool.false_ne_true
  | .bin op a b => fun X M p G h => by
    have ia := snd_E a
    have ib := snd_E b
    cases p with
    | BinOp pa o pb pos =>
      simp only [mE, Bool.and_eq_true] at h
      obtain rfl := of_decide_eq_true h.1.1
      have pe : PE X (.BinOp pa (opOf op) pb pos) (tE X.K C (.bin op a b)) := pe_imp (pe_op (bin_ok op) (pe_opd G h.1.2 (ia X M pa G h.1.2).1) (pe_opd G h.2 (ib X M pb G h.2).1)) fun σ H Q ⟨r, S, x, r', s, ev, q⟩ => by
        simp only [evE] at ev
        obtain ⟨⟨o1, r1⟩, e1, ev⟩ := bind_ok ev
        obtain ⟨⟨o2, r2⟩, e2, ev⟩ := bind_ok ev
        obtain ⟨d1, e3, ev⟩ := bind_ok ev
        obtain ⟨d2, e4, ev⟩ := bind_ok ev
        obtain ⟨y, e5, ev⟩ := bind_ok ev
        cases ev
        exact ⟨r, S, o1, r1, s, e1, fun v1 H1 S1 g1 w1 => ⟨r1, S1, o2, _, g1.sr, e2, fun v2 H2 S2 g2 w2 => ⟨S2, d1, d2, _, g2.sr.wf, (w1.go g1.sr g2).rb g2.sr e3, w2.rb g2.sr e4, e5, fun v H' S' xx f => q.fin s (g1.trans s g2) xx f⟩⟩⟩
      exact ⟨pe, pt_of pe fun _ => rfl⟩
    | _ => exact absurd (show false = true from h) Bool.false_ne_true
  | .neg a => fun X M p G h => by
    have ia := snd_E a
    cases p with
    | UnaryOp o pa pos =>
      cases o with
      | USub =>
        simp only [mE] at h
        have pe : PE X (.UnaryOp .USub pa pos) (tE X.K C (.neg a)) := pe_imp (pe_un un_neg (pe_opd G h (ia X M pa G h).1)) fun σ H Q ⟨r, S, x, r', s, ev, q⟩ => by
          simp only [evE] at ev
          obtain ⟨⟨o1, r1⟩, e1, ev⟩ := bind_ok ev
          obtain ⟨d1, e3, ev⟩ := bind_ok ev
          refine ⟨r, S, o1, r1, s, e1, fun v1 H1 S1 g1 w1 => ?_⟩
          cases d1 with
          | int i =>
            cases ev
            cases (w1.rb g1.sr e3).int
            exact ⟨i, rfl, q.data s g1 (.int _)⟩
          | _ => cases ev
        exact ⟨pe, pt_of pe fun _ => rfl⟩
      | _ => exact absurd (show false = true from h) Bool.false_ne_true
    | _ => exact absurd (show false = true from h) Bool.false_ne_true
  | .not a => fun X M p G h => by
    have ia := snd_E a
    cases p with
    | UnaryOp o pa pos =>
      cases o with
      | Not =>
        simp only [mE] at h
        obtain ⟨h1, h2⟩ := ia X M pa G h
        refine ⟨pe_imp (pe_notT (pe_x h1)) fun σ H Q ⟨r, S, x, r', s, ev, q⟩ => ?_, pt_imp (pt_not h2) fun σ H Q ⟨r, S, c, r', s, ev, q⟩ => ?_⟩
        · simp only [evE] at ev
          obtain ⟨⟨b, r1⟩, e1, ev⟩ := bind_ok ev
          cases ev
          obtain ⟨d, e2, e3⟩ := tested_ok e1
          exact ⟨r, S, d, _, s, e2, fun v H1 S1 g w => ⟨b, tru_v (.inl w) e3, q.data s g (.bl _)⟩⟩
        · obtain ⟨d, ev, ed⟩ := tested_ok ev
          obtain ⟨x, ev, ex⟩ := fixed_ok ev
          simp only [evE] at ev
          obtain ⟨⟨b, r1⟩, e1, ev⟩ := bind_ok ev
          cases ev
          cases ex
          cases ed
          exact ⟨r, S, b, _, s, e1, fun H1 S1 g => q H1 S1 g⟩
      | _ => exact absurd (show false = true from h) Bool.false_ne_true
    | _ => exact absurd (show false = true from h) Bool.false_ne_true
  | .cmp op a b => fun X M p G h => by
    have ia := snd_E a
    have ib := snd_E b
    cases p with
    | Compare pa os ps pos =>
      match os, ps, h with
      | [o], [pb], h =>
        simp only [mE, Bool.and_eq_true, Bool.not_eq_true'] at h
        obtain rfl := of_decide_eq_true h.1.1.1
        have p1 := pe_opd G h.1.2 (ia X M pa G h.1.2).1
        have p2 := pe_opd G h.2 (ib X M pb G h.2).1
        refine ⟨pe_imp (pe_cmpR (cmp_ok G.hu op) p1 p2 h.1.1.2) fun σ H Q ⟨r, S, x, r', s, ev, q⟩ => ?_, pt_imp (pt_cmpR (cmp_ok G.hu op) p1 p2 h.1.1.2) fun σ H Q ⟨r, S, c, r', s, ev, q⟩ => ?_⟩
        · simp only [evE] at ev
          obtain ⟨⟨o1, r1⟩, e1, ev⟩ := bind_ok ev
          obtain ⟨⟨o2, r2⟩, e2, ev⟩ := bind_ok ev
          obtain ⟨d1, e3, ev⟩ := bind_ok ev
          obtain ⟨d2, e4, ev⟩ := bind_ok ev
          obtain ⟨y, e5, ev⟩ := bind_ok ev
          cases ev
          exact ⟨r, S, o1, r1, s, e1, fun v1 H1 S1 g1 w1 => ⟨r1, S1, o2, _, g1.sr, e2, fun v2 H2 S2 g2 w2 => ⟨S2, d1, d2, y, (w1.go g1.sr g2).rb g2.sr e3, w2.rb g2.sr e4, e5, q.data s (g1.trans s g2) (.bl _)⟩⟩⟩
        · obtain ⟨d, ev, ed⟩ := tested_ok ev
          obtain ⟨x, ev, ex⟩ := fixed_ok ev
          simp only [evE] at ev
          obtain ⟨⟨o1, r1⟩, e1, ev⟩ := bind_ok ev
          obtain ⟨⟨o2, r2⟩, e2, ev⟩ := bind_ok ev
          obtain ⟨d1, e3, ev⟩ := bind_ok ev
          obtain ⟨d2, e4, ev⟩ := bind_ok ev
          obtain ⟨y, e5, ev⟩ := bind_ok ev
          cases ev
          cases ex
          cases ed
          exact ⟨r, S, o1, r1, s, e1, fun v1 H1 S1 g1 w1 => ⟨r1, S1, o2, _, g1.sr, e2, fun v2 H2 S2 g2 w2 => ⟨S2, d1, d2, _, (w1.go g1.sr g2).rb g2.sr e3, w2.rb g2.sr e4, e5, _, rfl, q H2 S2 (g1.trans s g2)⟩⟩⟩
      | [], _, h => exact absurd (show false = true from h) Bool.false_ne_true
      | [_], [], h => exact absurd (show false = true from h) Bool.false_ne_true
      | [_], _ :: _ :: _, h => exact absurd (show false = true from h) Bool.false_ne_true
      | _ :: _ :: _, _, h => exact absurd (show false = true from h) Bool.false_ne_true
    | _ => exact absurd (show false = true from h) Bool.false_ne_true
  | .chain op1 op2 a b c => fun X M p G h => by
    have ia := snd_E a
    have ib := snd_E b
    have ic := snd_E c
    cases p with
    | Compare pa os ps pos =>
      match os, ps, h with
      | [o, o'], [pb, pc], h =>
        simp only [mE, Bool.and_eq_true, Bool.not_eq_true'] at h
        obtain rfl := of_decide_eq_true h.1.1.1.1.1
        obtain rfl := of_decide_eq_true h.1.1.1.1.2
        have p1 := pe_opd G h.1.1.2 (ia X M pa G h.1.1.2).1
        have p2 := pe_opd G h.1.2 (ib X M pb G h.1.2).1
        have p3 := pe_opd G h.2 (ic X M pc G h.2).1
        have key : ∀ σ H (Q : VK), tE X.K C (.chain op1 op2 a b c) σ H Q → tChain (rC X.K (cmpD op1)) (rC X.K (cmpD op2)) (tO X.K C a) (tO X.K C b) (tO X.K C c) σ H Q := fun σ H Q ⟨r, S, x, r', s, ev, q⟩ => by
          simp only [evE] at ev
          obtain ⟨⟨o1, r1⟩, e1, ev⟩ := bind_ok ev
          obtain ⟨⟨o2, r2⟩, e2, ev⟩ := bind_ok ev
          obtain ⟨d1, e3, ev⟩ := bind_ok ev
          obtain ⟨d2, e4, ev⟩ := bind_ok ev
          obtain ⟨y, e5, ev⟩ := bind_ok ev
          refine ⟨r, S, o1, r1, s, e1, fun v1 H1 S1 g1 w1 => ⟨r1, S1, o2, r2, g1.sr, e2, fun v2 H2 S2 g2 w2 => ⟨S2, d1, d2, y, (w1.go g1.sr g2).rb g2.sr e3, w2.rb g2.sr e4, e5, y, rfl, ?_⟩⟩⟩
          have g12 := g1.trans s g2
          cases y with
          | false =>
            rw [if_neg Bool.false_ne_true] at ev ⊢
            cases ev
            exact q.data s g12 (.bl _)
          | true =>
            rw [if_pos rfl] at ev ⊢
            obtain ⟨⟨o3, r3⟩, e6, ev⟩ := bind_ok ev
            obtain ⟨d2', e7, ev⟩ := bind_ok ev
            obtain ⟨d3, e8, ev⟩ := bind_ok ev
            obtain ⟨z, e9, ev⟩ := bind_ok ev
            cases ev
            exact ⟨r2, S2, o3, _, g12.sr, e6, fun v3 H3 S3 g3 w3 => ⟨S3, d2', d3, z, (w2.go g2.sr g3).rb g3.sr e7, w3.rb g3.sr e8, e9, q.data s (g12.trans s g3) (.bl _)⟩⟩
        have pe : PE X (.Compare pa [copOf op1, copOf op2] [pb, pc] pos) (tE X.K C (.chain op1 op2 a b c)) := pe_imp (pe_chain (cmp_ok G.hu op1) (cmp_ok G.hu op2) p1 p2 p3 h.1.1.1.2) key
        refine ⟨pe, pt_imp (pt_chain (cmp_ok G.hu op1) (cmp_ok G.hu op2) p1 p2 p3 h.1.1.1.2) fun σ H Q ⟨r, S, c', r', s, ev, q⟩ => ?_⟩
        obtain ⟨d, ev, ed⟩ := tested_ok ev
        obtain ⟨x, ev0, ex⟩ := fixed_ok ev
        have bool : ∃ z, x = .fz (.bool z) := by
          have ev := ev0
          simp only [evE] at ev
          obtain ⟨⟨o1, r1⟩, e1, ev⟩ := bind_ok ev
          obtain ⟨⟨o2, r2⟩, e2, ev⟩ := bind_ok ev
          obtain ⟨d1, e3, ev⟩ := bind_ok ev
          obtain ⟨d2, e4, ev⟩ := bind_ok ev
          obtain ⟨y, e5, ev⟩ := bind_ok ev
          split at ev
          · obtain ⟨⟨o3, r3⟩, e6, ev⟩ := bind_ok ev
            obtain ⟨d2', e7, ev⟩ := bind_ok ev
            obtain ⟨d3, e8, ev⟩ := bind_ok ev
            obtain ⟨z, e9, ev⟩ := bind_ok ev
            cases ev
            exact ⟨z, rfl⟩
          · cases ev
            exact ⟨false, rfl⟩
        obtain ⟨z, rfl⟩ := bool
        cases ex
        cases ed
        refine key σ H _ ⟨r, S, _, r', s, ev0, fun v H' S' g w => ?_⟩
        cases (show Rp X.K H' S' v (.bool c') from w)
        exact ⟨c', rfl, q H' S' g⟩
      | [], _, h => exact absurd (show false = true from h) Bool.false_ne_true
      | [_], [], h => exact absurd (show false = true from h) Bool.false_ne_true
      | [_], [_], h => exact absurd (show false = true from h) Bool.false_ne_true
      | [_], _ :: _ :: _, h => exact absurd (show false = true from h) Bool.false_ne_true
      | [_, _], [], h => exact absurd (show false = true from h) Bool.false_ne_true
      | [_, _], [_], h => exact absurd (show false = true from h) Bool.false_ne_true
      | [_, _], _ :: _ :: _ :: _, h => exact absurd (show false = true from h) Bool.false_ne_true
      | _ :: _ :: _ :: _, _, h => exact absurd (show false = true from h) Bool.false_ne_true
    | _ => exact absurd (show false = true from h) Bool.false_ne_true
  | .isN a => fun X M p G h => by
    have ia := snd_E a
    cases p with
    | Compare pa os ps pos =>
      match os, ps, h with
      | [o], [pb], h =>
        cases o with
        | Is =>
          cases pb with
          | Constant cc kk ppos =>
            cases cc with
            | none =>
              simp only [mE] at h
              have p1 := pe_opd G h (ia X M pa G h).1
              have key : ∀ σ H (Q : VK), tE X.K C (.isN a) σ H Q → tOp (fun x y H Q => y = .non ∧ Q (.bl (decide (x = .non))) H) (tO X.K C a) (tC .non) σ H Q := fun σ H Q ⟨r, S, x, r', s, ev, q⟩ => by
                simp only [evE] at ev
                obtain ⟨⟨o1, r1⟩, e1, ev⟩ := bind_ok ev
                obtain ⟨d1, e3, ev⟩ := bind_ok ev
                refine ⟨r, S, o1, r1, s, e1, fun v1 H1 S1 g1 w1 => ⟨rfl, ?_⟩⟩
                have b := w1.rb g1.sr e3
                have : x = .fz (.bool (decide (v1 = .non))) ∧ r' = r1 := by
                  cases d1 with
                  | none => cases b.non; cases ev; exact ⟨rfl, rfl⟩
                  | bool _ => cases b.bl; cases ev; exact ⟨rfl, rfl⟩
                  | int _ => cases b.int; cases ev; exact ⟨rfl, rfl⟩
                  | str _ => cases b.str; cases ev; exact ⟨rfl, rfl⟩
                  | list _ => obtain ⟨_, _, rfl, _⟩ := b.lst; cases ev; exact ⟨rfl, rfl⟩
                  | tuple _ => obtain ⟨_, _, rfl, _⟩ := b.tup; cases ev; exact ⟨rfl, rfl⟩
                  | dict _ => obtain ⟨_, _, _, rfl, _⟩ := b.dct; cases ev; exact ⟨rfl, rfl⟩
                obtain ⟨rfl, rfl⟩ := this
                exact q.data s g1 (.bl _)
              have hm : behindInMarks .Is (Expr.Constant .none kk ppos) = false := rfl
              refine ⟨pe_imp (pe_cmpR op_isN p1 pe_non hm) key, pt_imp (pt_cmpR op_isN p1 pe_non hm) fun σ H Q ⟨r, S, c', r', s, ev, q⟩ => ?_⟩
              obtain ⟨d, ev, ed⟩ := tested_ok ev
              obtain ⟨x, ev0, ex⟩ := fixed_ok ev
              have bool : ∃ z, x = .fz (.bool z) := by
                have ev := ev0
                simp only [evE] at ev
                obtain ⟨⟨o1, r1⟩, e1, ev⟩ := bind_ok ev
                obtain ⟨d1, e3, ev⟩ := bind_ok ev
                cases d1 <;> (cases ev; exact ⟨_, rfl⟩)
              obtain ⟨z, rfl⟩ := bool
              cases ex
              cases ed
              refine key σ H _ ⟨r, S, _, r', s, ev0, fun v H' S' g w => ?_⟩
              cases (show Rp X.K H' S' v (.bool c') from w)
              exact ⟨c', rfl, q H' S' g⟩
            | _ => exact absurd (show false = true from h) Bool.false_ne_true
          | _ => exact absurd (show false = true from h) Bool.false_ne_true
        | _ => exact absurd (show false = true from h) Bool.false_ne_true
      | [], _, h => exact absurd (show false = true from h) Bool.false_ne_true
      | [o], [], h => cases o <;> exact absurd (show false = true from h) Bool.false_ne_true
      | [o], pp :: _ :: _, h => cases o <;> first
        | exact absurd (show false = true from h) Bool.false_ne_true
        | (cases pp <;> first
          | exact absurd (show false = true from h) Bool.false_ne_true
          | (rename_i cc _ _; cases cc <;> exact absurd (show false = true from h) Bool.false_ne_true))
      | o :: _ :: _, _, h => cases o <;> exact absurd (show false = true from h) Bool.false_ne_true
    | _ => exact absurd (show false = true from h) Bool.false_ne_true
  | .notN a => fun X M p G h => by
    have ia := snd_E a
    cases p with
    | Compare pa os ps pos =>
      match os, ps, h with
      | [o], [pb], h =>
        cases o with
        | IsNot =>
          cases pb with
          | Constant cc kk ppos =>
            cases cc with
            | none =>
              simp only [mE] at h
              have p1 := pe_opd G h (ia X M pa G h).1
              have key : ∀ σ H (Q : VK), tE X.K C (.notN a) σ H Q → tOp (fun x y H Q => y = .non ∧ Q (.bl (!decide (x = .non))) H) (tO X.K C a) (tC .non) σ H Q := fun σ H Q ⟨r, S, x, r', s, ev, q⟩ => by
                simp only [evE] at ev
                obtain ⟨⟨o1, r1⟩, e1, ev⟩ := bind_ok ev
                obtain ⟨d1, e3, ev⟩ := bind_ok ev
                refine ⟨r, S, o1, r1, s, e1, fun v1 H1 S1 g1 w1 => ⟨rfl, ?_⟩⟩
                have b := w1.rb g1.sr e3
                have : x = .fz (.bool (!decide (v1 = .non))) ∧ r' = r1 := by
                  cases d1 with
                  | none => cases b.non; cases ev; exact ⟨rfl, rfl⟩
                  | bool _ => cases b.bl; cases ev; exact ⟨rfl, rfl⟩
                  | int _ => cases b.int; cases ev; exact ⟨rfl, rfl⟩
                  | str _ => cases b.str; cases ev; exact ⟨rfl, rfl⟩
                  | list _ => obtain ⟨_, _, rfl, _⟩ := b.lst; cases ev; exact ⟨rfl, rfl⟩
                  | tuple _ => obtain ⟨_, _, rfl, _⟩ := b.tup; cases ev; exact ⟨rfl, rfl⟩
                  | dict _ => obtain ⟨_, _, _, rfl, _⟩ := b.dct; cases ev; exact ⟨rfl, rfl⟩
                obtain ⟨rfl, rfl⟩ := this
                exact q.data s g1 (.bl _)
              have hm : behindInMarks .IsNot (Expr.Constant .none kk ppos) = false := rfl
              refine ⟨pe_imp (pe_cmpR op_notN p1 pe_non hm) key, pt_imp (pt_cmpR op_notN p1 pe_non hm) fun σ H Q ⟨r, S, c', r', s, ev, q⟩ => ?_⟩
              obtain ⟨d, ev, ed⟩ := tested_ok ev
              obtain ⟨x, ev0, ex⟩ := fixed_ok ev
              have bool : ∃ z, x = .fz (.bool z) := by
                have ev := ev0
                simp only [evE] at ev
                obtain ⟨⟨o1, r1⟩, e1, ev⟩ := bind_ok ev
                obtain ⟨d1, e3, ev⟩ := bind_ok ev
                cases d1 <;> (cases ev; exact ⟨_, rfl⟩)
              obtain ⟨z, rfl⟩ := bool
              cases ex
              cases ed
              refine key σ H _ ⟨r, S, _, r', s, ev0, fun v H' S' g w => ?_⟩
              cases (show Rp X.K H' S' v (.bool c') from w)
              exact ⟨c', rfl, q H' S' g⟩
            | _ => exact absurd (show false = true from h) Bool.false_ne_true
          | _ => exact absurd (show false = true from h) Bool.false_ne_true
        | _ => exact absurd (show false = true from h) Bool.false_ne_true
      | [], _, h => exact absurd (show false = true from h) Bool.false_ne_true
      | [o], [], h => cases o <;> exact absurd (show false = true from h) Bool.false_ne_true
      | [o], pp :: _ :: _, h => cases o <;> first
        | exact absurd (show false = true from h) Bool.false_ne_true
        | (cases pp <;> first
          | exact absurd (show false = true from h) Bool.false_ne_true
          | (rename_i cc _ _; cases cc <;> exact absurd (show false = true from h) Bool.false_ne_true))
      | o :: _ :: _, _, h => cases o <;> exact absurd (show false = true from h) Bool.false_ne_true
    | _ => exact absurd (show false = true from h) Bool.false_ne_true
  | .and es => fun X M p G h => by
    have ih := snd_L es
    cases p with
    | BoolOp o ps pos =>
      cases o with
      | And =>
        simp only [mE] at h
        by_cases ne : es = []
        · subst ne
          exact ⟨⟨fun pins s σ H Q I ⟨r, S, x, r', sr, ev, q⟩ => by simp only [evE, evAnd] at ev; cases ev⟩, ⟨fun pins s σ H Q I ⟨r, S, x, r', sr, ev, q⟩ => by
            obtain ⟨d, ev, ed⟩ := tested_ok ev
            obtain ⟨x, ev, ex⟩ := fixed_ok ev
            simp only [evE, evAnd] at ev; cases ev⟩⟩
        · exact ⟨pe_imp (pe_andL G es ps pos ih h ne) fun σ H Q ⟨r, S, x, r', s, ev, q⟩ => ⟨r, S, x, r', s, by simpa only [evE] using ev, q⟩,
            pt_imp (pw_andL G es ps pos ih h ne).pt fun σ H Q ⟨r, S, x, r', s, ev, q⟩ => ⟨r, S, x, r', s, by simpa only [evE] using ev, q⟩⟩
      | _ => exact absurd (show false = true from h) Bool.false_ne_true
    | _ => exact absurd (show false = true from h) Bool.false_ne_true
  | .or es => fun X M p G h => by
    have ih := snd_L es
    cases p with
    | BoolOp o ps pos =>
      cases o with
      | Or =>
        simp only [mE] at h
        by_cases ne : es = []
        · subst ne
          exact ⟨⟨fun pins s σ H Q I ⟨r, S, x, r', sr, ev, q⟩ => by simp only [evE, evOr] at ev; cases ev⟩, ⟨fun pins s σ H Q I ⟨r, S, x, r', sr, ev, q⟩ => by
            obtain ⟨d, ev, ed⟩ := tested_ok ev
            obtain ⟨x, ev, ex⟩ := fixed_ok ev
            simp only [evE, evOr] at ev; cases ev⟩⟩
        · exact ⟨pe_imp (pe_orL G es ps pos ih h ne) fun σ H Q ⟨r, S, x, r', s, ev, q⟩ => ⟨r, S, x, r', s, by simpa only [evE] using ev, q⟩,
            pt_imp (pw_orL G es ps pos ih h ne).pt fun σ H Q ⟨r, S, x, r', s, ev, q⟩ => ⟨r, S, x, r', s, by simpa only [evE] using ev, q⟩⟩
      | _ => exact absurd (show false = true from h) Bool.false_ne_true
    | _ => exact absurd (show false = true from h) Bool.false_ne_true
  | .ite c a b => fun X M p G h => by
    have ic := snd_E c
    have ia := snd_E a
    have ib := snd_E b
    cases p with
    | IfExp pc pa pb pos =>
      simp only [mE, Bool.and_eq_true] at h
      obtain ⟨_, c2⟩ := ic X M pc G h.1.1
      obtain ⟨a1, a2⟩ := ia X M pa G h.1.2
      obtain ⟨b1, b2⟩ := ib X M pb G h.2
      refine ⟨pe_imp (pe_ifExp c2 a1 b1) fun σ H Q ⟨r, S, x, r', s, ev, q⟩ => ?_, pt_imp (pt_ifExp c2 a2 b2) fun σ H Q ⟨r, S, z, r', s, ev, q⟩ => ?_⟩
      · simp only [evE] at ev
        obtain ⟨⟨y, r1⟩, e1, ev⟩ := bind_ok ev
        refine ⟨r, S, y, r1, s, e1, fun H1 S1 g1 => ?_⟩
        cases y with
        | true =>
          rw [if_pos rfl] at ev ⊢
          exact ⟨r1, S1, x, r', g1.sr, ev, q.go s g1⟩
        | false =>
          rw [if_neg Bool.false_ne_true] at ev ⊢
          exact ⟨r1, S1, x, r', g1.sr, ev, q.go s g1⟩
      · obtain ⟨d, ev, ed⟩ := tested_ok ev
        obtain ⟨x, ev, ex⟩ := fixed_ok ev
        simp only [evE] at ev
        obtain ⟨⟨y, r1⟩, e1, ev⟩ := bind_ok ev
        have fx : ∀ {e : E}, evE C e r1 = .ok (x, r') → tested (fixed (evE C e r1)) = .ok (z, r') := fun he => by
          refine tested_mk (d := d) ?_ ed
          unfold fixed
          rw [he]
          simp only [ok_bind]
          rw [ex]
          rfl
        refine ⟨r, S, y, r1, s, e1, fun H1 S1 g1 => ?_⟩
        cases y with
        | true =>
          rw [if_pos rfl] at ev ⊢
          exact ⟨r1, S1, z, r', g1.sr, fx ev, fun H' S' g => q H' S' (g1.trans s g)⟩
        | false =>
          rw [if_neg Bool.false_ne_true] at ev ⊢
          exact ⟨r1, S1, z, r', g1.sr, fx ev, fun H' S' g => q H' S' (g1.trans s g)⟩
    | _ => exact absurd (show false = true from h) Bool.false_ne_true
  | .idx a i => fun X M p G h => by
    have ia := snd_E a
    have ib := snd_E i
    cases p with
    | Subscript pa pb pos =>
      have h' : (plainE pb && mE M a pa && mE M i pb) = true := by
        cases pb <;> exact h
      simp only [Bool.and_eq_true] at h'
      have p1 := pe_opd G h'.1.2 (ia X M pa G h'.1.2).1
      have p2 := pe_opd G h'.2 (ib X M pb G h'.2).1
      have pe : PE X (.Subscript pa pb pos) (tE X.K C (.idx a i)) := pe_imp (pe_ix (ix_ok (Nat.lt_of_le_of_lt (Nat.add_le_add_left (by decide : 1 ≤ 64) _) G.room.units)) p1 p2 (noslice h'.1.1)) fun σ H Q ⟨r, S, x, r', s, ev, q⟩ => by
        simp only [evE] at ev
        obtain ⟨⟨o1, r1⟩, e1, ev⟩ := bind_ok ev
        obtain ⟨⟨o2, r2⟩, e2, ev⟩ := bind_ok ev
        obtain ⟨d1, e3, ev⟩ := bind_ok ev
        obtain ⟨d2, e4, ev⟩ := bind_ok ev
        obtain ⟨y, e5, ev⟩ := bind_ok ev
        cases ev
        exact ⟨r, S, o1, r1, s, e1, fun v1 H1 S1 g1 w1 => ⟨r1, S1, o2, _, g1.sr, e2, fun v2 H2 S2 g2 w2 => ⟨S2, d1, d2, _, (w1.go g1.sr g2).rb g2.sr e3, w2.rb g2.sr e4, e5, fun v w => q.data s (g1.trans s g2) w⟩⟩⟩
      exact ⟨pe, pt_of pe fun _ => rfl⟩
    | _ => exact absurd (show false = true from h) Bool.false_ne_true
  | .slc a lo hi => fun X M p G h => by
    have ia := snd_E a
    have il := snd_P lo
    have ih := snd_P hi
    cases p with
    | Subscript pa pb pos =>
      cases pb with
      | Slice l u st spos =>
        cases st with
        | none =>
          simp only [mE, Bool.and_eq_true] at h
          have p1 := pe_opd G h.1.1 (ia X M pa G h.1.1).1
          have pe : PE X (.Subscript pa (.Slice l u none spos) pos) (tE X.K C (.slc a lo hi)) := pe_imp (pe_slice sl_ok p1 (il X M l G h.1.2) (ih X M u G h.2)) fun σ H Q ⟨r, S, x, r', s, ev, q⟩ => by
            simp only [evE] at ev
            obtain ⟨⟨o1, r1⟩, e1, ev⟩ := bind_ok ev
            obtain ⟨⟨lv, r2⟩, e2, ev⟩ := bind_ok ev
            obtain ⟨⟨hv, r3⟩, e3, ev⟩ := bind_ok ev
            obtain ⟨d, e4, ev⟩ := bind_ok ev
            obtain ⟨y, e5, ev⟩ := bind_ok ev
            cases ev
            refine ⟨r, S, o1, r1, s, e1, fun v1 H1 S1 g1 w1 => ⟨r1, S1, lv, r2, g1.sr, e2, fun H2 S2 g2 => ⟨r2, S2, hv, _, g2.sr, e3, fun H3 S3 g3 => ⟨S3, d, _, g3.sr.wf, ((w1.go g1.sr g2).go g2.sr g3).rb g3.sr e4, e5, fun v H' S' xx f => ?_⟩⟩⟩⟩
            exact q.fin s ((g1.trans s g2).trans s g3) xx f
          exact ⟨pe, pt_of pe fun _ => rfl⟩
        | some _ => exact absurd (show false = true from h) Bool.false_ne_true
      | _ => exact absurd (show false = true from h) Bool.false_ne_true
    | _ => exact absurd (show false = true from h) Bool.false_ne_true
  | .call f es => fun X M p G h => by
    have ih := snd_L es
    cases p with
    | Call pf ps kws pos =>
      cases pf with
      | Name x pp =>
        have pe := snd_call (pp := pp) (pos := pos) G ih h
        exact ⟨pe, pt_of pe fun _ => rfl⟩
      | _ => exact absurd (show false = true from h) Bool.false_ne_true
    | _ => exact absurd (show false = true from h) Bool.false_ne_true
  | .callB f es => fun X M p G h => by
    have ih := snd_L es
    cases p with
    | Call pf ps kws pos =>
      cases pf with
      | Name x pp =>
        cases kws with
        | nil =>
          simp only [mE, Bool.and_eq_true] at h
          have ne : ps ≠ [] := fun z => by rw [z] at h; exact absurd h.2 (by decide)
          have pe := snd_callB (pp := pp) (pos := pos) G ih (Option.isNone_iff_eq_none.mp h.1.1.1.1) h.1.1.1.2 h.1.1.2 h.1.2 ne
          exact ⟨pe, pt_of pe fun _ => rfl⟩
        | cons _ _ => exact absurd (show false = true from h) Bool.false_ne_true
      | _ => exact absurd (show false = true from h) Bool.false_ne_true
    | _ => exact absurd (show false = true from h) Bool.false_ne_true
  | .bi b es => fun X M p G h => by
    have ih := snd_L es
    cases p with
    | Call pf ps kws pos =>
      cases pf with
      | Name x pp =>
        cases kws with
        | nil =>
          have pe := snd_bi (pp := pp) (pos := pos) G ih h
          exact ⟨pe, pt_of pe fun _ => rfl⟩
        | cons _ _ => exact absurd (show false = true from h) Bool.false_ne_true
      | _ => exact absurd (show false = true from h) Bool.false_ne_true
    | Subscript p q pos =>
      have h' : (isSrev b && revShape q && mEs M es [p]) = true := by simpa only [mE] using h
      rw [Bool.and_eq_true, Bool.and_eq_true] at h'
      cases b with
      | srev =>
        have pe := pe_srev (pos := pos) G ih h'.1.2 h'.2
        exact ⟨pe, pt_of pe fun _ => rfl⟩
      | _ => exact absurd h'.1.1 (by decide)
    | _ => exact absurd (show false = true from h) Bool.false_ne_true
  | .dget i ke => fun X M p G h => by
    have ik := snd_E ke
    cases p with
    | Subscript pa pb pos =>
      cases pa with
      | Name x px =>
        have h' : (plainE pb && (decide (M.N[i]? = some x) && visB M.sc x && nameOk x) && mE M ke pb) = true := by
          cases pb <;> exact h
        rw [Bool.and_eq_true, Bool.and_eq_true] at h'
        have pe := snd_dget (px := px) (pos := pos) G ik h'.1.1 h'.1.2 h'.2
        exact ⟨pe, pt_of pe fun _ => rfl⟩
      | _ => exact absurd (show false = true from by cases pb <;> exact h) Bool.false_ne_true
    | _ => exact absurd (show false = true from h) Bool.false_ne_true
  | .popl i => fun X M p G h => by
    cases p with
    | Call f ps kws cpos =>
      cases f with
      | Attribute pa z apos =>
        cases pa with
        | Name x px =>
          cases ps with
          | nil =>
            cases kws with
            | nil =>
              simp only [mE] at h
              rw [Bool.and_eq_true, Bool.and_eq_true] at h
              obtain rfl := of_decide_eq_true h.1.1
              have pe := snd_popl (px := px) (C := C) G h.1.2 h.2
              exact ⟨pe, pt_of pe fun _ => rfl⟩
            | cons _ _ => exact absurd (show false = true from h) Bool.false_ne_true
          | cons _ _ => exact absurd (show false = true from h) Bool.false_ne_true
        | _ => exact absurd (show false = true from h) Bool.false_ne_true
      | _ => exact absurd (show false = true from h) Bool.false_ne_true
    | _ => exact absurd (show false = true from h) Bool.false_ne_true
  | .popa i e => fun X M p G h => by
    have ie := snd_E e
    cases p with
    | Call f ps kws cpos =>
      cases f with
      | Attribute pa z apos =>
        cases pa with
        | Name x px =>
          match ps, kws, h with
          | [p], [], h =>
            simp only [mE] at h
            rw [Bool.and_eq_true, Bool.and_eq_true, Bool.and_eq_true, Bool.and_eq_true] at h
            obtain rfl := of_decide_eq_true h.1.1.1.1
            have pe := snd_popa (px := px) (C := C) G ie h.1.1.1.2 h.1.1.2 h.1.2 h.2
            exact ⟨pe, pt_of pe fun _ => rfl⟩
          | [], _, h => exact absurd (show false = true from h) Bool.false_ne_true
          | [_], _ :: _, h => exact absurd (show false = true from h) Bool.false_ne_true
          | _ :: _ :: _, _, h => exact absurd (show false = true from h) Bool.false_ne_true
        | _ => exact absurd (show false = true from h) Bool.false_ne_true
      | _ => exact absurd (show false = true from h) Bool.false_ne_true
    | _ => exact absurd (show false = true from h) Bool.false_ne_true
  | .mt m a es => fun X M p G h => by
    have ia := snd_E a
    have ih := snd_L es
    cases p with
    | Call pf ps kws pos =>
      cases pf with
      | Attribute pa z apos =>
        cases kws with
        | nil =>
          simp only [mE, Bool.and_eq_true, decide_eq_true_eq] at h
          obtain ⟨⟨⟨⟨⟨h1, h2⟩, h3⟩, h4⟩, h5⟩, h6⟩ := h
          have pe := snd_mt (cpos := pos) G ia ih h1 h2 h3 h4 h5 h6
          exact ⟨pe, pt_of pe fun _ => rfl⟩
        | cons _ _ => exact absurd (show false = true from h) Bool.false_ne_true
      | _ => exact absurd (show false = true from h) Bool.false_ne_true
    | _ => exact absurd (show false = true from h) Bool.false_ne_true
  | .isi a t => fun X M p G h => by
    have ia := snd_E a
    cases p with
    | Call f ps kws pos =>
      simp only [mE] at h
      split at h
      · rename_i x pa y hs
        obtain ⟨pp, py, rfl, rfl, rfl⟩ := isiShape_some hs
        simp only [Bool.and_eq_true] at h
        obtain ⟨hx, rfl⟩ := gl_of G h.1.1.1
        obtain ⟨hy, rfl⟩ := gl_of G h.1.1.2
        have p1 := pe_opd G h.2 (ia X M pa G h.2).1
        have p2 : PE X (.Name (tyName t) py) (tC (.ty (tyName t))) := by
          cases t <;> exact pe_bltn hy (G.bn _ (by decide +kernel)) (show bootBuiltins _ = some (.type _) by decide +kernel) rfl (by decide +kernel) (by decide +kernel)
        have pe : PE X (.Call (.Name "isinstance" pp) [pa, .Name (tyName t) py] [] pos) (tE X.K C (.isi a t)) := by
          refine pe_imp (pe_callB call_isD hx (G.bn _ (by decide +kernel)) (by decide +kernel) (pa_cons p1 (pa_cons p2 pa_nil) (star_cons h.1.2)) (by decide +kernel) (by decide +kernel) (star_cons h.1.2) (by rfl)) fun σ H Q ⟨r, S, z, r', s, ev, q⟩ => ?_
          simp only [evE] at ev
          obtain ⟨⟨o1, r1⟩, e1, ev⟩ := bind_ok ev
          obtain ⟨d1, e3, ev⟩ := bind_ok ev
          cases ev
          exact ⟨r, S, o1, _, s, e1, fun v1 H1 S1 g1 w1 => ⟨S1, d1, v1, t, rfl, w1.rb g1.sr e3, q.data s g1 (.bl _)⟩⟩
        exact ⟨pe, pt_of pe fun _ => rfl⟩
      · cases h
    | _ => exact absurd (show false = true from h) Bool.false_ne_true
  | .lc hid t ik es c elt => fun X M p G h => by
    have i1 := snd_L es
    have i2 := snd_L c
    have i3 := snd_E elt
    cases p with
    | ListComp pelt gens scope pos =>
      simp only [mE] at h
      split at h
      · rename_i tg iter ifs hs
        obtain rfl := lcShape_some hs
        rw [Bool.and_eq_true, Bool.and_eq_true, Bool.and_eq_true, Bool.and_eq_true] at h
        obtain ⟨⟨⟨⟨h1, h2⟩, h3⟩, h4⟩, h5⟩ := h
        have src := snd_srcF (tg := tg) G i1 (show mSrcF M ik es tg iter = true by cases ik <;> exact h1)
        have pe : PE X (.ListComp pelt [⟨tg, iter, ifs, 0⟩] scope pos) (tE X.K C (.lc hid t ik es c elt)) :=
          pe_imp (snd_lc (hid := hid) G src.1 src.2 h2 h3 h4 h5 i2 i3).1 fun σ H Q hq => lc_imp hq
        exact ⟨pe, pt_of pe fun _ => rfl⟩
      · cases h
    | _ => exact absurd (show false = true from h) Bool.false_ne_true
  | .fl2 i0 i1 e elt => fun X M p G h => by
    have i1' := snd_E e
    have i3 := snd_E elt
    cases p with
    | ListComp pelt gens scope pos =>
      simp only [mE] at h
      split at h
      · rename_i tg iter tg1 iter1 hs
        obtain rfl := lc2Shape_some hs
        rw [Bool.and_eq_true, Bool.and_eq_true, Bool.and_eq_true, Bool.and_eq_true, Bool.and_eq_true, Bool.and_eq_true, Bool.and_eq_true] at h
        obtain ⟨⟨⟨⟨⟨⟨h1, h2⟩, h3⟩, h4⟩, h5, h6⟩, h7⟩, h8⟩ := h
        have pe : PE X (.ListComp pelt [⟨tg, iter, [], 0⟩, ⟨tg1, iter1, [], 0⟩] scope pos) (tE X.K C (.fl2 i0 i1 e elt)) :=
          pe_imp (snd_fl2 G (pi_seqD (pe_opd G h2 (i1' X M _ G h2).1)) (nofold h1 _) h3 h4 h5 h6 h7 h8 i3) fun σ H Q hq => fl2_imp hq
        exact ⟨pe, pt_of pe fun _ => rfl⟩
      · cases h
    | _ => exact absurd (show false = true from h) Bool.false_ne_true
theorem snd_L : ∀ (es : List E), SndL C k es
  | [] => fun e he => by cases he
  | e :: es => fun e' he => by
    have i1 := snd_E e
    have i2 := snd_L es
    rcases List.mem_cons.mp he with h | h
    · rw [h]; exact i1
    · exact i2 e' h
theorem snd_P : ∀ (o : Option E), SndO C k o
  | none => snd_none
  | some e => snd_some (snd_E e)
end
end
end DL

set_option Elab.async false
set_option linter.all false
set_option maxRecDepth 100000
set_option maxHeartbeats 4000000
set_option autoImplicit false
/-! DL12: statements. -/
namespace DL
open PySem PySem.Spec PyProof.Rows L2

/-! ### the match -/
def isLc : E → Bool
  | .lc .. => true
  | _ => false
def notComp : Expr → Bool
  | .ListComp .. => false
  | .SetComp .. => false
  | .DictComp .. => false
  | _ => true
def notTup : Expr → Bool
  | .Tuple .. => false
  | _ => true
/-- how y = [..] is stored -/
def lcAsg (sc : Scope) (y : Str) (py : Pos) : Expr → Bool
  | .ListComp _ _ scope pos => (match sc.names.lookup y with
    | some .local => py.line == pos.line && !(scope.names.any fun (n, k) => n == y && (k == .local || k == .cell))
    | _ => false)
  | _ => false
def methShape : Expr → Option (Str × Str × Pos × Pos × List Expr)
  | .Call (.Attribute (.Name x _) m apos) ps [] cpos => some (x, m, apos, cpos, ps)
  | _ => none
def asgShape : List Expr → Option (Str × Pos)
  | [.Name x p] => some (x, p)
  | _ => none
def tupShape : List Expr → Option (List Expr)
  | [.Tuple es _ _] => some es
  | _ => none
def subShape : List Expr → Option (Str × Expr)
  | [.Subscript (.Name x _) i _] => some (x, i)
  | _ => none
def slotB (M : Mat) (i : Nat) (x : Str) : Bool := decide (M.N[i]? = some x) && visB M.sc x && nameOk x
/-- a call by its name -/
def callB (M : Mat) (f : Nat) (es : List E) (p : Expr) : Bool := match callShape p with
  | some (x, ps) => glB M.sc x (M.fname f) && nameOk x && (M.kwd f).isNone && !es.isEmpty && mEs M es ps
  | none => false
def raiseShape : Stmt → Option (Str × Expr)
  | .Raise (some (.Call (.Name x _) [p] [] _)) none _ => some (x, p)
  | _ => none
theorem raiseShape_some {st : Stmt} {x : Str} {p : Expr} (h : raiseShape st = some (x, p)) : ∃ pp cp pos, st = .Raise (some (.Call (.Name x pp) [p] [] cp)) none pos := by
  unfold raiseShape at h
  split at h
  · cases h; exact ⟨_, _, _, rfl⟩
  · cases h
/-- try: return p / except x as n: return y(m) -/
def toldShape : Stmt → Option (Expr × Str × Str × Str × Str)
  | .Try [.Return (some p) _] [.ExceptHandler (some (.Name x _)) (some n) [.Return (some (.Call (.Name y _) [.Name m _] [] _)) _] _] [] [] _ => some (p, x, n, y, m)
  | _ => none
theorem toldShape_some {st : Stmt} {p : Expr} {x n y m : Str} (h : toldShape st = some (p, x, n, y, m)) :
    ∃ p1 p2 p3 p4 p5 p6 p7 p8, st = .Try [.Return (some p) p1] [.ExceptHandler (some (.Name x p2)) (some n) [.Return (some (.Call (.Name y p3) [.Name m p4] [] p5)) p6] p7] [] [] p8 := by
  unfold toldShape at h
  split at h
  · cases h; exact ⟨_, _, _, _, _, _, _, _, rfl⟩
  · cases h
def locL (M : Mat) (x : Str) : Bool := match M.sc.names.lookup x with
  | some .local => true
  | _ => false
mutual
def mS (M : Mat) : S → Stmt → Bool
  | .asg i e, .Assign ts p _ => (match asgShape ts with
    | some (x, px) => decide (M.N[i]? = some x) && locB M x && mE M e p && (notComp p || isLc e)
    | none => false)
  | .asgT tt e, .Assign ts p _ => (match tupShape ts with
    | some es => mTs M tt es && mE M e p && notTup p
    | none => false)
  | .sto i kk e, .Assign ts p _ => (match subShape ts with
    | some (x, pi) => slotB M i x && mE M kk pi && plainE pi && mE M e p && notComp p
    | none => false)
  | .dnew i, .Assign ts (.Dict [] [] _) _ => (match asgShape ts with
    | some (x, _) => decide (M.N[i]? = some x) && locB M x
    | none => false)
  | .dsto i kk e, .Assign ts p _ => (match subShape ts with
    | some (x, pi) => slotB M i x && mE M kk pi && plainE pi && mE M e p && notComp p
    | none => false)
  | .dmv i j, .Assign ts (.Name y _) _ => (match asgShape ts with
    | some (x, _) => decide (M.N[i]? = some x) && locB M x && slotB M j y
    | none => false)
  | .aug i op e, .AugAssign (.Name x _) o p _ => decide (M.N[i]? = some x) && locB M x && decide (o = opOf op) && mE M e p
  | .augS i .add kk e, .AugAssign (.Subscript (.Name x _) pi _) .Add p _ => slotB M i x && mE M kk pi && plainE pi && mE M e p
  | .augS i .sub kk e, .AugAssign (.Subscript (.Name x _) pi _) .Sub p _ => slotB M i x && mE M kk pi && plainE pi && mE M e p
  | .app i e, .Expr pe _ => (match methShape pe with
    | some (x, m, apos, cpos, ps) => decide (m = "append") && slotB M i x && mEs M [e] ps && (apos.endLine == cpos.line)
    | none => false)
  | .ext i e, .Expr pe _ => (match methShape pe with
    | some (x, m, apos, cpos, ps) => decide (m = "extend") && slotB M i x && mEs M [e] ps && (apos.endLine == cpos.line)
    | none => false)
  | .ifs c a b, .If pc pa pb _ => mE M c pc && mSs M a pa && mSs M b pb
  | .for hid t ik es body, .For tg iter pb [] _ => mSrcF M ik es tg iter && mT M t tg && mSs M body pb
  | .whl c body, .While pc pb [] _ => mE M c pc && mSs M body pb
  | .ret e, .Return (some p) _ => mE M e p
  | .retN, .Return none _ => true
  | .brk, .Break _ => true
  | .cont, .Continue _ => true
  | .pass, .Pass _ => true
  | .tryB body, .Try pb (_ :: _) [] [] _ => mSs M body pb
  | .expr e, .Expr p _ => mE M e p && notComp p
  | .never, _ => true
  | .raise c e, p => (match raiseShape p with
    | some (x, q) => glB M.sc x (cnm c) && nameOk x && notStar q && mE M e q
    | none => false)
  | .xs (.asg i) f es, .Assign ts p _ => (match asgShape ts with
    | some (x, _) => decide (M.N[i]? = some x) && locB M x && callB M f es p
    | none => false)
  | .xs (.asgT tt) f es, .Assign ts p _ => (match tupShape ts with
    | some gs => mTs M tt gs && callB M f es p
    | none => false)
  | .xs .ret f es, .Return (some p) _ => callB M f es p
  | .told i f es, p => (match toldShape p with
    | some (q, x, n, y, m) => callB M f es q && glB M.sc x "PortError" && decide (M.N[i]? = some n) && locL M n && glB M.sc y "_law_error" && decide (m = n) && nameOk n
    | none => false)
  | _, _ => false
def mSs (M : Mat) : List S → List Stmt → Bool
  | [], [] => true
  | s :: ss, p :: ps => mS M s p && mSs M ss ps
  | _, _ => false
end
theorem methShape_some {e : Expr} {x m : Str} {apos cpos : Pos} {ps : List Expr} (h : methShape e = some (x, m, apos, cpos, ps)) : ∃ px, e = .Call (.Attribute (.Name x px) m apos) ps [] cpos := by
  unfold methShape at h
  split at h
  · cases h; exact ⟨_, rfl⟩
  · cases h
theorem asgShape_some {e : List Expr} {x : Str} {p : Pos} (h : asgShape e = some (x, p)) : e = [.Name x p] := by
  unfold asgShape at h
  split at h
  · cases h; rfl
  · cases h
theorem tupShape_some {e es : List Expr} (h : tupShape e = some es) : ∃ k p, e = [.Tuple es k p] := by
  unfold tupShape at h
  split at h
  · cases h; exact ⟨_, _, rfl⟩
  · cases h
theorem subShape_some {e : List Expr} {x : Str} {i : Expr} (h : subShape e = some (x, i)) : ∃ px p, e = [.Subscript (.Name x px) i p] := by
  unfold subShape at h
  split at h
  · cases h; exact ⟨_, _, rfl⟩
  · cases h

/-! ### readings -/
/-- the value that is handed back -/
def RetOk (K : PySem.W.Frag) (H0 : Hp) (σ : Slots) (r0 : Env) (S : Addr → Prop) (H : Hp) (x : V) (v : Val) (r' : Env) : Prop :=
  (r' = r0 ∧ RN K H0 σ r0 S H x v) ∨ ∃ (i : Nat) (xs : List D), r0[i]? = some (.ow xs) ∧ σ[i]? = some (some x) ∧ v = .ow xs ∧ r' = r0.set i .em
/-- to a state at which a value is handed back -/
structure GoR (K : PySem.W.Frag) (σ : Slots) (r : Env) (S : Addr → Prop) (H : Hp) (σ' : Slots) (r' : Env) (S' : Addr → Prop) (H' : Hp) : Prop where
  sr : SR K σ' H' r' S'
  fr : ∀ b o, H b = some o → ¬ Own σ r b → H' b = some o
  dm : ∀ b, H b ≠ none → H' b ≠ none
  ss : ∀ b, S b → S' b
  sg : ∀ b, S' b → S b ∨ H b = none ∨ Own σ r b
  ow : ∀ b, Own σ' r' b → Own σ r b ∨ H b = none
  io : ∀ (i : Nat) (xs : List D), r[i]? = some (.io xs) → σ'[i]? = σ[i]? ∧ ∃ ys, r'[i]? = some (.io ys)
  ln : r'.length = r.length
theorem Go.r {K : PySem.W.Frag} {σ σ' : Slots} {r r' : Env} {S S' : Addr → Prop} {H H' : Hp} (g : Go K σ r S H σ' r' S' H') : GoR K σ r S H σ' r' S' H' := ⟨g.sr, g.fr, g.dm, g.ss, g.sg, g.ow, g.io, g.ln⟩
theorem Go.transR {K : PySem.W.Frag} {σ σ1 σ2 : Slots} {r r1 r2 : Env} {S S1 S2 : Addr → Prop} {H H1 H2 : Hp} (s : SR K σ H r S) (a : Go K σ r S H σ1 r1 S1 H1) (b : GoR K σ1 r1 S1 H1 σ2 r2 S2 H2) : GoR K σ r S H σ2 r2 S2 H2 where
  sr := b.sr
  fr := fun c o h n => b.fr c o (a.fr c o h n) fun z => by
    rcases a.ow c z with z | z
    · exact n z
    · rw [h] at z; cases z
  dm := fun c h => b.dm c (a.dm c h)
  ss := fun c h => b.ss c (a.ss c h)
  sg := fun c h => by
    rcases b.sg c h with h | h | h
    · exact a.sg c h
    · refine .inr (.inl ?_)
      cases e : H c with
      | none => rfl
      | some o => exact absurd h (a.dm c (by rw [e]; intro z; cases z))
    · rcases a.ow c h with h | h
      · exact .inr (.inr h)
      · exact .inr (.inl h)
  ow := fun c h => by
    rcases b.ow c h with h | h
    · exact a.ow c h
    · refine .inr ?_
      cases e : H c with
      | none => rfl
      | some o => exact absurd h (a.dm c (by rw [e]; intro z; cases z))
  io := fun i xs h => by
    obtain ⟨e1, ys, e2⟩ := a.io i xs h
    obtain ⟨e3, zs, e4⟩ := b.io i ys e2
    exact ⟨e3.trans e1, zs, e4⟩
  ln := b.ln.trans a.ln
theorem GoR.unmask {K : PySem.W.Frag} {σ σ' : Slots} {r r' : Env} {S S' : Addr → Prop} {H H' : Hp} {is : List Nat} (nio : noIo is r = true) (g : GoR K σ (wipeE is r) S H σ' r' S' H') : GoR K σ r S H σ' r' S' H' where
  sr := g.sr
  fr := fun b o e n => g.fr b o e fun z => n (own_wipe z)
  dm := g.dm
  ss := g.ss
  sg := fun b hb => by
    rcases g.sg b hb with z | z | z
    · exact .inl z
    · exact .inr (.inl z)
    · exact .inr (.inr (own_wipe z))
  ow := fun b hb => (g.ow b hb).imp (fun z => (own_wipe z)) id
  io := fun i xs h => by
    have m : i ∉ is := fun m => by
      have := List.all_eq_true.mp nio i m
      simp [isIo, h] at this
    exact g.io i xs (by rw [wipe_out m]; exact h)
  ln := by rw [g.ln, wipe_length]
abbrev VX := Exn → Slots → Hp → Prop
def FE (K : PySem.W.Frag) (wx : VX) (σ : Slots) (r : Env) (S : Addr → Prop) (H : Hp) (f : Flow) (D : Ends) : Prop := match f with
  | .nx r' => ∀ σ' H' S', Go K σ r S H σ' r' S' H' → D.nx σ' H'
  | .bk r' => ∀ σ' H' S', Go K σ r S H σ' r' S' H' → D.bk σ' H'
  | .ct r' => ∀ σ' H' S', Go K σ r S H σ' r' S' H' → D.ct σ' H'
  | .rt v r' => ∀ x σ' r0 H' S', GoR K σ r S H σ' r0 S' H' → RetOk K H σ' r0 S' H' x v r' → D.rt x H'
  | .xc e => ∀ σ' r0 H' S', GoR K σ r S H σ' r0 S' H' → wx e σ' H'
theorem RetOk.older {K : PySem.W.Frag} {H0 H1 : Hp} {σ : Slots} {r0 r' : Env} {S : Addr → Prop} {H : Hp} {x : V} {v : Val} (d : ∀ b, H0 b ≠ none → H1 b ≠ none) (h : RetOk K H1 σ r0 S H x v r') : RetOk K H0 σ r0 S H x v r' := by
  rcases h with ⟨e, h⟩ | h
  · exact .inl ⟨e, h.older d⟩
  · exact .inr h
theorem FE.go {K : PySem.W.Frag} {wx : VX} {σ σ1 : Slots} {r r1 : Env} {S S1 : Addr → Prop} {H H1 : Hp} {f : Flow} {D : Ends} (s : SR K σ H r S) (g : Go K σ r S H σ1 r1 S1 H1) (h : FE K wx σ r S H f D) : FE K wx σ1 r1 S1 H1 f D := by
  cases f with
  | nx r' => exact fun σ' H' S' g' => h σ' H' S' (g.trans s g')
  | bk r' => exact fun σ' H' S' g' => h σ' H' S' (g.trans s g')
  | ct r' => exact fun σ' H' S' g' => h σ' H' S' (g.trans s g')
  | rt v r' => exact fun x σ' r0 H' S' g' ok => h x σ' r0 H' S' (g.transR s g') (ok.older g.dm)
  | xc e => exact fun σ' r0 H' S' g' => h σ' r0 H' S' (g.transR s g')
def tS (K : PySem.W.Frag) (wx : VX) (C : Ctx) (st : S) : TS := fun D σ H => ∃ r S f, SR K σ H r S ∧ exS C st r = .ok f ∧ FE K wx σ r S H f D
def tSs (K : PySem.W.Frag) (wx : VX) (C : Ctx) (st : List S) : TS := fun D σ H => ∃ r S f, SR K σ H r S ∧ exSs C st r = .ok f ∧ FE K wx σ r S H f D
section
variable {X : Cx}
theorem ps_imp {st : Stmt} {t t' : TS} (h : PS X st t) (k : ∀ D σ H, t' D σ H → t D σ H) : PS X st t' := ⟨fun pins s σ H D I q => h.run pins s σ H D I (k D σ H q)⟩
theorem pss_imp {st : List Stmt} {t t' : TS} (h : PSs X st t) (k : ∀ D σ H, t' D σ H → t D σ H) : PSs X st t' := ⟨fun pins s σ H D I q => h.run pins s σ H D I (k D σ H q)⟩
end
/-- what leaves by an error -/
structure SX (X : Cx) (wx : VX) : Prop where
  hp : PassesOwn (model X.prog X.w) X.A X.env X.xe
  tk : Takes X (fun cls d σ H => ∃ e, XR X.mg e cls d ∧ wx e σ H)
  st : X.stack = X.env :: X.outer
  fr : X.env.frame = some X.env.locals
def SndS (C : Ctx) (k : Nat) (s : S) : Prop := ∀ (X : Cx) (M : Mat) (p : Stmt) (wx : VX), GX X M C k → SX X wx → mS M s p = true → PS X p (tS X.K wx C s)
def SndSs (C : Ctx) (k : Nat) (ss : List S) : Prop := ∀ (X : Cx) (M : Mat) (ps : List Stmt) (wx : VX), GX X M C k → SX X wx → mSs M ss ps = true → PSs X ps (tSs X.K wx C ss)

section
variable {X : Cx} {M : Mat} {C : Ctx} {k : Nat} {wx : VX}
theorem swaps_plain {p : Expr} {t : Option Expr} {l : Nat} {env : PySem.Env} (h : notComp p = true) : swapsWith p t l env = pure false := by
  cases p <;> first | rfl | (exact absurd (show false = true from h) Bool.false_ne_true)
theorem lc_plain {elt : Expr} {gens : List Comprehension} {scope : Scope} {cpos py : Pos} {y : Str} {l : Nat} {env : PySem.Env} (h : lcAsg env.scope y py (.ListComp elt gens scope cpos) = false) : swapsWith (.ListComp elt gens scope cpos) (some (.Name y py)) l env = pure false := by
  show (pure (env.blockKind == .function && env.kindOf y == some .local && py.line == cpos.line && !(scope.names.any fun (n, k) => n == y && (k == .local || k == .cell))) : Sem Bool) = pure false
  congr 1
  simp only [lcAsg] at h
  split at h
  · rw [Bool.and_assoc, h, Bool.and_false]
  · rename_i hn
    have : (env.kindOf y == some .local) = false := by
      cases hk : env.scope.names.lookup y with
      | none => show (env.scope.names.lookup y == some .local) = false; rw [hk]; rfl
      | some q =>
        show (env.scope.names.lookup y == some .local) = false
        rw [hk]
        cases q <;> first | rfl | exact absurd hk (hn ·)
    rw [this, Bool.and_false, Bool.false_and, Bool.false_and]
theorem snd_asg (G : GX X M C k) {i : Nat} {e : E} {x : Str} {px pos : Pos} {p : Expr} (ie : SndE C k e) (hi : M.N[i]? = some x) (hl : locB M x = true) (he : mE M e p = true) (hs : (notComp p || isLc e) = true)
    (il : ∀ hid t ik es c elt, e = .lc hid t ik es c elt → SndL C k es ∧ SndL C k c ∧ SndE C k elt) :
    PS X (.Assign [.Name x px] p pos) (tS X.K wx C (.asg i e)) := by
  obtain ⟨l1, l2⟩ := loc_of G hl
  have fin : ∀ DD σ H, tS X.K wx C (.asg i e) DD σ H → tAsg (tE X.K C e) (gName i) DD σ H := fun DD σ H ⟨r, S, f, s, ev, q⟩ => by
    simp only [exS] at ev
    obtain ⟨⟨y, r1⟩, e1, ev⟩ := bind_ok ev
    obtain ⟨r2, e2, ev⟩ := bind_ok ev
    cases ev
    refine ⟨r, S, y, r1, s, e1, fun v H1 S1 g w => ?_⟩
    obtain ⟨rfl, z, hz, hn⟩ := put_ok e2
    exact q _ _ _ (put_go g w hz hn)
  by_cases hc : notComp p = true
  · exact ps_imp (ps_set G.nd (by rw [G.hN]; exact hi) l1 (ie X M p G he).1 (swaps_plain hc) l2) fin
  · have hs2 : isLc e = true := by
      rw [Bool.or_eq_true] at hs
      exact hs.resolve_left hc
    cases e with
    | lc hid t ik es c elt =>
      cases p with
      | ListComp pelt gens scope cpos =>
        by_cases h6 : lcAsg M.sc x px (.ListComp pelt gens scope cpos) = true
        case neg =>
          refine ps_imp (ps_set G.nd (by rw [G.hN]; exact hi) l1 (ie X M _ G he).1 (lc_plain ?_) l2) fin
          rw [G.sc]
          exact Bool.eq_false_iff.mpr h6
        obtain ⟨i1, i2, i3⟩ := il _ _ _ _ _ _ rfl
        have he' := he
        simp only [mE] at he'
        split at he'
        · rename_i tg iter ifs hsh
          obtain rfl := lcShape_some hsh
          rw [Bool.and_eq_true, Bool.and_eq_true, Bool.and_eq_true, Bool.and_eq_true] at he'
          obtain ⟨⟨⟨⟨h1, h2⟩, h3⟩, h4⟩, h5⟩ := he'
          have src := snd_srcF (tg := tg) G i1 (show mSrcF M ik es tg iter = true by cases ik <;> exact h1)
          simp only [lcAsg] at h6
          split at h6
          · rename_i hloc
            rw [Bool.and_eq_true, Bool.not_eq_true'] at h6
            refine ps_imp ((snd_lc (hid := hid) G src.1 src.2 h2 h3 h4 h5 i2 i3).2 (by rw [G.hN]; exact hi) (by rw [G.sc]; exact hloc) h6.1 h6.2) fun DD σ H h => ?_
            exact lc_imp (hid := hid) (fin DD σ H h)
          · cases h6
        · cases he'
      | _ => simp only [mE] at he; first | exact absurd he Bool.false_ne_true | exact absurd rfl hc
    | _ => exact absurd (show false = true from hs2) Bool.false_ne_true
theorem snd_asgT (G : GX X M C k) {ts : List Tgt} {e : E} {es : List Expr} {kk : Nat} {tp pos : Pos} {p : Expr} (ie : SndE C k e) (ht : mTs M ts es = true) (he : mE M e p = true) (hp : notTup p = true) :
    PS X (.Assign [.Tuple es kk tp] p pos) (tS X.K wx C (.asgT ts e)) := by
  have hg : PG X (.Tuple es kk tp) (gB X.K (.many ts)) := pg_t (M := M) G.calm G.nd G.hN (fun x hx => loc_of G hx) (.many ts) _ (by simp only [mT]; exact ht)
  have h1 : swapsWithSole [.Tuple es kk tp] p pos.line X.env = pure false := by cases p <;> rfl
  have h2 : swappedStores [.Tuple es kk tp] p X.env = pure none := by
    cases p <;> first | rfl | (exact absurd (show false = true from hp) Bool.false_ne_true)
  refine ps_imp (ps_asg (pe_opd G he (ie X M p G he).1) hg h1 h2 rfl) fun DD σ H ⟨r, S, f, s, ev, q⟩ => ?_
  simp only [exS] at ev
  obtain ⟨⟨o, r1⟩, e1, ev⟩ := bind_ok ev
  obtain ⟨d, e2, ev⟩ := bind_ok ev
  obtain ⟨r2, e3, ev⟩ := bind_ok ev
  cases ev
  refine ⟨r, S, o, r1, s, e1, fun v H1 S1 g w => ⟨r1, S1, d, r2, g.sr, ?_, e3, fun σ' g' _ => q _ _ _ (g.trans s g')⟩⟩
  cases d with
  | tuple ds =>
    obtain ⟨a, vs, rfl, h1, h2⟩ := (w.rb g.sr e2).tup
    exact .tup h1 h2
  | _ => simp only [bindT] at e3; cases e3
theorem RpL.ixN {K : PySem.W.Frag} {H : Hp} {S : Addr → Prop} {vs : List V} {xs : List D} {n : Int} {j : Nat} (h : RpL K H S vs xs) (e : L2.ixN xs.length n = some j) : L2.ixN vs.length n = some j := by rw [h.length]; exact e
theorem list_slot {K : PySem.W.Frag} {H : Hp} {S : Addr → Prop} {σ : Slots} {r : Env} {i : Nat} (s : SR K σ H r S) (h : isList r i = true) : ∃ v, σ[i]? = some (some v) := by
  unfold isList at h
  split at h
  · rename_i xs hx
    obtain ⟨v, e, _⟩ := s.lone i xs (.inr hx)
    exact ⟨v, e⟩
  · rename_i xs hx
    obtain ⟨v, e, _⟩ := s.lone i xs (.inl hx)
    exact ⟨v, e⟩
  · cases h
theorem slot_vis (G : GX X M C k) {i : Nat} {x : Str} {pos : Pos} (h : slotB M i x = true) : PE X (.Name x pos) (tVar i) := pe_slot G (show mE M (.v i) (.Name x pos) = true by simp only [mE]; exact h)
theorem snd_sto (G : GX X M C k) {i : Nat} {kk e : E} {x : Str} {px sp pos : Pos} {pi p : Expr} (ik : SndE C k kk) (ie : SndE C k e) (hx : slotB M i x = true) (hk : mE M kk pi = true) (hpl : plainE pi = true) (he : mE M e p = true) (hc : notComp p = true) :
    PS X (.Assign [.Subscript (.Name x px) pi sp] p pos) (tS X.K wx C (.sto i kk e)) := by
  have hg : PG X (.Subscript (.Name x px) pi sp) (gSub (tVar i) (tO X.K C kk) rSetL) := by
    refine pg_sub (slot_vis G hx) (pe_opd G hk (ik X M pi G hk).1) set_list ?_
    intro v
    cases pi <;> first | rfl | (exact absurd (show false = true from hpl) Bool.false_ne_true)
  have h2 : swappedStores [.Subscript (.Name x px) pi sp] p X.env = pure none := by cases p <;> rfl
  have h1 : swapsWithSole [.Subscript (.Name x px) pi sp] p pos.line X.env = pure false := by cases p <;> first | rfl | (exact absurd (show false = true from hc) Bool.false_ne_true)
  refine ps_imp (ps_asg (pe_x (ie X M p G he).1) hg h1 h2 rfl) fun DD σ H ⟨r, S, f, s, ev, q⟩ => ?_
  simp only [exS] at ev
  obtain ⟨⟨d, r1⟩, e1, ev⟩ := bind_ok ev
  dsimp only at ev
  split at ev
  · cases ev
  rename_i hil
  obtain ⟨⟨o, r2⟩, e2, ev⟩ := bind_ok ev
  obtain ⟨d2, e3, ev⟩ := bind_ok ev
  refine ⟨r, S, d, r1, s, e1, fun v H1 S1 g1 w1 => ?_⟩
  -- the slot holds a list at the end, at the same address
  have key : ∃ (n : Int) (xs : List D) (j : Nat) (x' : Val), d2 = .int n ∧ L2.ixN xs.length n = some j ∧ f = .nx (r2.set i x') ∧ ((r2[i]? = some (.ow xs) ∧ x' = .ow (xs.set j d)) ∨ (r2[i]? = some (.io xs) ∧ x' = .io (xs.set j d))) := by
    cases d2 with
    | int n =>
      dsimp only at ev
      split at ev
      · rename_i xs hxs
        split at ev
        · rename_i j hj
          cases ev
          exact ⟨n, xs, j, _, rfl, hj, rfl, .inl ⟨hxs, rfl⟩⟩
        · cases ev
      · rename_i xs hxs
        split at ev
        · rename_i j hj
          cases ev
          exact ⟨n, xs, j, _, rfl, hj, rfl, .inr ⟨hxs, rfl⟩⟩
        · cases ev
      · cases ev
    | _ => cases ev
  obtain ⟨n, xs, j, x', rfl, hj, rfl, hr⟩ := key
  obtain ⟨v0, hv0⟩ := list_slot g1.sr (by simpa using hil)
  refine ⟨v0, hv0, r1, S1, o, r2, g1.sr, e2, fun v2 H2 S2 g2 w2 => ?_⟩
  obtain ⟨a, vs, ea, h1, h2, h3⟩ := own_addr g2.sr (hr.imp (·.1) (·.1))
  rw [hv0] at ea
  cases ea
  cases (w2.rb g2.sr e3).int
  refine ⟨a, vs, n, j, rfl, rfl, h1, h3.ixN hj, ?_⟩
  exact q _ _ _ ((g1.trans s g2).trans s (upd_go g2.sr hr hv0 (h3.set (g2.rp g1.sr w1) j)))
theorem get_list : PGet X (rIxL X.K) := by
  intro pins s σ H x y v u Q I rx ry h
  obtain ⟨p, xs, i, z, rfl, rfl, hq, he, q⟩ := h
  cases rx
  obtain ⟨t, rfl⟩ := ry
  obtain ⟨its, r, pl, hz⟩ := I.list hq
  obtain ⟨j, h1, h2, h3, h4, h5⟩ := atI_get he
  obtain ⟨w, ew, rw'⟩ := r.get h2
  have hl := r.length
  have hn := line63
  have fin : EP X pins σ Q w s := ⟨z, H, I, rw', q⟩
  by_cases h0 : 0 ≤ i
  · have hj : i.toNat = j := by
      rw [seqIndex_of h0 h5] at h1
      exact Option.some.inj h1
    exact wpAny_getItem_list pl.isList h0 (by omega) (by rw [hj]; simpa using ew) fin
  · have hj : (i + (its.toArray.size : Int)).toNat = j := by
      rw [seqIndex_neg (by omega) h4] at h1
      rw [List.size_toArray, ← hl]
      exact Option.some.inj h1
    exact wpAny_getItem_list_neg pl.isList (by omega) (by rw [List.size_toArray] <;> omega) (by omega) (by rw [hj]; simpa using ew) fin
theorem stoX_ok {i : Nat} {n : Int} {d : D} {r r3 : Env} (h : stoX i n d r = .ok r3) : ∃ (xs : List D) (j : Nat) (x' : Val), L2.ixN xs.length n = some j ∧ r3 = r.set i x' ∧ ((r[i]? = some (.ow xs) ∧ x' = .ow (xs.set j d)) ∨ (r[i]? = some (.io xs) ∧ x' = .io (xs.set j d))) := by
  unfold stoX at h
  split at h
  · rename_i xs hxs
    split at h
    · rename_i j hj
      cases h
      exact ⟨xs, j, _, hj, rfl, .inl ⟨hxs, rfl⟩⟩
    · cases h
  · rename_i xs hxs
    split at h
    · rename_i j hj
      cases h
      exact ⟨xs, j, _, hj, rfl, .inr ⟨hxs, rfl⟩⟩
    · cases h
  · cases h
theorem getX_ok {i : Nat} {q : D} {r : Env} {a : Int} (h : getX i q r = .ok a) : ∃ (n : Int) (xs : List D), q = .int n ∧ (r[i]? = some (.ow xs) ∨ r[i]? = some (.io xs)) ∧ atL xs n = some (.int a) := by
  have key : ∀ {xs : List D} {n : Int}, intAt xs n = .ok a → atL xs n = some (.int a) := fun {xs n} e => by
    unfold intAt at e
    split at e
    · rename_i b hb
      cases e
      exact hb
    · cases e
  unfold getX at h
  cases q with
  | int n =>
    dsimp only at h
    split at h
    · rename_i xs hxs
      exact ⟨n, xs, rfl, .inl hxs, key h⟩
    · rename_i xs hxs
      exact ⟨n, xs, rfl, .inr hxs, key h⟩
    · cases h
  | _ => cases h
theorem RpL.atInt {K : PySem.W.Frag} {H : Hp} {S : Addr → Prop} {vs : List V} {xs : List D} {n a : Int} (h : RpL K H S vs xs) (e : atL xs n = some (.int a)) : L2.atI vs n = some (.int a) := by
  unfold atL L2.atI at e
  unfold L2.atI
  rw [h.length]
  cases hj : L2.ixN xs.length n with
  | none => rw [hj] at e; cases e
  | some j =>
    rw [hj] at e
    have e : xs[j]? = some (.int a) := e
    obtain ⟨v, hv, rv⟩ := h.get e
    show vs[j]? = some (.int a)
    rw [hv, RB.int (.inl rv)]
theorem snd_augS (G : GX X M C k) {i : Nat} {op : Bop} {o : Operator} {f : Int → Int → Int} {kk e : E} {x : Str} {px sp pos : Pos} {pi p : Expr} (hop : PIp X o (ipI f)) (hf : ∀ n a b r, setX i (.int n) op a (.int b) r = stoX i n (.int (f a b)) r) (hg : ∀ q a d r r3, setX i q op a d r = .ok r3 → ∃ b, d = .int b)
    (ik : SndE C k kk) (ie : SndE C k e) (hx : slotB M i x = true) (hk : mE M kk pi = true) (hpl : plainE pi = true) (he : mE M e p = true) :
    PS X (.AugAssign (.Subscript (.Name x px) pi sp) o p pos) (tS X.K wx C (.augS i op kk e)) := by
  refine ps_imp (ps_augS (slot_vis G hx) (pe_x (ik X M pi G hk).1) get_list (pe_x (ie X M p G he).1) hop set_list (ha := by intro ov iv new; cases pi <;> first | rfl | (exact absurd (show false = true from hpl) Bool.false_ne_true))) fun DD σ H ⟨r, S, fl, s, ev, q⟩ => ?_
  simp only [exS] at ev
  split at ev
  · cases ev
  rename_i hil
  obtain ⟨⟨d1, r1⟩, e1, ev⟩ := bind_ok ev
  obtain ⟨a, e2, ev⟩ := bind_ok ev
  obtain ⟨⟨d2, r2⟩, e3, ev⟩ := bind_ok ev
  obtain ⟨r3, e4, ev⟩ := bind_ok ev
  cases ev
  obtain ⟨n, xs, rfl, hr1, hat⟩ := getX_ok e2
  obtain ⟨b, rfl⟩ := hg _ _ _ _ _ e4
  dsimp only at e4
  rw [hf] at e4
  obtain ⟨ys, j, x', hj, rfl, hr2⟩ := stoX_ok e4
  obtain ⟨v0, hv0⟩ := list_slot s (by simpa using hil)
  refine ⟨v0, hv0, r, S, .int n, r1, s, e1, fun v H1 S1 g1 w1 => ?_⟩
  cases RB.int (.inl w1)
  obtain ⟨a0, vs, ea, h1, h3⟩ := lst_slot g1.sr hr1
  rw [hv0] at ea
  cases ea
  refine ⟨a0, vs, n, .int a, rfl, rfl, SqL.of h1, h3.atInt hat, r1, S1, .int b, r2, g1.sr, e3, fun v2 H2 S2 g2 w2 => ?_⟩
  cases RB.int (.inl w2)
  obtain ⟨a1, ws, ea, k1, k3⟩ := lst_slot g2.sr (hr2.imp (·.1) (·.1))
  rw [hv0] at ea
  cases ea
  refine ⟨a, b, rfl, rfl, _, ws, n, j, rfl, rfl, k1, ?_, ?_⟩
  · rw [k3.length]; exact hj
  · exact q _ _ _ ((g1.trans s g2).trans s (upd_go g2.sr hr2 hv0 (k3.set (.int _) j)))
theorem RpI.put {K : PySem.W.Frag} {H : Hp} {S : Addr → Prop} {n : Int} {v : V} {d : D} (hv : Rp K H S v d) {vs : List (Key × V)} {ds : List (Int × D)} (h : RpI K H S vs ds) : RpI K H S (putK vs (.inl n) v) (putI ds n d) := by
  have any : ∀ {vs : List (Key × V)} {ds : List (Int × D)}, RpI K H S vs ds → (vs.any fun kv => decide (kv.1 = (.inl n : Key))) = ds.any fun p => decide (p.1 = n) := by
    intro vs ds h
    induction h with
    | nil => rfl
    | cons h t ih =>
      rw [List.any_cons, List.any_cons, ih]
      congr 1
      simp
  have map : ∀ {vs : List (Key × V)} {ds : List (Int × D)}, RpI K H S vs ds → RpI K H S (vs.map fun kv => if kv.1 = (.inl n : Key) then (kv.1, v) else kv) (ds.map fun p => if p.1 = n then (p.1, d) else p) := by
    intro vs ds h
    induction h with
    | nil => exact .nil
    | @cons i w vs e ds h t ih =>
      rw [List.map_cons, List.map_cons]
      by_cases c : i = n
      · rw [if_pos c, if_pos (by rw [c])]
        exact .cons hv ih
      · rw [if_neg c, if_neg (fun z => c (by simpa using z))]
        exact .cons h ih
  have app : ∀ {vs : List (Key × V)} {ds : List (Int × D)}, RpI K H S vs ds → RpI K H S (vs ++ [(.inl n, v)]) (ds ++ [(n, d)]) := by
    intro vs ds h
    induction h with
    | nil => exact .cons hv .nil
    | cons h t ih => exact .cons h ih
  unfold putK putI
  rw [any h]
  by_cases c : (ds.any fun p => decide (p.1 = n)) = true
  · rw [if_pos c, if_pos c]
    exact map h
  · rw [if_neg c, if_neg c]
    exact app h
theorem snd_dnew (G : GX X M C k) {i : Nat} {x : Str} {px dp pos : Pos} (hi : M.N[i]? = some x) (hl : locB M x = true) : PS X (.Assign [.Name x px] (.Dict [] [] dp) pos) (tS X.K wx C (.dnew i)) := by
  obtain ⟨l1, l2⟩ := loc_of G hl
  refine ps_imp (ps_set G.nd (by rw [G.hN]; exact hi) l1 pe_dnewK (swaps_plain rfl) l2) fun DD σ H ⟨r, S, f, s, ev, q⟩ => ?_
  simp only [exS] at ev
  obtain ⟨r2, e2, ev⟩ := bind_ok ev
  cases ev
  obtain ⟨rfl, z, hz, hn⟩ := put_ok e2
  intro p hp
  have x1 : Ext S H S (upd H p (.dK [])) := Ext.new s.wf hp
  refine q _ _ _ (putd_go (.ext s x1) (.inr hp) upd_same (fun z => s.wf p z hp) (fun z => ?_) .nil hz hn)
  obtain ⟨o, h1, h2, h3⟩ := Own.mt s z
  rw [hp] at h1; cases h1
theorem snd_dmv (G : GX X M C k) {i j : Nat} {x y : Str} {px yp pos : Pos} (hi : M.N[i]? = some x) (hl : locB M x = true) (hy : slotB M j y = true) : PS X (.Assign [.Name x px] (.Name y yp) pos) (tS X.K wx C (.dmv i j)) := by
  obtain ⟨l1, l2⟩ := loc_of G hl
  refine ps_imp (ps_set G.nd (by rw [G.hN]; exact hi) l1 (slot_vis G hy) (swaps_plain rfl) l2) fun DD σ H ⟨r, S, f, s, ev, q⟩ => ?_
  simp only [exS] at ev
  split at ev
  · cases ev
  rename_i hij
  split at ev
  · rename_i kvs hkv
    obtain ⟨r2, e2, ev⟩ := bind_ok ev
    cases ev
    obtain ⟨rfl, z, hz, hn⟩ := put_ok e2
    obtain ⟨v, e, a, vs, rfl, h1, h2, h3⟩ := s.dic j kvs hkv
    refine ⟨_, e, ?_⟩
    obtain ⟨g1, n1⟩ := drop_go s hkv e
    have hz' : (r.set j .un)[i]? = some z := by rw [List.getElem?_set_ne (Ne.symm hij)]; exact hz
    have g2 := putd_go g1 (.inl (.inr ⟨j, kvs, hkv, e⟩)) h1 h2 n1 h3 hz' hn
    have g3 : Go X.K σ r S H (σ.set i (some (.ref a))) ((r.set i (.od kvs)).set j .un) S H := by rw [List.set_comm _ _ hij]; exact g2
    exact q _ _ _ g3
  · cases ev
theorem snd_dsto (G : GX X M C k) {i : Nat} {kk e : E} {x : Str} {px sp pos : Pos} {pi p : Expr} (ik : SndE C k kk) (ie : SndE C k e) (hx : slotB M i x = true) (hk : mE M kk pi = true) (hpl : plainE pi = true) (he : mE M e p = true) (hc : notComp p = true) :
    PS X (.Assign [.Subscript (.Name x px) pi sp] p pos) (tS X.K wx C (.dsto i kk e)) := by
  have hsw : swapsWith p (some (.Subscript (.Name x px) pi sp)) pos.line X.env = pure false := by cases p <;> first | rfl | (exact absurd (show false = true from hc) Bool.false_ne_true)
  refine ps_imp (ps_dput (by have := G.hu; omega) (slot_vis G hx) (pe_opd G hk (ik X M pi G hk).1) (pe_x (ie X M p G he).1) hsw) fun DD σ H ⟨r, S, f, s, ev, q⟩ => ?_
  simp only [exS] at ev
  obtain ⟨⟨d, r1⟩, e1, ev⟩ := bind_ok ev
  dsimp only at ev
  split at ev
  · cases ev
  rename_i hod
  obtain ⟨⟨o, r2⟩, e2, ev⟩ := bind_ok ev
  obtain ⟨d2, e3, ev⟩ := bind_ok ev
  refine ⟨r, S, d, r1, s, e1, fun v H1 S1 g1 w1 => ?_⟩
  have key : ∃ n kvs, d2 = .int n ∧ r2[i]? = some (.od kvs) ∧ kvs.length < 16777216 ∧ f = .nx (r2.set i (.od (putI kvs n d))) := by
    cases d2 with
    | int n =>
      dsimp only at ev
      split at ev
      · rename_i kvs hkv
        split at ev
        · rename_i hlt
          cases ev
          exact ⟨n, kvs, rfl, hkv, of_decide_eq_true hlt, rfl⟩
        · cases ev
      · cases ev
    | _ => cases ev
  obtain ⟨n, kvs, rfl, hkv, hlt, rfl⟩ := key
  obtain ⟨v0, hv0, _⟩ := od_slot g1.sr (by simpa using hod)
  refine ⟨v0, hv0, r1, S1, o, r2, g1.sr, e2, fun v2 H2 S2 g2 w2 => ?_⟩
  obtain ⟨v1, hv1, a, vs, rfl, k1, k2, k3⟩ := g2.sr.dic i kvs hkv
  rw [hv0] at hv1
  cases hv1
  cases (w2.rb g2.sr e3).int
  have hl : vs.length < sizeLine := by rw [k3.length, sizeLine_eq]; exact hlt
  refine ⟨a, _, rfl, DPut.k (k := .inl n) k1 hl, ?_⟩
  exact q _ _ _ ((g1.trans s g2).trans s (dset_go g2.sr hkv hv0 (k3.put (g2.rp g1.sr w1))))
theorem snd_aug (G : GX X M C k) {i : Nat} {op : Bop} {e : E} {x : Str} {px pos : Pos} {p : Expr} (ie : SndE C k e) (hi : M.N[i]? = some x) (hl : locB M x = true) (he : mE M e p = true) :
    PS X (.AugAssign (.Name x px) (opOf op) p pos) (tS X.K wx C (.aug i op e)) := by
  obtain ⟨l1, l2⟩ := loc_of G hl
  have pip : PIp X (opOf op) (fun x y H Q => (∃ a b, x = .int a ∧ y = .int b ∧ ((op = .add ∧ Q (.int (a + b)) H) ∨ (op = .sub ∧ Q (.int (a - b)) H) ∨ (op = .mul ∧ CMul a b ∧ Q (.int (a * b)) H))) ∨
      (∃ a b, x = .str a ∧ y = .str b ∧ op = .add ∧ a.length + b.length ≤ sizeLine ∧ Q (.str (a ++ b)) H)) := by
    intro pins s σ H x y v u Q I rx ry h
    rcases h with ⟨a, b, rfl, rfl, h | h | h⟩ | ⟨a, b, rfl, rfl, rfl, hl, q⟩
    · obtain ⟨rfl, q⟩ := h
      exact iop_add pins s σ H _ _ v u Q I rx ry ⟨a, b, rfl, rfl, q⟩
    · obtain ⟨rfl, q⟩ := h
      exact iop_sub pins s σ H _ _ v u Q I rx ry ⟨a, b, rfl, rfl, q⟩
    · obtain ⟨rfl, hc, q⟩ := h
      exact iop_mul pins s σ H _ _ v u Q I rx ry ⟨a, b, rfl, rfl, hc, q⟩
    · exact iop_add_str pins s σ H _ _ v u Q I rx ry ⟨a, b, rfl, rfl, hl, q⟩
  refine ps_imp (ps_aug (i := i) G.nd (by rw [G.hN]; exact hi) l1 (pe_opd G he (ie X M p G he).1) pip l2) fun DD σ H ⟨r, S, f, s, ev, q⟩ => ?_
  simp only [exS] at ev
  split at ev
  · rename_i d hd
    obtain ⟨⟨o, r1⟩, e1, ev⟩ := bind_ok ev
    obtain ⟨d2, e2, ev⟩ := bind_ok ev
    obtain ⟨v0, hv0, w0⟩ := s.fz i d hd
    refine ⟨v0, hv0, r, S, o, r1, s, e1, fun v H1 S1 g w => ?_⟩
    have b2 := w.rb g.sr e2
    have key : ∃ y r2, binD op d d2 = .ok y ∧ put i y r1 = .ok r2 ∧ f = .nx r2 ∧ ((∃ a b, d = .int a ∧ d2 = .int b ∧ (op = .add ∨ op = .sub ∨ op = .mul)) ∨ ∃ a b, d = .str a ∧ d2 = .str b ∧ op = .add) := by
      dsimp only at ev
      split at ev <;> first
        | (obtain ⟨y, e3, ev⟩ := bind_ok ev
           obtain ⟨r2, e4, ev⟩ := bind_ok ev
           cases ev
           exact ⟨y, r2, e3, e4, rfl, by first | exact .inl ⟨_, _, rfl, rfl, .inl rfl⟩ | exact .inl ⟨_, _, rfl, rfl, .inr (.inl rfl)⟩ | exact .inl ⟨_, _, rfl, rfl, .inr (.inr rfl)⟩ | exact .inr ⟨_, _, rfl, rfl, rfl⟩⟩)
        | (cases ev)
    obtain ⟨y, r2, e3, e4, rfl, kk⟩ := key
    obtain ⟨rfl, z, hz, hn⟩ := put_ok e4
    have fin : ∀ w d', y = .fz d' → Rp X.K H1 S1 w d' → DD.nx (σ.set i (some w)) H1 := fun w d' e hw => by
      subst e
      exact q _ _ _ (put_go g (x := .fz d') hw hz hn)
    rcases kk with ⟨a, b, rfl, rfl, kk⟩ | ⟨a, b, rfl, rfl, rfl⟩
    · cases w0
      cases b2.int
      refine .inl ⟨a, b, rfl, rfl, ?_⟩
      rcases kk with rfl | rfl | rfl
      · cases e3
        exact .inl ⟨rfl, fin _ _ rfl (.int _)⟩
      · cases e3
        exact .inr (.inl ⟨rfl, fin _ _ rfl (.int _)⟩)
      · simp only [binD] at e3
        split at e3
        · rename_i hl
          cases e3
          rw [Bool.or_eq_true] at hl
          exact .inr (.inr ⟨rfl, hl.imp small_of small_of, fin _ _ rfl (.int _)⟩)
        · cases e3
    · cases w0
      cases b2.str
      simp only [binD] at e3
      split at e3
      · rename_i hl
        cases e3
        exact .inr ⟨a, b, rfl, rfl, rfl, len_of hl, fin _ _ rfl (.str _)⟩
      · cases e3
  · cases ev
theorem one_arg {e : E} {ps : List Expr} (h : mEs M [e] ps = true) : ∃ p, ps = [p] ∧ notStar p = true ∧ mE M e p = true := by
  match ps, h with
  | [p], h =>
    simp only [mEs, Bool.and_eq_true] at h
    exact ⟨p, rfl, h.1.1, h.1.2⟩
  | [], h => simp only [mEs] at h; cases h
  | _ :: _ :: _, h => simp only [mEs, Bool.and_false] at h; cases h
theorem few_ok {p : Expr} {cpos : Pos} {env : PySem.Env} (h : notStar p = true) : ((backTo cpos (starEach [p] env)).all (fun x => !x.1) && (backToKw cpos (keywordEach [] env)).all (fun x => x.1.isSome)
      && decide ([p].length + ([] : List Keyword).length + (if ([] : List Keyword).isEmpty then 0 else 1) < 30)) = true := by
  rw [star_cons h]
  rfl
theorem snd_app (G : GX X M C k) {i : Nat} {e : E} {x : Str} {px apos cpos pos : Pos} {ps : List Expr} (ie : SndE C k e) (hx : slotB M i x = true) (he : mEs M [e] ps = true) (hl : (apos.endLine == cpos.line) = true) :
    PS X (.Expr (.Call (.Attribute (.Name x px) "append" apos) ps [] cpos) pos) (tS X.K wx C (.app i e)) := by
  obtain ⟨p, rfl, hn, he⟩ := one_arg he
  refine ps_imp (ps_expr (pe_bm PySem.F.plainAttrs_list PySem.F.slot_list_append PySem.F.type_list_append mt_append (slot_vis G hx) (pa_cons (pe_x (ie X M p G he).1) pa_nil (star_cons hn)) rfl (few_ok hn) hl (star_cons hn) rfl) rfl) fun DD σ H ⟨r, S, f, s, ev, q⟩ => ?_
  simp only [exS] at ev
  split at ev
  · cases ev
  rename_i hil
  obtain ⟨⟨d, r1⟩, e1, ev⟩ := bind_ok ev
  obtain ⟨v0, hv0⟩ := list_slot s (by simpa using hil)
  have is0 : ∃ xs, r[i]? = some (.ow xs) ∨ r[i]? = some (.io xs) := by
    have hil : isList r i = true := by simpa using hil
    unfold isList at hil
    split at hil
    · exact ⟨_, .inr (by assumption)⟩
    · exact ⟨_, .inl (by assumption)⟩
    · cases hil
  obtain ⟨xs0, hx0⟩ := is0
  obtain ⟨a0, vs0, ea0, h01, _⟩ := own_addr s hx0
  rw [hv0] at ea0
  cases ea0
  have key : ∃ (xs : List D) (x' : Val), lenOk (xs.length + 1) = true ∧ f = .nx (r1.set i x') ∧ ((r1[i]? = some (.ow xs) ∧ x' = .ow (xs ++ [d])) ∨ (r1[i]? = some (.io xs) ∧ x' = .io (xs ++ [d]))) := by
    dsimp only at ev
    split at ev
    · rename_i xs hxs
      split at ev
      · rename_i hl
        cases ev
        exact ⟨xs, _, hl, rfl, .inl ⟨hxs, rfl⟩⟩
      · cases ev
    · rename_i xs hxs
      split at ev
      · rename_i hl
        cases ev
        exact ⟨xs, _, hl, rfl, .inr ⟨hxs, rfl⟩⟩
      · cases ev
    · cases ev
  obtain ⟨xs, x', hlen, rfl, hr⟩ := key
  refine ⟨.ref a0, hv0, .inl ⟨rfl, vs0, SqL.of h01⟩, r, S, d, r1, s, e1, fun v H1 S1 g w => ?_⟩
  obtain ⟨a, vs, ea, h1, h2, h3⟩ := own_addr g.sr (hr.imp (·.1) (·.1))
  rw [hv0] at ea
  cases ea
  have hz := len_of hlen
  rw [← h3.length] at hz
  refine ⟨a0, vs, v, rfl, rfl, h1, by omega, ?_⟩
  exact q _ _ _ (g.trans s (upd_go g.sr hr hv0 (h3.append (.cons w .nil))))
theorem snd_ext (G : GX X M C k) {i : Nat} {e : E} {x : Str} {px apos cpos pos : Pos} {ps : List Expr} (ie : SndE C k e) (hx : slotB M i x = true) (he : mEs M [e] ps = true) (hl : (apos.endLine == cpos.line) = true) :
    PS X (.Expr (.Call (.Attribute (.Name x px) "extend" apos) ps [] cpos) pos) (tS X.K wx C (.ext i e)) := by
  obtain ⟨p, rfl, hn, he⟩ := one_arg he
  refine ps_imp (ps_expr (pe_bm PySem.F.plainAttrs_list PySem.F.slot_list_extend PySem.F.type_list_extend mt_extend (slot_vis G hx) (pa_cons (ie X M p G he).1 pa_nil (star_cons hn)) rfl (few_ok hn) hl (star_cons hn) rfl) rfl) fun DD σ H ⟨r, S, f, s, ev, q⟩ => ?_
  simp only [exS] at ev
  split at ev
  · cases ev
  rename_i hil
  obtain ⟨⟨y, r1⟩, e1, ev⟩ := bind_ok ev
  obtain ⟨v0, hv0⟩ := list_slot s (by simpa using hil)
  have is0 : ∃ xs, r[i]? = some (.ow xs) ∨ r[i]? = some (.io xs) := by
    have hil : isList r i = true := by simpa using hil
    unfold isList at hil
    split at hil
    · exact ⟨_, .inr (by assumption)⟩
    · exact ⟨_, .inl (by assumption)⟩
    · cases hil
  obtain ⟨xs0, hx0⟩ := is0
  obtain ⟨a0, vs0, ea0, h01, _⟩ := own_addr s hx0
  rw [hv0] at ea0
  cases ea0
  have key : ∃ (xs ys : List D) (x' : Val), y = .ow ys ∧ lenOk (xs.length + ys.length) = true ∧ f = .nx (r1.set i x') ∧ ((r1[i]? = some (.ow xs) ∧ x' = .ow (xs ++ ys)) ∨ (r1[i]? = some (.io xs) ∧ x' = .io (xs ++ ys))) := by
    cases y with
    | ow ys =>
      dsimp only at ev
      split at ev
      · rename_i xs hxs
        split at ev
        · rename_i hl
          cases ev
          exact ⟨xs, ys, _, rfl, hl, rfl, .inl ⟨hxs, rfl⟩⟩
        · cases ev
      · rename_i xs hxs
        split at ev
        · rename_i hl
          cases ev
          exact ⟨xs, ys, _, rfl, hl, rfl, .inr ⟨hxs, rfl⟩⟩
        · cases ev
      · cases ev
    | _ => cases ev
  obtain ⟨xs, ys, x', rfl, hlen, rfl, hr⟩ := key
  refine ⟨.ref a0, hv0, .inl ⟨rfl, vs0, SqL.of h01⟩, r, S, _, r1, s, e1, fun v H1 S1 g w => ?_⟩
  obtain ⟨b, ws, rfl, _, hb, _, _, hw⟩ := w
  obtain ⟨a, vs, ea, h1, h2, h3⟩ := own_addr g.sr (hr.imp (·.1) (·.1))
  rw [hv0] at ea
  cases ea
  have hz := len_of hlen
  rw [← h3.length, ← hw.length] at hz
  refine ⟨a0, b, vs, ws, rfl, rfl, h1, hb, hz, ?_⟩
  exact q _ _ _ (g.trans s (upd_go g.sr hr hv0 (h3.append hw)))
end
end DL

set_option Elab.async false
set_option linter.all false
set_option maxRecDepth 100000
set_option maxHeartbeats 4000000
set_option autoImplicit false
/-! DLX: what raises: raise, calls that may raise, the laws' tellers of errors. -/
namespace DL
open PySem PySem.Spec PyProof.Rows L2

section
variable {X : Cx} {M : Mat} {C : Ctx} {k : Nat} {wx : VX}
theorem snd_raise (G : GX X M C k) (hx : SX X wx) {c : Nat} {e : E} {st : Stmt} (ie : SndE C k e) (h : mS M (.raise c e) st = true) : PS X st (tS X.K wx C (.raise c e)) := by
  simp only [mS] at h
  split at h
  rotate_left
  · cases h
  rename_i x q hs
  obtain ⟨pp, cp, pos, rfl⟩ := raiseShape_some hs
  rw [Bool.and_eq_true, Bool.and_eq_true, Bool.and_eq_true] at h
  obtain ⟨⟨⟨h1, h2⟩, h3⟩, h4⟩ := h
  by_cases hc : C.xc c = true
  · obtain ⟨Ca, L⟩ := G.xcs c hc
    obtain ⟨hg, rfl⟩ := gl_of G h1
    refine ps_imp (ps_raise G.calm hx.tk (SkE.pmk_own1 PySem.F.excBase_ValueError L.ex L.at_ L.kp (raises_own L.be L.ty) hg (pe_x (ie X M q G h4).1) (star_cons h3) (name_of h2).1)) fun DD σ H ⟨r, S, f, s, ev, w⟩ => ?_
    simp only [exS] at ev
    rw [if_pos hc] at ev
    obtain ⟨⟨d, r1⟩, e1, ev⟩ := bind_ok ev
    cases ev
    exact ⟨r, S, d, r1, s, e1, fun v H' S' g _ => ⟨⟨c, d⟩, ⟨rfl, Ca, L.at_, rfl⟩, w σ r1 H' S' g.r⟩⟩
  · refine ps_imp ps_never fun DD σ H ⟨r, S, f, s, ev, w⟩ => ?_
    simp only [exS] at ev
    rw [if_neg hc] at ev
    cases ev

/-! ### calls -/
theorem argVals_nex : ∀ {as : List Arg} {r : Env} {e : Exn}, argVals r as ≠ .ex e
  | [], r, e, h => by simp only [argVals] at h; cases h
  | .d d :: as, r, e, h => by
    simp only [argVals] at h
    cases q : argVals r as with
    | ok vs => rw [q] at h; cases h
    | ex e' => exact argVals_nex q
    | no => rw [q] at h; cases h
  | .io i :: as, r, e, h => by
    simp only [argVals] at h
    split at h
    · cases q : argVals r as with
      | ok vs => rw [q] at h; cases h
      | ex e' => exact argVals_nex q
      | no => rw [q] at h; cases h
    · cases q : argVals r as with
      | ok vs => rw [q] at h; cases h
      | ex e' => exact argVals_nex q
      | no => rw [q] at h; cases h
    · cases h
theorem argVals_fz : ∀ {as : List Arg} {r : Env} {vs : List Val}, ioIx as = [] → argVals r as = .ok vs → ∀ v ∈ vs, ∃ d, v = .fz d
  | [], r, vs, _, h => by
    simp only [argVals] at h
    cases h
    intro v hv
    cases hv
  | .d d :: as, r, vs, hi, h => by
    simp only [argVals] at h
    obtain ⟨ws, e1, h⟩ := bind_ok h
    cases h
    intro v hv
    rcases List.mem_cons.mp hv with z | z
    · exact ⟨d, z⟩
    · exact argVals_fz (by simpa [ioIx] using hi) e1 v z
  | .io i :: as, r, vs, hi, h => by simp [ioIx] at hi
theorem doCall_ex {f : Nat} {as : List Arg} {r : Env} {e : Exn} (h : doCall C f as r = .ex e) (hi : ioIx as = []) : ∃ vals, argVals r as = .ok vals ∧ C.call f vals = .ex e := by
  simp only [doCall] at h
  split at h
  · cases q : argVals r as with
    | ok vals =>
      rw [q, ok_bind] at h
      cases q2 : C.call f vals with
      | ok p =>
        rw [q2, ok_bind, hi] at h
        obtain ⟨x, outs⟩ := p
        cases outs with
        | nil => simp only [setIos] at h; cases h
        | cons _ _ => simp only [setIos] at h; cases h
      | ex e' =>
        rw [q2] at h
        cases h
        exact ⟨vals, rfl, q2⟩
      | no => rw [q2] at h; cases h
    | ex e' => exact absurd q argVals_nex
    | no => rw [q] at h; cases h
  · cases h
/-- a call that may raise -/
def tCW (K : PySem.W.Frag) (mg : Str → Option Value) (W : WX) (C : Ctx) (f : Nat) (es : List E) : TE := fun σ H Q => ∃ r S as r1, SR K σ H r S ∧ evAs C es (C.ios f) r = .ok (as, r1) ∧
  ((∃ x r2, doCall C f as r1 = .ok (x, r2) ∧ KE K σ r S H x r2 Q) ∨ ∃ e, doCall C f as r1 = .ex e ∧ ioIx as = [] ∧ ∀ H' S' cls d, Go K σ r S H σ r1 S' H' → XR mg e cls d → W cls d σ H')
theorem pe_cw (G : GX X M C k) {W : WX} (tk : Takes X W) {f : Nat} {es : List E} {p : Expr} (ih : SndL C k es) (h : callB M f es p = true) : PE X p (tCW X.K X.mg W C f es) := by
  unfold callB at h
  split at h
  rotate_left
  · cases h
  rename_i x ps hs
  obtain ⟨pp, pos, rfl⟩ := callShape_some hs
  rw [Bool.and_eq_true, Bool.and_eq_true, Bool.and_eq_true, Bool.and_eq_true] at h
  obtain ⟨⟨⟨⟨h1, h2⟩, hk⟩, hne⟩, h3⟩ := h
  have hk : M.kwd f = none := by simpa using hk
  obtain ⟨hg, hx⟩ := gl_of G h1
  rcases G.fns f with hf | hf
  rotate_left
  · refine ⟨fun pins s σ H Q I ⟨r, S, as, r1, sr, e1, alt⟩ => ?_⟩
    exfalso
    rcases alt with ⟨x, r2, e2, _⟩ | ⟨e, e2, hi, _⟩
    · simp only [doCall] at e2
      split at e2
      · obtain ⟨vals, e4, e2⟩ := bind_ok e2
        obtain ⟨⟨y, outs⟩, e3, _⟩ := bind_ok e2
        rw [hf] at e3
        cases e3
      · cases e2
    · obtain ⟨vals, _, e3⟩ := doCall_ex e2 hi
      rw [hf] at e3
      cases e3
  obtain ⟨a, fd, pars, m, kp, b, hn, F⟩ := hf.it
  rw [hk] at b
  rw [← hx] at m
  have imp : ∀ σ H Q, tCW X.K X.mg W C f es σ H Q → tCallS (spF X.K X.mg C.xc pars.length (C.call f)) (WE W) (tAs X.K C es (C.ios f)) σ H Q := fun σ H Q ⟨r, S, as, r1, s, e1, alt⟩ => by
    refine ⟨r, S, as, r1, s, e1, fun vs H1 S1 g1 w1 => ?_⟩
    rcases alt with ⟨x, r2, e2, q⟩ | ⟨e, e2, hi, q⟩
    · have e0 : as.length = pars.length := by rw [as_len e1, hn]
      have := call_imp (n := pars.length) (Q := Q) (E := WE W σ) s g1 w1 e0 e2 q
      exact this
    · obtain ⟨vals, e3, e4⟩ := doCall_ex e2 hi
      have nd : (ioIx as).Nodup := by rw [hi]; exact List.nodup_nil
      have fz := argVals_fz hi e3
      refine ⟨?_, S1, vals, args_sr g1.sr w1 e3 nd, fun y hy => .inl (fz y hy), .inr ⟨e, e4, fz, fun cls d H' S' ext xr => ?_⟩⟩
      · rw [Paired.length w1, as_len e1, hn]
      · exact q H' S' cls d (g1.trans s (Go.ext g1.sr ext)) xr
  cases es with
  | nil => cases hne
  | cons e es =>
    cases ps with
    | nil => simp only [mEs] at h3; cases h3
    | cons p ps =>
      have nst : notStar p = true ∧ (backTo pos (starEach ps X.env)).any (·.1) = false := by
        have h3' := h3
        simp only [mEs, Bool.and_eq_true] at h3'
        exact ⟨h3'.1.1, nostar_all h3'.2⟩
      exact pe_imp (pe_callS F G.room hg m kp b (fun σ => passAt tk σ) (pa_as G (e :: es) (C.ios f) (p :: ps) ih h3) (name_of h2).1 (star_cons nst.1) nst.2) imp
theorem runX_ok {C : Ctx} {f : Nat} {as : List Arg} {r1 : Env} {ok : Val → Env → Res Flow} {no : Exn → Res Flow} {fl : Flow} (h : runX C f as r1 ok no = .ok fl) :
    (∃ x r2, doCall C f as r1 = .ok (x, r2) ∧ ok x r2 = .ok fl) ∨ ∃ e, doCall C f as r1 = .ex e ∧ ioIx as = [] ∧ no e = .ok fl := by
  unfold runX at h
  split at h
  · rename_i x r2 e1 e2
    exact .inl ⟨x, r2, e2, h⟩
  · rename_i e e1 e2
    exact .inr ⟨e, e2, e1, h⟩
  · cases h
theorem callB_plain {f : Nat} {es : List E} {p : Expr} (h : callB M f es p = true) : notComp p = true ∧ notTup p = true := by
  unfold callB at h
  split at h
  · rename_i x ps hs
    obtain ⟨pp, pos, rfl⟩ := callShape_some hs
    exact ⟨rfl, rfl⟩
  · cases h
theorem snd_xs (G : GX X M C k) (hx : SX X wx) {kk : Xk} {f : Nat} {es : List E} {st : Stmt} (ih : SndL C k es) (h : mS M (.xs kk f es) st = true) : PS X st (tS X.K wx C (.xs kk f es)) := by
  cases kk with
  | asg i =>
    cases st with
    | Assign ts p pos =>
      simp only [mS] at h
      split at h
      rotate_left
      · cases h
      rename_i x px hs
      obtain rfl := asgShape_some hs
      rw [Bool.and_eq_true, Bool.and_eq_true] at h
      obtain ⟨l1, l2⟩ := loc_of G h.1.2
      refine ps_imp (ps_set G.nd (by rw [G.hN]; exact of_decide_eq_true h.1.1) l1 (pe_cw G hx.tk ih h.2) (swaps_plain (callB_plain h.2).1) l2) fun DD σ H ⟨r, S, fl, s, ev, q⟩ => ?_
      simp only [exS] at ev
      obtain ⟨⟨as, r1⟩, e1, ev⟩ := bind_ok ev
      refine ⟨r, S, as, r1, s, e1, ?_⟩
      rcases runX_ok ev with ⟨x, r2, e2, e3⟩ | ⟨e, e2, e3, e4⟩
      · refine .inl ⟨x, r2, e2, fun v H1 S1 g w => ?_⟩
        simp only [xkF] at e3
        obtain ⟨r3, e4, e3⟩ := bind_ok e3
        cases e3
        obtain ⟨rfl, z, hz, hn⟩ := put_ok e4
        exact q _ _ _ (put_go g w hz hn)
      · cases e4
        exact .inr ⟨e, e2, e3, fun H' S' cls d g xr => ⟨e, xr, q σ r1 H' S' g.r⟩⟩
    | _ => exact absurd (show false = true from h) Bool.false_ne_true
  | asgT tt =>
    cases st with
    | Assign ts p pos =>
      simp only [mS] at h
      split at h
      rotate_left
      · cases h
      rename_i gs hs
      obtain ⟨kn, tp, rfl⟩ := tupShape_some hs
      rw [Bool.and_eq_true] at h
      have hg : PG X (.Tuple gs kn tp) (gB X.K (.many tt)) := pg_t (M := M) G.calm G.nd G.hN (fun x hx => loc_of G hx) (.many tt) _ (by simp only [mT]; exact h.1)
      have h1 : swapsWithSole [.Tuple gs kn tp] p pos.line X.env = pure false := by cases p <;> rfl
      have h2 : swappedStores [.Tuple gs kn tp] p X.env = pure none := by
        have := (callB_plain h.2).2
        cases p <;> first | rfl | (exact absurd (show false = true from this) Bool.false_ne_true)
      refine ps_imp (ps_asg (pe_cw G hx.tk ih h.2) hg h1 h2 rfl) fun DD σ H ⟨r, S, fl, s, ev, q⟩ => ?_
      simp only [exS] at ev
      obtain ⟨⟨as, r1⟩, e1, ev⟩ := bind_ok ev
      refine ⟨r, S, as, r1, s, e1, ?_⟩
      rcases runX_ok ev with ⟨x, r2, e2, e3⟩ | ⟨e, e2, e3, e4⟩
      · refine .inl ⟨x, r2, e2, fun v H1 S1 g w => ?_⟩
        simp only [xkF] at e3
        obtain ⟨d, e4, e3⟩ := bind_ok e3
        obtain ⟨r3, e5, e3⟩ := bind_ok e3
        cases e3
        refine ⟨r2, S1, d, r3, g.sr, ?_, e5, fun σ' g' _ => q _ _ _ (g.trans s g')⟩
        cases x with
        | fz y => cases e4; exact w
        | ow xs => cases e4; simp only [bindT] at e5; cases e5
        | _ => exact w.elim
      · cases e4
        exact .inr ⟨e, e2, e3, fun H' S' cls d g xr => ⟨e, xr, q σ r1 H' S' g.r⟩⟩
    | _ => exact absurd (show false = true from h) Bool.false_ne_true
  | ret =>
    cases st with
    | Return p pos =>
      cases p with
      | none => exact absurd (show false = true from h) Bool.false_ne_true
      | some p =>
        simp only [mS] at h
        refine ps_imp (ps_ret (pe_cw G hx.tk ih h)) fun DD σ H ⟨r, S, fl, s, ev, q⟩ => ?_
        simp only [exS] at ev
        obtain ⟨⟨as, r1⟩, e1, ev⟩ := bind_ok ev
        refine ⟨r, S, as, r1, s, e1, ?_⟩
        rcases runX_ok ev with ⟨x, r2, e2, e3⟩ | ⟨e, e2, e3, e4⟩
        · cases e3
          exact .inl ⟨x, r2, e2, fun v H1 S1 g w => q v σ r2 H1 S1 g.r (.inl ⟨rfl, w⟩)⟩
        · cases e4
          exact .inr ⟨e, e2, e3, fun H' S' cls d g xr => ⟨e, xr, q σ r1 H' S' g.r⟩⟩
    | _ => exact absurd (show false = true from h) Bool.false_ne_true
end

/-! ### try: return f(..) / except PortError as e: return _law_error(e) -/
section
variable {X : Cx} {M : Mat} {C : Ctx} {k : Nat} {wx : VX}
theorem GX.tr (G : GX X M C k) (pn : List (Addr × Obj)) (xe : Value → Shared → Prop) : GX (X.tr pn xe) M C k where
  calm := G.calm
  kind := G.kind
  nd := G.nd
  hN := G.hN
  sc := G.sc
  fnb := G.fnb
  room := G.room
  bn := G.bn
  gl := G.gl
  fns := fun f => (G.fns f).imp (fun h => ⟨h.it⟩) id
  xcs := G.xcs
  err := G.err
/-- what the suite is asked -/
def tErr (mg : Str → Option Value) (xc : Nat → Bool) (i : Nat) (a : Addr) (cls : Value) (d : Option Addr) : TE := fun σ H Q => σ[i]? = some (some (.ref a)) ∧ ∃ c Ca, xc c = true ∧ mg (cnm c) = some (.ref Ca) ∧ cls = .ref Ca ∧ d = none ∧
  ∀ p H', (∀ b o, H b = some o → H' b = some o) → H p = none → H' p = some (.tup [.str "refused", .str (cnm c)]) → Q (.ref p) H'
theorem pe_err {xc : Nat → Bool} (Er : ErrOk X.prog X.w X.K X.mg X.base xc) (hr : L2H.RoomH 0 X.A) {i : Nat} {n : Str} {p3 p4 p5 : Pos} (hN : X.N[i]? = some n) (hl : X.env.scope.names.lookup n = some .local) (hn : nameOk n = true) (hg : Gl X "_law_error")
    {a : Addr} {oe : Obj} {cls : Value} {d : Option Addr} {pn : List (Addr × Obj)} (hz : Zc cls d oe) (hf : ∃ vs, oe.data = .fields vs) :
    PE (X.suite a ((a, oe) :: pn)) (.Call (.Name "_law_error" p3) [.Name n p4] [] p5) (tErr X.mg xc i a cls d) := by
  obtain ⟨f, fd, hm, hk, hb, run⟩ := Er.fn
  refine ⟨fun pins s σ H Q J ⟨hs, c, Ca, hxc, hc, ecls, ed, hq⟩ => wpAny_Call_Name_kw (ld_glob J hg hm ?_ (by decide))⟩
  subst ecls ed
  have pv1 : PE (X.suite a ((a, oe) :: pn)) (.Name n p4) (tVar i) := pe_var (by exact hN) (.inl hl) (name_of hn).1 (name_of hn).2
  refine PySem.W.callWith_K (h₀ := X.base) J.ok.mod.kin hk (thn ((pa_cons pv1 pa_nil).run p5 pins s σ H (fun vs H1 => vs = [V.ref a] ∧ H1 = H) J ⟨_, hs, rfl, rfl⟩) fun us s1 hh => ?_) rfl rfl
  obtain ⟨vs, H1, J1, rv, ev, eH⟩ := hh
  subst ev eH
  refine ⟨J1.kIn, ?_⟩
  cases rv with
  | cons ru rn =>
    cases rn
    cases ru
    have bnd := hb s1 [.ref a] J1.kIn rfl
    have P1 := J1.pin (a, oe) (List.mem_append_left _ List.mem_cons_self)
    have hp : L2H.PinOk X.stack H1 s1 (a, oe) := ⟨P1.1, P1.2.1, fun z => (List.mem_cons.mp (J1.stkSub a z)).elim P1.2.2.1 P1.2.2.2.1, P1.2.2.2.2⟩
    have rr := run c Ca hxc hc (X.A.mark (some (.ref a))) X.stack s1 H1 ⟨[.ref a], []⟩ a oe Q E0 ⟨hr.dp, hr.un⟩ hp hz hf J1.env0 bnd hq
    refine wpAny_call (codeAny_mono rr fun res s2 hres => ?_)
    cases res with
    | error e =>
      obtain ⟨_, _, _, _, _, _, _, _, _, _, _, _, z⟩ := hres
      exact z.elim
    | ok fl =>
      cases fl with
      | ret u => exact J1.after hres
      | _ => exact hres.elim
theorem snd_told (G : GX X M C k) (hx : SX X wx) {i f : Nat} {es : List E} {st : Stmt} (ih : SndL C k es) (h : mS M (.told i f es) st = true) : PS X st (tS X.K wx C (.told i f es)) := by
  simp only [mS] at h
  split at h
  rotate_left
  · cases h
  rename_i q x n y m hs
  obtain ⟨p1, p2, p3, p4, p5, p6, p7, p8, rfl⟩ := toldShape_some hs
  rw [Bool.and_eq_true, Bool.and_eq_true, Bool.and_eq_true, Bool.and_eq_true, Bool.and_eq_true, Bool.and_eq_true] at h
  obtain ⟨⟨⟨⟨⟨⟨h1, h2⟩, h3⟩, h4⟩, h5⟩, h6⟩, h7⟩ := h
  obtain ⟨g2, rfl⟩ := gl_of G h2
  obtain ⟨g5, rfl⟩ := gl_of G h5
  obtain rfl := of_decide_eq_true h6
  have hN : X.N[i]? = some m := by rw [G.hN]; exact of_decide_eq_true h3
  have hl : X.env.scope.names.lookup m = some .local := by
    rw [G.sc]
    unfold locL at h4
    split at h4
    · assumption
    · cases h4
  by_cases her : C.er = true
  rotate_left
  · refine ps_imp ps_never fun DD σ H ⟨r, S, f, s, ev, w⟩ => ?_
    simp only [exS] at ev
    rw [if_neg her] at ev
    cases ev
  have Er := G.err her
  obtain ⟨Pa, hPa, exm⟩ := Er.pa
  have hr : L2H.RoomH 0 X.A := ⟨by have := G.room.dp; omega, by have := G.room.un; omega⟩
  refine ⟨fun pins s σ H DD I ⟨r, S, fl, sr, ev, w⟩ => ?_⟩
  have hi : i < σ.length := by rw [I.len]; exact get_lt hN
  refine (ps_try_as (i := i) (tb := fun W => tRet (tCW X.K X.mg W C f es)) (ts := fun a cls d => tRet (tErr X.mg C.xc i a cls d)) (Wout := fun _ _ _ _ => False) hx.st hx.fr G.nd hN hl ⟨g2, by decide, .inl hPa⟩ takes0
    (fun W pn xe tk _ => pss_one (ps_ret (pe_cw (G.tr pn xe) tk ih h1))) (fun a oe cls d pn hz hf => pss_one (ps_ret (pe_err Er hr hN hl h7 g5 hz hf)))).run pins s σ H DD I ?_
  simp only [exS] at ev
  rw [if_pos her] at ev
  obtain ⟨⟨as, r1⟩, e1, ev⟩ := bind_ok ev
  refine ⟨r, S, as, r1, sr, e1, ?_⟩
  rcases runX_ok ev with ⟨x, r2, e2, e3⟩ | ⟨e, e2, e3, e4⟩
  · cases e3
    exact .inl ⟨x, r2, e2, fun v H1 S1 g w1 => w v σ r2 H1 S1 g.r (.inl ⟨rfl, w1⟩)⟩
  · refine .inr ⟨e, e2, e3, fun H' S' cls d g xr => ?_⟩
    split at e4
    rotate_left
    · cases e4
    rename_i hxc
    cases e4
    obtain ⟨rfl, Ca, hm, rfl⟩ := xr
    refine ⟨true, exm e.cls Ca hxc hm, fun _ a ha => ⟨List.getElem?_set_self hi, e.cls, Ca, hxc, hm, rfl, rfl, fun p H2 fr hp ht => ?_⟩, fun z => nomatch z⟩
    have ext : Ext S' H' S' H2 := ⟨fr, fun _ z => z, fun _ z => .inl z, fun b hb => by
      have := g.sr.wf b hb
      cases q : H' b with
      | none => exact absurd q this
      | some o => rw [fr b o q]; intro z; cases z⟩
    have g2 := g.trans sr (Go.ext g.sr ext)
    exact w (.ref p) σ r1 H2 S' g2.r (.inl ⟨rfl, Rp.tup (SqT.of ht) (.cons (.str _) (.cons (.str _) .nil))⟩)
end
end DL

set_option Elab.async false
set_option linter.all false
set_option maxRecDepth 100000
set_option maxHeartbeats 4000000
set_option autoImplicit false
/-! DL13: loops, blocks. -/
namespace DL
open PySem PySem.Spec PyProof.Rows L2

section
variable {X : Cx} {M : Mat} {C : Ctx} {k : Nat} {wx : VX}
theorem snd_ret (G : GX X M C k) {e : E} {p : Expr} {pos : Pos} (ie : SndE C k e) (he : mE M e p = true) : PS X (.Return (some p) pos) (tS X.K wx C (.ret e)) := by
  by_cases hv : ∃ i, e = .v i
  · obtain ⟨i, rfl⟩ := hv
    refine ⟨fun pins s σ H DD I ⟨r, S, f, sr, ev, q⟩ => ?_⟩
    simp only [exS] at ev
    split at ev
    · rename_i xs hx
      cases ev
      obtain ⟨v, e, _⟩ := sr.lone i xs (.inl hx)
      exact (ps_ret (pe_slot G he)).run pins s σ H DD I ⟨v, e, q v σ r H S (Go.refl sr).r (.inr ⟨i, xs, hx, e, rfl, rfl⟩)⟩
    · obtain ⟨⟨x, r1⟩, e1, ev⟩ := bind_ok ev
      cases ev
      exact (ps_ret (ie X M p G he).1).run pins s σ H DD I ⟨r, S, _, _, sr, e1, fun v H' S' g w => q v σ _ H' S' g.r (.inl ⟨rfl, w⟩)⟩
  · refine ps_imp (ps_ret (ie X M p G he).1) fun DD σ H ⟨r, S, f, s, ev, q⟩ => ?_
    have ev' : (do let (x, r1) ← evE C e r; .ok (.rt x r1)) = Res.ok f := by
      cases e <;> first | exact ev | exact absurd ⟨_, rfl⟩ hv
    obtain ⟨⟨x, r1⟩, e1, ev⟩ := bind_ok ev'
    cases ev
    exact ⟨r, S, _, _, s, e1, fun v H' S' g w => q v σ _ H' S' g.r (.inl ⟨rfl, w⟩)⟩

theorem snd_for (G : GX X M C k) (hp : SX X wx) {hid : Bool} {t : Tgt} {ik : Ik} {es : List E} {body : List S} {tg iter : Expr} {pb : List Stmt} {pos : Pos} (ih : SndL C k es) (ib : SndSs C k body)
    (h1 : mSrcF M ik es tg iter = true) (h2 : mT M t tg = true) (h3 : mSs M body pb = true) : PS X (.For tg iter pb [] pos) (tS X.K wx C (.for hid t ik es body)) := by
  obtain ⟨hi, hns⟩ := snd_srcF (tg := tg) G ih h1
  have hg : PG X tg (gB X.K t) := pg_t (M := M) G.calm G.nd G.hN (fun x hx => loc_of G hx) t tg h2
  refine ps_imp (ps_for hp.hp G.calm hi hg (ib X M pb wx G hp h3) hns) fun DD σ H ⟨r, S, f, s, ev, q⟩ => ?_
  simp only [exS] at ev
  obtain ⟨⟨os, r1⟩, e1, ev⟩ := bind_ok ev
  obtain ⟨ds, e2, ev⟩ := bind_ok ev
  obtain ⟨xs, e3, ev⟩ := bind_ok ev
  dsimp only at ev
  split at ev
  · rename_i nio
    obtain ⟨fl, e4, ev⟩ := bind_ok ev
    refine ⟨r, S, os, r1, ds, xs, s, e1, e2, e3, nio, fun H1 S1 J g1 src => ?_⟩
    obtain ⟨A, Rel, Y, wk, hrel, gv, hA⟩ := src.it
    generalize hrm : (if hid = true then wipeE (hidden os r1) r1 else give os r1) = rm at e4
    -- the base
    have base : ∃ S1', SR X.K σ H1 rm S1' ∧ Rel H1 S1' ∧
        (∀ σ' r2 H2 S2, Go X.K σ rm S1' H1 σ' r2 S2 H2 → fl = .nx r2 → DD.nx σ' H2) ∧
        (∀ x σ' r0 H2 S2 v r2, GoR X.K σ rm S1' H1 σ' r0 S2 H2 → RetOk X.K H1 σ' r0 S2 H2 x v r2 → fl = .rt v r2 → DD.rt x H2) ∧
        (∀ e σ' r0 H2 S2, GoR X.K σ rm S1' H1 σ' r0 S2 H2 → fl = .xc e → wx e σ' H2) := by
      cases hid with
      | true =>
        simp only [if_true] at hrm
        subst hrm
        have nioH : noIo (hidden os r1) r1 = true := by
          unfold noIo at nio ⊢
          rw [List.all_eq_true] at nio ⊢
          exact fun i hi => nio i (hidden_mem hi).1
        refine ⟨S1, mask_sr g1.sr, hrel, fun σ' r2 H2 S2 g hf => ?_, fun x σ' r0 H2 S2 v r2 g ok hf => ?_, fun e σ' r0 H2 S2 g hf => ?_⟩
        · subst hf
          simp only [if_true] at ev
          split at ev
          · rename_i hall
            cases ev
            refine q σ' H2 S2 (g1.trans s (unmask g1.sr nioH (fun i hi => ?_) g))
            obtain ⟨_, ys, hy⟩ := hidden_mem hi
            refine g.em i (wipe_in hi hy) ?_
            have := List.all_eq_true.mp hall i hi
            unfold isEm at this
            split at this
            · assumption
            · cases this
          · cases ev
        · subst hf
          cases ev
          exact q x σ' r0 H2 S2 (g1.transR s (g.unmask nioH)) (ok.older g1.dm)
        · subst hf
          cases ev
          exact q σ' r0 H2 S2 (g1.transR s (g.unmask nioH))
      | false =>
        simp only [Bool.false_eq_true, if_false] at hrm
        subst hrm
        obtain ⟨S1', g1'⟩ := give_any os r1 S1 g1.sr
        refine ⟨S1', g1'.sr, gv.mono (g1'.keep g1.sr) g1'.ss hrel, fun σ' r2 H2 S2 g hf => ?_, fun x σ' r0 H2 S2 v r2 g ok hf => ?_, fun e σ' r0 H2 S2 g hf => ?_⟩
        · subst hf
          simp only [Bool.false_eq_true, if_false] at ev
          cases ev
          exact q σ' H2 S2 ((g1.trans s g1').trans s g)
        · subst hf
          cases ev
          exact q x σ' r0 H2 S2 ((g1.trans s g1').transR s g) (ok.older g1.dm)
        · subst hf
          cases ev
          exact q σ' r0 H2 S2 ((g1.trans s g1').transR s g)
    obtain ⟨S1', sm, hvm, fnx, frt, fxc⟩ := base
    -- what is walked stands
    have stand : ∀ b, A b → ¬ Own σ rm b := fun b hb z => by
      rcases z with ⟨j, ys, q1, q2⟩ | ⟨j, ys, q1, q2⟩
      rotate_left
      · have q3 : r1[j]? = some (.od ys) := by
          rw [← hrm] at q1
          cases hid with
          | true =>
            simp only [if_true] at q1
            rcases wipe_get q1 with ⟨_, z⟩ | ⟨_, z⟩
            · cases z
            · exact z
          | false =>
            simp only [Bool.false_eq_true, if_false] at q1
            exact give_keep q1 fun d z => by cases z
        rcases hA b hb with n | ⟨i, zs, hi, h2, h3⟩
        · exact n (.inr ⟨j, ys, q3, q2⟩)
        · obtain ⟨ws, k1, _⟩ := OwnL.lst g1.sr ⟨i, zs, .inl h2, h3⟩
          obtain ⟨us, k2, _⟩ := OwnD.dct g1.sr ⟨j, ys, q3, q2⟩
          rw [k1] at k2; cases k2
      have q1' : (r1[j]? = some (.ow ys) ∨ r1[j]? = some (.io ys)) ∧ (hid = true → j ∉ hidden os r1) ∧ (hid = false → r1[j]? = some (.ow ys) → j ∉ opdIx os) := by
        rw [← hrm] at q1
        cases hid with
        | true =>
          simp only [if_true] at q1
          rcases q1 with q1 | q1 <;> (rcases wipe_get q1 with ⟨_, z⟩ | ⟨n, z⟩)
          · cases z
          · exact ⟨.inl z, fun _ => n, fun z => by cases z⟩
          · cases z
          · exact ⟨.inr z, fun _ => n, fun z => by cases z⟩
        | false =>
          simp only [Bool.false_eq_true, if_false] at q1
          rcases q1 with q1 | q1
          · exact ⟨.inl (give_own q1).1, fun z => (nomatch z), fun _ _ => (give_own q1).2⟩
          · have := give_io q1
            exact ⟨.inr this, fun z => (nomatch z), fun _ z => by rw [this] at z; cases z⟩
      rcases hA b hb with n | ⟨i, zs, hi, h2, h3⟩
      · exact n (.inl ⟨j, ys, q1'.1, q2⟩)
      · have := g1.sr.one j i ys zs b q1'.1 (.inl h2) q2 h3
        subst this
        cases hid with
        | true => exact q1'.2.1 rfl (mem_hidden hi h2)
        | false =>
          rcases q1'.1 with z | z
          · exact q1'.2.2 rfl z hi
          · rw [h2] at z; cases z
    refine for_it wk (Pv := fun i σ' H' => ∃ r S, Go X.K σ rm S1' H1 σ' r S H' ∧ forL (bindT t) (exSs C body) (xs.drop i) r = .ok fl) ?_ ?_ ?_ ?_
    · exact ⟨rm, S1', .refl sm, by simpa using e4⟩
    · rintro i σ' H' _ ⟨r, S, g, _⟩ b o hb ho
      exact g.fr b o ho (stand b hb)
    · rintro i x σ2 H2 H3 hi ⟨r, S, g2, el⟩ hy
      obtain ⟨d, hd, ex, hvx⟩ := gv.turn i H2 x H3 S hi (gv.mono (g2.keep sm) g2.ss hvm) g2.sr.wf hy
      have g := g2.trans sm (Go.ext g2.sr ex)
      have hdr : xs.drop i = d :: xs.drop (i + 1) := by
        have hlt : i < xs.length := get_lt hd
        rw [List.drop_eq_getElem_cons hlt]
        congr 1
        rw [List.getElem?_eq_getElem hlt] at hd
        exact Option.some.inj hd
      rw [hdr] at el
      simp only [forL] at el
      obtain ⟨ra, f1, el⟩ := bind_ok el
      obtain ⟨fb, f2, el⟩ := bind_ok el
      refine ⟨r, S, d, ra, g.sr, hvx, f1, fun σ3 g3 _ => ⟨ra, S, fb, g3.sr, f2, ?_⟩⟩
      have gA := g.trans sm g3
      cases fb with
      | nx r2 => exact fun σ' H' S' g' => ⟨r2, S', gA.trans sm g', el⟩
      | ct r2 => exact fun σ' H' S' g' => ⟨r2, S', gA.trans sm g', el⟩
      | bk r2 =>
        cases el
        exact fun σ' H' S' g' => fnx σ' r2 H' S' (gA.trans sm g') rfl
      | rt v r2 =>
        cases el
        exact fun x' σ' r0 H' S' g' ok => frt x' σ' r0 H' S' v r2 (gA.transR sm g') (ok.older gA.dm) rfl
      | xc e =>
        cases el
        exact fun σ' r0 H' S' g' => fxc e σ' r0 H' S' (gA.transR sm g') rfl
    · rintro σ2 H2 ⟨r, S, g, el⟩
      rw [List.drop_of_length_le (by omega)] at el
      simp only [forL] at el
      cases el
      exact fnx σ2 r H2 S g rfl
  · cases ev

theorem snd_whl (G : GX X M C k) (hp : SX X wx) {c : E} {body : List S} {pc : Expr} {pb : List Stmt} {pos : Pos} (ic : SndE C k c) (ib : SndSs C k body)
    (h1 : mE M c pc = true) (h3 : mSs M body pb = true) : PS X (.While pc pb [] pos) (tS X.K wx C (.whl c body)) := by
  refine ps_imp (ps_while hp.hp (ic X M pc G h1).2 (ib X M pb wx G hp h3)) fun DD σ H ⟨r, S, f, s, ev, q⟩ => ?_
  simp only [exS] at ev
  refine ⟨fun m σ' H' => ∃ r' S', Go X.K σ r S H σ' r' S' H' ∧ whileL (evT C c) (exSs C body) m r' = .ok f, ⟨C.fuel, r, S, .refl s, ev⟩, ?_⟩
  rintro m σ1 H1 ⟨r1, S1, g1, ew⟩
  cases m with
  | zero => simp only [whileL] at ew; cases ew
  | succ m =>
    simp only [whileL] at ew
    obtain ⟨⟨b, r2⟩, e1, ew⟩ := bind_ok ew
    refine ⟨r1, S1, b, r2, g1.sr, e1, fun H2 S2 g2 => ?_⟩
    have g12 := g1.trans s g2
    cases b with
    | false =>
      simp only [Bool.false_eq_true, if_false] at ew ⊢
      cases ew
      exact q _ _ _ g12
    | true =>
      simp only [if_true] at ew ⊢
      obtain ⟨fb, e2, ew⟩ := bind_ok ew
      refine ⟨fun σ' H' => ∃ r' S', Go X.K σ r S H σ' r' S' H' ∧ whileL (evT C c) (exSs C body) m r' = .ok f, fun σ' H' h => ⟨m, Nat.lt_succ_self m, h⟩, r2, S2, fb, g2.sr, e2, ?_⟩
      cases fb with
      | nx r3 => exact fun σ' H' S' g' => ⟨r3, S', g12.trans s g', ew⟩
      | ct r3 => exact fun σ' H' S' g' => ⟨r3, S', g12.trans s g', ew⟩
      | bk r3 =>
        cases ew
        exact fun σ' H' S' g' => q _ _ _ (g12.trans s g')
      | rt v r3 =>
        cases ew
        exact fun x' σ' r0 H' S' g' ok => q x' σ' r0 H' S' (g12.transR s g') (ok.older g12.dm)
      | xc e =>
        cases ew
        exact fun σ' r0 H' S' g' => q σ' r0 H' S' (g12.transR s g')
end

section
variable {C : Ctx} {k : Nat}
mutual
theorem snd_S : ∀ (st : S), SndS C k st
  | .asg i e => fun X M p wx G hp h => by
    cases p with
    | Assign ts p pos =>
      simp only [mS] at h
      split at h
      · rename_i x px hs
        obtain rfl := asgShape_some hs
        rw [Bool.and_eq_true, Bool.and_eq_true, Bool.and_eq_true] at h
        exact snd_asg G (snd_E e) (of_decide_eq_true h.1.1.1) h.1.1.2 h.1.2 h.2 fun hid t ik es c elt _ => ⟨snd_L es, snd_L c, snd_E elt⟩
      · cases h
    | _ => exact absurd (show false = true from h) Bool.false_ne_true
  | .asgT tt e => fun X M p wx G hp h => by
    cases p with
    | Assign ts p pos =>
      simp only [mS] at h
      split at h
      · rename_i es hs
        obtain ⟨kk, tp, rfl⟩ := tupShape_some hs
        rw [Bool.and_eq_true, Bool.and_eq_true] at h
        exact snd_asgT G (snd_E e) h.1.1 h.1.2 h.2
      · cases h
    | _ => exact absurd (show false = true from h) Bool.false_ne_true
  | .par _ _ _ _ => fun X M p wx G hp h => by cases p <;> exact absurd (show false = true from h) Bool.false_ne_true
  | .sto i kk e => fun X M p wx G hp h => by
    cases p with
    | Assign ts p pos =>
      simp only [mS] at h
      split at h
      · rename_i x pi hs
        obtain ⟨px, sp, rfl⟩ := subShape_some hs
        rw [Bool.and_eq_true, Bool.and_eq_true, Bool.and_eq_true, Bool.and_eq_true] at h
        exact snd_sto G (snd_E kk) (snd_E e) h.1.1.1.1 h.1.1.1.2 h.1.1.2 h.1.2 h.2
      · cases h
    | _ => exact absurd (show false = true from h) Bool.false_ne_true
  | .dnew i => fun X M p wx G hp h => by
    cases p with
    | Assign ts p pos =>
      cases p with
      | Dict ks vs dp =>
        cases ks with
        | nil =>
          cases vs with
          | nil =>
            simp only [mS] at h
            split at h
            · rename_i x px hs
              obtain rfl := asgShape_some hs
              rw [Bool.and_eq_true] at h
              exact snd_dnew G (of_decide_eq_true h.1) h.2
            · cases h
          | cons _ _ => exact absurd (show false = true from h) Bool.false_ne_true
        | cons _ _ => exact absurd (show false = true from h) Bool.false_ne_true
      | _ => exact absurd (show false = true from h) Bool.false_ne_true
    | _ => exact absurd (show false = true from h) Bool.false_ne_true
  | .dmv i j => fun X M p wx G hp h => by
    cases p with
    | Assign ts p pos =>
      cases p with
      | Name y yp =>
        simp only [mS] at h
        split at h
        · rename_i x px hs
          obtain rfl := asgShape_some hs
          rw [Bool.and_eq_true, Bool.and_eq_true] at h
          exact snd_dmv G (of_decide_eq_true h.1.1) h.1.2 h.2
        · cases h
      | _ => exact absurd (show false = true from h) Bool.false_ne_true
    | _ => exact absurd (show false = true from h) Bool.false_ne_true
  | .dsto i kk e => fun X M p wx G hp h => by
    cases p with
    | Assign ts p pos =>
      simp only [mS] at h
      split at h
      · rename_i x pi hs
        obtain ⟨px, sp, rfl⟩ := subShape_some hs
        rw [Bool.and_eq_true, Bool.and_eq_true, Bool.and_eq_true, Bool.and_eq_true] at h
        exact snd_dsto G (snd_E kk) (snd_E e) h.1.1.1.1 h.1.1.1.2 h.1.1.2 h.1.2 h.2
      · cases h
    | _ => exact absurd (show false = true from h) Bool.false_ne_true
  | .aug i op e => fun X M p wx G hp h => by
    cases p with
    | AugAssign tg o p pos =>
      cases tg with
      | Name x px =>
        simp only [mS, Bool.and_eq_true] at h
        obtain rfl := of_decide_eq_true h.1.2
        exact snd_aug G (snd_E e) (of_decide_eq_true h.1.1.1) h.1.1.2 h.2
      | _ => exact absurd (show false = true from h) Bool.false_ne_true
    | _ => exact absurd (show false = true from h) Bool.false_ne_true
  | .augS i op kk e => fun X M p wx G hp h => by
    cases op with
    | add =>
      cases p with
      | AugAssign t o p pos =>
        cases t with
        | Subscript pa pi sp =>
          cases pa with
          | Name x px =>
            cases o with
            | Add =>
              simp only [mS, Bool.and_eq_true] at h
              exact snd_augS G ip_add (fun _ _ _ _ => rfl) (fun q a d r r3 e => by cases q <;> cases d <;> first | exact ⟨_, rfl⟩ | cases e) (snd_E kk) (snd_E e) h.1.1.1 h.1.1.2 h.1.2 h.2
            | _ => exact absurd (show false = true from h) Bool.false_ne_true
          | _ => exact absurd (show false = true from h) Bool.false_ne_true
        | _ => exact absurd (show false = true from h) Bool.false_ne_true
      | _ => exact absurd (show false = true from h) Bool.false_ne_true
    | sub =>
      cases p with
      | AugAssign t o p pos =>
        cases t with
        | Subscript pa pi sp =>
          cases pa with
          | Name x px =>
            cases o with
            | Sub =>
              simp only [mS, Bool.and_eq_true] at h
              exact snd_augS G ip_sub (fun _ _ _ _ => rfl) (fun q a d r r3 e => by cases q <;> cases d <;> first | exact ⟨_, rfl⟩ | cases e) (snd_E kk) (snd_E e) h.1.1.1 h.1.1.2 h.1.2 h.2
            | _ => exact absurd (show false = true from h) Bool.false_ne_true
          | _ => exact absurd (show false = true from h) Bool.false_ne_true
        | _ => exact absurd (show false = true from h) Bool.false_ne_true
      | _ => exact absurd (show false = true from h) Bool.false_ne_true
    | _ => cases p <;> exact absurd (show false = true from h) Bool.false_ne_true
  | .app i e => fun X M p wx G hp h => by
    cases p with
    | Expr pe pos =>
      simp only [mS] at h
      split at h
      · rename_i x m apos cpos ps hs
        obtain ⟨px, rfl⟩ := methShape_some hs
        rw [Bool.and_eq_true, Bool.and_eq_true, Bool.and_eq_true] at h
        obtain rfl := of_decide_eq_true h.1.1.1
        exact snd_app G (snd_E e) h.1.1.2 h.1.2 h.2
      · cases h
    | _ => exact absurd (show false = true from h) Bool.false_ne_true
  | .ext i e => fun X M p wx G hp h => by
    cases p with
    | Expr pe pos =>
      simp only [mS] at h
      split at h
      · rename_i x m apos cpos ps hs
        obtain ⟨px, rfl⟩ := methShape_some hs
        rw [Bool.and_eq_true, Bool.and_eq_true, Bool.and_eq_true] at h
        obtain rfl := of_decide_eq_true h.1.1.1
        exact snd_ext G (snd_E e) h.1.1.2 h.1.2 h.2
      · cases h
    | _ => exact absurd (show false = true from h) Bool.false_ne_true
  | .ifs c a b => fun X M p wx G hp h => by
    have ia := snd_Ss a
    have ib := snd_Ss b
    cases p with
    | If pc pa pb pos =>
      simp only [mS, Bool.and_eq_true] at h
      refine ps_imp (ps_if (snd_E c X M pc G h.1.1).2 (ia X M pa wx G hp h.1.2) (ib X M pb wx G hp h.2)) fun DD σ H ⟨r, S, f, s, ev, q⟩ => ?_
      simp only [exS] at ev
      obtain ⟨⟨x, r1⟩, e1, ev⟩ := bind_ok ev
      refine ⟨r, S, x, r1, s, e1, fun H1 S1 g => ?_⟩
      cases x with
      | true => exact ⟨r1, S1, f, g.sr, ev, q.go s g⟩
      | false => exact ⟨r1, S1, f, g.sr, ev, q.go s g⟩
    | _ => exact absurd (show false = true from h) Bool.false_ne_true
  | .for hid t ik es body => fun X M p wx G hp h => by
    have ib := snd_Ss body
    cases p with
    | For tg iter pb pe pos =>
      cases pe with
      | nil =>
        simp only [mS, Bool.and_eq_true] at h
        exact snd_for G hp (snd_L es) ib h.1.1 h.1.2 h.2
      | cons _ _ => exact absurd (show false = true from h) Bool.false_ne_true
    | _ => exact absurd (show false = true from h) Bool.false_ne_true
  | .whl c body => fun X M p wx G hp h => by
    have ib := snd_Ss body
    cases p with
    | While pc pb pe pos =>
      cases pe with
      | nil =>
        simp only [mS, Bool.and_eq_true] at h
        exact snd_whl G hp (snd_E c) ib h.1 h.2
      | cons _ _ => exact absurd (show false = true from h) Bool.false_ne_true
    | _ => exact absurd (show false = true from h) Bool.false_ne_true
  | .ret e => fun X M p wx G hp h => by
    cases p with
    | Return v pos =>
      cases v with
      | some p =>
        simp only [mS] at h
        exact snd_ret G (snd_E e) h
      | none => exact absurd (show false = true from h) Bool.false_ne_true
    | _ => exact absurd (show false = true from h) Bool.false_ne_true
  | .retN => fun X M p wx G hp h => by
    cases p with
    | Return v pos =>
      cases v with
      | none =>
        refine ps_imp ps_retN fun DD σ H ⟨r, S, f, s, ev, q⟩ => ?_
        simp only [exS] at ev
        cases ev
        exact q .non σ r H S (Go.refl s).r (.inl ⟨rfl, Rp.non⟩)
      | some p => exact absurd (show false = true from h) Bool.false_ne_true
    | _ => exact absurd (show false = true from h) Bool.false_ne_true
  | .brk => fun X M p wx G hp h => by
    cases p with
    | Break pos =>
      refine ps_imp ps_break fun DD σ H ⟨r, S, f, s, ev, q⟩ => ?_
      simp only [exS] at ev
      cases ev
      exact q σ H S (.refl s)
    | _ => exact absurd (show false = true from h) Bool.false_ne_true
  | .cont => fun X M p wx G hp h => by
    cases p with
    | Continue pos =>
      refine ps_imp ps_continue fun DD σ H ⟨r, S, f, s, ev, q⟩ => ?_
      simp only [exS] at ev
      cases ev
      exact q σ H S (.refl s)
    | _ => exact absurd (show false = true from h) Bool.false_ne_true
  | .pass => fun X M p wx G hp h => by
    cases p with
    | Pass pos =>
      refine ps_imp ps_pass fun DD σ H ⟨r, S, f, s, ev, q⟩ => ?_
      simp only [exS] at ev
      cases ev
      exact q σ H S (.refl s)
    | _ => exact absurd (show false = true from h) Bool.false_ne_true
  | .expr e => fun X M p wx G hp h => by
    cases p with
    | Expr p pos =>
      simp only [mS, Bool.and_eq_true] at h
      refine ps_imp (ps_expr (snd_E e X M p G h.1).1 (swaps_plain h.2)) fun DD σ H ⟨r, S, f, s, ev, q⟩ => ?_
      simp only [exS] at ev
      obtain ⟨⟨x, r1⟩, e1, ev⟩ := bind_ok ev
      cases ev
      exact ⟨r, S, x, _, s, e1, fun v H' S' g _ => q σ H' S' g⟩
    | _ => exact absurd (show false = true from h) Bool.false_ne_true
  | .tryB body => fun X M p wx G hp h => by
    have ib := snd_Ss body
    cases p with
    | Try pb hs oe fe pos =>
      match hs, oe, fe, h with
      | h0 :: hs, [], [], h =>
        simp only [mS] at h
        have G' : GX X.nox M C k := ⟨G.calm, G.kind, G.nd, G.hN, G.sc, G.fnb, G.room, G.bn, G.gl, fun f => (G.fns f).imp (fun h => ⟨h.it⟩) id, G.xcs, G.err⟩
        refine ps_imp (ps_try_thru0 (ib X.nox M pb (fun _ _ _ => False) G' ⟨PassesOwn.never, Takes.imp takes0 (fun _ _ _ _ ⟨_, _, z⟩ => z), hp.st, hp.fr⟩ h)) fun DD σ H ⟨r, S, f, s, ev, q⟩ => ?_
        simp only [exS] at ev
        obtain ⟨f1, e1, ev⟩ := bind_ok ev
        cases f1 with
        | xc e => cases ev
        | _ => cases ev; exact ⟨r, S, _, s, e1, q⟩
      | [], _, _, h => exact absurd (show false = true from h) Bool.false_ne_true
      | _ :: _, _ :: _, _, h => exact absurd (show false = true from h) Bool.false_ne_true
      | _ :: _, [], _ :: _, h => exact absurd (show false = true from h) Bool.false_ne_true
    | _ => exact absurd (show false = true from h) Bool.false_ne_true
  | .never => fun X M p wx G hp h => ps_imp ps_never fun DD σ H ⟨r, S, f, s, ev, q⟩ => by simp only [exS] at ev; cases ev
  | .raise c e => fun X M p wx G hp h => snd_raise G hp (snd_E e) h
  | .xs kk f es => fun X M p wx G hp h => snd_xs G hp (snd_L es) h
  | .told i f es => fun X M p wx G hp h => snd_told G hp (snd_L es) h
theorem snd_Ss : ∀ (ss : List S), SndSs C k ss
  | [] => fun X M ps wx G hp h => by
    cases ps with
    | nil =>
      refine pss_imp pss_nil fun DD σ H ⟨r, S, f, s, ev, q⟩ => ?_
      simp only [exSs] at ev
      cases ev
      exact q σ H S (.refl s)
    | cons _ _ => simp only [mSs] at h; cases h
  | st :: ss => fun X M ps wx G hp h => by
    have i1 := snd_S st
    have i2 := snd_Ss ss
    cases ps with
    | nil => simp only [mSs] at h; cases h
    | cons p ps =>
      simp only [mSs, Bool.and_eq_true] at h
      refine pss_imp (pss_cons (i1 X M p wx G hp h.1) (i2 X M ps wx G hp h.2)) fun DD σ H ⟨r, S, f, s, ev, q⟩ => ?_
      simp only [exSs] at ev
      obtain ⟨f1, e1, ev⟩ := bind_ok ev
      refine ⟨r, S, f1, s, e1, ?_⟩
      cases f1 with
      | nx r1 => exact fun σ' H' S' g => ⟨r1, S', f, g.sr, ev, q.go s g⟩
      | bk r1 => cases ev; exact q
      | ct r1 => cases ev; exact q
      | rt v r1 => cases ev; exact q
      | xc e => cases ev; exact q
end
end
end DL

set_option Elab.async false
set_option linter.all false
set_option maxRecDepth 100000
set_option maxHeartbeats 4000000
set_option autoImplicit false
/-! DL14: functions: the program's defs do what their bodies mean. -/
namespace DL
open PySem PySem.Spec PyProof.Rows L2

section
variable {K : PySem.W.Frag} {H H' : Hp} {S S' : Addr → Prop} {σ σ' : Slots} {r r' : Env}
theorem fit_len : ∀ {fs : List Bool} {args : List Val}, argsFit fs args = true → args.length = fs.length
  | [], [], _ => rfl
  | [], _ :: _, h => by simp only [argsFit] at h; cases h
  | _ :: _, [], h => by simp only [argsFit] at h; cases h
  | true :: fs, .io _ :: as, h => by simp only [argsFit] at h; simp [fit_len h]
  | false :: fs, .fz _ :: as, h => by simp only [argsFit] at h; simp [fit_len h]
  | true :: fs, .em :: as, h => by simp only [argsFit] at h; cases h
  | true :: fs, .fz _ :: as, h => by simp only [argsFit] at h; cases h
  | true :: fs, .ow _ :: as, h => by simp only [argsFit] at h; cases h
  | false :: fs, .em :: as, h => by simp only [argsFit] at h; cases h
  | false :: fs, .io _ :: as, h => by simp only [argsFit] at h; cases h
  | false :: fs, .ow _ :: as, h => by simp only [argsFit] at h; cases h
/-- the lent lists behind the call -/
theorem outs_get : ∀ {fs : List Bool} {args : List Val} {r : Env} {outs : List (List D)}, argsFit fs args = true → ioOuts fs r = .ok outs → (outVals args outs).length = args.length ∧ ∀ (m : Nat) (y : Val), (outVals args outs)[m]? = some y →
    (∃ d, args[m]? = some (.fz d) ∧ y = .fz d) ∨ ∃ xs ys, args[m]? = some (.io xs) ∧ r[m]? = some (.io ys) ∧ y = .io ys
  | [], [], r, outs, _, _ => ⟨rfl, fun m y h => by simp [outVals] at h⟩
  | [], _ :: _, _, _, h, _ => by simp only [argsFit] at h; cases h
  | _ :: _, [], _, _, h, _ => by simp only [argsFit] at h; cases h
  | true :: fs, .io xs :: as, r, outs, h, e => by
    simp only [argsFit] at h
    cases r with
    | nil => simp only [ioOuts] at e; cases e
    | cons z r =>
      cases z with
      | io ys =>
        simp only [ioOuts] at e
        obtain ⟨os, e1, e⟩ := bind_ok e
        cases e
        obtain ⟨h1, h2⟩ := outs_get h e1
        refine ⟨by simp [outVals, h1], fun m y hm => ?_⟩
        cases m with
        | zero =>
          simp [outVals] at hm
          subst hm
          exact .inr ⟨xs, ys, rfl, rfl, rfl⟩
        | succ m => simpa using h2 m y (by simpa [outVals] using hm)
      | _ => simp only [ioOuts] at e; cases e
  | false :: fs, .fz d :: as, r, outs, h, e => by
    simp only [argsFit] at h
    cases r with
    | nil => simp only [ioOuts] at e; cases e
    | cons z r =>
      simp only [ioOuts] at e
      obtain ⟨h1, h2⟩ := outs_get h e
      refine ⟨by simp [outVals, h1], fun m y hm => ?_⟩
      cases m with
      | zero =>
        simp [outVals] at hm
        subst hm
        exact .inl ⟨d, rfl, rfl⟩
      | succ m => simpa using h2 m y (by simpa [outVals] using hm)
  | true :: fs, .em :: as, _, _, h, _ => by simp only [argsFit] at h; cases h
  | true :: fs, .fz _ :: as, _, _, h, _ => by simp only [argsFit] at h; cases h
  | true :: fs, .ow _ :: as, _, _, h, _ => by simp only [argsFit] at h; cases h
  | true :: fs, .od _ :: as, _, _, h, _ => by simp only [argsFit] at h; cases h
  | true :: fs, .un :: as, _, _, h, _ => by simp only [argsFit] at h; cases h
  | false :: fs, .em :: as, _, _, h, _ => by simp only [argsFit] at h; cases h
  | false :: fs, .io _ :: as, _, _, h, _ => by simp only [argsFit] at h; cases h
  | false :: fs, .ow _ :: as, _, _, h, _ => by simp only [argsFit] at h; cases h
  | false :: fs, .od _ :: as, _, _, h, _ => by simp only [argsFit] at h; cases h
  | false :: fs, .un :: as, _, _, h, _ => by simp only [argsFit] at h; cases h
/-- empty slots behind the arguments -/
theorem sr_pad {args : List Val} (m : Nat) (s : SR K σ H args S) : SR K (σ ++ List.replicate m none) H (args ++ List.replicate m .em) S := by
  have low : ∀ (j : Nat) (y : Val), (args ++ List.replicate m .em)[j]? = some y → y ≠ .em → args[j]? = some y ∧ (σ ++ List.replicate m none)[j]? = σ[j]? := fun j y h ny => by
    by_cases hj : j < args.length
    · rw [List.getElem?_append_left hj] at h
      exact ⟨h, List.getElem?_append_left (by rw [← s.len]; exact hj)⟩
    · rw [List.getElem?_append_right (by omega), List.getElem?_replicate] at h
      split at h
      · cases h; exact absurd rfl ny
      · cases h
  refine ⟨fun j d hj => ?_, fun j xs hj => ?_, fun j k xs ys a h1 h2 e1 e2 => ?_, s.wf, by simp [s.len], fun j kvs hj => ?_, fun j k xs ys a h1 h2 e1 e2 => ?_⟩
  · obtain ⟨h1, h2⟩ := low j _ hj (fun z => nomatch z)
    rw [h2]; exact s.fz j d h1
  · rcases hj with hj | hj
    · obtain ⟨h1, h2⟩ := low j _ hj (fun z => nomatch z)
      rw [h2]; exact s.lone j xs (.inl h1)
    · obtain ⟨h1, h2⟩ := low j _ hj (fun z => nomatch z)
      rw [h2]; exact s.lone j xs (.inr h1)
  · have q1 : (args[j]? = some (.ow xs) ∨ args[j]? = some (.io xs)) ∧ (σ ++ List.replicate m none)[j]? = σ[j]? := by
      rcases h1 with h | h
      · exact ⟨.inl (low j _ h (fun z => nomatch z)).1, (low j _ h (fun z => nomatch z)).2⟩
      · exact ⟨.inr (low j _ h (fun z => nomatch z)).1, (low j _ h (fun z => nomatch z)).2⟩
    have q2 : (args[k]? = some (.ow ys) ∨ args[k]? = some (.io ys)) ∧ (σ ++ List.replicate m none)[k]? = σ[k]? := by
      rcases h2 with h | h
      · exact ⟨.inl (low k _ h (fun z => nomatch z)).1, (low k _ h (fun z => nomatch z)).2⟩
      · exact ⟨.inr (low k _ h (fun z => nomatch z)).1, (low k _ h (fun z => nomatch z)).2⟩
    rw [q1.2] at e1
    rw [q2.2] at e2
    exact s.one j k xs ys a q1.1 q2.1 e1 e2
  · obtain ⟨h1, h2⟩ := low j _ hj (fun z => nomatch z)
    rw [h2]; exact s.dic j kvs h1
  · obtain ⟨h1, q1⟩ := low j _ h1 (fun z => nomatch z)
    obtain ⟨h2, q2⟩ := low k _ h2 (fun z => nomatch z)
    rw [q1] at e1
    rw [q2] at e2
    exact s.oned j k xs ys a h1 h2 e1 e2
theorem own_pad {args : List Val} {m : Nat} {b : Addr} (hl : args.length = σ.length) : Own (σ ++ List.replicate m none) (args ++ List.replicate m .em) b ↔ Own σ args b := by
  constructor
  · rintro (⟨j, xs, h, e⟩ | ⟨j, xs, h, e⟩)
    · have : j < args.length := by
        by_cases hj : j < args.length
        · exact hj
        · exfalso
          rw [List.getElem?_append_right (by omega), List.getElem?_replicate] at h
          split at h <;> (rcases h with h | h <;> cases h)
      rw [List.getElem?_append_left this] at h
      rw [List.getElem?_append_left (by omega)] at e
      exact .inl ⟨j, xs, h, e⟩
    · have : j < args.length := by
        by_cases hj : j < args.length
        · exact hj
        · exfalso
          rw [List.getElem?_append_right (by omega), List.getElem?_replicate] at h
          split at h <;> cases h
      rw [List.getElem?_append_left this] at h
      rw [List.getElem?_append_left (by omega)] at e
      exact .inr ⟨j, xs, h, e⟩
  · rintro (⟨j, xs, h, e⟩ | ⟨j, xs, h, e⟩)
    · have hj : j < args.length := by rcases h with h | h <;> exact get_lt h
      refine .inl ⟨j, xs, ?_, ?_⟩
      · rw [List.getElem?_append_left hj]; exact h
      · rw [List.getElem?_append_left (by omega)]; exact e
    · have hj : j < args.length := get_lt h
      refine .inr ⟨j, xs, ?_, ?_⟩
      · rw [List.getElem?_append_left hj]; exact h
      · rw [List.getElem?_append_left (by omega)]; exact e
theorem fit_od : ∀ (fs : List Bool) (args : List Val) (i : Nat) (kvs : List (Int × D)), argsFit fs args = true → args[i]? ≠ some (.od kvs)
  | [], args, i, kvs, hf => by cases args with
    | nil => simp
    | cons _ _ => simp only [argsFit] at hf; cases hf
  | f :: fs, args, i, kvs, hf => by cases args with
    | nil => simp
    | cons a as =>
      cases f <;> cases a <;> simp only [argsFit] at hf <;> first
        | (cases hf; done)
        | (cases i with
          | zero => simp
          | succ i => simpa using fit_od fs as i kvs hf)
/-- the end of a body -/
theorem fin_of {vs : List V} {args : List Val} {fs : List Bool} {m : Nat} {outs : List (List D)} {x : V} {v : Val} {r0 : Env} (s : SR K (argSt vs) H args S) (fit : argsFit fs args = true) (ho : ioOuts fs r' = .ok outs)
    (g : GoR K (argSt vs ++ List.replicate m none) (args ++ List.replicate m .em) S H σ' r0 S' H') (ok : RetOk K H σ' r0 S' H' x v r') : Fin K vs args S H (outVals args outs) S' H' x v := by
  have hl : args.length = (argSt vs).length := s.len
  obtain ⟨ol, og⟩ := outs_get fit ho
  have s0 := sr_pad m s
  -- a lent slot's place
  have place : ∀ (i : Nat) (xs : List D), args[i]? = some (.io xs) → σ'[i]? = (argSt vs)[i]? ∧ ∃ ys, r0[i]? = some (.io ys) := fun i xs h => by
    have hi := get_lt h
    obtain ⟨e1, ys, e2⟩ := g.io i xs (by rw [List.getElem?_append_left hi]; exact h)
    rw [List.getElem?_append_left (by omega)] at e1
    exact ⟨e1, ys, e2⟩
  have same : ∀ (i : Nat) (ys : List D), r'[i]? = some (.io ys) → r0[i]? = some (.io ys) := fun i ys h => by
    rcases ok with ⟨rfl, _⟩ | ⟨j, xs, h1, _, _, rfl⟩
    · exact h
    · rcases get_set h with ⟨_, z⟩ | ⟨_, z⟩
      · cases z
      · exact z
  have lent : ∀ b, Own (argSt vs) args b → ¬ S' b := fun b z hb => by
    rcases z with ⟨i, xs, h, e⟩ | ⟨i, xs, h, e⟩
    rotate_left
    · exact absurd h (fit_od fs args i xs fit)
    have hio : args[i]? = some (.io xs) := by
      rcases h with h | h
      · exfalso
        have : ∀ (fs : List Bool) (args : List Val) (i : Nat), argsFit fs args = true → args[i]? ≠ some (.ow xs) := by
          intro fs
          induction fs with
          | nil => intro args i hf; cases args with
            | nil => simp
            | cons _ _ => simp only [argsFit] at hf; cases hf
          | cons f fs ih => intro args i hf; cases args with
            | nil => simp
            | cons a as =>
              cases f <;> cases a <;> simp only [argsFit] at hf <;> first
                | (cases hf; done)
                | (cases i with
                  | zero => simp
                  | succ i => simpa using ih as i hf)
        exact this fs args i fit h
      · exact h
    obtain ⟨e1, ys, e2⟩ := place i xs hio
    obtain ⟨v, e3, a, ws, rfl, _, h3, _⟩ := g.sr.lone i ys (.inr e2)
    rw [e1, e] at e3
    cases e3
    exact h3 hb
  have hk : ∀ b o, H b = some o → (S b ∨ ¬ Mt o) → H' b = some o := fun b o hb z => g.fr b o hb fun q => by
    obtain ⟨o', h1, m, h2⟩ := q.mt s0
    rcases z with z | z
    · exact h2 z
    · rw [h1] at hb; cases hb; exact z m
  refine ⟨⟨fun i d hi => ?_, fun i ys hi => ?_, fun i j xs ys a h1 h2 e1 e2 => ?_, g.sr.wf, by rw [ol]; exact hl, fun i kvs hi => ?_, fun i j xs ys a h1 => ?_⟩, fun b o h n => g.fr b o h fun z => n ((own_pad hl).mp z), g.dm, g.ss, fun b hb => ?_, ?_⟩
  · rcases og i _ hi with ⟨d', h1, h2⟩ | ⟨xs, ys, _, _, z⟩
    · cases h2
      obtain ⟨w, e, q⟩ := s.fz i d h1
      exact ⟨w, e, Rp.mono hk g.ss _ _ q⟩
    · cases z
  · have hi : (outVals args outs)[i]? = some (.io ys) := by
      rcases hi with hi | hi
      · rcases og i _ hi with ⟨d', h1, h2⟩ | ⟨xs, ys, _, _, z⟩ <;> first | cases h2 | cases z
      · exact hi
    rcases og i _ hi with ⟨d', h1, h2⟩ | ⟨xs, zs, h1, h2, z⟩
    · cases h2
    · cases z
      obtain ⟨e1, _⟩ := place i xs h1
      obtain ⟨w, e, q⟩ := g.sr.lone i ys (.inr (same i ys h2))
      rw [e1] at e
      exact ⟨w, e, q⟩
  · have key : ∀ (i : Nat) (xs : List D), ((outVals args outs)[i]? = some (.ow xs) ∨ (outVals args outs)[i]? = some (.io xs)) → r0[i]? = some (.io xs) ∧ σ'[i]? = (argSt vs)[i]? := fun i xs hi => by
      have hi : (outVals args outs)[i]? = some (.io xs) := by
        rcases hi with hi | hi
        · rcases og i _ hi with ⟨d', h1, h2⟩ | ⟨xs, ys, _, _, z⟩ <;> first | cases z | cases h2
        · exact hi
      rcases og i _ hi with ⟨d', h1, h2⟩ | ⟨us, zs, h1, h2, z⟩
      · cases h2
      · cases z
        exact ⟨same i xs h2, (place i us h1).1⟩
    obtain ⟨q1, q2⟩ := key i xs h1
    obtain ⟨q3, q4⟩ := key j ys h2
    exact g.sr.one i j xs ys a (.inr q1) (.inr q3) (by rw [q2]; exact e1) (by rw [q4]; exact e2)
  · rcases og i _ hi with ⟨d', h1, h2⟩ | ⟨xs, ys, _, _, z⟩ <;> first | cases h2 | cases z
  · rcases og i _ h1 with ⟨d', h1, h2⟩ | ⟨xs, ys, _, _, z⟩ <;> first | cases h2 | cases z
  · rcases g.sg b hb with z | z | z
    · exact .inl z
    · exact .inr z
    · exact absurd hb (lent b ((own_pad hl).mp z))
  · rcases ok with ⟨rfl, rn⟩ | ⟨i, xs, h1, h2, rfl, rfl⟩
    · cases v with
      | fz _ => exact rn
      | ow xs =>
        obtain ⟨a, ws, e, q1, q2, q3, _, q4⟩ := rn
        exact ⟨a, ws, e, q1, q2, q3, q4⟩
      | em => exact rn
      | io _ => exact rn
      | od _ => exact rn
      | un => exact rn
    · obtain ⟨w, e, a, ws, rfl, q1, q2, q3⟩ := g.sr.lone i xs (.inl h1)
      rw [h2] at e
      cases e
      refine ⟨a, ws, rfl, ?_, q1, q2, q3⟩
      rcases g.ow a (.inl ⟨i, xs, .inl h1, h2⟩) with z | z
      · exfalso
        rcases (own_pad hl).mp z with ⟨j, ys, h, e⟩ | ⟨j, ys, h, e⟩
        rotate_left
        · exact absurd h (fit_od fs args j ys fit)
        have hio : args[j]? = some (.io ys) := by
          rcases h with h | h
          · exfalso
            have : ∀ (fs : List Bool) (args : List Val) (i : Nat), argsFit fs args = true → args[i]? ≠ some (.ow ys) := by
              intro fs
              induction fs with
              | nil => intro args i hf; cases args with
                | nil => simp
                | cons _ _ => simp only [argsFit] at hf; cases hf
              | cons f fs ih => intro args i hf; cases args with
                | nil => simp
                | cons a as =>
                  cases f <;> cases a <;> simp only [argsFit] at hf <;> first
                    | (cases hf; done)
                    | (cases i with
                      | zero => simp
                      | succ i => simpa using ih as i hf)
            exact this fs args j fit h
          · exact h
        obtain ⟨e1, zs, e2⟩ := place j ys hio
        have := g.sr.one i j xs zs a (.inl h1) (.inr e2) h2 (by rw [e1]; exact e)
        subst this
        rw [h1] at e2
        cases e2
      · exact z
end

/-- the program's text: names, defs, slots -/
structure Txt where
  fname : Nat → Str
  gname : Nat → Str
  st : Nat → Stmt
  N : Nat → List Str
  ps : Nat → List Str
  kwd : Nat → Option (Str × Int)
def Txt.mat (T : Txt) (f : Nat) : Mat := { N := T.N f, sc := defScope (T.st f), fnb := fun _ => true, fname := T.fname, gname := T.gname, kwd := T.kwd }
/-- what is checked of a def's text -/
structure FnChk (T : Txt) (f : Nat) (fn : Fn) : Prop where
  scope : FnScope (T.N f) (T.ps f) (defScope (T.st f))
  len : (T.ps f).length = fn.ios.length
  slots : (T.N f).length = fn.nslots
  body : mSs (T.mat f) fn.body (defBody (T.st f)) = true
  kwl : ((T.kwd f).isNone || decide (fn.ios.getLast? = some false)) = true
/-- how a def takes its arguments, by its place -/
def ArgsAt (K : PySem.W.Frag) (fd : FuncData) (ps : List Str) : Option (Str × Int) → Prop
  | none => ∀ us : List Value, us.length = ps.length → bindArgs fd ⟨us, []⟩ = pure (ps.zip us)
  | some (y, i) => (∃ ds, Vals [V.int i] ds ∧ Binds K fd ps ds) ∧ KBn K fd ps (ps.length - 1) [y] (fun us ws => us ++ ws) (fun vs zs => vs ++ zs)
/-- where a def lies -/
structure FnLoc (K : PySem.W.Frag) (mg : Str → Option Value) (T : Txt) (f : Nat) where
  a : Addr
  fd : FuncData
  fn_ : Fun K (T.fname f) (T.fname f) (T.st f) a fd
  at_ : mg (T.fname f) = some (.ref a)
  eqb : ArgsAt K fd (T.ps f) (T.kwd f)
def locOf {K : PySem.W.Frag} {mg : Str → Option Value} {T : Txt} {f : Nat} {a : Addr} {h : Heap} {oc : Value} {od an : Option Addr} {osl : Array (Option Value)} {kV doc pm cdv ct : Value} (X : K.In h) (G : h.Ns mainGlobals mg)
    (n : PySem.W.nsIn K mainGlobals (T.fname f) = some (some (.ref a)))
    (l : K.lookup a = some ⟨oc, od, .func (PySem.W.fnOf (T.fname f) (T.fname f) (defArgs (T.st f)) (defBody (T.st f)) (defScope (T.st f)) .none kV doc pm an cdv ct), osl⟩)
    (c : PySem.W.codeIn K cdv (T.fname f) = true) (k : PySem.W.keepIn K (.ref a) = true) (hk : T.kwd f = none)
    (e : ∀ us : List Value, us.length = (T.ps f).length → bindArgs (PySem.W.fnOf (T.fname f) (T.fname f) (defArgs (T.st f)) (defBody (T.st f)) (defScope (T.st f)) .none kV doc pm an cdv ct) ⟨us, []⟩ = pure ((T.ps f).zip us)) : FnLoc K mg T f :=
  { a := a, fd := _, fn_ := fun_mk l c k, at_ := PySem.W.mg_of X G n, eqb := by rw [hk]; exact e }
/-- a def with one argument that has a default and is told by name -/
def locOfK {K : PySem.W.Frag} {mg : Str → Option Value} {T : Txt} {f : Nat} {a D : Addr} {h : Heap} {oc : Value} {od an : Option Addr} {osl : Array (Option Value)} {doc pm cdv ct : Value} {y : Str} {i : Int} {tk : Tok} (X : K.In h) (G : h.Ns mainGlobals mg)
    (n : PySem.W.nsIn K mainGlobals (T.fname f) = some (some (.ref a)))
    (l : K.lookup a = some ⟨oc, od, .func (PySem.W.fnOf (T.fname f) (T.fname f) (defArgs (T.st f)) (defBody (T.st f)) (defScope (T.st f)) .none (.ref D) doc pm an cdv ct), osl⟩)
    (c : PySem.W.codeIn K cdv (T.fname f) = true) (k : PySem.W.keepIn K (.ref a) = true) (hk : T.kwd f = some (y, i)) (hd : PySem.W.nsIn K D y = some (some (.int i tk))) (hp : 0 < (T.ps f).length)
    (e1 : ∀ (us : List Value) (v : Value), us.length = (T.ps f).length - 1 → KwChain D [(y, v)] (bindArgs (PySem.W.fnOf (T.fname f) (T.fname f) (defArgs (T.st f)) (defBody (T.st f)) (defScope (T.st f)) .none (.ref D) doc pm an cdv ct) ⟨us, []⟩) ((T.ps f).zip (us ++ [v])))
    (e2 : ∀ (us : List Value) (v : Value), us.length = (T.ps f).length - 1 → bindArgs (PySem.W.fnOf (T.fname f) (T.fname f) (defArgs (T.st f)) (defBody (T.st f)) (defScope (T.st f)) .none (.ref D) doc pm an cdv ct) ⟨us, [(y, v)]⟩ = pure ((T.ps f).zip (us ++ [v]))) : FnLoc K mg T f :=
  { a := a, fd := _, fn_ := fun_mk l c k, at_ := PySem.W.mg_of X G n, eqb := by
      rw [hk]
      refine ⟨⟨[.int i tk], .cons ⟨tk, rfl⟩ .nil, fun s us X' hl => ?_⟩, ⟨fun s us ws X' l1 l2 => ?_, fun r1 r2 => r1.append r2⟩⟩
      · refine BindsTo.of_looks fun M => KwChain.looks X' (fun q hq => ?_) (e1 us (.int i tk) (by simp at hl; omega))
        rw [List.mem_singleton.mp hq]
        exact hd
      · match ws, l2 with
        | [v], _ => exact .of_eq (e2 us v l1) }
def look {α : Type} : List (Nat × α) → Nat → Option α
  | [], _ => none
  | (m, a) :: r, n => if n = m then some a else look r n
def AllIn {α : Type} (p : Nat → α → Prop) : List (Nat × α) → Prop
  | [] => True
  | (m, a) :: r => p m a ∧ AllIn p r
theorem look_all {α : Type} {p : Nat → α → Prop} : ∀ {l : List (Nat × α)}, AllIn p l → ∀ (n : Nat) (a : α), look l n = some a → p n a
  | [], _, _, _, h => by cases h
  | (m, b) :: r, q, n, a, h => by
    simp only [look] at h
    split at h
    · rename_i e
      cases h
      rw [e]
      exact q.1
    · exact look_all q.2 n a h
theorem ioOuts_nex : ∀ {fs : List Bool} {r : Env} {e : Exn}, ioOuts fs r ≠ .ex e
  | [], r, e, h => by simp only [ioOuts] at h; cases h
  | true :: fs, [], e, h => by simp only [ioOuts] at h; cases h
  | false :: fs, [], e, h => by simp only [ioOuts] at h; cases h
  | true :: fs, x :: r, e, h => by
    cases x with
    | io xs =>
      simp only [ioOuts] at h
      cases q : ioOuts fs r with
      | ok o => rw [q] at h; cases h
      | ex e2 => exact ioOuts_nex q
      | no => rw [q] at h; cases h
    | _ => simp only [ioOuts] at h; cases h
  | false :: fs, x :: r, e, h => by
    simp only [ioOuts] at h
    exact ioOuts_nex h
structure World0 (K : PySem.W.Frag) (mg : Str → Option Value) (P : Prog) (T : Txt) where
  bn : ∀ x ∈ bnames, mg x = none
  gl : ∀ i d, P.gl i = some d → ∃ v u, mg (T.gname i) = some u ∧ RelV v u ∧ ∀ H S, Rp K H S v d
  chk : ∀ f fn, P.tab f = some fn → FnChk T f fn
  fns : ∀ f fn, P.tab f = some fn → Nonempty (FnLoc K mg T f)
  xcs : ∀ c, P.xc c = true → ∃ Ca, XCls K mg c Ca

noncomputable def World0.at {K : PySem.W.Frag} {mg : Str → Option Value} {P : Prog} {T : Txt} (W : World0 K mg P T) (f : Nat) (fn : Fn) (h : P.tab f = some fn) : FnLoc K mg T f := Classical.choice (W.fns f fn h)
theorem run_ok {Pg : Program} {w : World} {K : PySem.W.Frag} {mg : Str → Option Value} {base : Heap} {P : Prog} {T : Txt} (W : World0 K mg P T) (Er : P.er = true → ErrOk Pg w K mg base P.xc) :
    ∀ (k f : Nat) (fn : Fn) (h : P.tab f = some fn), FnOk Pg w K mg base (L2.CX Pg w) k (W.at f fn h).a (W.at f fn h).fd (T.ps f) (spF K mg P.xc (T.ps f).length (callF P k f))
  | 0, f, fn, h => ⟨fun vs H Q E q => q.1, fun A outer s H args us vs Q E _ _ _ _ q => by
      obtain ⟨_, S, as, _, _, alt⟩ := q
      rcases alt with ⟨x, outs, e, _⟩ | ⟨ee, e, _⟩ <;> (simp only [callF] at e; cases e)⟩
  | k + 1, f, fn, h => by
    have ih := run_ok (Pg := Pg) (w := w) (base := base) W Er k
    have F := W.chk f fn h
    refine (W.at f fn h).fn_.okX F.scope (fun vs H Q E q => q.1) fun cdv A outer s H vs Q E hr q => ?_
    refine ⟨tSs K (fun e _ H' => ∀ cls d, XR mg e cls d → E cls d H') (P.ctx k) fn.body, ?_, ?_⟩
    · refine snd_Ss (C := P.ctx k) (k := k) fn.body _ (T.mat f) _ _ ?_ ⟨passes_of rfl, Takes.imp (takes_of rfl rfl rfl rfl) (fun cls d σ H ⟨e, xr, h⟩ => h cls d xr), rfl, rfl⟩ F.body
      refine ⟨rfl, F.scope.kind, F.scope.nd, rfl, rfl, fun _ _ => rfl, hr, W.bn, W.gl, fun g => ?_, W.xcs, Er⟩
      cases hg : P.tab g with
      | none =>
        refine .inr fun vs => ?_
        show callF P k g vs = .no
        cases k with
        | zero => rfl
        | succ k => simp only [callF]; rw [hg]
      | some gn =>
        have hio : P.ios g = gn.ios := by unfold Prog.ios; rw [hg]
        refine .inl ⟨(W.at g gn hg).a, (W.at g gn hg).fd, T.ps g, (W.at g gn hg).at_, (W.at g gn hg).fn_.kp, ?_, ?_, ih g gn hg⟩
        · have h1 := (W.at g gn hg).eqb
          have h2 := (W.chk g gn hg).kwl
          show ArgsOk K _ _ (P.ios g) (T.kwd g)
          rw [hio]
          cases hk : T.kwd g with
          | none =>
            rw [hk] at h1
            exact .all h1
          | some q =>
            obtain ⟨y, i⟩ := q
            rw [hk] at h1 h2
            exact ⟨h1.1, h1.2, by simpa using h2⟩
        · rw [(W.chk g gn hg).len]
          show _ = (P.ios g).length
          rw [hio]
    · obtain ⟨hl, S, args, sr, kinds, alt⟩ := q
      have hst0 : L2.start (T.N f) vs = argSt vs ++ List.replicate (fn.nslots - fn.ios.length) none := by
        unfold L2.start argSt
        rw [F.slots, hl, F.len]
      rcases alt with ⟨x, outs, e, fin⟩ | ⟨ee, e, fz, fin⟩
      rotate_left
      · rw [callF_succ h] at e
        simp only [runFn] at e
        split at e
        rotate_left
        · cases e
        rename_i fit
        rw [Bool.and_eq_true] at fit
        have key : exSs (P.ctx k) fn.body (args ++ List.replicate (fn.nslots - fn.ios.length) .em) = .ok (.xc ee) := by
          cases q : exSs (P.ctx k) fn.body (args ++ List.replicate (fn.nslots - fn.ios.length) .em) with
          | ok fl =>
            rw [q] at e
            cases fl with
            | xc e2 =>
              simp only [noX, ok_bind] at e
              split at e
              · cases e; rfl
              · cases e
            | nx r =>
              simp only [noX, ok_bind] at e
              cases q2 : ioOuts fn.ios r with
              | ok o => rw [q2] at e; cases e
              | ex e3 => exact absurd q2 ioOuts_nex
              | no => rw [q2] at e; cases e
            | rt v r =>
              simp only [noX, ok_bind] at e
              cases q2 : ioOuts fn.ios r with
              | ok o => rw [q2] at e; cases e
              | ex e3 => exact absurd q2 ioOuts_nex
              | no => rw [q2] at e; cases e
            | bk r => cases e
            | ct r => cases e
          | ex e2 => rw [q] at e; cases e
          | no => rw [q] at e; cases e
        rw [hst0]
        refine ⟨_, S, .xc ee, sr_pad _ sr, key, fun σ' r0 H' S' g cls d xr => fin cls d H' S' ?_ xr⟩
        have noOwn : ∀ b, ¬ Own (argSt vs ++ List.replicate (fn.nslots - fn.ios.length) none) (args ++ List.replicate (fn.nslots - fn.ios.length) .em) b := fun b q => by
          rcases (own_pad sr.len).mp q with ⟨j, xs, z, _⟩ | ⟨j, xs, z, _⟩
          · rcases z with z | z
            · obtain ⟨dd, z2⟩ := fz _ (List.mem_of_getElem? z)
              cases z2
            · obtain ⟨dd, z2⟩ := fz _ (List.mem_of_getElem? z)
              cases z2
          · obtain ⟨dd, z2⟩ := fz _ (List.mem_of_getElem? z)
            cases z2
        exact ⟨fun b o hb => g.fr b o hb (noOwn b), g.ss, fun b hb => by
          rcases g.sg b hb with z | z | z
          · exact .inl z
          · exact .inr z
          · exact absurd z (noOwn b), g.sr.wf⟩
      rw [callF_succ h] at e
      simp only [runFn] at e
      split at e
      · rename_i fit
        rw [Bool.and_eq_true] at fit
        obtain ⟨fl, e1, e⟩ := bind_ok e
        have e1 := noX_ok e1
        have hal := fit_len fit.1
        rw [hst0]
        refine ⟨_, S, fl, sr_pad _ sr, e1, ?_⟩
        cases fl with
        | nx r =>
          obtain ⟨os, e2, e⟩ := bind_ok e
          cases e
          exact fun σ' H' S' g => fin .non H' S' (fin_of sr fit.1 e2 g.r (.inl ⟨rfl, Rp.non⟩))
        | rt v r =>
          obtain ⟨os, e2, e⟩ := bind_ok e
          cases e
          exact fun x' σ' r0 H' S' g ok => fin x' H' S' (fin_of sr fit.1 e2 g ok)
        | bk r => cases e
        | ct r => cases e
        | xc ee =>
          dsimp only at e
          split at e <;> cases e
      · cases e

theorem glInt {K : PySem.W.Frag} {mg : Str → Option Value} {h : Heap} {x : Str} {i : Int} {tk : Tok} (X : K.In h) (G : h.Ns mainGlobals mg) (n : PySem.W.nsIn K mainGlobals x = some (some (.int i tk))) :
    ∃ v u, mg x = some u ∧ RelV v u ∧ ∀ H S, Rp K H S v (.int i) := ⟨.int i, _, PySem.W.mg_of X G n, ⟨_, rfl⟩, fun _ _ => .int i⟩
theorem glStr {K : PySem.W.Frag} {mg : Str → Option Value} {h : Heap} {x : Str} {i : Str} {tk : Tok} (X : K.In h) (G : h.Ns mainGlobals mg) (n : PySem.W.nsIn K mainGlobals x = some (some (.str i tk))) :
    ∃ v u, mg x = some u ∧ RelV v u ∧ ∀ H S, Rp K H S v (.str i) := ⟨.str i, _, PySem.W.mg_of X G n, ⟨_, rfl⟩, fun _ _ => .str i⟩
theorem rpl_strs {K : PySem.W.Frag} {H : Hp} {S : Addr → Prop} : ∀ ns : List Str, RpL K H S (ns.map V.str) (ns.map PyData.str)
  | [] => .nil
  | n :: ns => .cons (.str n) (rpl_strs ns)
theorem glTup {K : PySem.W.Frag} {mg : Str → Option Value} {h : Heap} {x : Str} {ss : List Str} {a : Addr} {dd : Option Addr} {its : Array Value} {nn : Nat} {sl : Array (Option Value)} (X : K.In h) (G : h.Ns mainGlobals mg) (n : PySem.W.nsIn K mainGlobals x = some (some (.ref a)))
    (l : K.lookup a = some ⟨.type "tuple", dd, .seq its nn, sl⟩) (q : Vals (ss.map V.str) its.toList) (z : ss.length ≤ 1000) :
    ∃ v u, mg x = some u ∧ RelV v u ∧ ∀ H S, Rp K H S v (.tuple (ss.map PyData.str)) := by
  have hz : its.size ≤ sizeLine := by
    have := q.length
    rw [List.length_map] at this
    rw [sizeLine_eq, ← Array.length_toList, ← this]
    omega
  exact ⟨.ref a, _, PySem.W.mg_of X G n, rfl, fun H S => .tup (.inr ⟨_, its, nn, l, rfl, rfl, hz, q⟩) (rpl_strs ss)⟩
/-- the law's own promise -/
def spLaw (K : PySem.W.Frag) : Sp := fun vs H Q _ => ∃ (a : Addr) (ns : List Int), vs = [.ref a] ∧ ns.length ≤ 63 ∧ (∀ z ∈ ns, Builtin.Int.intBits z ≤ 1048576) ∧ SqL K H a (ns.map V.int) ∧ ∀ H', Q (.bl true) H'
theorem rpl_ints {K : PySem.W.Frag} {H : Hp} {S : Addr → Prop} : ∀ ns : List Int, RpL K H S (ns.map V.int) (ns.map PyData.int)
  | [] => .nil
  | n :: ns => .cons (.int n) (rpl_ints ns)
/-- a def whose promise does not speak of errors lets none out -/
theorem calm_ok {Pg : Program} {w : World} {K : PySem.W.Frag} {mg : Str → Option Value} {base : Heap} {k : Nat} {a : Addr} {fd : FuncData} {ps : List Str} {sp : Sp} (F : FnOk Pg w K mg base (L2.CX Pg w) k a fd ps sp) (h : ∀ vs H Q E E', sp vs H Q E → sp vs H Q E') : FnOk Pg w K mg base CX0 k a fd ps sp :=
  ⟨F.len, fun A outer s H args us vs Q E hr e0 hb r q => codeAny_mono (F.run A outer s H args us vs Q E0 hr e0 hb r (h _ _ _ _ _ q)) fun res s' hq => by
    cases res with
    | error e =>
      obtain ⟨_, _, _, _, _, _, _, _, _, _, _, _, z⟩ := (show L2.CX Pg w outer H s E0 e s' from hq)
      exact z.elim
    | ok fl => cases fl <;> exact hq⟩
theorem law_ok {Pg : Program} {w : World} {K : PySem.W.Frag} {mg : Str → Option Value} {base : Heap} {k : Nat} {a : Addr} {fd : FuncData} {x : Str} {run : List Val → Res (Val × List (List D))}
    {xc : Nat → Bool} (F : FnOk Pg w K mg base (L2.CX Pg w) k a fd [x] (spF K mg xc 1 run)) (h : ∀ ns : List Int, ns.length ≤ 63 → (∀ z ∈ ns, Builtin.Int.intBits z ≤ 1048576) → ∃ outs, run [.fz (.list (ns.map PyData.int))] = .ok (.fz (.bool true), outs)) :
    FnOk Pg w K mg base CX0 k a fd [x] (spLaw K) := by
  refine calm_ok (F.imp ?_) fun _ _ _ _ _ h => h
  intro vs H Q E ⟨b, ns, e, h1, h2, h3, q⟩
  subst e
  obtain ⟨outs, hr⟩ := h ns h1 h2
  refine ⟨rfl, fun c => c = b ∧ H c ≠ none, [.fz (.list (ns.map PyData.int))], ⟨fun i d hi => ?_, fun i xs hi => ?_, fun i j xs ys c hi _ _ _ => ?_, fun c hc => hc.2, rfl, fun i kvs hi => (nomatch (show some (Val.fz _) = some (.od kvs) from by cases i with
    | zero => exact hi
    | succ i => simp at hi)), fun i j xs ys c hi => (nomatch (show some (Val.fz _) = some (.od xs) from by cases i with
    | zero => exact hi
    | succ i => simp at hi))⟩, fun y hy => ?_, .inl ⟨_, outs, hr, fun v H' S' fin => ?_⟩⟩
  · cases i with
    | zero =>
      simp at hi
      subst hi
      refine ⟨_, rfl, ?_⟩
      rcases h3 with h3 | h3
      · refine .lst ⟨rfl, ?_⟩ h3 (rpl_ints ns)
        rcases h3 with h3 | ⟨o, h3⟩
        · rw [h3]; intro z; cases z
        · rw [h3]; intro z; cases z
      · exact .lstK h3 (rpl_ints ns)
    | succ i => simp at hi
  · cases i with
    | zero => simp at hi
    | succ i => simp at hi
  · cases i with
    | zero => simp at hi
    | succ i => simp at hi
  · simp at hy
    exact .inl ⟨_, hy⟩
  · have := fin.rn
    cases (show Rp K H' S' v (.bool true) from this)
    exact q H'

/-- the law's function at its end -/
theorem law_end {Pg : Program} {w : World} {K : PySem.W.Frag} {mg : Str → Option Value} {P : Prog} {T : Txt} {f k : Nat} {fn : Fn} {fa : Addr} {x : Str} (hkw : T.kwd f = none) (hp : T.ps f = [x]) (ht : P.tab f = some fn) (W : World0 K mg P T) (Er : P.er = true → ∀ base : Heap, ErrOk Pg w K mg base P.xc) (hfa : mg (T.fname f) = some (.ref fa))
    (h : ∀ ns : List Int, ns.length ≤ 63 → (∀ z ∈ ns, Builtin.Int.intBits z ≤ 1048576) → ∃ outs, callF P k f [.fz (.list (ns.map PyData.int))] = .ok (.fz (.bool true), outs)) :
    ∃ fd : FuncData, (∀ (s : Shared) (u : Value), BindsTo s fd ⟨[u], []⟩ [(x, u)]) ∧ ∀ base : Heap, K.In base → base.Ns mainGlobals mg → FnOk Pg w K mg base CX0 k fa fd [x] (spLaw K) := by
  have e := (W.at f fn ht).at_.symm.trans hfa
  have ea : (W.at f fn ht).a = fa := by cases e; rfl
  subst ea
  refine ⟨(W.at f fn ht).fd, fun s u => .of_eq ?_, fun base _ _ => ?_⟩
  · have h1 := (W.at f fn ht).eqb
    rw [hkw] at h1
    have := h1 [u] (by rw [hp]; rfl)
    rw [hp] at this
    exact this
  · have := run_ok (Pg := Pg) (w := w) (base := base) W (fun h => Er h base) k f fn ht
    rw [hp] at this
    exact law_ok this h
end DL

set_option Elab.async false
set_option linter.all false
set_option maxRecDepth 100000
set_option maxHeartbeats 4000000
set_option autoImplicit false
/-! SP0: what a run gives, step by step, for simp. -/
namespace DL
open PySem

/-- Prop; simp does not enter what stands in it -/
abbrev PrOf {α : Sort _} (_ : α) : Type := Prop
/-- the same, in a form that cases and subst take -/
structure Say (p : Prop) : Prop where
  it : p
@[simp] theorem Say_eq {p : Prop} : Say p = p := propext ⟨fun h => h.it, fun h => ⟨h⟩⟩
theorem say {p : Prop} (h : Say p) : p := h.it
/-- the run ends well, with Q -/
def W {α : Type} (m : Res α) (Q : α → Prop) : PrOf Q := match m with
  | .ok a => Q a
  | _ => False
section
variable {α β : Type}
@[simp] theorem W_ok {a : α} {Q : α → Prop} : W (.ok a) Q = Q a := propext Iff.rfl
@[simp] theorem W_no {Q : α → Prop} : W (.no : Res α) Q = False := propext Iff.rfl
theorem W_bind {m : Res α} {f : α → Res β} {Q : β → Prop} : W (m >>= f) Q = W m fun a => W (f a) Q := by cases m <;> rfl
theorem W_mono {m : Res α} {Q R : α → Prop} (h : W m Q) (k : ∀ a, Q a → R a) : W m R := by
  cases m with
  | ok a => exact k a h
  | _ => exact h
theorem W_iff {m : Res α} {Q : α → Prop} : W m Q ↔ ∃ a, m = .ok a ∧ Q a := by
  cases m with
  | ok a => exact ⟨fun h => ⟨a, rfl, h⟩, fun ⟨b, e, h⟩ => by cases e; exact h⟩
  | ex e => exact ⟨fun h => h.elim, fun ⟨b, e, h⟩ => nomatch e⟩
  | no => exact ⟨fun h => h.elim, fun ⟨b, e, h⟩ => nomatch e⟩
theorem W_eq {m : Res α} {a : α} {Q : α → Prop} (h : m = .ok a) : W m Q = Q a := by rw [h]; rfl
end

@[irreducible] def Ev (C : Ctx) (e : E) (r : Env) (Q : Val → Env → Prop) : PrOf Q := W (evE C e r) fun p => Q p.1 p.2
@[irreducible] def Op (C : Ctx) (e : E) (r : Env) (Q : Opd → Env → Prop) : PrOf Q := W (asO e (evE C e) r) fun p => Q p.1 p.2
@[irreducible] def Dt (C : Ctx) (e : E) (r : Env) (Q : D → Env → Prop) : PrOf Q := W (fixed (evE C e r)) fun p => Q p.1 p.2
@[irreducible] def Tt (C : Ctx) (e : E) (r : Env) (Q : Bool → Env → Prop) : PrOf Q := W (tested (fixed (evE C e r))) fun p => Q p.1 p.2
@[irreducible] def Ds (C : Ctx) (es : List E) (r : Env) (Q : List D → Env → Prop) : PrOf Q := W (evDs C es r) fun p => Q p.1 p.2
@[irreducible] def Os (C : Ctx) (es : List E) (r : Env) (Q : List Opd → Env → Prop) : PrOf Q := W (evOs C es r) fun p => Q p.1 p.2
@[irreducible] def As (C : Ctx) (es : List E) (fs : List Bool) (r : Env) (Q : List Arg → Env → Prop) : PrOf Q := W (evAs C es fs r) fun p => Q p.1 p.2
@[irreducible] def An (C : Ctx) (es : List E) (r : Env) (Q : Val → Env → Prop) : PrOf Q := W (evAnd C es r) fun p => Q p.1 p.2
@[irreducible] def Or_ (C : Ctx) (es : List E) (r : Env) (Q : Val → Env → Prop) : PrOf Q := W (evOr C es r) fun p => Q p.1 p.2
@[irreducible] def Cs (C : Ctx) (es : List E) (r : Env) (Q : Bool → Env → Prop) : PrOf Q := W (evCs C es r) fun p => Q p.1 p.2
@[irreducible] def Pt (C : Ctx) (o : Option E) (r : Env) (Q : Option Int → Env → Prop) : PrOf Q := W (evPart C o r) fun p => Q p.1 p.2
@[irreducible] def Sx (C : Ctx) (s : S) (r : Env) (K : Flow → Prop) : PrOf K := W (exS C s r) K
@[irreducible] def Sq (C : Ctx) (ss : List S) (r : Env) (K : Flow → Prop) : PrOf K := W (exSs C ss r) K
@[irreducible] def LC (C : Ctx) (t : Tgt) (c : List E) (elt : E) (xs acc : List D) (r : Env) (Q : List D → Env → Prop) : PrOf Q :=
  W (lcLoop t.slots (bindT t) (evCs C c) (fun r => fixed (evE C elt r)) xs acc r) fun p => Q p.1 p.2
@[irreducible] def FL (C : Ctx) (t : Tgt) (body : List S) (xs : List D) (r : Env) (K : Flow → Prop) : PrOf K := W (forL (bindT t) (exSs C body) xs r) K
@[irreducible] def WL (C : Ctx) (c : E) (body : List S) (n : Nat) (r : Env) (K : Flow → Prop) : PrOf K := W (whileL (evT C c) (exSs C body) n r) K
@[irreducible] def Bt (t : Tgt) (d : D) (r : Env) (Q : Env → Prop) : PrOf Q := W (bindT t d r) Q
@[irreducible] def Bts (ts : List Tgt) (ds : List D) (r : Env) (Q : Env → Prop) : PrOf Q := W (bindTs ts ds r) Q
def isV : E → Bool
  | .v _ => true
  | _ => false
@[simp] theorem isV_gl {i : Nat} : isV (.gl i) = false := rfl
@[simp] theorem isV_non : isV .non = false := rfl
@[simp] theorem isV_bl {b : Bool} : isV (.bl b) = false := rfl
@[simp] theorem isV_int {b : Int} : isV (.int b) = false := rfl
@[simp] theorem isV_str {b : String} : isV (.str b) = false := rfl
@[simp] theorem isV_tup {b : List E} : isV (.tup b) = false := rfl
@[simp] theorem isV_trr {e : E} : isV (.trr e) = false := rfl
@[simp] theorem isV_fs {b : List E} : isV (.fs b) = false := rfl
@[simp] theorem isV_lst {b : List E} : isV (.lst b) = false := rfl
@[simp] theorem isV_dct {b : String} {a : E} : isV (.dct b a) = false := rfl
@[simp] theorem isV_dct0 : isV .dct0 = false := rfl
@[simp] theorem isV_bin {o : Bop} {a b : E} : isV (.bin o a b) = false := rfl
@[simp] theorem isV_neg {a : E} : isV (.neg a) = false := rfl
@[simp] theorem isV_not {a : E} : isV (.not a) = false := rfl
@[simp] theorem isV_cmp {o : Cop} {a b : E} : isV (.cmp o a b) = false := rfl
@[simp] theorem isV_chain {o p : Cop} {a b c : E} : isV (.chain o p a b c) = false := rfl
@[simp] theorem isV_isN {a : E} : isV (.isN a) = false := rfl
@[simp] theorem isV_notN {a : E} : isV (.notN a) = false := rfl
@[simp] theorem isV_and {a : List E} : isV (.and a) = false := rfl
@[simp] theorem isV_or {a : List E} : isV (.or a) = false := rfl
@[simp] theorem isV_ite {a b c : E} : isV (.ite a b c) = false := rfl
@[simp] theorem isV_idx {a b : E} : isV (.idx a b) = false := rfl
@[simp] theorem isV_slc {a : E} {l h : Option E} : isV (.slc a l h) = false := rfl
@[simp] theorem isV_call {f : Nat} {a : List E} : isV (.call f a) = false := rfl
@[simp] theorem isV_callB {f : Nat} {a : List E} : isV (.callB f a) = false := rfl
@[simp] theorem isV_bi {f : Bi} {a : List E} : isV (.bi f a) = false := rfl
@[simp] theorem isV_dget {i : Nat} {k : E} : isV (.dget i k) = false := rfl
@[simp] theorem isV_popl {i : Nat} : isV (.popl i) = false := rfl
@[simp] theorem isV_popa {i : Nat} {k : E} : isV (.popa i k) = false := rfl
@[simp] theorem isV_fl2 {i j : Nat} {e f : E} : isV (.fl2 i j e f) = false := rfl
@[simp] theorem isV_dsp {ks : List (Int ⊕ String)} {es : List E} : isV (.dsp ks es) = false := rfl
@[simp] theorem isV_mt {m : Meth} {a : E} {es : List E} : isV (.mt m a es) = false := rfl
@[simp] theorem isV_isi {a : E} {t : Ty} : isV (.isi a t) = false := rfl
@[simp] theorem isV_lc {h : Bool} {t : Tgt} {k : Ik} {es c : List E} {e : E} : isV (.lc h t k es c e) = false := rfl
section
variable {C : Ctx} {r r' : Env}

/-! ### slots -/
def vK (i : Nat) (r : Env) (Q : Val → Env → Prop) : Option Val → PrOf Q
  | some (.fz d) => Q (.fz d) r
  | some (.ow xs) => Q (.fz (.list xs)) (r.set i (.fz (.list xs)))
  | some (.od kvs) => Q (.fz (.dict (dictI kvs))) (r.set i (.fz (.dict (dictI kvs))))
  | _ => False
@[simp] theorem vK_od {i : Nat} {Q : Val → Env → Prop} {kvs : List (Int × D)} : vK i r Q (some (.od kvs)) = Q (.fz (.dict (dictI kvs))) (r.set i (.fz (.dict (dictI kvs)))) := propext Iff.rfl
@[simp] theorem vK_fz {i : Nat} {Q : Val → Env → Prop} {d : D} : vK i r Q (some (.fz d)) = Q (.fz d) r := propext Iff.rfl
@[simp] theorem vK_ow {i : Nat} {Q : Val → Env → Prop} {xs : List D} : vK i r Q (some (.ow xs)) = Q (.fz (.list xs)) (r.set i (.fz (.list xs))) := propext Iff.rfl
@[simp] theorem Ev_v {i : Nat} {Q : Val → Env → Prop} : Ev C (.v i) r Q = vK i r Q r[i]? := by
  unfold Ev
  simp only [evE, take]
  split <;> simp_all [vK]
def oK (i : Nat) (r : Env) (Q : Opd → Env → Prop) : Option Val → PrOf Q
  | some .em => False
  | some (.od _) => False
  | some .un => False
  | some _ => Q (.ref i) r
  | none => False
@[simp] theorem oK_fz {i : Nat} {Q : Opd → Env → Prop} {d : D} : oK i r Q (some (.fz d)) = Q (.ref i) r := propext Iff.rfl
@[simp] theorem oK_ow {i : Nat} {Q : Opd → Env → Prop} {d : List D} : oK i r Q (some (.ow d)) = Q (.ref i) r := propext Iff.rfl
@[simp] theorem oK_io {i : Nat} {Q : Opd → Env → Prop} {d : List D} : oK i r Q (some (.io d)) = Q (.ref i) r := propext Iff.rfl
@[simp] theorem Op_v {i : Nat} {Q : Opd → Env → Prop} : Op C (.v i) r Q = oK i r Q r[i]? := by
  unfold Op
  simp only [asO]
  split
  · rename_i h; rw [h]; rfl
  · rename_i h; rw [h]; rfl
  · rename_i h; rw [h]; rfl
  · rename_i x h1 h3 h4 h2
    rw [h2]
    cases x <;> first | rfl | (exact absurd rfl h1) | (exact absurd rfl (h3 _)) | (exact absurd rfl h4)
  · rename_i h; rw [h]; rfl
theorem Op_else {e : E} {Q : Opd → Env → Prop} (h : isV e = false) : Op C e r Q = Ev C e r fun x r' => Q (.val x) r' := by
  unfold Op Ev
  cases e with
  | v i => cases h
  | _ => simp only [asO]; rw [W_bind]; rfl
@[simp] theorem Op_gl {i : Nat} {Q : Opd → Env → Prop} : Op C (.gl i) r Q = Ev C (.gl i) r fun x r' => Q (.val x) r' := Op_else rfl
@[simp] theorem Op_non {Q : Opd → Env → Prop} : Op C .non r Q = Ev C .non r fun x r' => Q (.val x) r' := Op_else rfl
@[simp] theorem Op_bl {b : Bool} {Q : Opd → Env → Prop} : Op C (.bl b) r Q = Ev C (.bl b) r fun x r' => Q (.val x) r' := Op_else rfl
@[simp] theorem Op_int {b : Int} {Q : Opd → Env → Prop} : Op C (.int b) r Q = Ev C (.int b) r fun x r' => Q (.val x) r' := Op_else rfl
@[simp] theorem Op_str {b : String} {Q : Opd → Env → Prop} : Op C (.str b) r Q = Ev C (.str b) r fun x r' => Q (.val x) r' := Op_else rfl
@[simp] theorem Op_tup {b : List E} {Q : Opd → Env → Prop} : Op C (.tup b) r Q = Ev C (.tup b) r fun x r' => Q (.val x) r' := Op_else rfl
@[simp] theorem Op_trr {e : E} {Q : Opd → Env → Prop} : Op C (.trr e) r Q = Ev C (.trr e) r fun x r' => Q (.val x) r' := Op_else rfl
@[simp] theorem Op_fs {b : List E} {Q : Opd → Env → Prop} : Op C (.fs b) r Q = Ev C (.fs b) r fun x r' => Q (.val x) r' := Op_else rfl
@[simp] theorem Op_lst {b : List E} {Q : Opd → Env → Prop} : Op C (.lst b) r Q = Ev C (.lst b) r fun x r' => Q (.val x) r' := Op_else rfl
@[simp] theorem Op_dct {b : String} {a : E} {Q : Opd → Env → Prop} : Op C (.dct b a) r Q = Ev C (.dct b a) r fun x r' => Q (.val x) r' := Op_else rfl
@[simp] theorem Op_dct0 {Q : Opd → Env → Prop} : Op C .dct0 r Q = Ev C .dct0 r fun x r' => Q (.val x) r' := Op_else rfl
@[simp] theorem Op_bin {o : Bop} {a b : E} {Q : Opd → Env → Prop} : Op C (.bin o a b) r Q = Ev C (.bin o a b) r fun x r' => Q (.val x) r' := Op_else rfl
@[simp] theorem Op_neg {a : E} {Q : Opd → Env → Prop} : Op C (.neg a) r Q = Ev C (.neg a) r fun x r' => Q (.val x) r' := Op_else rfl
@[simp] theorem Op_not {a : E} {Q : Opd → Env → Prop} : Op C (.not a) r Q = Ev C (.not a) r fun x r' => Q (.val x) r' := Op_else rfl
@[simp] theorem Op_cmp {o : Cop} {a b : E} {Q : Opd → Env → Prop} : Op C (.cmp o a b) r Q = Ev C (.cmp o a b) r fun x r' => Q (.val x) r' := Op_else rfl
@[simp] theorem Op_chain {o p : Cop} {a b c : E} {Q : Opd → Env → Prop} : Op C (.chain o p a b c) r Q = Ev C (.chain o p a b c) r fun x r' => Q (.val x) r' := Op_else rfl
@[simp] theorem Op_isN {a : E} {Q : Opd → Env → Prop} : Op C (.isN a) r Q = Ev C (.isN a) r fun x r' => Q (.val x) r' := Op_else rfl
@[simp] theorem Op_notN {a : E} {Q : Opd → Env → Prop} : Op C (.notN a) r Q = Ev C (.notN a) r fun x r' => Q (.val x) r' := Op_else rfl
@[simp] theorem Op_and {a : List E} {Q : Opd → Env → Prop} : Op C (.and a) r Q = Ev C (.and a) r fun x r' => Q (.val x) r' := Op_else rfl
@[simp] theorem Op_or {a : List E} {Q : Opd → Env → Prop} : Op C (.or a) r Q = Ev C (.or a) r fun x r' => Q (.val x) r' := Op_else rfl
@[simp] theorem Op_ite {a b c : E} {Q : Opd → Env → Prop} : Op C (.ite a b c) r Q = Ev C (.ite a b c) r fun x r' => Q (.val x) r' := Op_else rfl
@[simp] theorem Op_idx {a b : E} {Q : Opd → Env → Prop} : Op C (.idx a b) r Q = Ev C (.idx a b) r fun x r' => Q (.val x) r' := Op_else rfl
@[simp] theorem Op_slc {a : E} {l h : Option E} {Q : Opd → Env → Prop} : Op C (.slc a l h) r Q = Ev C (.slc a l h) r fun x r' => Q (.val x) r' := Op_else rfl
@[simp] theorem Op_call {f : Nat} {a : List E} {Q : Opd → Env → Prop} : Op C (.call f a) r Q = Ev C (.call f a) r fun x r' => Q (.val x) r' := Op_else rfl
@[simp] theorem Op_callB {f : Nat} {a : List E} {Q : Opd → Env → Prop} : Op C (.callB f a) r Q = Ev C (.callB f a) r fun x r' => Q (.val x) r' := Op_else rfl
@[simp] theorem Op_bi {f : Bi} {a : List E} {Q : Opd → Env → Prop} : Op C (.bi f a) r Q = Ev C (.bi f a) r fun x r' => Q (.val x) r' := Op_else rfl
@[simp] theorem Op_dget {i : Nat} {k : E} {Q : Opd → Env → Prop} : Op C (.dget i k) r Q = Ev C (.dget i k) r fun x r' => Q (.val x) r' := Op_else rfl
@[simp] theorem Op_popl {i : Nat} {Q : Opd → Env → Prop} : Op C (.popl i) r Q = Ev C (.popl i) r fun x r' => Q (.val x) r' := Op_else rfl
@[simp] theorem Op_popa {i : Nat} {k : E} {Q : Opd → Env → Prop} : Op C (.popa i k) r Q = Ev C (.popa i k) r fun x r' => Q (.val x) r' := Op_else rfl
@[simp] theorem Op_fl2 {i j : Nat} {e f : E} {Q : Opd → Env → Prop} : Op C (.fl2 i j e f) r Q = Ev C (.fl2 i j e f) r fun x r' => Q (.val x) r' := Op_else rfl
@[simp] theorem Op_dsp {ks : List (Int ⊕ String)} {es : List E} {Q : Opd → Env → Prop} : Op C (.dsp ks es) r Q = Ev C (.dsp ks es) r fun x r' => Q (.val x) r' := Op_else rfl
@[simp] theorem Op_mt {m : Meth} {a : E} {es : List E} {Q : Opd → Env → Prop} : Op C (.mt m a es) r Q = Ev C (.mt m a es) r fun x r' => Q (.val x) r' := Op_else rfl
@[simp] theorem Op_isi {a : E} {t : Ty} {Q : Opd → Env → Prop} : Op C (.isi a t) r Q = Ev C (.isi a t) r fun x r' => Q (.val x) r' := Op_else rfl
@[simp] theorem Op_lc {h : Bool} {t : Tgt} {k : Ik} {es c : List E} {e : E} {Q : Opd → Env → Prop} : Op C (.lc h t k es c e) r Q = Ev C (.lc h t k es c e) r fun x r' => Q (.val x) r' := Op_else rfl
def dK (Q : D → Prop) : Option Val → PrOf Q
  | some (.fz d) => Q d
  | some (.ow xs) => Q (.list xs)
  | some (.io xs) => Q (.list xs)
  | _ => False
@[simp] theorem dK_fz {Q : D → Prop} {d : D} : dK Q (some (.fz d)) = Q d := propext Iff.rfl
@[simp] theorem dK_ow {Q : D → Prop} {d : List D} : dK Q (some (.ow d)) = Q (.list d) := propext Iff.rfl
@[simp] theorem dK_io {Q : D → Prop} {d : List D} : dK Q (some (.io d)) = Q (.list d) := propext Iff.rfl
@[simp] theorem W_ref {i : Nat} {Q : D → Prop} : W (deref r (.ref i)) Q = dK Q r[i]? := by
  simp only [deref]
  split
  · rename_i x h
    rw [h]
    cases x <;> rfl
  · rename_i h; rw [h]; rfl
@[simp] theorem W_val {x : Val} {Q : D → Prop} : W (deref r (.val x)) Q = W x.data Q := propext Iff.rfl
@[simp] theorem W_dfz {d : D} {Q : D → Prop} : W (Val.data (.fz d)) Q = Q d := propext Iff.rfl
@[simp] theorem W_dow {d : List D} {Q : D → Prop} : W (Val.data (.ow d)) Q = Q (.list d) := propext Iff.rfl
@[simp] theorem W_ffz {d : D} {Q : D → Prop} : W (Val.fix (.fz d)) Q = Q d := propext Iff.rfl
@[simp] theorem W_fow {d : List D} {Q : D → Prop} : W (Val.fix (.ow d)) Q = Q (.list d) := propext Iff.rfl
@[simp] theorem Dt_eq {e : E} {Q : D → Env → Prop} : Dt C e r Q = Ev C e r fun x r' => W x.fix fun d => Q d r' := by
  unfold Dt Ev fixed
  rw [W_bind]
  congr 1
  funext p
  rw [W_bind]
  rfl
@[simp] theorem Tt_eq {e : E} {Q : Bool → Env → Prop} : Tt C e r Q = Ev C e r fun x r' => W x.fix fun d => W (truth d) fun b => Q b r' := by
  have h : Tt C e r Q = Dt C e r fun d r' => W (truth d) fun b => Q b r' := by
    unfold Tt Dt tested
    rw [W_bind]
    congr 1
    funext p
    rw [W_bind]
    rfl
  rw [h, Dt_eq]
/-! ### expressions -/
@[simp] theorem Ev_non {Q : Val → Env → Prop} : Ev C .non r Q = Q (.fz .none) r := by unfold Ev; simp only [evE]; rfl
@[simp] theorem Ev_bl {b : Bool} {Q : Val → Env → Prop} : Ev C (.bl b) r Q = Q (.fz (.bool b)) r := by unfold Ev; simp only [evE]; rfl
@[simp] theorem Ev_int {b : Int} {Q : Val → Env → Prop} : Ev C (.int b) r Q = Q (.fz (.int b)) r := by unfold Ev; simp only [evE]; rfl
@[simp] theorem Ev_str {b : String} {Q : Val → Env → Prop} : Ev C (.str b) r Q = Q (.fz (.str (Str.ofString b))) r := by unfold Ev; simp only [evE]; rfl
@[simp] theorem Ev_dct0 {Q : Val → Env → Prop} : Ev C .dct0 r Q = Q (.fz (.dict [])) r := by unfold Ev; simp only [evE]; rfl
@[simp] theorem Ev_dct {x : String} {a : E} {Q : Val → Env → Prop} : Ev C (.dct x a) r Q = Ev C a r fun v r' => W v.fix fun d => Q (.fz (.dict [(.str (Str.ofString x), d)])) r' := by
  rw [← Dt_eq (Q := fun d r' => Q (.fz (.dict [(.str (Str.ofString x), d)])) r')]
  unfold Ev Dt; simp only [evE]; rw [W_bind]; rfl
def trrK (Q : Val → Env → Prop) (r : Env) : D → Prop
  | .int n => rgOk 0 n = true ∧ Q (.fz (.tuple (range 0 n.toNat).reverse)) r
  | _ => False
@[simp] theorem trrK_int {n : Int} {Q : Val → Env → Prop} {r : Env} : trrK Q r (.int n) = (rgOk 0 n = true ∧ Q (.fz (.tuple (range 0 n.toNat).reverse)) r) := propext Iff.rfl
@[simp] theorem Ev_trr {e : E} {Q : Val → Env → Prop} : Ev C (.trr e) r Q = Op C e r fun o r1 => W (deref r1 o) fun d => trrK Q r1 d := by
  unfold Ev Op; simp only [evE]
  rw [W_bind]; congr 1; funext p
  rw [W_bind]; congr 1; funext d
  cases d with
  | int n =>
    dsimp only
    rw [trrK_int]
    by_cases h : rgOk 0 n = true
    · rw [if_pos h]; simp [h]
    · rw [if_neg h]; simp [h]
  | _ => rfl
@[simp] theorem Ev_fs {es : List E} {Q : Val → Env → Prop} : Ev C (.fs es) r Q = Ds C es r fun ds r' => W (fsD ds Str.empty) fun z => Q (.fz (.str z)) r' := by
  unfold Ev Ds; simp only [evE]; rw [W_bind]; congr 1; funext p
  rw [W_bind]; congr 1
@[simp] theorem Ev_tup {es : List E} {Q : Val → Env → Prop} : Ev C (.tup es) r Q = Ds C es r fun ds r' => lenOk ds.length = true ∧ Q (.fz (.tuple ds)) r' := by
  unfold Ev Ds; simp only [evE]; rw [W_bind]; congr 1; funext p
  by_cases h : lenOk p.1.length = true
  · rw [if_pos h]; simp [h]
  · rw [if_neg h]; simp [h]
@[simp] theorem Ev_lst {es : List E} {Q : Val → Env → Prop} : Ev C (.lst es) r Q = Ds C es r fun ds r' => lenOk ds.length = true ∧ Q (.ow ds) r' := by
  unfold Ev Ds; simp only [evE]; rw [W_bind]; congr 1; funext p
  by_cases h : lenOk p.1.length = true
  · rw [if_pos h]; simp [h]
  · rw [if_neg h]; simp [h]
@[simp] theorem Ds_nil {Q : List D → Env → Prop} : Ds C [] r Q = Q [] r := by unfold Ds; simp only [evDs]; rfl
@[simp] theorem Ds_cons {e : E} {es : List E} {Q : List D → Env → Prop} : Ds C (e :: es) r Q = Ev C e r fun x r1 => W x.fix fun d => Ds C es r1 fun ds r2 => Q (d :: ds) r2 := by
  rw [← Dt_eq (Q := fun d r1 => Ds C es r1 fun ds r2 => Q (d :: ds) r2)]
  unfold Ds Dt; simp only [evDs]; rw [W_bind]; congr 1; funext p; rw [W_bind]; rfl
@[simp] theorem Os_nil {Q : List Opd → Env → Prop} : Os C [] r Q = Q [] r := by unfold Os; simp only [evOs]; rfl
@[simp] theorem Os_cons {e : E} {es : List E} {Q : List Opd → Env → Prop} : Os C (e :: es) r Q = Op C e r fun o r1 => Os C es r1 fun os r2 => Q (o :: os) r2 := by
  unfold Os Op; simp only [evOs]; rw [W_bind]; congr 1; funext p; rw [W_bind]; rfl
@[simp] theorem W_dsnil {Q : List D → Prop} : W (derefs r []) Q = Q [] := propext Iff.rfl
@[simp] theorem W_dscons {o : Opd} {os : List Opd} {Q : List D → Prop} : W (derefs r (o :: os)) Q = W (deref r o) fun d => W (derefs r os) fun ds => Q (d :: ds) := by
  simp only [derefs]; rw [W_bind]; congr 1; funext p; rw [W_bind]; rfl
@[simp] theorem Ev_bin {op : Bop} {a b : E} {Q : Val → Env → Prop} : Ev C (.bin op a b) r Q = Op C a r fun o1 r1 => Op C b r1 fun o2 r2 => W (deref r2 o1) fun d1 => W (deref r2 o2) fun d2 => W (binD op d1 d2) fun x => Q x r2 := by
  unfold Ev Op; simp only [evE]; rw [W_bind]; congr 1; funext p; rw [W_bind]; congr 1; funext p; rw [W_bind]; congr 1; funext p; rw [W_bind]; congr 1; funext p; rw [W_bind]; rfl
@[simp] theorem Ev_cmp {op : Cop} {a b : E} {Q : Val → Env → Prop} : Ev C (.cmp op a b) r Q = Op C a r fun o1 r1 => Op C b r1 fun o2 r2 => W (deref r2 o1) fun d1 => W (deref r2 o2) fun d2 => W (cmpD op d1 d2) fun x => Q (.fz (.bool x)) r2 := by
  unfold Ev Op; simp only [evE]; rw [W_bind]; congr 1; funext p; rw [W_bind]; congr 1; funext p; rw [W_bind]; congr 1; funext p; rw [W_bind]; congr 1; funext p; rw [W_bind]; rfl
@[simp] theorem Ev_chain {op1 op2 : Cop} {a b c : E} {Q : Val → Env → Prop} : Ev C (.chain op1 op2 a b c) r Q = Op C a r fun o1 r1 => Op C b r1 fun o2 r2 => W (deref r2 o1) fun d1 => W (deref r2 o2) fun d2 => W (cmpD op1 d1 d2) fun x =>
    if x = true then Op C c r2 fun o3 r3 => W (deref r3 o2) fun d2' => W (deref r3 o3) fun d3 => W (cmpD op2 d2' d3) fun y => Q (.fz (.bool y)) r3 else Q (.fz (.bool false)) r2 := by
  unfold Ev Op; simp only [evE]; rw [W_bind]; congr 1; funext p; rw [W_bind]; congr 1; funext p; rw [W_bind]; congr 1; funext p; rw [W_bind]; congr 1; funext p; rw [W_bind]; congr 1; funext x
  cases x
  · rfl
  · simp only [if_true]; rw [W_bind]; congr 1; funext p; rw [W_bind]; congr 1; funext p; rw [W_bind]; congr 1; funext p; rw [W_bind]; rfl
def negD : D → Res Val
  | .int i => .ok (.fz (.int (-i)))
  | _ => .no
@[simp] theorem W_neg {i : Int} {Q : Val → Prop} : W (negD (.int i)) Q = Q (.fz (.int (-i))) := propext Iff.rfl
@[simp] theorem Ev_neg {a : E} {Q : Val → Env → Prop} : Ev C (.neg a) r Q = Op C a r fun o r1 => W (deref r1 o) fun d => W (negD d) fun x => Q x r1 := by
  unfold Ev Op; simp only [evE]; rw [W_bind]; congr 1; funext p; rw [W_bind]; congr 1; funext d; cases d <;> rfl
@[simp] theorem Ev_not {a : E} {Q : Val → Env → Prop} : Ev C (.not a) r Q = Ev C a r fun x r' => W x.fix fun d => W (truth d) fun b => Q (.fz (.bool (!b))) r' := by
  rw [← Tt_eq (Q := fun b r' => Q (.fz (.bool (!b))) r')]
  unfold Ev Tt; simp only [evE]; rw [W_bind]; rfl
def isNo : D → Bool
  | .none => true
  | _ => false
@[simp] theorem Ev_isN {a : E} {Q : Val → Env → Prop} : Ev C (.isN a) r Q = Op C a r fun o r1 => W (deref r1 o) fun d => Q (.fz (.bool (isNo d))) r1 := by
  unfold Ev Op; simp only [evE]; rw [W_bind]; congr 1; funext p; rw [W_bind]; congr 1; funext d; cases d <;> rfl
@[simp] theorem Ev_notN {a : E} {Q : Val → Env → Prop} : Ev C (.notN a) r Q = Op C a r fun o r1 => W (deref r1 o) fun d => Q (.fz (.bool (!isNo d))) r1 := by
  unfold Ev Op; simp only [evE]; rw [W_bind]; congr 1; funext p; rw [W_bind]; congr 1; funext d; cases d <;> rfl
@[simp] theorem Ev_and {es : List E} {Q : Val → Env → Prop} : Ev C (.and es) r Q = An C es r Q := by unfold Ev An; simp only [evE]
@[simp] theorem Ev_or {es : List E} {Q : Val → Env → Prop} : Ev C (.or es) r Q = Or_ C es r Q := by unfold Ev Or_; simp only [evE]
@[simp] theorem An_one {e : E} {Q : Val → Env → Prop} : An C [e] r Q = Ev C e r Q := by unfold Ev An; simp only [evAnd]
@[simp] theorem An_cons {e e2 : E} {es : List E} {Q : Val → Env → Prop} : An C (e :: e2 :: es) r Q = Ev C e r fun x r1 => W x.fix fun d => W (truth d) fun b => if b = true then An C (e2 :: es) r1 Q else Q (.fz d) r1 := by
  rw [← Dt_eq (Q := fun d r1 => W (truth d) fun b => if b = true then An C (e2 :: es) r1 Q else Q (.fz d) r1)]
  unfold An Dt; simp only [evAnd]; rw [W_bind]; congr 1; funext p; rw [W_bind]; congr 1; funext b; cases b <;> rfl
@[simp] theorem Or_one {e : E} {Q : Val → Env → Prop} : Or_ C [e] r Q = Ev C e r Q := by unfold Ev Or_; simp only [evOr]
@[simp] theorem Or_cons {e e2 : E} {es : List E} {Q : Val → Env → Prop} : Or_ C (e :: e2 :: es) r Q = Ev C e r fun x r1 => W x.fix fun d => W (truth d) fun b => if b = true then Q (.fz d) r1 else Or_ C (e2 :: es) r1 Q := by
  rw [← Dt_eq (Q := fun d r1 => W (truth d) fun b => if b = true then Q (.fz d) r1 else Or_ C (e2 :: es) r1 Q)]
  unfold Or_ Dt; simp only [evOr]; rw [W_bind]; congr 1; funext p; rw [W_bind]; congr 1; funext b; cases b <;> rfl
@[simp] theorem Ev_ite {c a b : E} {Q : Val → Env → Prop} : Ev C (.ite c a b) r Q = Ev C c r fun x r1 => W x.fix fun d => W (truth d) fun t => if t = true then Ev C a r1 Q else Ev C b r1 Q := by
  rw [← Tt_eq (Q := fun t r1 => if t = true then Ev C a r1 Q else Ev C b r1 Q)]
  unfold Tt; conv => lhs; unfold Ev
  simp only [evE]; rw [W_bind]; congr 1; funext p; obtain ⟨t, r1⟩ := p; cases t <;> (unfold Ev; rfl)
@[simp] theorem Ev_idx {a b : E} {Q : Val → Env → Prop} : Ev C (.idx a b) r Q = Op C a r fun o1 r1 => Op C b r1 fun o2 r2 => W (deref r2 o1) fun d1 => W (deref r2 o2) fun d2 => W (idxD d1 d2) fun x => Q (.fz x) r2 := by
  unfold Ev Op; simp only [evE]; rw [W_bind]; congr 1; funext p; rw [W_bind]; congr 1; funext p; rw [W_bind]; congr 1; funext p; rw [W_bind]; congr 1; funext p; rw [W_bind]; rfl
@[simp] theorem Pt_none {Q : Option Int → Env → Prop} : Pt C none r Q = Q none r := by unfold Pt; simp only [evPart]; rfl
def intD : D → Res (Option Int)
  | .int i => .ok (some i)
  | _ => .no
@[simp] theorem W_intD {i : Int} {Q : Option Int → Prop} : W (intD (.int i)) Q = Q (some i) := propext Iff.rfl
@[simp] theorem Pt_some {e : E} {Q : Option Int → Env → Prop} : Pt C (some e) r Q = Op C e r fun o r1 => W (deref r1 o) fun d => W (intD d) fun i => Q i r1 := by
  unfold Pt Op; simp only [evPart]; rw [W_bind]; congr 1; funext p; rw [W_bind]; congr 1; funext d; cases d <;> rfl
@[simp] theorem Ev_slc {a : E} {lo hi : Option E} {Q : Val → Env → Prop} : Ev C (.slc a lo hi) r Q = Op C a r fun o1 r1 => Pt C lo r1 fun l r2 => Pt C hi r2 fun h r3 => W (deref r3 o1) fun d => W (slcD d l h) fun x => Q x r3 := by
  unfold Ev Op Pt; simp only [evE]; rw [W_bind]; congr 1; funext p; rw [W_bind]; congr 1; funext p; rw [W_bind]; congr 1; funext p; rw [W_bind]; congr 1; funext p; rw [W_bind]; rfl
@[simp] theorem Ev_bi {b : Bi} {es : List E} {Q : Val → Env → Prop} : Ev C (.bi b es) r Q = Os C es r fun os r1 => W (derefs r1 os) fun ds => W (biD b ds) fun x => Q x r1 := by
  unfold Ev Os; simp only [evE]; rw [W_bind]; congr 1; funext p; rw [W_bind]; congr 1; funext p; rw [W_bind]; rfl
def lentK (f : D → Prop) : Val → PrOf f
  | .fz d => flat d = true ∧ f d
  | _ => False
@[simp] theorem lentK_fz {f : D → Prop} {d : D} : lentK f (.fz d) = (flat d = true ∧ f d) := propext Iff.rfl
@[simp] theorem flat_b {b : Bool} : flat (.bool b) = true := rfl
@[simp] theorem flat_i {b : Int} : flat (.int b) = true := rfl
@[simp] theorem Ev_callB {f : Nat} {es : List E} {Q : Val → Env → Prop} : Ev C (.callB f es) r Q = Os C es r fun os r1 => W (derefs r1 os) fun ds => ((C.ios f).all (fun b => !b) = true ∧ (C.ios f).length = ds.length) ∧ W (C.call f (ds.map .fz)) fun p => lentK (fun d => Q (.fz d) r1) p.1 := by
  unfold Ev Os; simp only [evE]; rw [W_bind]; congr 1; funext p; rw [W_bind]; congr 1; funext ds; rw [W_bind]
  unfold lentD
  by_cases h : ((C.ios f).all (fun b => !b) && decide ((C.ios f).length = ds.length)) = true
  · rw [if_pos h]
    rw [Bool.and_eq_true, decide_eq_true_eq] at h
    rw [W_bind]
    simp only [h, true_and, and_self]
    congr 1; funext q
    cases q.1 with
    | fz d =>
      by_cases hf : flat d = true
      · simp only [hf, if_true, lentK_fz, true_and]; rfl
      · rw [Bool.not_eq_true] at hf; simp [hf]
    | _ => rfl
  · rw [if_neg h]
    rw [Bool.and_eq_true, decide_eq_true_eq] at h
    rw [eq_false h, false_and]
    simp
@[simp] theorem Ev_isi {a : E} {t : Ty} {Q : Val → Env → Prop} : Ev C (.isi a t) r Q = Op C a r fun o r1 => W (deref r1 o) fun d => Q (.fz (.bool (isTy d t))) r1 := by
  unfold Ev Op; simp only [evE]; rw [W_bind]; congr 1; funext p; rw [W_bind]; rfl
def odB : Option Val → Bool
  | some (.od _) => true
  | _ => false
@[simp] theorem odB_od {kvs : List (Int × D)} : odB (some (.od kvs)) = true := rfl
theorem isOd_eq {i : Nat} : isOd r i = odB r[i]? := rfl
/-- what a dict holds at a key -/
def gtK (r : Env) (n : Int) (Q : Val → Env → Prop) : Option Val → PrOf Q
  | some (.od kvs) => match getI kvs n with
    | some d => Q (.fz d) r
    | none => False
  | _ => False
def gtD (i : Nat) (r : Env) (Q : Val → Env → Prop) : D → PrOf Q
  | .int n => gtK r n Q r[i]?
  | _ => False
@[simp] theorem gtD_int {i : Nat} {n : Int} {Q : Val → Env → Prop} : gtD i r Q (.int n) = gtK r n Q r[i]? := propext Iff.rfl
theorem gtK_od {n : Int} {Q : Val → Env → Prop} {kvs : List (Int × D)} {d : D} (h : getI kvs n = some d) : gtK r n Q (some (.od kvs)) = Q (.fz d) r := by
  show (match getI kvs n with
    | some d => Q (.fz d) r
    | none => False) = _
  rw [h]
@[simp] theorem Ev_dget {i : Nat} {k : E} {Q : Val → Env → Prop} : Ev C (.dget i k) r Q = (odB r[i]? = true ∧ Op C k r fun o r1 => W (deref r1 o) fun d => gtD i r1 Q d) := by
  unfold Ev Op; simp only [evE]
  rw [isOd_eq]
  by_cases h : odB r[i]? = true
  · simp only [h, Bool.not_true, Bool.false_eq_true, if_false, true_and]
    rw [W_bind]; congr 1; funext p
    rw [W_bind]; congr 1; funext d
    cases d with
    | int n =>
      show W _ _ = gtK p.2 n Q p.2[i]?
      dsimp only
      cases hx : p.2[i]? with
      | none => rfl
      | some v =>
        cases v with
        | od kvs =>
          simp only [gtK]
          cases getI kvs n <;> rfl
        | _ => rfl
    | _ => rfl
  · rw [Bool.not_eq_true] at h
    simp only [h, Bool.not_false, if_true, Bool.false_eq_true, false_and]
    rfl
def plK (i : Nat) (r : Env) (Q : Val → Env → Prop) : Option Val → PrOf Q
  | some (.ow xs) => (match xs[xs.length - 1]? with
    | some d => Q (.fz d) (r.set i (.ow xs.dropLast))
    | none => False)
  | some (.io xs) => (match xs[xs.length - 1]? with
    | some d => Q (.fz d) (r.set i (.io xs.dropLast))
    | none => False)
  | _ => False
theorem plK_ow {i : Nat} {Q : Val → Env → Prop} {xs : List D} {d : D} (h : xs[xs.length - 1]? = some d) : plK i r Q (some (.ow xs)) = Q (.fz d) (r.set i (.ow xs.dropLast)) := by
  show (match xs[xs.length - 1]? with
    | some d => Q (.fz d) (r.set i (.ow xs.dropLast))
    | none => False) = _
  rw [h]
@[simp] theorem Ev_popl {i : Nat} {Q : Val → Env → Prop} : Ev C (.popl i) r Q = plK i r Q r[i]? := by
  unfold Ev; simp only [evE]
  cases hx : r[i]? with
  | none => rfl
  | some v =>
    cases v with
    | ow xs =>
      simp only [plK]
      cases xs[xs.length - 1]? <;> rfl
    | io xs =>
      simp only [plK]
      cases xs[xs.length - 1]? <;> rfl
    | _ => rfl
def paK (i : Nat) (n : Int) (r : Env) (Q : Val → Env → Prop) : Option Val → PrOf Q
  | some (.ow xs) => (match popX xs n with
    | some (d, ys) => Q (.fz d) (r.set i (.ow ys))
    | none => False)
  | some (.io xs) => (match popX xs n with
    | some (d, ys) => Q (.fz d) (r.set i (.io ys))
    | none => False)
  | _ => False
theorem paK_ow {i : Nat} {n : Int} {Q : Val → Env → Prop} {xs ys : List D} {d : D} (h : popX xs n = some (d, ys)) : paK i n r Q (some (.ow xs)) = Q (.fz d) (r.set i (.ow ys)) := by
  show (match popX xs n with
    | some (d, ys) => Q (.fz d) (r.set i (.ow ys))
    | none => False) = _
  rw [h]
theorem paK_io {i : Nat} {n : Int} {Q : Val → Env → Prop} {xs ys : List D} {d : D} (h : popX xs n = some (d, ys)) : paK i n r Q (some (.io xs)) = Q (.fz d) (r.set i (.io ys)) := by
  show (match popX xs n with
    | some (d, ys) => Q (.fz d) (r.set i (.io ys))
    | none => False) = _
  rw [h]
def paD (i : Nat) (r : Env) (Q : Val → Env → Prop) : D → PrOf Q
  | .int n => paK i n r Q r[i]?
  | _ => False
@[simp] theorem paD_int {i : Nat} {n : Int} {Q : Val → Env → Prop} : paD i r Q (.int n) = paK i n r Q r[i]? := propext Iff.rfl
@[simp] theorem Ev_fl2 {i0 i1 : Nat} {e elt : E} {Q : Val → Env → Prop} : Ev C (.fl2 i0 i1 e elt) r Q = Op C e r fun o r1 => W (derefs r1 [o]) fun ds => W (itemsD .seq ds) fun xs =>
    ((noIo (opdIx [o] ++ [i0, i1]) r1 && (decide (i0 ≠ i1) && (decide (i0 < r1.length) && decide (i1 < r1.length)))) = true ∧ W (outF (eltF C i1 elt) xs []) fun acc => Q (.ow acc) (back (give [o] r1) [i0, i1] (wipeE [i0, i1] (give [o] r1)))) := by
  unfold Ev Op; simp only [evE]
  rw [W_bind]; congr 1; funext p
  rw [W_bind]; congr 1; funext ds
  rw [W_bind]; congr 1; funext xs
  by_cases h : (noIo (opdIx [p.1] ++ [i0, i1]) p.2 && (decide (i0 ≠ i1) && (decide (i0 < p.2.length) && decide (i1 < p.2.length)))) = true
  · rw [if_pos h, W_bind]
    simp only [h, true_and]
    rfl
  · rw [if_neg h]
    rw [Bool.not_eq_true] at h
    simp only [h, Bool.false_eq_true, false_and]
    rfl
@[simp] theorem Ev_dsp {ks : List (Int ⊕ String)} {es : List E} {Q : Val → Env → Prop} : Ev C (.dsp ks es) r Q = Ds C es r fun ds r' => Q (.fz (.dict (zipK ks ds))) r' := by
  unfold Ev Ds; simp only [evE]; rw [W_bind]; rfl
@[simp] theorem zipK_cons {k : Int ⊕ String} {ks : List (Int ⊕ String)} {d : D} {ds : List D} : zipK (k :: ks) (d :: ds) = (dkD k, d) :: zipK ks ds := rfl
@[simp] theorem zipK_nil {ds : List D} : zipK [] ds = [] := rfl
@[simp] theorem dkD_inl {i : Int} : dkD (.inl i) = .int i := rfl
@[simp] theorem dkD_inr {x : String} : dkD (.inr x) = .str (Str.ofString x) := rfl
@[simp] theorem findI_int {x k : Int} {d : D} {r : List (D × D)} : findI ((.int x, d) :: r) k = if x = k then some d else findI r k := rfl
@[simp] theorem findD_str {x k : Str} {d : D} {r : List (D × D)} : findD ((.str x, d) :: r) k = if x = k then some d else findD r k := rfl
theorem findI_dictI {kvs : List (Int × D)} {k : Int} : findI (dictI kvs) k = getI kvs k := by
  induction kvs with
  | nil => rfl
  | cons p kvs ih => show (if p.1 = k then some p.2 else findI (dictI kvs) k) = if p.1 = k then some p.2 else getI kvs k; rw [ih]
@[simp] theorem Ev_mt {m : Meth} {a : E} {es : List E} {Q : Val → Env → Prop} : Ev C (.mt m a es) r Q = Ev C a r fun v r1 => W v.fix fun d => Ds C es r1 fun ds r2 => W (mtD m d ds) fun x => Q x r2 := by
  rw [← Dt_eq (Q := fun d r1 => Ds C es r1 fun ds r2 => W (mtD m d ds) fun x => Q x r2)]
  unfold Ev Ds Dt; simp only [evE]; rw [W_bind]; congr 1; funext p; rw [W_bind]; congr 1; funext p; rw [W_bind]; rfl
/-! ### calls -/
@[simp] theorem As_nil {Q : List Arg → Env → Prop} : As C [] [] r Q = Q [] r := by unfold As; simp only [evAs]; rfl
@[simp] theorem As_d {e : E} {es : List E} {fs : List Bool} {Q : List Arg → Env → Prop} : As C (e :: es) (false :: fs) r Q = Ev C e r fun x r1 => W x.fix fun d => As C es fs r1 fun as r2 => Q (.d d :: as) r2 := by
  rw [← Dt_eq (Q := fun d r1 => As C es fs r1 fun as r2 => Q (.d d :: as) r2)]
  unfold As Dt; simp only [evAs]; rw [W_bind]; congr 1; funext p; rw [W_bind]; rfl
@[simp] theorem As_io {i : Nat} {es : List E} {fs : List Bool} {Q : List Arg → Env → Prop} : As C (.v i :: es) (true :: fs) r Q = oK i r (fun _ _ => As C es fs r fun as r2 => Q (.io i :: as) r2) r[i]? := by
  rw [← Op_v (C := C) (Q := fun _ _ => As C es fs r fun as r2 => Q (.io i :: as) r2)]
  unfold As Op; simp only [evAs, asO]; rw [W_bind]; congr 1; funext p; rw [W_bind]; rfl
@[simp] theorem W_avnil {Q : List Val → Prop} : W (argVals r []) Q = Q [] := propext Iff.rfl
@[simp] theorem W_avd {d : D} {as : List Arg} {Q : List Val → Prop} : W (argVals r (.d d :: as)) Q = W (argVals r as) fun vs => Q (.fz d :: vs) := by
  simp only [argVals]; rw [W_bind]; rfl
def aK (Q : List D → Prop) : Option Val → PrOf Q
  | some (.ow xs) => Q xs
  | some (.io xs) => Q xs
  | _ => False
@[simp] theorem aK_ow {Q : List D → Prop} {d : List D} : aK Q (some (.ow d)) = Q d := propext Iff.rfl
@[simp] theorem aK_io {Q : List D → Prop} {d : List D} : aK Q (some (.io d)) = Q d := propext Iff.rfl
@[simp] theorem W_avio {i : Nat} {as : List Arg} {Q : List Val → Prop} : W (argVals r (.io i :: as)) Q = aK (fun xs => W (argVals r as) fun vs => Q (.io xs :: vs)) r[i]? := by
  simp only [argVals]
  split
  · rename_i h; rw [h]; rw [W_bind]; rfl
  · rename_i h; rw [h]; rw [W_bind]; rfl
  · rename_i x h1 h2
    cases hx : r[i]? with
    | none => rfl
    | some v =>
      cases v with
      | ow xs => exact absurd hx (h1 xs)
      | io xs => exact absurd hx (h2 xs)
      | _ => rfl
@[simp] theorem W_sinil {Q : Env → Prop} : W (setIos [] [] r) Q = Q r := propext Iff.rfl
def sK (i : Nat) (xs : List D) (r : Env) (Q : Env → Prop) : Option Val → PrOf Q
  | some (.ow _) => Q (r.set i (.ow xs))
  | some (.io _) => Q (r.set i (.io xs))
  | _ => False
@[simp] theorem sK_ow {i : Nat} {xs ys : List D} {Q : Env → Prop} : sK i xs r Q (some (.ow ys)) = Q (r.set i (.ow xs)) := propext Iff.rfl
@[simp] theorem sK_io {i : Nat} {xs ys : List D} {Q : Env → Prop} : sK i xs r Q (some (.io ys)) = Q (r.set i (.io xs)) := propext Iff.rfl
@[simp] theorem W_sicons {i : Nat} {is : List Nat} {xs : List D} {outs : List (List D)} {Q : Env → Prop} : W (setIos (i :: is) (xs :: outs) r) Q = sK i xs r (fun r1 => W (setIos is outs r1) Q) r[i]? := by
  simp only [setIos]
  cases hx : r[i]? with
  | none => rfl
  | some v => cases v <;> rfl
@[simp] theorem Ev_call {f : Nat} {es : List E} {Q : Val → Env → Prop} : Ev C (.call f es) r Q = As C es (C.ios f) r fun as r1 => (ioIx as).Nodup ∧ W (argVals r1 as) fun vs => W (C.call f vs) fun p => W (setIos (ioIx as) p.2 r1) fun r' => Q p.1 r' := by
  unfold Ev As; simp only [evE]; rw [W_bind]; congr 1; funext p
  unfold doCall
  by_cases h : (ioIx p.1).Nodup
  · rw [if_pos h, W_bind]
    simp only [h, true_and]
    congr 1; funext vs; rw [W_bind]; congr 1; funext q; rw [W_bind]; rfl
  · rw [if_neg h]; simp [h]
@[simp] theorem ioIx_nil : ioIx [] = [] := rfl
@[simp] theorem ioIx_d {d : D} {as : List Arg} : ioIx (.d d :: as) = ioIx as := rfl
@[simp] theorem ioIx_io {i : Nat} {as : List Arg} : ioIx (.io i :: as) = i :: ioIx as := rfl
@[simp] theorem ctx_call {P : Prog} {k f : Nat} {vs : List Val} : (P.ctx k).call f vs = callF P k f vs := rfl
@[simp] theorem ctx_ios {P : Prog} {k f : Nat} : (P.ctx k).ios f = P.ios f := rfl
@[simp] theorem ctx_fuel {P : Prog} {k : Nat} : (P.ctx k).fuel = P.fuel := rfl
theorem ios_of {P : Prog} {f : Nat} {fn : Fn} (h : P.tab f = some fn) : P.ios f = fn.ios := by unfold Prog.ios; rw [h]
/-! ### comprehensions -/
def lcR (hid : Bool) (os : List Opd) (r : Env) : Env := if hid then r else give os r
def lcM (hid : Bool) (t : Tgt) (os : List Opd) (r : Env) : List Nat := t.slots ++ (if hid then hidden os r else [])
@[simp] theorem Ev_lc {hid : Bool} {t : Tgt} {k : Ik} {es c : List E} {elt : E} {Q : Val → Env → Prop} : Ev C (.lc hid t k es c elt) r Q = Os C es r fun os r1 => W (derefs r1 os) fun ds => W (itemsD k ds) fun xs =>
    noIo (opdIx os ++ t.slots) r1 = true ∧ LC C t c elt xs [] (wipeE (lcM hid t os r1) (lcR hid os r1)) fun acc r3 => Q (.ow acc) (back (lcR hid os r1) (lcM hid t os r1) r3) := by
  unfold Ev Os LC; simp only [evE]; rw [W_bind]; congr 1; funext p; rw [W_bind]; congr 1; funext ds; rw [W_bind]; congr 1; funext xs
  unfold lcM lcR
  by_cases h : noIo (opdIx p.1 ++ t.slots) p.2 = true
  · rw [if_pos h, W_bind]; simp only [h, true_and]; rfl
  · rw [if_neg h]; simp [h]
@[simp] theorem Cs_nil {Q : Bool → Env → Prop} : Cs C [] r Q = Q true r := by unfold Cs; simp only [evCs]; rfl
@[simp] theorem Cs_one {e : E} {Q : Bool → Env → Prop} : Cs C [e] r Q = Ev C e r fun x r' => W x.fix fun d => W (truth d) fun b => Q b r' := by
  rw [← Tt_eq]; unfold Cs Tt; simp only [evCs]
theorem LC_nil {t : Tgt} {c : List E} {elt : E} {acc : List D} {Q : List D → Env → Prop} : LC C t c elt [] acc r Q = Q acc r := by unfold LC; simp only [lcLoop]; rfl
theorem LC_cons {t : Tgt} {c : List E} {elt : E} {x : D} {xs acc : List D} {Q : List D → Env → Prop} : LC C t c elt (x :: xs) acc r Q = Bt t x r fun r1 => Cs C c r1 fun b r2 =>
    if b = true then Ev C elt r2 fun v r3 => W v.fix fun d => lenOk (acc.length + 1) = true ∧ LC C t c elt xs (acc ++ [d]) (wipeE t.slots r3) Q else LC C t c elt xs acc (wipeE t.slots r2) Q := by
  have h : LC C t c elt (x :: xs) acc r Q = Bt t x r fun r1 => Cs C c r1 fun b r2 =>
      if b = true then Dt C elt r2 fun d r3 => lenOk (acc.length + 1) = true ∧ LC C t c elt xs (acc ++ [d]) (wipeE t.slots r3) Q else LC C t c elt xs acc (wipeE t.slots r2) Q := by
    unfold LC Bt Cs Dt; simp only [lcLoop]; rw [W_bind]; congr 1; funext r1; rw [W_bind]; congr 1; funext p
    obtain ⟨b, r2⟩ := p
    cases b
    · rfl
    · simp only [if_true]; rw [W_bind]; congr 1; funext q
      by_cases h : lenOk (acc.length + 1) = true
      · rw [if_pos h]; simp [h]
      · rw [if_neg h]; simp [h]
  rw [h]
  unfold Bt; congr 1; funext r1
  unfold Cs; congr 1; funext p
  obtain ⟨b, r2⟩ := p
  cases b
  · rfl
  · simp only [if_true]; rw [Dt_eq]
def pK (i : Nat) (x : Val) (r : Env) (Q : Env → Prop) : Option Val → PrOf Q
  | some (.io _) => False
  | some _ => Q (r.set i x)
  | none => False
@[simp] theorem pK_em {i : Nat} {x : Val} {Q : Env → Prop} : pK i x r Q (some .em) = Q (r.set i x) := propext Iff.rfl
@[simp] theorem pK_fz {i : Nat} {x : Val} {Q : Env → Prop} {d : D} : pK i x r Q (some (.fz d)) = Q (r.set i x) := propext Iff.rfl
@[simp] theorem pK_ow {i : Nat} {x : Val} {Q : Env → Prop} {d : List D} : pK i x r Q (some (.ow d)) = Q (r.set i x) := propext Iff.rfl
@[simp] theorem W_put {i : Nat} {x : Val} {Q : Env → Prop} : W (put i x r) Q = pK i x r Q r[i]? := by
  unfold put
  split
  · rename_i h; rw [h]; rfl
  · rename_i y h1 h2
    rw [h2]
    cases y with
    | io xs => exact absurd rfl (h1 xs)
    | _ => rfl
  · rename_i h; rw [h]; rfl
@[simp] theorem Bt_one {i : Nat} {d : D} {Q : Env → Prop} : Bt (.one i) d r Q = pK i (.fz d) r Q r[i]? := by
  unfold Bt; simp only [bindT]; rw [W_put]
@[simp] theorem Bt_many {ts : List Tgt} {ds : List D} {Q : Env → Prop} : Bt (.many ts) (.tuple ds) r Q = Bts ts ds r Q := by unfold Bt Bts; simp only [bindT]
@[simp] theorem Bts_nil {Q : Env → Prop} : Bts [] [] r Q = Q r := by unfold Bts; simp only [bindTs]; rfl
@[simp] theorem Bts_cons {t : Tgt} {ts : List Tgt} {d : D} {ds : List D} {Q : Env → Prop} : Bts (t :: ts) (d :: ds) r Q = Bt t d r fun r1 => Bts ts ds r1 Q := by unfold Bts Bt; simp only [bindTs]; rw [W_bind]
end
end DL

set_option Elab.async false
set_option linter.all false
set_option maxRecDepth 100000
set_option maxHeartbeats 4000000
set_option autoImplicit false
/-! SP1: statements, calls, operations on data, for simp. -/
namespace DL
open PySem
section
variable {C : Ctx} {r : Env}
/-! ### statements -/
def qK (C : Ctx) (ss : List S) (K : Flow → Prop) : Flow → Prop
  | .nx r1 => Sq C ss r1 K
  | f => K f
@[simp] theorem qK_nx {ss : List S} {K : Flow → Prop} : qK C ss K (.nx r) = Sq C ss r K := propext Iff.rfl
@[simp] theorem qK_rt {ss : List S} {K : Flow → Prop} {v : Val} : qK C ss K (.rt v r) = K (.rt v r) := propext Iff.rfl
@[simp] theorem qK_bk {ss : List S} {K : Flow → Prop} : qK C ss K (.bk r) = K (.bk r) := propext Iff.rfl
@[simp] theorem qK_ct {ss : List S} {K : Flow → Prop} : qK C ss K (.ct r) = K (.ct r) := propext Iff.rfl
@[simp] theorem qK_xc {ss : List S} {K : Flow → Prop} {e : Exn} : qK C ss K (.xc e) = K (.xc e) := propext Iff.rfl
@[simp] theorem Sq_nil {K : Flow → Prop} : Sq C [] r K = K (.nx r) := by unfold Sq; simp only [exSs]; rfl
@[simp] theorem Sq_cons {s : S} {ss : List S} {K : Flow → Prop} : Sq C (s :: ss) r K = Sx C s r fun f => qK C ss K f := by
  rw [show (fun f => qK C ss K f) = fun f => W (match f with | .nx r1 => exSs C ss r1 | f => .ok f) K from by funext f; cases f <;> first | rfl | (simp only [qK_nx]; unfold Sq; rfl)]
  unfold Sq Sx; simp only [exSs]; rw [W_bind]; try congr 1
@[simp] theorem Sx_asg {i : Nat} {e : E} {K : Flow → Prop} : Sx C (.asg i e) r K = Ev C e r fun x r1 => pK i x r1 (fun r2 => K (.nx r2)) r1[i]? := by
  have h : Sx C (.asg i e) r K = Ev C e r fun x r1 => W (put i x r1) fun r2 => K (.nx r2) := by
    unfold Sx Ev; simp only [exS]; rw [W_bind]; congr 1; funext p; rw [W_bind]; rfl
  rw [h]; unfold Ev; congr 1; funext p; exact W_put
@[simp] theorem Sx_asgT {ts : List Tgt} {e : E} {K : Flow → Prop} : Sx C (.asgT ts e) r K = Op C e r fun o r1 => W (deref r1 o) fun d => Bt (.many ts) d r1 fun r2 => K (.nx r2) := by
  unfold Sx Op Bt; simp only [exS]; rw [W_bind]; congr 1; funext p; rw [W_bind]; congr 1; funext p; rw [W_bind]; rfl
def ixR (o : Option Nat) (f : Nat → Env) : Res Env := match o with
  | some j => .ok (f j)
  | none => .no
@[simp] theorem W_ixR {j : Nat} {f : Nat → Env} {Q : Env → Prop} : W (ixR (some j) f) Q = Q (f j) := propext Iff.rfl
def stO (i : Nat) (n : Int) (d : D) (r : Env) : Option Val → Res Env
  | some (.ow xs) => ixR (ixL xs.length n) fun j => r.set i (.ow (xs.set j d))
  | some (.io xs) => ixR (ixL xs.length n) fun j => r.set i (.io (xs.set j d))
  | _ => .no
@[simp] theorem stO_ow {i : Nat} {n : Int} {d : D} {xs : List D} : stO i n d r (some (.ow xs)) = ixR (ixL xs.length n) fun j => r.set i (.ow (xs.set j d)) := rfl
@[simp] theorem stO_io {i : Nat} {n : Int} {d : D} {xs : List D} : stO i n d r (some (.io xs)) = ixR (ixL xs.length n) fun j => r.set i (.io (xs.set j d)) := rfl
def stD (i : Nat) (d : D) (r : Env) : D → Res Env
  | .int n => stO i n d r r[i]?
  | _ => .no
@[simp] theorem stD_int {i : Nat} {n : Int} {d : D} : stD i d r (.int n) = stO i n d r r[i]? := rfl
@[simp] theorem Sx_dnew {i : Nat} {K : Flow → Prop} : Sx C (.dnew i) r K = pK i (.od []) r (fun r2 => K (.nx r2)) r[i]? := by
  have h : Sx C (.dnew i) r K = W (put i (.od []) r) fun r2 => K (.nx r2) := by
    unfold Sx; simp only [exS]; rw [W_bind]; rfl
  rw [h]; exact W_put
/-- a dict is changed -/
def dsK (i : Nat) (n : Int) (d : D) (r : Env) (K : Flow → Prop) : Option Val → PrOf K
  | some (.od kvs) => kvs.length < 16777216 ∧ K (.nx (r.set i (.od (putI kvs n d))))
  | _ => False
@[simp] theorem dsK_od {i : Nat} {n : Int} {d : D} {kvs : List (Int × D)} {K : Flow → Prop} : dsK i n d r K (some (.od kvs)) = (kvs.length < 16777216 ∧ K (.nx (r.set i (.od (putI kvs n d))))) := propext Iff.rfl
def dsD (i : Nat) (d : D) (r : Env) (K : Flow → Prop) : D → PrOf K
  | .int n => dsK i n d r K r[i]?
  | _ => False
@[simp] theorem dsD_int {i : Nat} {n : Int} {d : D} {K : Flow → Prop} : dsD i d r K (.int n) = dsK i n d r K r[i]? := propext Iff.rfl
@[simp] theorem Sx_dsto {i : Nat} {k e : E} {K : Flow → Prop} : Sx C (.dsto i k e) r K = Ev C e r fun x r1 => W x.fix fun d => odB r1[i]? = true ∧ Op C k r1 fun o r2 => W (deref r2 o) fun n => dsD i d r2 K n := by
  have h : Sx C (.dsto i k e) r K = Dt C e r fun d r1 => odB r1[i]? = true ∧ Op C k r1 fun o r2 => W (deref r2 o) fun n => dsD i d r2 K n := by
    unfold Sx Dt Op; simp only [exS]; rw [W_bind]; congr 1; funext p
    rw [isOd_eq]
    by_cases h : odB p.2[i]? = true
    · simp only [h, Bool.not_true, Bool.false_eq_true, if_false, true_and]
      rw [W_bind]; congr 1; funext q; rw [W_bind]; congr 1; funext d
      cases d with
      | int n =>
        show W _ _ = dsK i n p.1 q.2 K q.2[i]?
        dsimp only
        cases hx : q.2[i]? with
        | none => rfl
        | some v =>
          cases v with
          | od kvs =>
            dsimp only [dsK]
            by_cases c : kvs.length < 16777216
            · rw [if_pos (decide_eq_true c)]
              exact propext ⟨fun h => ⟨c, h⟩, fun h => h.2⟩
            · rw [if_neg (by simp [c])]
              exact propext ⟨fun h => h.elim, fun h => absurd h.1 c⟩
          | _ => rfl
      | _ => rfl
    · rw [Bool.not_eq_true] at h
      simp only [h, Bool.not_false, if_true, Bool.false_eq_true, false_and]
      rfl
  rw [h, Dt_eq]
def dmK (i j : Nat) (r : Env) (K : Flow → Prop) : Option Val → PrOf K
  | some (.od kvs) => pK i (.od kvs) r (fun r1 => K (.nx (r1.set j .un))) r[i]?
  | _ => False
@[simp] theorem dmK_od {i j : Nat} {kvs : List (Int × D)} {K : Flow → Prop} : dmK i j r K (some (.od kvs)) = pK i (.od kvs) r (fun r1 => K (.nx (r1.set j .un))) r[i]? := propext Iff.rfl
@[simp] theorem Sx_dmv {i j : Nat} {K : Flow → Prop} : Sx C (.dmv i j) r K = (i ≠ j ∧ dmK i j r K r[j]?) := by
  unfold Sx; simp only [exS]
  by_cases h : i = j
  · rw [if_pos h]
    exact propext ⟨fun z => z.elim, fun z => absurd h z.1⟩
  · rw [if_neg h]
    have : (i ≠ j ∧ dmK i j r K r[j]?) = dmK i j r K r[j]? := propext ⟨fun z => z.2, fun z => ⟨h, z⟩⟩
    rw [this]
    cases hx : r[j]? with
    | none => rfl
    | some v =>
      cases v with
      | od kvs =>
        dsimp only
        rw [W_bind]
        exact W_put
      | _ => rfl
@[simp] theorem pK_od {i : Nat} {x : Val} {kvs : List (Int × D)} {r : Env} {Q : Env → Prop} : pK i x r Q (some (.od kvs)) = Q (r.set i x) := propext Iff.rfl
@[simp] theorem pK_un {i : Nat} {x : Val} {r : Env} {Q : Env → Prop} : pK i x r Q (some .un) = Q (r.set i x) := propext Iff.rfl
def isLst : Option Val → Bool
  | some (.io _) => true
  | some (.ow _) => true
  | _ => false
@[simp] theorem isLst_io {xs : List D} : isLst (some (.io xs)) = true := rfl
@[simp] theorem isLst_ow {xs : List D} : isLst (some (.ow xs)) = true := rfl
theorem isList_eq {i : Nat} : isList r i = isLst r[i]? := rfl
@[simp] theorem Ev_popa {i : Nat} {k : E} {Q : Val → Env → Prop} : Ev C (.popa i k) r Q = (isLst r[i]? = true ∧ Ev C k r fun x r1 => W x.fix fun d => paD i r1 Q d) := by
  have h : Ev C (.popa i k) r Q = (isLst r[i]? = true ∧ Dt C k r fun d r1 => paD i r1 Q d) := by
    unfold Ev Dt; simp only [evE]
    rw [isList_eq]
    by_cases h : isLst r[i]? = true
    · simp only [h, Bool.not_true, Bool.false_eq_true, if_false, true_and]
      rw [W_bind]; congr 1; funext p
      obtain ⟨d, r1⟩ := p
      unfold popD
      cases d with
      | int n =>
        show W _ _ = paK i n r1 Q r1[i]?
        dsimp only
        cases hx : r1[i]? with
        | none => rfl
        | some v =>
          cases v with
          | ow xs =>
            simp only [paK]
            cases popX xs n <;> rfl
          | io xs =>
            simp only [paK]
            cases popX xs n <;> rfl
          | _ => rfl
      | _ => rfl
    · rw [Bool.not_eq_true] at h
      simp only [h, Bool.not_false, if_true, Bool.false_eq_true, false_and]
      rfl
  rw [h, Dt_eq]
@[simp] theorem Sx_sto {i : Nat} {k e : E} {K : Flow → Prop} : Sx C (.sto i k e) r K = Ev C e r fun x r1 => W x.fix fun d => isLst r1[i]? = true ∧ Op C k r1 fun o r2 => W (deref r2 o) fun n => W (stD i d r2 n) fun r3 => K (.nx r3) := by
  have h : Sx C (.sto i k e) r K = Dt C e r fun d r1 => isLst r1[i]? = true ∧ Op C k r1 fun o r2 => W (deref r2 o) fun n => W (stD i d r2 n) fun r3 => K (.nx r3) := by
    unfold Sx Dt Op; simp only [exS]; rw [W_bind]; congr 1; funext p
    rw [isList_eq]
    by_cases h : isLst p.2[i]? = true
    · simp only [h, Bool.not_true, Bool.false_eq_true, if_false, true_and]
      rw [W_bind]; congr 1; funext q; rw [W_bind]; congr 1; funext d
      cases d <;> first | rfl | skip
      simp only [stD]
      cases hx : q.2[i]? with
      | none => rfl
      | some v =>
        cases v with
        | ow xs =>
          simp only [stO]
          cases ixL xs.length _ <;> rfl
        | io xs =>
          simp only [stO]
          cases ixL xs.length _ <;> rfl
        | _ => rfl
    · rw [Bool.not_eq_true] at h
      simp only [h, Bool.not_false, if_true, Bool.false_eq_true, false_and]
      rfl
  rw [h, Dt_eq]
def augD (op : Bop) (d d2 : D) : Res Val := match op, d, d2 with
  | .add, .int _, .int _ | .sub, .int _, .int _ | .mul, .int _, .int _ | .add, .str _, .str _ => binD op d d2
  | _, _, _ => .no
@[simp] theorem W_augadd {a b : Int} {Q : Val → Prop} : W (augD .add (.int a) (.int b)) Q = Q (.fz (.int (a + b))) := propext Iff.rfl
@[simp] theorem W_augsub {a b : Int} {Q : Val → Prop} : W (augD .sub (.int a) (.int b)) Q = Q (.fz (.int (a - b))) := propext Iff.rfl
def gK (f : D → Prop) : Option Val → PrOf f
  | some (.fz d) => f d
  | _ => False
@[simp] theorem gK_fz {f : D → Prop} {d : D} : gK f (some (.fz d)) = f d := propext Iff.rfl
@[simp] theorem Sx_aug {i : Nat} {op : Bop} {e : E} {K : Flow → Prop} : Sx C (.aug i op e) r K = gK (fun d => Op C e r fun o r1 => W (deref r1 o) fun d2 => W (augD op d d2) fun x => pK i x r1 (fun r2 => K (.nx r2)) r1[i]?) r[i]? := by
  unfold Sx Op; simp only [exS]
  cases hx : r[i]? with
  | none => rfl
  | some v =>
    cases v with
    | fz d =>
      dsimp only
      rw [gK_fz, W_bind]; congr 1; funext p; rw [W_bind]; congr 1; funext d2
      cases op <;> cases d <;> cases d2 <;> first
        | rfl
        | (dsimp only [augD]; rw [W_bind]; congr 1; funext x; rw [W_bind, W_put]; rfl)
    | _ => rfl
def apK (i : Nat) (ys : List D) (r : Env) (K : Flow → Prop) : Option Val → PrOf K
  | some (.ow xs) => lenOk (xs.length + ys.length) = true ∧ K (.nx (r.set i (.ow (xs ++ ys))))
  | some (.io xs) => lenOk (xs.length + ys.length) = true ∧ K (.nx (r.set i (.io (xs ++ ys))))
  | _ => False
@[simp] theorem apK_ow {i : Nat} {xs ys : List D} {K : Flow → Prop} : apK i ys r K (some (.ow xs)) = (lenOk (xs.length + ys.length) = true ∧ K (.nx (r.set i (.ow (xs ++ ys))))) := propext Iff.rfl
@[simp] theorem apK_io {i : Nat} {xs ys : List D} {K : Flow → Prop} : apK i ys r K (some (.io xs)) = (lenOk (xs.length + ys.length) = true ∧ K (.nx (r.set i (.io (xs ++ ys))))) := propext Iff.rfl
theorem ite_and {α : Type} {c : Bool} {m : Res α} {Q : α → Prop} : W (if c = true then m else .no) Q = (c = true ∧ W m Q) := by
  cases c
  · simp
  · simp
def getO (n : Int) : Option Val → Res Int
  | some (.ow xs) => intAt xs n
  | some (.io xs) => intAt xs n
  | _ => .no
@[simp] theorem getO_ow {n : Int} {xs : List D} : getO n (some (.ow xs)) = intAt xs n := rfl
@[simp] theorem getX_int {i : Nat} {n : Int} : getX i (.int n) r = getO n r[i]? := by
  unfold getX
  dsimp only
  cases r[i]? with
  | none => rfl
  | some v => cases v <;> rfl
theorem stoX_eq {i : Nat} {n : Int} {d : D} : stoX i n d r = stO i n d r r[i]? := by
  unfold stoX
  cases r[i]? with
  | none => rfl
  | some v =>
    cases v with
    | ow xs => simp only [stO_ow]; cases ixL xs.length n <;> rfl
    | io xs => simp only [stO_io]; cases ixL xs.length n <;> rfl
    | _ => rfl
@[simp] theorem setX_add {i : Nat} {n a b : Int} : setX i (.int n) .add a (.int b) r = stO i n (.int (a + b)) r r[i]? := stoX_eq
@[simp] theorem setX_sub {i : Nat} {n a b : Int} : setX i (.int n) .sub a (.int b) r = stO i n (.int (a - b)) r r[i]? := stoX_eq
@[simp] theorem Sx_augS {i : Nat} {op : Bop} {k e : E} {K : Flow → Prop} : Sx C (.augS i op k e) r K = (isLst r[i]? = true ∧ Ev C k r fun x r1 => W x.fix fun q => W (getX i q r1) fun a => Ev C e r1 fun y r2 => W y.fix fun d => W (setX i q op a d r2) fun r3 => K (.nx r3)) := by
  have h : Sx C (.augS i op k e) r K = (isLst r[i]? = true ∧ Dt C k r fun q r1 => W (getX i q r1) fun a => Dt C e r1 fun d r2 => W (setX i q op a d r2) fun r3 => K (.nx r3)) := by
    unfold Sx Dt; simp only [exS]
    rw [isList_eq]
    by_cases h : isLst r[i]? = true
    · simp only [h, Bool.not_true, Bool.false_eq_true, if_false, true_and]
      rw [W_bind]; congr 1; funext p
      rw [W_bind]; congr 1; funext a
      rw [W_bind]; congr 1; funext p2
      rw [W_bind]; rfl
    · rw [Bool.not_eq_true] at h
      simp only [h, Bool.not_false, if_true, Bool.false_eq_true, false_and]
      rfl
  have e : (fun (x : Val) (r1 : Env) => W x.fix fun q => W (getX i q r1) fun a => Dt C e r1 fun d r2 => W (setX i q op a d r2) fun r3 => K (.nx r3)) = fun x r1 => W x.fix fun q => W (getX i q r1) fun a => Ev C e r1 fun y r2 => W y.fix fun d => W (setX i q op a d r2) fun r3 => K (.nx r3) := by
    funext x r1; congr 1; funext q; congr 1; funext a; exact Dt_eq
  rw [h, Dt_eq, e]
@[simp] theorem Sx_app {i : Nat} {e : E} {K : Flow → Prop} : Sx C (.app i e) r K = (isLst r[i]? = true ∧ Ev C e r fun x r1 => W x.fix fun d => apK i [d] r1 K r1[i]?) := by
  have h : Sx C (.app i e) r K = (isLst r[i]? = true ∧ Dt C e r fun d r1 => apK i [d] r1 K r1[i]?) := by
    unfold Sx Dt; simp only [exS]
    rw [isList_eq]
    by_cases h : isLst r[i]? = true
    · simp only [h, Bool.not_true, Bool.false_eq_true, if_false, true_and]
      rw [W_bind]; congr 1; funext p
      cases hx : p.2[i]? with
      | none => rfl
      | some v =>
        cases v with
        | ow xs => exact ite_and
        | io xs => exact ite_and
        | _ => rfl
    · rw [Bool.not_eq_true] at h
      simp only [h, Bool.not_false, if_true, Bool.false_eq_true, false_and]
      rfl
  rw [h, Dt_eq]
def owK (f : List D → Prop) : Val → PrOf f
  | .ow ys => f ys
  | _ => False
@[simp] theorem owK_ow {f : List D → Prop} {ys : List D} : owK f (.ow ys) = f ys := propext Iff.rfl
@[simp] theorem Sx_ext {i : Nat} {e : E} {K : Flow → Prop} : Sx C (.ext i e) r K = (isLst r[i]? = true ∧ Ev C e r fun x r1 => owK (fun ys => apK i ys r1 K r1[i]?) x) := by
  unfold Sx Ev; simp only [exS]
  rw [isList_eq]
  by_cases h : isLst r[i]? = true
  · simp only [h, Bool.not_true, Bool.false_eq_true, if_false, true_and]
    rw [W_bind]; congr 1; funext p
    obtain ⟨x, r1⟩ := p
    cases x with
    | ow ys =>
      show W _ _ = apK i ys r1 K r1[i]?
      dsimp only
      cases hx : r1[i]? with
      | none => rfl
      | some v =>
        cases v with
        | ow xs => exact ite_and
        | io xs => exact ite_and
        | _ => rfl
    | _ => rfl
  · rw [Bool.not_eq_true] at h
    simp only [h, Bool.not_false, if_true, Bool.false_eq_true, false_and]
    rfl
@[simp] theorem Sx_ifs {c : E} {a b : List S} {K : Flow → Prop} : Sx C (.ifs c a b) r K = Ev C c r fun x r1 => W x.fix fun d => W (truth d) fun t => if t = true then Sq C a r1 K else Sq C b r1 K := by
  rw [← Tt_eq (Q := fun t r1 => if t = true then Sq C a r1 K else Sq C b r1 K)]
  unfold Sx Tt; simp only [exS, evT]; rw [W_bind]; congr 1; funext p; obtain ⟨t, r1⟩ := p; cases t <;> (unfold Sq; rfl)
def foK (hid : Bool) (os : List Opd) (r1 : Env) (K : Flow → Prop) : Flow → Prop
  | .nx r2 => if hid = true then (hidden os r1).all (isEm r2) = true ∧ K (.nx (back r1 (hidden os r1) r2)) else K (.nx r2)
  | f => K f
@[simp] theorem foK_nx {hid : Bool} {os : List Opd} {r1 r2 : Env} {K : Flow → Prop} : foK hid os r1 K (.nx r2) = if hid = true then (hidden os r1).all (isEm r2) = true ∧ K (.nx (back r1 (hidden os r1) r2)) else K (.nx r2) := propext Iff.rfl
@[simp] theorem foK_rt {hid : Bool} {os : List Opd} {r1 r2 : Env} {v : Val} {K : Flow → Prop} : foK hid os r1 K (.rt v r2) = K (.rt v r2) := propext Iff.rfl
@[simp] theorem foK_xc {hid : Bool} {os : List Opd} {r1 : Env} {e : Exn} {K : Flow → Prop} : foK hid os r1 K (.xc e) = K (.xc e) := propext Iff.rfl
def foR (hid : Bool) (os : List Opd) (r : Env) : Env := if hid then wipeE (hidden os r) r else give os r
@[simp] theorem Sx_for {hid : Bool} {t : Tgt} {k : Ik} {es : List E} {body : List S} {K : Flow → Prop} : Sx C (.for hid t k es body) r K = Os C es r fun os r1 => W (derefs r1 os) fun ds => W (itemsD k ds) fun xs =>
    noIo (opdIx os) r1 = true ∧ FL C t body xs (foR hid os r1) fun f => foK hid os r1 K f := by
  unfold Sx Os FL; simp only [exS]; rw [W_bind]; congr 1; funext p; rw [W_bind]; congr 1; funext ds; rw [W_bind]; congr 1; funext xs
  by_cases h : noIo (opdIx p.1) p.2 = true
  · rw [if_pos h, W_bind]; simp only [h, true_and]
    unfold foR
    congr 1; funext f
    cases f with
    | nx r2 =>
      unfold foK
      cases hid
      · rfl
      · simp only [if_true]; exact ite_and
    | _ => rfl
  · rw [if_neg h]; simp [h]
def lK (C : Ctx) (t : Tgt) (body : List S) (xs : List D) (K : Flow → Prop) : Flow → Prop
  | .nx r2 => FL C t body xs r2 K
  | .ct r2 => FL C t body xs r2 K
  | .bk r2 => K (.nx r2)
  | .rt v r2 => K (.rt v r2)
  | .xc e => K (.xc e)
@[simp] theorem lK_xc {t : Tgt} {body : List S} {xs : List D} {e : Exn} {K : Flow → Prop} : lK C t body xs K (.xc e) = K (.xc e) := propext Iff.rfl
@[simp] theorem lK_nx {t : Tgt} {body : List S} {xs : List D} {K : Flow → Prop} : lK C t body xs K (.nx r) = FL C t body xs r K := propext Iff.rfl
@[simp] theorem lK_ct {t : Tgt} {body : List S} {xs : List D} {K : Flow → Prop} : lK C t body xs K (.ct r) = FL C t body xs r K := propext Iff.rfl
@[simp] theorem lK_bk {t : Tgt} {body : List S} {xs : List D} {K : Flow → Prop} : lK C t body xs K (.bk r) = K (.nx r) := propext Iff.rfl
@[simp] theorem lK_rt {t : Tgt} {body : List S} {xs : List D} {v : Val} {K : Flow → Prop} : lK C t body xs K (.rt v r) = K (.rt v r) := propext Iff.rfl
theorem FL_nil {t : Tgt} {body : List S} {K : Flow → Prop} : FL C t body [] r K = K (.nx r) := by unfold FL; simp only [forL]; rfl
theorem FL_cons {t : Tgt} {body : List S} {x : D} {xs : List D} {K : Flow → Prop} : FL C t body (x :: xs) r K = Bt t x r fun r1 => Sq C body r1 fun f => lK C t body xs K f := by
  rw [show (fun f => lK C t body xs K f) = fun f => W (match f with | .nx r2 => forL (bindT t) (exSs C body) xs r2 | .ct r2 => forL (bindT t) (exSs C body) xs r2 | .bk r2 => .ok (.nx r2) | .rt v r2 => .ok (.rt v r2) | .xc e => .ok (.xc e)) K from by funext f; cases f <;> first | rfl | (unfold lK FL; rfl)]
  unfold FL Bt Sq; simp only [forL]; rw [W_bind]; congr 1; funext r1; rw [W_bind]; try congr 1
@[simp] theorem Sx_whl {c : E} {body : List S} {K : Flow → Prop} : Sx C (.whl c body) r K = WL C c body C.fuel r K := by unfold Sx WL; simp only [exS]
def wK (C : Ctx) (c : E) (body : List S) (n : Nat) (K : Flow → Prop) : Flow → Prop
  | .nx r2 => WL C c body n r2 K
  | .ct r2 => WL C c body n r2 K
  | .bk r2 => K (.nx r2)
  | .rt v r2 => K (.rt v r2)
  | .xc e => K (.xc e)
@[simp] theorem wK_xc {c : E} {body : List S} {n : Nat} {e : Exn} {K : Flow → Prop} : wK C c body n K (.xc e) = K (.xc e) := propext Iff.rfl
@[simp] theorem wK_nx {c : E} {body : List S} {n : Nat} {K : Flow → Prop} : wK C c body n K (.nx r) = WL C c body n r K := propext Iff.rfl
@[simp] theorem wK_ct {c : E} {body : List S} {n : Nat} {K : Flow → Prop} : wK C c body n K (.ct r) = WL C c body n r K := propext Iff.rfl
@[simp] theorem wK_bk {c : E} {body : List S} {n : Nat} {K : Flow → Prop} : wK C c body n K (.bk r) = K (.nx r) := propext Iff.rfl
@[simp] theorem wK_rt {c : E} {body : List S} {n : Nat} {v : Val} {K : Flow → Prop} : wK C c body n K (.rt v r) = K (.rt v r) := propext Iff.rfl
theorem WL_succ {c : E} {body : List S} {n : Nat} {K : Flow → Prop} : WL C c body (n + 1) r K = Ev C c r fun x r1 => W x.fix fun d => W (truth d) fun b => if b = true then Sq C body r1 fun f => wK C c body n K f else K (.nx r1) := by
  rw [← Tt_eq (Q := fun b r1 => if b = true then Sq C body r1 fun f => wK C c body n K f else K (.nx r1))]
  unfold WL Tt Sq; simp only [whileL, evT]; rw [W_bind]; congr 1; funext p; obtain ⟨b, r1⟩ := p
  cases b
  · rfl
  · simp only [if_true]; rw [W_bind]; congr 1; funext f; cases f <;> first | rfl | (unfold wK WL; rfl)
def rK (i : Nat) (r : Env) (K : Flow → Prop) : Option Val → PrOf K
  | some (.ow xs) => K (.rt (.ow xs) (r.set i .em))
  | some (.fz d) => K (.rt (.fz d) r)
  | some (.od kvs) => K (.rt (.fz (.dict (dictI kvs))) (r.set i (.fz (.dict (dictI kvs)))))
  | _ => False
@[simp] theorem rK_ow {i : Nat} {xs : List D} {K : Flow → Prop} : rK i r K (some (.ow xs)) = K (.rt (.ow xs) (r.set i .em)) := propext Iff.rfl
@[simp] theorem rK_fz {i : Nat} {xs : D} {K : Flow → Prop} : rK i r K (some (.fz xs)) = K (.rt (.fz xs) r) := propext Iff.rfl
@[simp] theorem Sx_retv {i : Nat} {K : Flow → Prop} : Sx C (.ret (.v i)) r K = rK i r K r[i]? := by
  unfold Sx; simp only [exS]
  cases hx : r[i]? with
  | none => simp only [evE, take, hx]; rfl
  | some v => cases v <;> (simp only [evE, take, hx]; rfl)
theorem Sx_ret {e : E} {K : Flow → Prop} (h : isV e = false) : Sx C (.ret e) r K = Ev C e r fun x r1 => K (.rt x r1) := by
  unfold Sx Ev
  cases e with
  | v i => cases h
  | _ => simp only [exS]; rw [W_bind]; rfl
@[simp] theorem Sx_ret_gl {i : Nat} {K : Flow → Prop} : Sx C (.ret (.gl i)) r K = Ev C (.gl i) r fun x r1 => K (.rt x r1) := Sx_ret rfl
@[simp] theorem Sx_ret_non {K : Flow → Prop} : Sx C (.ret .non) r K = Ev C .non r fun x r1 => K (.rt x r1) := Sx_ret rfl
@[simp] theorem Sx_ret_bl {b : Bool} {K : Flow → Prop} : Sx C (.ret (.bl b)) r K = Ev C (.bl b) r fun x r1 => K (.rt x r1) := Sx_ret rfl
@[simp] theorem Sx_ret_int {b : Int} {K : Flow → Prop} : Sx C (.ret (.int b)) r K = Ev C (.int b) r fun x r1 => K (.rt x r1) := Sx_ret rfl
@[simp] theorem Sx_ret_str {b : String} {K : Flow → Prop} : Sx C (.ret (.str b)) r K = Ev C (.str b) r fun x r1 => K (.rt x r1) := Sx_ret rfl
@[simp] theorem Sx_ret_tup {b : List E} {K : Flow → Prop} : Sx C (.ret (.tup b)) r K = Ev C (.tup b) r fun x r1 => K (.rt x r1) := Sx_ret rfl
@[simp] theorem Sx_ret_lst {b : List E} {K : Flow → Prop} : Sx C (.ret (.lst b)) r K = Ev C (.lst b) r fun x r1 => K (.rt x r1) := Sx_ret rfl
@[simp] theorem Sx_ret_dct {b : String} {a : E} {K : Flow → Prop} : Sx C (.ret (.dct b a)) r K = Ev C (.dct b a) r fun x r1 => K (.rt x r1) := Sx_ret rfl
@[simp] theorem Sx_ret_dct0 {K : Flow → Prop} : Sx C (.ret .dct0) r K = Ev C .dct0 r fun x r1 => K (.rt x r1) := Sx_ret rfl
@[simp] theorem Sx_ret_bin {o : Bop} {a b : E} {K : Flow → Prop} : Sx C (.ret (.bin o a b)) r K = Ev C (.bin o a b) r fun x r1 => K (.rt x r1) := Sx_ret rfl
@[simp] theorem Sx_ret_neg {a : E} {K : Flow → Prop} : Sx C (.ret (.neg a)) r K = Ev C (.neg a) r fun x r1 => K (.rt x r1) := Sx_ret rfl
@[simp] theorem Sx_ret_not {a : E} {K : Flow → Prop} : Sx C (.ret (.not a)) r K = Ev C (.not a) r fun x r1 => K (.rt x r1) := Sx_ret rfl
@[simp] theorem Sx_ret_cmp {o : Cop} {a b : E} {K : Flow → Prop} : Sx C (.ret (.cmp o a b)) r K = Ev C (.cmp o a b) r fun x r1 => K (.rt x r1) := Sx_ret rfl
@[simp] theorem Sx_ret_chain {o p : Cop} {a b c : E} {K : Flow → Prop} : Sx C (.ret (.chain o p a b c)) r K = Ev C (.chain o p a b c) r fun x r1 => K (.rt x r1) := Sx_ret rfl
@[simp] theorem Sx_ret_isN {a : E} {K : Flow → Prop} : Sx C (.ret (.isN a)) r K = Ev C (.isN a) r fun x r1 => K (.rt x r1) := Sx_ret rfl
@[simp] theorem Sx_ret_notN {a : E} {K : Flow → Prop} : Sx C (.ret (.notN a)) r K = Ev C (.notN a) r fun x r1 => K (.rt x r1) := Sx_ret rfl
@[simp] theorem Sx_ret_and {a : List E} {K : Flow → Prop} : Sx C (.ret (.and a)) r K = Ev C (.and a) r fun x r1 => K (.rt x r1) := Sx_ret rfl
@[simp] theorem Sx_ret_or {a : List E} {K : Flow → Prop} : Sx C (.ret (.or a)) r K = Ev C (.or a) r fun x r1 => K (.rt x r1) := Sx_ret rfl
@[simp] theorem Sx_ret_ite {a b c : E} {K : Flow → Prop} : Sx C (.ret (.ite a b c)) r K = Ev C (.ite a b c) r fun x r1 => K (.rt x r1) := Sx_ret rfl
@[simp] theorem Sx_ret_idx {a b : E} {K : Flow → Prop} : Sx C (.ret (.idx a b)) r K = Ev C (.idx a b) r fun x r1 => K (.rt x r1) := Sx_ret rfl
@[simp] theorem Sx_ret_slc {a : E} {l h : Option E} {K : Flow → Prop} : Sx C (.ret (.slc a l h)) r K = Ev C (.slc a l h) r fun x r1 => K (.rt x r1) := Sx_ret rfl
@[simp] theorem Sx_ret_call {f : Nat} {a : List E} {K : Flow → Prop} : Sx C (.ret (.call f a)) r K = Ev C (.call f a) r fun x r1 => K (.rt x r1) := Sx_ret rfl
@[simp] theorem Sx_ret_callB {f : Nat} {a : List E} {K : Flow → Prop} : Sx C (.ret (.callB f a)) r K = Ev C (.callB f a) r fun x r1 => K (.rt x r1) := Sx_ret rfl
@[simp] theorem Sx_ret_bi {f : Bi} {a : List E} {K : Flow → Prop} : Sx C (.ret (.bi f a)) r K = Ev C (.bi f a) r fun x r1 => K (.rt x r1) := Sx_ret rfl
@[simp] theorem Sx_ret_popl {i : Nat} {K : Flow → Prop} : Sx C (.ret (.popl i)) r K = Ev C (.popl i) r fun x r1 => K (.rt x r1) := Sx_ret rfl
@[simp] theorem Sx_ret_popa {i : Nat} {a : E} {K : Flow → Prop} : Sx C (.ret (.popa i a)) r K = Ev C (.popa i a) r fun x r1 => K (.rt x r1) := Sx_ret rfl
@[simp] theorem Sx_ret_trr {e : E} {K : Flow → Prop} : Sx C (.ret (.trr e)) r K = Ev C (.trr e) r fun x r1 => K (.rt x r1) := Sx_ret rfl
@[simp] theorem Sx_ret_fs {es : List E} {K : Flow → Prop} : Sx C (.ret (.fs es)) r K = Ev C (.fs es) r fun x r1 => K (.rt x r1) := Sx_ret rfl
@[simp] theorem Sx_ret_fl2 {i j : Nat} {e f : E} {K : Flow → Prop} : Sx C (.ret (.fl2 i j e f)) r K = Ev C (.fl2 i j e f) r fun x r1 => K (.rt x r1) := Sx_ret rfl
@[simp] theorem Sx_ret_dget {i : Nat} {a : E} {K : Flow → Prop} : Sx C (.ret (.dget i a)) r K = Ev C (.dget i a) r fun x r1 => K (.rt x r1) := Sx_ret rfl
@[simp] theorem Sx_ret_dsp {ks : List (Int ⊕ String)} {es : List E} {K : Flow → Prop} : Sx C (.ret (.dsp ks es)) r K = Ev C (.dsp ks es) r fun x r1 => K (.rt x r1) := Sx_ret rfl
@[simp] theorem Sx_ret_mt {m : Meth} {a : E} {es : List E} {K : Flow → Prop} : Sx C (.ret (.mt m a es)) r K = Ev C (.mt m a es) r fun x r1 => K (.rt x r1) := Sx_ret rfl
@[simp] theorem Sx_ret_isi {a : E} {t : Ty} {K : Flow → Prop} : Sx C (.ret (.isi a t)) r K = Ev C (.isi a t) r fun x r1 => K (.rt x r1) := Sx_ret rfl
@[simp] theorem Sx_ret_lc {h : Bool} {t : Tgt} {k : Ik} {es c : List E} {e : E} {K : Flow → Prop} : Sx C (.ret (.lc h t k es c e)) r K = Ev C (.lc h t k es c e) r fun x r1 => K (.rt x r1) := Sx_ret rfl
@[simp] theorem Sx_retN {K : Flow → Prop} : Sx C .retN r K = K (.rt (.fz .none) r) := by unfold Sx; simp only [exS]; rfl
@[simp] theorem Sx_brk {K : Flow → Prop} : Sx C .brk r K = K (.bk r) := by unfold Sx; simp only [exS]; rfl
@[simp] theorem Sx_cont {K : Flow → Prop} : Sx C .cont r K = K (.ct r) := by unfold Sx; simp only [exS]; rfl
def tbK (K : Flow → Prop) : Flow → Prop
  | .xc _ => False
  | f => K f
@[simp] theorem tbK_nx {K : Flow → Prop} : tbK K (.nx r) = K (.nx r) := propext Iff.rfl
@[simp] theorem tbK_bk {K : Flow → Prop} : tbK K (.bk r) = K (.bk r) := propext Iff.rfl
@[simp] theorem tbK_ct {K : Flow → Prop} : tbK K (.ct r) = K (.ct r) := propext Iff.rfl
@[simp] theorem tbK_rt {K : Flow → Prop} {v : Val} : tbK K (.rt v r) = K (.rt v r) := propext Iff.rfl
@[simp] theorem Sx_tryB {body : List S} {K : Flow → Prop} : Sx C (.tryB body) r K = Sq C body r fun f => tbK K f := by
  rw [show (fun f => tbK K f) = fun f => W (match f with | .xc _ => .no | f => .ok f) K from by funext f; cases f <;> rfl]
  unfold Sx Sq; simp only [exS]; rw [W_bind]; try congr 1
@[simp] theorem Sx_pass {K : Flow → Prop} : Sx C .pass r K = K (.nx r) := by unfold Sx; simp only [exS]; rfl
@[simp] theorem Sx_expr {e : E} {K : Flow → Prop} : Sx C (.expr e) r K = Ev C e r fun x r1 => K (.nx r1) := by unfold Sx Ev; simp only [exS]; rw [W_bind]; rfl
end

/-! ### functions -/
@[simp] theorem W_noX {α : Type} {m : Res α} {Q : α → Prop} : W (noX m) Q = W m Q := by cases m <;> rfl
def fE (ios : List Bool) (Q : Val × List (List D) → Prop) : Flow → Prop
  | .nx r => W (ioOuts ios r) fun outs => Q (.fz .none, outs)
  | .rt v r => W (ioOuts ios r) fun outs => Q (v, outs)
  | _ => False
@[simp] theorem fE_nx {ios : List Bool} {Q : Val × List (List D) → Prop} {r : Env} : fE ios Q (.nx r) = W (ioOuts ios r) fun outs => Q (.fz .none, outs) := propext Iff.rfl
@[simp] theorem fE_rt {ios : List Bool} {Q : Val × List (List D) → Prop} {r : Env} {v : Val} : fE ios Q (.rt v r) = W (ioOuts ios r) fun outs => Q (v, outs) := propext Iff.rfl
@[simp] theorem io_nil {r : Env} {Q : List (List D) → Prop} : W (ioOuts [] r) Q = Q [] := propext Iff.rfl
@[simp] theorem io_t {fs : List Bool} {xs : List D} {r : Env} {Q : List (List D) → Prop} : W (ioOuts (true :: fs) (.io xs :: r)) Q = W (ioOuts fs r) fun outs => Q (xs :: outs) := by simp only [ioOuts]; rw [W_bind]; rfl
@[simp] theorem io_f {fs : List Bool} {x : Val} {r : Env} {Q : List (List D) → Prop} : W (ioOuts (false :: fs) (x :: r)) Q = W (ioOuts fs r) Q := by cases x <;> exact propext Iff.rfl
theorem run_fn {P : Prog} {k f : Nat} {fn : Fn} {vs : List Val} {Q : Val × List (List D) → Prop} (h : P.tab f = some fn) (fit : (argsFit fn.ios vs && decide (fn.ios.length ≤ fn.nslots)) = true)
    (q : Sq (P.ctx k) fn.body (vs ++ List.replicate (fn.nslots - fn.ios.length) .em) fun fl => fE fn.ios Q fl) : W (callF P (k + 1) f vs) Q := by
  rw [callF_succ h]
  simp only [runFn]
  rw [if_pos fit]
  show W (_ >>= _) Q
  rw [W_bind, W_noX]
  unfold Sq at q
  refine W_mono q fun fl hf => ?_
  cases fl with
  | nx r => show W (_ >>= _) Q; rw [W_bind]; exact hf
  | rt v r => show W (_ >>= _) Q; rw [W_bind]; exact hf
  | bk r => exact hf.elim
  | ct r => exact hf.elim
  | xc e => exact hf.elim
/-- the call ends by an error -/
theorem run_xc {P : Prog} {k f : Nat} {fn : Fn} {vs : List Val} {e : Exn} (h : P.tab f = some fn) (fit : (argsFit fn.ios vs && decide (fn.ios.length ≤ fn.nslots)) = true) (hio : fn.ios.all (!·) = true)
    (q : Sq (P.ctx k) fn.body (vs ++ List.replicate (fn.nslots - fn.ios.length) .em) fun fl => fl = .xc e) : callF P (k + 1) f vs = .ex e := by
  rw [callF_succ h]
  simp only [runFn]
  rw [if_pos fit]
  unfold Sq at q
  obtain ⟨fl, e1, rfl⟩ := W_iff.mp q
  rw [e1]
  simp only [noX, ok_bind, hio, if_true]
/-- the call gives one answer -/
theorem run_eq {P : Prog} {k f : Nat} {vs : List Val} {x : Val × List (List D)} (h : W (callF P k f vs) fun p => p = x) : callF P k f vs = .ok x := by
  obtain ⟨a, e, rfl⟩ := W_iff.mp h
  exact e

/-! ### operations -/
section
variable {a b : Int} {Q : Val → Prop} {xs ys : List D}
@[simp] theorem lenOk_eq {n : Nat} : (lenOk n = true) = (n ≤ 16777216) := by simp [lenOk]
@[simp] theorem W_add : W (binD .add (.int a) (.int b)) Q = Q (.fz (.int (a + b))) := propext Iff.rfl
@[simp] theorem W_sub : W (binD .sub (.int a) (.int b)) Q = Q (.fz (.int (a - b))) := propext Iff.rfl
@[simp] theorem W_mul : W (binD .mul (.int a) (.int b)) Q = ((small64 a || small64 b) = true ∧ Q (.fz (.int (a * b)))) := ite_and
@[simp] theorem W_fdiv : W (binD .fdiv (.int a) (.int b)) Q = ((0 < b ∧ small64 b = true) ∧ Q (.fz (.int (a / b)))) := by
  simp only [binD]
  rw [ite_and]
  simp
@[simp] theorem W_mod : W (binD .mod (.int a) (.int b)) Q = (0 < b ∧ Q (.fz (.int (a % b)))) := by
  simp only [binD]
  rw [ite_and]
  simp
@[simp] theorem W_pow : W (binD .pow (.int a) (.int b)) Q = ((0 ≤ b ∧ b ≤ 1000000 ∧ small64 a = true) ∧ Q (.fz (.int (a ^ b.toNat)))) := by
  simp only [binD]
  rw [ite_and]
  simp [and_assoc]
@[simp] theorem W_catT : W (binD .add (.tuple xs) (.tuple ys)) Q = (xs.length + ys.length ≤ 16777216 ∧ Q (.fz (.tuple (xs ++ ys)))) := by
  simp only [binD]
  rw [ite_and, lenOk_eq]; rfl
@[simp] theorem W_catL : W (binD .add (.list xs) (.list ys)) Q = (xs.length + ys.length ≤ 16777216 ∧ Q (.ow (xs ++ ys))) := by
  simp only [binD]
  rw [ite_and, lenOk_eq]; rfl
@[simp] theorem W_catS {s t : Str} : W (binD .add (.str s) (.str t)) Q = (s.length + t.length ≤ 16777216 ∧ Q (.fz (.str (s ++ t)))) := by
  simp only [binD]
  rw [ite_and, lenOk_eq]; rfl
end
section
variable {a b : Int} {Q : Bool → Prop} {xs ys : List D}
theorem small64_eq : (small64 a = true) = (-18446744073709551616 < a ∧ a < 18446744073709551616) := by simp [small64]
@[simp] theorem W_lt : W (cmpD .lt (.int a) (.int b)) Q = Q (decide (a < b)) := propext Iff.rfl
@[simp] theorem W_le : W (cmpD .le (.int a) (.int b)) Q = Q (decide (a ≤ b)) := propext Iff.rfl
@[simp] theorem W_gt : W (cmpD .gt (.int a) (.int b)) Q = Q (decide (b < a)) := propext Iff.rfl
@[simp] theorem W_ge : W (cmpD .ge (.int a) (.int b)) Q = Q (decide (b ≤ a)) := propext Iff.rfl
@[simp] theorem W_eqq {d e : D} : W (cmpD .eq d e) Q = W (eqD d e) Q := propext Iff.rfl
@[simp] theorem W_nee {d e : D} : W (cmpD .ne d e) Q = W (eqD d e) fun c => Q (!c) := by
  show W (_ >>= _) Q = _
  rw [W_bind]; rfl
@[simp] theorem eqD_int : eqD (.int a) (.int b) = .ok (decide (a = b)) := by
  simp only [eqD, flat, Bool.true_and, Bool.true_or, if_true, PyData.eqv]
  congr 1
@[simp] theorem eqD_bool {p q : Bool} : eqD (.bool p) (.bool q) = .ok (p == q) := by
  simp only [eqD, flat, Bool.true_and, Bool.true_or, if_true, PyData.eqv]
@[simp] theorem eqD_str {p q : Str} : eqD (.str p) (.str q) = .ok (decide (p = q)) := by
  simp only [eqD, flat, Bool.true_and, Bool.true_or, if_true, PyData.eqv]
  congr 1
end
section
variable {xs ys : List D} {Q : Val → Prop} {i j : Int} {R : D → Prop}
def ofO {α : Type} : Option α → Res α
  | some a => .ok a
  | none => .no
@[simp] theorem ofO_some {α : Type} {a : α} : ofO (some a) = .ok a := rfl
@[simp] theorem idx_l : idxD (.list xs) (.int i) = ofO (atL xs i) := by simp only [idxD]; cases atL xs i <;> rfl
@[simp] theorem idx_t : idxD (.tuple xs) (.int i) = ofO (atL xs i) := by simp only [idxD]; cases atL xs i <;> rfl
theorem atL_nat {α : Type} {l : List α} {n : Nat} : atL l (n : Int) = l[n]? := by
  show L2.atI l n = _
  unfold L2.atI L2.ixN
  rw [if_pos (by omega)]
  split
  · rename_i h; simp
  · rename_i h
    have : l.length ≤ n := by omega
    simp [List.getElem?_eq_none this]
theorem atL_of {α : Type} {l : List α} {i : Int} (h : 0 ≤ i) : atL l i = l[i.toNat]? := by
  obtain ⟨n, rfl⟩ := Int.eq_ofNat_of_zero_le h
  rw [atL_nat]; rfl
theorem atL_neg {α : Type} {l : List α} {i : Int} (h : i < 0) (h2 : -(l.length : Int) ≤ i) : atL l i = l[(i + l.length).toNat]? := by
  show L2.atI l i = _
  unfold L2.atI L2.ixN
  rw [if_neg (by omega), if_pos h2]; rfl
@[simp] theorem atL_0 {α : Type} {l : List α} : atL l 0 = l[0]? := atL_nat (n := 0)
@[simp] theorem atL_1 {α : Type} {l : List α} : atL l 1 = l[1]? := atL_nat (n := 1)
@[simp] theorem atL_2 {α : Type} {l : List α} : atL l 2 = l[2]? := atL_nat (n := 2)
@[simp] theorem atL_3 {α : Type} {l : List α} : atL l 3 = l[3]? := atL_nat (n := 3)
@[simp] theorem atL_4 {α : Type} {l : List α} : atL l 4 = l[4]? := atL_nat (n := 4)
@[simp] theorem atL_5 {α : Type} {l : List α} : atL l 5 = l[5]? := atL_nat (n := 5)
theorem ixL_nat {n m : Nat} (h : m < n) : ixL n (m : Int) = some m := by
  show L2.ixN n m = _
  unfold L2.ixN
  rw [if_pos (by omega), if_pos (by omega)]; simp
theorem atL_map {α β : Type} {f : α → β} {l : List α} {i : Int} : atL (l.map f) i = (atL l i).map f := by
  show L2.atI _ i = (L2.atI l i).map f
  unfold L2.atI
  rw [List.length_map]
  cases L2.ixN l.length i <;> simp
@[simp] theorem W_lenl : W (biD .len [.list xs]) Q = Q (.fz (.int xs.length)) := propext Iff.rfl
@[simp] theorem W_lent : W (biD .len [.tuple xs]) Q = Q (.fz (.int xs.length)) := propext Iff.rfl
@[simp] theorem W_int1 : W (biD .int [.int i]) Q = Q (.fz (.int i)) := propext Iff.rfl
@[simp] theorem W_int2 {b : Bool} : W (biD .int [.bool b]) Q = Q (.fz (.int (if b then 1 else 0))) := propext Iff.rfl
@[simp] theorem W_tupl : W (biD .tuple [.list xs]) Q = Q (.fz (.tuple xs)) := propext Iff.rfl
@[simp] theorem W_tupt : W (biD .tuple [.tuple xs]) Q = Q (.fz (.tuple xs)) := propext Iff.rfl
@[simp] theorem W_lstl : W (biD .list [.list xs]) Q = Q (.ow xs) := propext Iff.rfl
@[simp] theorem W_lstt : W (biD .list [.tuple xs]) Q = Q (.ow xs) := propext Iff.rfl
@[simp] theorem W_max2 : W (biD .max [.int i, .int j]) Q = Q (.fz (.int (max i j))) := by
  have e : max i j = if j > i then j else i := by split <;> omega
  rw [e]; exact propext Iff.rfl
@[simp] theorem W_min2 : W (biD .min [.int i, .int j]) Q = Q (.fz (.int (min i j))) := by
  have e : min i j = if j < i then j else i := by split <;> omega
  rw [e]; exact propext Iff.rfl
theorem ints_map (ns : List Int) : ints? (ns.map PyData.int) = some ns := by
  induction ns with
  | nil => rfl
  | cons n ns ih => simp only [List.map_cons, ints?, ih, Option.map_some]
theorem bools_map (ns : List Bool) : bools? (ns.map PyData.bool) = some ns := by
  induction ns with
  | nil => rfl
  | cons n ns ih => simp only [List.map_cons, bools?, ih, Option.map_some]
@[simp] theorem W_sum {ns : List Int} : W (biD .sum [.list (ns.map .int)]) Q = Q (.fz (.int ns.sum)) := by simp only [biD, ints_map]; rfl
@[simp] theorem W_all {ns : List Bool} : W (biD .all [.list (ns.map .bool)]) Q = Q (.fz (.bool (ns.all id))) := by simp only [biD, bools_map]; rfl
@[simp] theorem truth_b {b : Bool} : truth (.bool b) = .ok b := rfl
@[simp] theorem truth_i : truth (.int i) = .ok (i != 0) := rfl
@[simp] theorem truth_l : truth (.list xs) = .ok (!xs.isEmpty) := rfl
@[simp] theorem truth_t : truth (.tuple xs) = .ok (!xs.isEmpty) := rfl
@[simp] theorem truth_n : truth .none = .ok false := rfl
@[simp] theorem items_l : itemsD .seq [.list xs] = .ok xs := rfl
@[simp] theorem items_t : itemsD .seq [.tuple xs] = .ok xs := rfl
theorem items_r1 (h : -4611686018427387904 ≤ i ∧ i < 4611686018427387904) : itemsD .rng [.int i] = .ok (range 0 i.toNat) := by
  simp only [itemsD]
  rw [if_pos]
  simp [bnd62]; omega
theorem items_r2 (h : -4611686018427387904 ≤ i ∧ i < 4611686018427387904) (h2 : -4611686018427387904 ≤ j ∧ j < 4611686018427387904) : itemsD .rng [.int i, .int j] = .ok (range i (j - i).toNat) := by
  simp only [itemsD]
  rw [if_pos]
  simp [bnd62]; omega
end
/-! ### the slots' own operations -/
section
variable {r : Env} {i : Nat} {os : List Opd} {x : Val}
@[simp] theorem noIo_nil : noIo [] r = true := rfl
@[simp] theorem noIo_cons {is : List Nat} : noIo (i :: is) r = (!isIo r i && noIo is r) := rfl
def ioB : Option Val → Bool
  | some (.io _) => true
  | some (.od _) => true
  | some .un => true
  | _ => false
@[simp] theorem isIo_eq : isIo r i = ioB r[i]? := rfl
@[simp] theorem ioB_io {xs : List D} : ioB (some (.io xs)) = true := rfl
@[simp] theorem ioB_fz {xs : D} : ioB (some (.fz xs)) = false := rfl
@[simp] theorem ioB_ow {xs : List D} : ioB (some (.ow xs)) = false := rfl
@[simp] theorem ioB_em : ioB (some .em) = false := rfl
@[simp] theorem opdIx_nil : opdIx [] = [] := rfl
@[simp] theorem opdIx_ref : opdIx (.ref i :: os) = i :: opdIx os := rfl
@[simp] theorem opdIx_val : opdIx (.val x :: os) = opdIx os := rfl
@[simp] theorem wipeE_nil : wipeE [] r = r := rfl
@[simp] theorem wipeE_cons {is : List Nat} : wipeE (i :: is) r = (wipeE is r).set i .em := rfl
def hdK (i : Nat) (l : List Nat) : Option Val → List Nat
  | some (.ow _) => i :: l
  | _ => l
@[simp] theorem hdK_ow {l : List Nat} {xs : List D} : hdK i l (some (.ow xs)) = i :: l := rfl
@[simp] theorem hdK_fz {l : List Nat} {xs : D} : hdK i l (some (.fz xs)) = l := rfl
@[simp] theorem hdK_io {l : List Nat} {xs : List D} : hdK i l (some (.io xs)) = l := rfl
@[simp] theorem hidden_nil : hidden [] r = [] := rfl
@[simp] theorem hidden_val : hidden (.val x :: os) r = hidden os r := rfl
@[simp] theorem hidden_ref : hidden (.ref i :: os) r = hdK i (hidden os r) r[i]? := by
  simp only [hidden]
  cases hx : r[i]? with
  | none => rfl
  | some v => cases v <;> rfl
def bkK (i : Nat) (t : Env) : Option Val → Env
  | some x => t.set i x
  | none => t
@[simp] theorem bkK_some {t : Env} : bkK i t (some x) = t.set i x := rfl
@[simp] theorem back_nil {src : Env} : back src [] r = r := rfl
@[simp] theorem back_cons {src : Env} {is : List Nat} : back src (i :: is) r = bkK i (back src is r) src[i]? := by
  simp only [back]
  cases hx : src[i]? with
  | none => rfl
  | some v => rfl
@[simp] theorem give_nil : give [] r = r := rfl
@[simp] theorem give_ref : give (.ref i :: os) r = give os (freeze i r) := rfl
@[simp] theorem give_val : give (.val x :: os) r = give os r := rfl
def fzK (i : Nat) (r : Env) : Option Val → Env
  | some (.ow xs) => r.set i (.fz (.list xs))
  | _ => r
@[simp] theorem fzK_ow {xs : List D} : fzK i r (some (.ow xs)) = r.set i (.fz (.list xs)) := rfl
@[simp] theorem fzK_fz {xs : D} : fzK i r (some (.fz xs)) = r := rfl
@[simp] theorem fzK_io {xs : List D} : fzK i r (some (.io xs)) = r := rfl
@[simp] theorem freeze_eq : freeze i r = fzK i r r[i]? := by
  unfold freeze
  cases hx : r[i]? with
  | none => rfl
  | some v => cases v <;> rfl
def emB : Option Val → Bool
  | some .em => true
  | _ => false
@[simp] theorem isEm_eq : isEm r i = emB r[i]? := rfl
@[simp] theorem emB_em : emB (some .em) = true := rfl
@[simp] theorem slots_one : Tgt.slots (.one i) = [i] := by simp only [Tgt.slots]
@[simp] theorem slots_many {ts : List Tgt} : Tgt.slots (.many ts) = slotsL ts := by simp only [Tgt.slots]
@[simp] theorem slotsL_nil : slotsL [] = [] := by simp only [slotsL]
@[simp] theorem slotsL_cons {t : Tgt} {ts : List Tgt} : slotsL (t :: ts) = t.slots ++ slotsL ts := by simp only [slotsL]
@[simp] theorem lcR_t : lcR true os r = r := rfl
@[simp] theorem lcR_f : lcR false os r = give os r := rfl
@[simp] theorem lcM_t {t : Tgt} : lcM true t os r = t.slots ++ hidden os r := rfl
@[simp] theorem lcM_f {t : Tgt} : lcM false t os r = t.slots ++ [] := rfl
@[simp] theorem foR_t : foR true os r = wipeE (hidden os r) r := rfl
@[simp] theorem foR_f : foR false os r = give os r := rfl
@[simp] theorem fit_nil : argsFit [] [] = true := rfl
@[simp] theorem fit_t {fs : List Bool} {xs : List D} {vs : List Val} : argsFit (true :: fs) (.io xs :: vs) = argsFit fs vs := rfl
@[simp] theorem fit_f {fs : List Bool} {d : D} {vs : List Val} : argsFit (false :: fs) (.fz d :: vs) = argsFit fs vs := rfl
@[simp] theorem isNo_n : isNo .none = true := rfl
@[simp] theorem isNo_i {j : Int} : isNo (.int j) = false := rfl
@[simp] theorem isNo_b {j : Bool} : isNo (.bool j) = false := rfl
@[simp] theorem isNo_s {j : Str} : isNo (.str j) = false := rfl
@[simp] theorem isNo_t {j : List D} : isNo (.tuple j) = false := rfl
@[simp] theorem isNo_l {j : List D} : isNo (.list j) = false := rfl
@[simp] theorem ty_ii {j : Int} : isTy (.int j) .int = true := rfl
@[simp] theorem ty_ib {j : Int} : isTy (.int j) .bool = false := rfl
@[simp] theorem ty_is {j : Int} : isTy (.int j) .str = false := rfl
@[simp] theorem ty_it {j : Int} : isTy (.int j) .tuple = false := rfl
@[simp] theorem ty_il {j : Int} : isTy (.int j) .list = false := rfl
@[simp] theorem ty_id {j : Int} : isTy (.int j) .dict = false := rfl
@[simp] theorem ty_bi {j : Bool} : isTy (.bool j) .int = true := rfl
@[simp] theorem ty_bb {j : Bool} : isTy (.bool j) .bool = true := rfl
@[simp] theorem ty_bs {j : Bool} : isTy (.bool j) .str = false := rfl
@[simp] theorem ty_bt {j : Bool} : isTy (.bool j) .tuple = false := rfl
@[simp] theorem ty_bl {j : Bool} : isTy (.bool j) .list = false := rfl
@[simp] theorem ty_bd {j : Bool} : isTy (.bool j) .dict = false := rfl
@[simp] theorem ty_si {j : Str} : isTy (.str j) .int = false := rfl
@[simp] theorem ty_sb {j : Str} : isTy (.str j) .bool = false := rfl
@[simp] theorem ty_ss {j : Str} : isTy (.str j) .str = true := rfl
@[simp] theorem ty_st {j : Str} : isTy (.str j) .tuple = false := rfl
@[simp] theorem ty_sl {j : Str} : isTy (.str j) .list = false := rfl
@[simp] theorem ty_sd {j : Str} : isTy (.str j) .dict = false := rfl
@[simp] theorem ty_ti {j : List D} : isTy (.tuple j) .int = false := rfl
@[simp] theorem ty_tb {j : List D} : isTy (.tuple j) .bool = false := rfl
@[simp] theorem ty_ts {j : List D} : isTy (.tuple j) .str = false := rfl
@[simp] theorem ty_tt {j : List D} : isTy (.tuple j) .tuple = true := rfl
@[simp] theorem ty_tl {j : List D} : isTy (.tuple j) .list = false := rfl
@[simp] theorem ty_td {j : List D} : isTy (.tuple j) .dict = false := rfl
@[simp] theorem ty_li {j : List D} : isTy (.list j) .int = false := rfl
@[simp] theorem ty_lb {j : List D} : isTy (.list j) .bool = false := rfl
@[simp] theorem ty_ls {j : List D} : isTy (.list j) .str = false := rfl
@[simp] theorem ty_lt {j : List D} : isTy (.list j) .tuple = false := rfl
@[simp] theorem ty_ll {j : List D} : isTy (.list j) .list = true := rfl
@[simp] theorem ty_ld {j : List D} : isTy (.list j) .dict = false := rfl
@[simp] theorem ty_n {t : Ty} : isTy .none t = false := by cases t <;> rfl
@[simp] theorem ty_di {j : List (D × D)} : isTy (.dict j) .int = false := rfl
@[simp] theorem ty_db {j : List (D × D)} : isTy (.dict j) .bool = false := rfl
@[simp] theorem ty_ds {j : List (D × D)} : isTy (.dict j) .str = false := rfl
@[simp] theorem ty_dt {j : List (D × D)} : isTy (.dict j) .tuple = false := rfl
@[simp] theorem ty_dl {j : List (D × D)} : isTy (.dict j) .list = false := rfl
@[simp] theorem ty_dd {j : List (D × D)} : isTy (.dict j) .dict = true := rfl
end
end DL

set_option Elab.async false
set_option linter.all false
set_option maxRecDepth 100000
set_option maxHeartbeats 4000000
set_option autoImplicit false
/-! SP2: rules for loops and comprehensions. -/
namespace DL
open PySem
/-- the call ends so -/
theorem run_to {P : Prog} {k f : Nat} {fn : Fn} {vs : List Val} {Q : Val × List (List D) → Prop} (h : P.tab f = some fn) (fit : (argsFit fn.ios vs && decide (fn.ios.length ≤ fn.nslots)) = true)
    (q : Say (Sq (P.ctx k) fn.body (vs ++ List.replicate (fn.nslots - fn.ios.length) .em) fun fl => fE fn.ios Q fl)) : ∃ p, callF P (k + 1) f vs = .ok p ∧ Q p := W_iff.mp (run_fn h fit (say q))
theorem run_is {P : Prog} {k f : Nat} {fn : Fn} {vs : List Val} {x : Val × List (List D)} (h : P.tab f = some fn) (fit : (argsFit fn.ios vs && decide (fn.ios.length ≤ fn.nslots)) = true)
    (q : Say (Sq (P.ctx k) fn.body (vs ++ List.replicate (fn.nslots - fn.ios.length) .em) fun fl => fE fn.ios (fun p => p = x) fl)) : callF P (k + 1) f vs = .ok x := run_eq (run_fn h fit (say q))
section
variable {C : Ctx}
def lJ (J : Env → Prop) (K : Flow → Prop) : Flow → Prop
  | .nx r2 => J r2
  | .ct r2 => J r2
  | .bk r2 => K (.nx r2)
  | .rt v r2 => K (.rt v r2)
  | .xc e => K (.xc e)
@[simp] theorem lJ_xc {J : Env → Prop} {K : Flow → Prop} {e : Exn} : lJ J K (.xc e) = K (.xc e) := propext Iff.rfl
@[simp] theorem lJ_nx {J : Env → Prop} {K : Flow → Prop} {r : Env} : lJ J K (.nx r) = J r := propext Iff.rfl
@[simp] theorem lJ_ct {J : Env → Prop} {K : Flow → Prop} {r : Env} : lJ J K (.ct r) = J r := propext Iff.rfl
@[simp] theorem lJ_bk {J : Env → Prop} {K : Flow → Prop} {r : Env} : lJ J K (.bk r) = K (.nx r) := propext Iff.rfl
@[simp] theorem lJ_rt {J : Env → Prop} {K : Flow → Prop} {r : Env} {v : Val} : lJ J K (.rt v r) = K (.rt v r) := propext Iff.rfl
theorem Sq_mono {ss : List S} {r : Env} {K L : Flow → Prop} (h : Sq C ss r K) (m : ∀ f, K f → L f) : Sq C ss r L := by unfold Sq at h ⊢; exact W_mono h m
theorem Bt_mono {t : Tgt} {d : D} {r : Env} {Q R : Env → Prop} (h : Bt t d r Q) (m : ∀ a, Q a → R a) : Bt t d r R := by unfold Bt at h ⊢; exact W_mono h m
/-- a loop with what holds ahead of the i-th turn -/
theorem FL_ix {t : Tgt} {body : List S} {K : Flow → Prop} (I : Nat → Env → Prop) {xs : List D} {r : Env} (h0 : I 0 r)
    (step : ∀ (i : Nat) (x : D) (r : Env), xs[i]? = some x → I i r → Say (Bt t x r fun r1 => Sq C body r1 fun f => lJ (I (i + 1)) K f)) (done : ∀ r, I xs.length r → Say (K (.nx r))) : FL C t body xs r K := by
  have key : ∀ (ys pre : List D) (r : Env), xs = pre ++ ys → I pre.length r → FL C t body ys r K := by
    intro ys
    induction ys with
    | nil =>
      intro pre r e h
      rw [FL_nil]
      rw [List.append_nil] at e
      subst e
      exact say (done r h)
    | cons y ys ih =>
      intro pre r e h
      rw [FL_cons]
      refine Bt_mono (say (step pre.length y r (by rw [e]; simp) h)) fun r1 q => Sq_mono q fun f hf => ?_
      have nxt : ∀ r2, I (pre.length + 1) r2 → FL C t body ys r2 K := fun r2 h2 => ih (pre ++ [y]) r2 (by rw [e]; simp) (by simpa using h2)
      cases f with
      | nx r2 => exact nxt r2 hf
      | ct r2 => exact nxt r2 hf
      | bk r2 => exact hf
      | rt v r2 => exact hf
      | xc e => exact hf
  exact key xs [] r rfl h0
/-- a loop that goes on or ends the def at the first x that is not good -/
theorem Ev_mono {e : E} {r : Env} {Q R : Val → Env → Prop} (h : Ev C e r Q) (m : ∀ a b, Q a b → R a b) : Ev C e r R := by unfold Ev at h ⊢; exact W_mono h fun p => m p.1 p.2
theorem Cs_mono {e : List E} {r : Env} {Q R : Bool → Env → Prop} (h : Cs C e r Q) (m : ∀ a b, Q a b → R a b) : Cs C e r R := by unfold Cs at h ⊢; exact W_mono h fun p => m p.1 p.2
/-- a comprehension that leaves the slots as they are -/
theorem LC_pure {t : Tgt} {c : List E} {elt : E} {r : Env} (p : D → Bool) (g : D → D) : ∀ {xs acc : List D} {Q : List D → Env → Prop} (_ : ∀ x ∈ xs, Say (Bt t x r fun r1 => Cs C c r1 fun b r2 => b = p x ∧ if b = true then Ev C elt r2 fun v r3 => W v.fix fun d => d = g x ∧ wipeE t.slots r3 = r else wipeE t.slots r2 = r))
    (_ : acc.length + xs.length ≤ 16777216) (_ : Q (acc ++ (xs.filter p).map g) r), LC C t c elt xs acc r Q
  | [], acc, Q, _, _, q => by rw [LC_nil]; simpa using q
  | x :: xs, acc, Q, h, hl, q => by
    rw [LC_cons]
    refine Bt_mono (say (h x (by simp))) fun r1 h1 => Cs_mono h1 fun b r2 ⟨hb, h2⟩ => ?_
    cases b with
    | false =>
      simp only [Bool.false_eq_true, if_false] at h2 ⊢
      rw [h2]
      refine LC_pure p g (fun y hy => h y (by simp [hy])) (by simp at hl; omega) ?_
      simpa [← hb] using q
    | true =>
      simp only [if_true] at h2 ⊢
      refine Ev_mono h2 fun v r3 h3 => W_mono h3 fun d ⟨hd, h4⟩ => ⟨by simp at hl ⊢; omega, ?_⟩
      rw [h4, hd]
      refine LC_pure p g (fun y hy => h y (by simp [hy])) (by simp at hl ⊢; omega) ?_
      simpa [← hb] using q
/-- without a condition -/
theorem LC_map {t : Tgt} {elt : E} {r : Env} (g : D → D) {xs acc : List D} {Q : List D → Env → Prop} (h : ∀ x ∈ xs, Say (Bt t x r fun r1 => Ev C elt r1 fun v r3 => W v.fix fun d => d = g x ∧ wipeE t.slots r3 = r))
    (hl : acc.length + xs.length ≤ 16777216) (q : Q (acc ++ xs.map g) r) : LC C t [] elt xs acc r Q := by
  have e : xs.filter (fun _ => true) = xs := List.filter_eq_self.mpr (by simp)
  refine LC_pure (fun _ => true) g (fun x hx => ⟨Bt_mono (say (h x hx)) fun r1 h1 => ?_⟩) hl (by rw [e]; exact q)
  simp only [Cs_nil, if_true, true_and]
  exact h1
/-- a comprehension with what holds of the slots throughout -/
theorem LC_rel {t : Tgt} {elt : E} (I : Env → Prop) (G : D → D → Prop) : ∀ {xs acc : List D} {r : Env} {Q : List D → Env → Prop} (_ : I r)
    (_ : ∀ x ∈ xs, ∀ r, I r → Say (Bt t x r fun r1 => Ev C elt r1 fun v r3 => W v.fix fun d => G x d ∧ I (wipeE t.slots r3))) (_ : acc.length + xs.length ≤ 16777216)
    (_ : ∀ ds r', I r' → Paired G xs ds → Say (Q (acc ++ ds) r')), LC C t [] elt xs acc r Q
  | [], acc, r, Q, h0, _, _, q => by rw [LC_nil]; simpa using say (q [] r h0 .nil)
  | x :: xs, acc, r, Q, h0, h, hl, q => by
    rw [LC_cons]
    refine Bt_mono (say (h x (by simp) r h0)) fun r1 h1 => ?_
    simp only [Cs_nil, if_true]
    refine Ev_mono h1 fun v r3 h3 => W_mono h3 fun d ⟨hd, h4⟩ => ⟨by simp at hl ⊢; omega, ?_⟩
    refine LC_rel I G h4 (fun y hy => h y (by simp [hy])) (by simp at hl ⊢; omega) fun ds r' hi hp => ⟨?_⟩
    simpa using say (q (d :: ds) r' hi (.cons hd hp))
/-- a while loop with what grows less -/
theorem WL_inv {c : E} {body : List S} {K : Flow → Prop} (I : Nat → Env → Prop) : ∀ {n m : Nat} {r : Env} (_ : m < n) (_ : I m r)
    (_ : ∀ m r, I m r → Say (Ev C c r fun x r1 => W x.fix fun d => W (truth d) fun b => if b = true then Sq C body r1 fun f => lJ (fun r2 => ∃ m', m' < m ∧ I m' r2) K f else K (.nx r1))), WL C c body n r K
  | 0, _, _, h, _, _ => absurd h (by omega)
  | n + 1, m, r, h, h0, step => by
    rw [WL_succ]
    refine Ev_mono (say (step m r h0)) fun x r1 h1 => W_mono h1 fun d h2 => W_mono h2 fun b h3 => ?_
    cases b with
    | false => exact h3
    | true =>
      simp only [if_true] at h3 ⊢
      refine Sq_mono h3 fun f hf => ?_
      cases f with
      | nx r2 => obtain ⟨m', hm, hi⟩ := hf; exact WL_inv I (by omega) hi step
      | ct r2 => obtain ⟨m', hm, hi⟩ := hf; exact WL_inv I (by omega) hi step
      | bk r2 => exact hf
      | rt v r2 => exact hf
      | xc e => exact hf
end
theorem mem_range {lo : Int} {n : Nat} {x : D} (h : x ∈ range lo n) : ∃ i : Nat, i < n ∧ x = .int (lo + i) := by
  unfold range at h
  obtain ⟨i, hi, rfl⟩ := List.mem_map.mp h
  exact ⟨i, by simpa using hi, rfl⟩
theorem range_get {lo : Int} {n i : Nat} {x : D} (h : (range lo n)[i]? = some x) : i < n ∧ x = .int (lo + i) := by
  unfold range at h
  rw [List.getElem?_map] at h
  by_cases hi : i < n
  · rw [List.getElem?_range hi] at h
    cases h
    exact ⟨hi, rfl⟩
  · rw [List.getElem?_eq_none (by simp; omega)] at h
    cases h
@[simp] theorem range_len {lo : Int} {n : Nat} : (range lo n).length = n := by simp [range]
/-- a loop over a range -/
theorem FL_rng {C : Ctx} {t : Tgt} {body : List S} {K : Flow → Prop} (I : Nat → Env → Prop) {lo : Int} {n : Nat} {r : Env} (h0 : I 0 r)
    (step : ∀ (i : Nat) (r : Env), i < n → I i r → Say (Bt t (.int (lo + i)) r fun r1 => Sq C body r1 fun f => lJ (I (i + 1)) K f)) (done : ∀ r, I n r → Say (K (.nx r))) : FL C t body (range lo n) r K := by
  refine FL_ix I h0 (fun i x r hx hi => ?_) fun r hi => ?_
  · obtain ⟨h1, rfl⟩ := range_get hx
    exact step i r h1 hi
  · rw [range_len] at hi
    exact done r hi
end DL

namespace F
open PySem DL
/-- _law_same -/
def f6 : Fn := { nslots := 3, ios := [false, false], body := [.ifs (.or [.isi (.v 1) .tuple, .isi (.v 1) .list]) [.ifs (.or [.cmp .ne (.isi (.v 1) .tuple) (.isi (.v 0) .tuple), .cmp .ne (.isi (.v 1) .list) (.isi (.v 0) .list), .cmp .ne (.bi .len [.v 0]) (.bi .len [.v 1])]) [.ret (.bl false)] [],
      .ret (.cmp .eq (.bi .len [.lc false (.one 2) .rng [.bi .len [.v 1]] [.not (.call 6 [.idx (.v 0) (.v 2), .idx (.v 1) (.v 2)])] (.v 2)]) (.int 0))] [],
    .ifs (.isN (.v 1)) [.ret (.isN (.v 0))] [],
    .ifs (.or [.isi (.v 1) .bool, .isi (.v 0) .bool]) [.ret (.and [.isi (.v 1) .bool, .isi (.v 0) .bool, .cmp .eq (.v 0) (.v 1)])] [],
    .ifs (.isi (.v 1) .int) [.ret (.and [.isi (.v 0) .int, .cmp .eq (.v 0) (.v 1)])] [],
    .ret (.and [.isi (.v 0) .str, .isi (.v 1) .str, .cmp .eq (.v 0) (.v 1)])] }
/-- _law_pool -/
def f7 : Fn := { nslots := 3, ios := [false], body := [.asg 1 (.int 7),
    .for true (.one 2) .seq [.slc (.v 0) none (some (.int 63))] [.asg 1 (.bin .mod (.bi .int [.bin .add (.bin .mul (.v 1) (.int 31)) (.v 2)]) (.int 1000003))],
    .ret (.lst [.bi .list [.v 0], .int 0, .int 0, .int 0, .v 1])] }
/-- _law_spread -/
def f8 : Fn := { nslots := 4, ios := [false], body := [.asg 1 (.bin .mod (.bi .int [.v 0]) (.int 2147483647)),
    .asg 2 (.int 1),
    .for true (.one 3) .rng [.int 4] [.asg 1 (.bin .mod (.bi .int [.bin .add (.bin .add (.bin .mul (.v 1) (.int 48271)) (.int 12345)) (.v 3)]) (.int 2147483647)),
      .asg 2 (.bin .add (.bin .mul (.v 2) (.int 2147483647)) (.v 1))],
    .ret (.v 2)] }
/-- _law_draw -/
def f9 : Fn := { nslots := 5, ios := [true, false], body := [.ifs (.and [.cmp .le (.idx (.v 0) (.int 2)) (.int 0), .cmp .lt (.idx (.v 0) (.int 1)) (.bi .len [.idx (.v 0) (.int 0)])]) [.asg 2 (.idx (.idx (.v 0) (.int 0)) (.idx (.v 0) (.int 1))),
      .sto 0 (.int 1) (.bin .add (.idx (.v 0) (.int 1)) (.int 1)),
      .sto 0 (.int 2) (.v 2),
      .ifs (.cmp .lt (.v 2) (.int 1000000000000000000)) [.sto 0 (.int 2) (.call 8 [.v 2])] []] [],
    .sto 0 (.int 3) (.bin .add (.idx (.v 0) (.int 3)) (.int 1)),
    .ifs (.cmp .le (.idx (.v 0) (.int 2)) (.int 0)) [.asg 3 (.bin .mod (.bi .int [.bin .add (.bin .add (.bin .mul (.idx (.v 0) (.int 4)) (.int 48271)) (.bin .mul (.idx (.v 0) (.int 3)) (.int 69621))) (.int 1)]) (.int 2147483647)),
      .asg 3 (.bin .mod (.bi .int [.bin .add (.bin .mul (.v 3) (.int 16807)) (.idx (.v 0) (.int 3))]) (.int 2147483629)),
      .ret (.bin .mod (.bin .fdiv (.v 3) (.int 5)) (.v 1))] [],
    .asg 4 (.bin .mod (.bi .int [.idx (.v 0) (.int 2)]) (.v 1)),
    .sto 0 (.int 2) (.bin .fdiv (.idx (.v 0) (.int 2)) (.v 1)),
    .ret (.v 4)] }
/-- _law_pick -/
def f31 : Fn := { nslots := 2, ios := [true, false], body := [.ret (.idx (.v 1) (.call 9 [.v 0, .bi .len [.v 1]]))] }
/-- _law_subsets -/
def f260 : Fn := { nslots := 4, ios := [false], body := [.asg 1 (.lst [.tup []]),
    .for true (.one 2) .seq [.v 0] [.asg 1 (.bin .add (.v 1) (.lc true (.one 3) .seq [.v 1] [] (.bin .add (.v 3) (.tup [.v 2]))))],
    .ret (.bi .sorted [.v 1])] }
/-- subsets -/
def f262 : Fn := { nslots := 4, ios := [false], body := [.asg 1 (.lst [.tup []]),
    .for true (.one 2) .seq [.v 0] [.ext 1 (.lc true (.one 3) .seq [.v 1] [] (.bin .add (.v 3) (.tup [.v 2])))],
    .ret (.bi .sorted [.v 1])] }
/-- _law_port -/
def f294 : Fn := { nslots := 15, ios := [true, false, false, false, false], body := [.asg 5 (.idx (.tup [.int 3, .int 12]) (.call 9 [.v 0, .int 2])),
    .asg 6 (.idx (.tup [.int 0, .int 60, .int 200]) (.call 9 [.v 0, .int 3])),
    .asg 7 (.call 9 [.v 0, .int 2]),
    .asg 8 (.lst []),
    .for true (.one 9) .rng [.v 2] [.asg 10 (.call 9 [.v 0, .v 1]),
      .ifs (.cmp .gt (.call 9 [.v 0, .bin .add (.int 2) (.v 7)]) (.int 0)) [.asg 10 (.bin .fdiv (.v 10) (.int 2))] [],
      .asg 11 (.bi .min [.bin .sub (.v 1) (.int 1), .bin .add (.v 10) (.call 9 [.v 0, .int 4])]),
      .asg 12 (.bin .add (.int 1) (.call 9 [.v 0, .idx (.tup [.int 3, .int 400]) (.call 9 [.v 0, .int 2])])),
      .app 8 (.tup [.v 12, .bin .add (.v 6) (.call 9 [.v 0, .idx (.tup [.bin .add (.v 5) (.int 4), .int 6]) (.v 7)]), .v 10, .v 11, .bin .add (.int 1) (.call 9 [.v 0, .idx (.tup [.int 2, .int 2, .int 4, .int 4, .int 9]) (.call 9 [.v 0, .int 5])])])],
    .asg 13 (.bi .tuple [.lc true (.one 9) .rng [.v 1] [] (.call 9 [.v 0, .v 5])]),
    .asg 14 (.bi .tuple [.lc true (.one 9) .rng [.v 3] [] (.tup [.idx (.tup [.int 3, .int 200, .int 400]) (.bi .max [.bin .mul (.int 2) (.v 7), .call 9 [.v 0, .int 3]]), .bin .add (.bin .add (.v 6) (.call 9 [.v 0, .int 6])) (.bin .mul (.int 3) (.v 7))])]),
    .ret (.tup [.v 1, .bin .add (.bin .add (.v 6) (.call 9 [.v 0, .int 5])) (.bin .mul (.int 4) (.v 7)), .v 13, .v 14, .bi .tuple [.v 8], .v 4])] }
/-- _law_any_port -/
def f295 : Fn := { nslots := 3, ios := [true, false], body := [.asg 2 (.bin .add (.int 1) (.call 9 [.v 0, .v 1])),
    .ret (.call 294 [.v 0, .v 2, .bin .add (.int 1) (.call 9 [.v 0, .idx (.tup [.int 2, .int 4]) (.call 9 [.v 0, .int 2])]), .bin .add (.int 1) (.call 9 [.v 0, .int 3]), .call 9 [.v 0, .int 4]])] }
/-- _law_start -/
def f296 : Fn := { nslots := 2, ios := [false], body := [.ret (.tup [.bi .tuple [.lc true (.one 1) .seq [.idx (.v 0) (.int 4)] [] (.tup [.int 0, .int 0, .int 0])], .idx (.v 0) (.int 5)])] }
/-- _law_at -/
def f302 : Fn := { nslots := 3, ios := [false, false], body := [.ret (.lc false (.one 2) .rng [.bi .len [.idx (.v 0) (.int 0)]] [.cmp .eq (.idx (.idx (.idx (.v 0) (.int 0)) (.v 2)) (.int 0)) (.v 1)] (.v 2))] }
/-- _law_put -/
def f303 : Fn := { nslots := 3, ios := [false, false, false], body := [.ret (.tup [.bin .add (.bin .add (.slc (.idx (.v 0) (.int 0)) none (some (.v 1))) (.tup [.v 2])) (.slc (.idx (.v 0) (.int 0)) (some (.bin .add (.v 1) (.int 1))) none), .idx (.v 0) (.int 1)])] }
/-- _law_arrivals -/
def f304 : Fn := { nslots := 8, ios := [false, false, false], body := [.asg 3 (.lst []),
    .for false (.one 4) .seq [.call 260 [.call 302 [.v 2, .int 0]]] [.asg 6 (.lc true (.one 5) .seq [.v 4] [.cmp .gt (.idx (.idx (.idx (.v 0) (.int 4)) (.v 5)) (.int 2)) (.v 1)] (.v 5)),
      .asg 7 (.lc true (.one 5) .seq [.call 302 [.v 2, .int 0]] [.and [.cmp .notIn (.v 5) (.v 4), .cmp .le (.idx (.idx (.idx (.v 0) (.int 4)) (.v 5)) (.int 3)) (.v 1)]] (.v 5)),
      .ifs (.and [.cmp .eq (.v 6) (.lst []), .cmp .eq (.v 7) (.lst [])]) [.app 3 (.v 4)] []],
    .ret (.v 3)] }
/-- _law_arrived -/
def f305 : Fn := { nslots := 3, ios := [false, false], body := [.ret (.tup [.bi .tuple [.lc false (.one 2) .rng [.bi .len [.idx (.v 0) (.int 0)]] [] (.ite (.cmp .isIn (.v 2) (.v 1)) (.tup [.int 1, .int 0, .int 0]) (.idx (.idx (.v 0) (.int 0)) (.v 2)))], .idx (.v 0) (.int 1)])] }
/-- _law_movements -/
def f306 : Fn := { nslots := 13, ios := [false, false, false], body := [.asg 3 (.lst [.tup [.str "none"]]),
    .asg 4 (.bin .add (.idx (.idx (.v 0) (.int 2)) (.v 1)) (.idx (.v 0) (.int 1))),
    .asg 6 (.lc false (.one 5) .seq [.call 302 [.v 2, .int 2]] [] (.idx (.idx (.idx (.v 2) (.int 0)) (.v 5)) (.int 1))),
    .for false (.one 5) .rng [.bi .len [.idx (.v 0) (.int 4)]] [.asgT [(.one 7), (.one 8)] (.slc (.idx (.idx (.v 0) (.int 4)) (.v 5)) none (some (.int 2))),
      .asgT [(.one 9), (.one 10), (.one 11)] (.idx (.idx (.v 2) (.int 0)) (.v 5)),
      .ifs (.cmp .gt (.v 8) (.v 4)) [.cont] [],
      .ifs (.cmp .eq (.v 9) (.int 1)) [.for false (.one 12) .rng [.bi .len [.idx (.v 0) (.int 3)]] [.ifs (.and [.cmp .notIn (.v 12) (.v 6), .cmp .le (.v 7) (.idx (.idx (.idx (.v 0) (.int 3)) (.v 12)) (.int 0)), .cmp .le (.v 8) (.bin .add (.idx (.idx (.v 0) (.int 2)) (.v 1)) (.idx (.idx (.idx (.v 0) (.int 3)) (.v 12)) (.int 1)))]) [.app 3 (.tup [.str "in", .v 5, .v 12])] []]] [],
      .ifs (.and [.cmp .eq (.v 9) (.int 2), .cmp .eq (.v 11) (.int 0)]) [.app 3 (.tup [.str "out", .v 5])] []],
    .ret (.bi .sorted [.v 3])] }
/-- _law_moved -/
def f307 : Fn := { nslots := 4, ios := [false, false, false], body := [.ifs (.cmp .eq (.idx (.v 2) (.int 0)) (.str "none")) [.ret (.v 1)] [],
    .asg 3 (.idx (.v 2) (.int 1)),
    .ret (.call 303 [.v 1, .v 3, .ite (.cmp .eq (.idx (.v 2) (.int 0)) (.str "out")) (.tup [.int 3, .int 0, .int 0]) (.tup [.int 2, .idx (.v 2) (.int 2), .idx (.idx (.idx (.v 0) (.int 4)) (.v 3)) (.int 4)])])] }
/-- _law_stops -/
def f308 : Fn := { nslots := 5, ios := [false, false], body := [.asg 3 (.bi .sorted [.lc false (.one 2) .seq [.call 302 [.v 1, .int 2]] [.cmp .gt (.idx (.idx (.idx (.v 1) (.int 0)) (.v 2)) (.int 2)) (.int 0)] (.idx (.idx (.idx (.v 1) (.int 0)) (.v 2)) (.int 1))]),
    .ret (.lc true (.one 4) .seq [.call 260 [.v 3]] [.cmp .le (.bi .len [.v 4]) (.idx (.v 1) (.int 1))] (.v 4))] }
/-- _law_worked -/
def f309 : Fn := { nslots := 6, ios := [false, false], body := [.asg 2 (.lst []),
    .for true (.many [(.one 3), (.one 4), (.one 5)]) .seq [.idx (.v 0) (.int 0)] [.ifs (.cmp .eq (.v 3) (.int 1)) [.asg 4 (.bin .add (.v 4) (.int 1))] [],
      .ifs (.and [.cmp .eq (.v 3) (.int 2), .cmp .gt (.v 5) (.int 0), .cmp .notIn (.v 4) (.v 1)]) [.asg 5 (.bin .sub (.v 5) (.int 1))] [],
      .app 2 (.tup [.v 3, .v 4, .v 5])],
    .ret (.tup [.bi .tuple [.v 2], .bin .sub (.idx (.v 0) (.int 1)) (.bi .len [.v 1])])] }
/-- _law_some_state -/
def f310 : Fn := { nslots := 6, ios := [true, false, false], body := [.asg 3 (.call 296 [.v 1]),
    .for true (.one 4) .rng [.v 2] [.asg 3 (.call 305 [.v 3, .call 31 [.v 0, .call 304 [.v 1, .v 4, .v 3]]]),
      .asg 5 (.call 306 [.v 1, .v 4, .v 3]),
      .asg 3 (.call 307 [.v 1, .v 3, .ite (.cmp .eq (.call 9 [.v 0, .int 2]) (.int 0)) (.idx (.v 5) (.neg (.int 1))) (.call 31 [.v 0, .v 5])]),
      .asg 3 (.call 309 [.v 3, .call 31 [.v 0, .call 308 [.v 1, .v 3]]])],
    .ret (.v 3)] }
/-- vessels_at -/
def f312 : Fn := { nslots := 3, ios := [false, false], body := [.ret (.lc false (.one 2) .rng [.bi .len [.idx (.v 0) (.int 0)]] [.cmp .eq (.idx (.idx (.idx (.v 0) (.int 0)) (.v 2)) (.int 0)) (.v 1)] (.v 2))] }
/-- with_vessel -/
def f313 : Fn := { nslots := 3, ios := [false, false, false], body := [.ret (.tup [.bin .add (.bin .add (.slc (.idx (.v 0) (.int 0)) none (some (.v 1))) (.tup [.v 2])) (.slc (.idx (.v 0) (.int 0)) (some (.bin .add (.v 1) (.int 1))) none), .idx (.v 0) (.int 1)])] }
/-- arrivals_of -/
def f314 : Fn := { nslots := 8, ios := [false, false, false], body := [.asg 3 (.call 312 [.v 2, .gl 10]),
    .asg 5 (.lc true (.one 4) .seq [.v 3] [.cmp .le (.idx (.idx (.idx (.v 0) (.int 4)) (.v 4)) (.int 2)) (.v 1)] (.v 4)),
    .asg 6 (.lc true (.one 4) .seq [.v 3] [.cmp .le (.idx (.idx (.idx (.v 0) (.int 4)) (.v 4)) (.int 3)) (.v 1)] (.v 4)),
    .ret (.lc true (.one 7) .seq [.call 262 [.v 5]] [.bi .all [.lc true (.one 4) .seq [.v 6] [] (.cmp .isIn (.v 4) (.v 7))]] (.v 7))] }
/-- arrived -/
def f315 : Fn := { nslots := 3, ios := [false, false], body := [.for true (.one 2) .seq [.v 1] [.asg 0 (.call 313 [.v 0, .v 2, .tup [.gl 11, .int 0, .int 0]])],
    .ret (.v 0)] }
/-- berth_of -/
def f317 : Fn := { nslots := 5, ios := [false, false], body := [.asgT [(.one 2), (.one 3), (.one 4)] (.idx (.idx (.v 0) (.int 0)) (.v 1)),
    .ret (.ite (.cmp .eq (.v 2) (.gl 12)) (.v 3) (.non))] }
/-- passes_bar -/
def f318 : Fn := { nslots := 3, ios := [false, false, false], body := [.ret (.cmp .ge (.bin .add (.idx (.idx (.v 0) (.int 2)) (.v 1)) (.idx (.v 0) (.int 1))) (.idx (.idx (.idx (.v 0) (.int 4)) (.v 2)) (.int 1)))] }
/-- can_go_in -/
def f319 : Fn := { nslots := 8, ios := [false, false, false, false, false], body := [.ifs (.cmp .isIn (.v 4) (.lc false (.one 5) .rng [.bi .len [.idx (.v 2) (.int 0)]] [] (.call 317 [.v 2, .v 5]))) [.ret (.bl false)] [],
    .asgT [(.one 6), (.one 7)] (.idx (.idx (.v 0) (.int 3)) (.v 4)),
    .ifs (.or [.cmp .gt (.idx (.idx (.idx (.v 0) (.int 4)) (.v 3)) (.int 0)) (.v 6), .cmp .lt (.bin .add (.idx (.idx (.v 0) (.int 2)) (.v 1)) (.v 7)) (.idx (.idx (.idx (.v 0) (.int 4)) (.v 3)) (.int 1))]) [.ret (.bl false)] [],
    .ret (.call 318 [.v 0, .v 1, .v 3])] }
/-- movements_of -/
def f320 : Fn := { nslots := 7, ios := [false, false, false], body := [.asg 3 (.lst [.tup [.str "none"]]),
    .for false (.one 4) .seq [.call 312 [.v 2, .gl 11]] [.asg 6 (.lc false (.one 5) .rng [.bi .len [.idx (.v 0) (.int 3)]] [.call 319 [.v 0, .v 1, .v 2, .v 4, .v 5]] (.v 5)),
      .ext 3 (.lc true (.one 5) .seq [.v 6] [] (.tup [.str "in", .v 4, .v 5]))],
    .for false (.one 4) .seq [.call 312 [.v 2, .gl 12]] [.ifs (.and [.cmp .eq (.idx (.idx (.idx (.v 2) (.int 0)) (.v 4)) (.int 2)) (.int 0), .call 318 [.v 0, .v 1, .v 4]]) [.app 3 (.tup [.str "out", .v 4])] []],
    .ret (.bi .sorted [.v 3])] }
/-- moved_state -/
def f321 : Fn := { nslots := 3, ios := [false, false, false], body := [.ifs (.cmp .eq (.idx (.v 2) (.int 0)) (.str "in")) [.ret (.call 313 [.v 1, .idx (.v 2) (.int 1), .tup [.gl 12, .idx (.v 2) (.int 2), .idx (.idx (.idx (.v 0) (.int 4)) (.idx (.v 2) (.int 1))) (.int 4)]])] [],
    .ifs (.cmp .eq (.idx (.v 2) (.int 0)) (.str "out")) [.ret (.call 313 [.v 1, .idx (.v 2) (.int 1), .tup [.gl 13, .int 0, .int 0]])] [],
    .ret (.v 1)] }
/-- busy_berths -/
def f323 : Fn := { nslots := 2, ios := [false], body := [.ret (.bi .sorted [.lc false (.one 1) .seq [.call 312 [.v 0, .gl 12]] [.cmp .gt (.idx (.idx (.idx (.v 0) (.int 0)) (.v 1)) (.int 2)) (.int 0)] (.idx (.idx (.idx (.v 0) (.int 0)) (.v 1)) (.int 1))])] }
/-- stops_of -/
def f324 : Fn := { nslots := 3, ios := [false, false], body := [.ret (.lc false (.one 2) .seq [.call 262 [.call 323 [.v 1]]] [.cmp .le (.bi .len [.v 2]) (.idx (.v 1) (.int 1))] (.v 2))] }
/-- worked -/
def f325 : Fn := { nslots := 6, ios := [false, false], body := [.asg 2 (.lst []),
    .for true (.many [(.one 3), (.one 4), (.one 5)]) .seq [.idx (.v 0) (.int 0)] [.ifs (.cmp .eq (.v 3) (.gl 11)) [.app 2 (.tup [.gl 11, .bin .add (.v 4) (.int 1), .int 0])] [.ifs (.and [.cmp .eq (.v 3) (.gl 12), .cmp .gt (.v 5) (.int 0), .cmp .notIn (.v 4) (.v 1)]) [.app 2 (.tup [.gl 12, .v 4, .bin .sub (.v 5) (.int 1)])] [.app 2 (.tup [.v 3, .v 4, .v 5])]]],
    .ret (.tup [.bi .tuple [.v 2], .bin .sub (.idx (.v 0) (.int 1)) (.bi .len [.v 1])])] }
/-- tick_after -/
def f327 : Fn := { nslots := 7, ios := [false, false, false, false, false, false], body := [.ifs (.cmp .notIn (.v 3) (.call 314 [.v 0, .v 1, .v 2])) [.raise 1 (.v 3)] [],
    .asg 6 (.call 315 [.v 2, .v 3]),
    .ifs (.cmp .notIn (.v 4) (.call 320 [.v 0, .v 1, .v 6])) [.raise 1 (.v 4)] [],
    .asg 6 (.call 321 [.v 0, .v 6, .v 4]),
    .ifs (.cmp .notIn (.v 5) (.call 324 [.v 0, .v 6])) [.raise 1 (.v 5)] [],
    .ret (.tup [.v 6, .call 325 [.v 6, .v 5]])] }
/-- _law_tick -/
def f328 : Fn := { nslots := 8, ios := [false, false, false, false, false, false], body := [.ifs (.cmp .notIn (.v 3) (.call 304 [.v 0, .v 1, .v 2])) [.ret (.non)] [],
    .asg 6 (.call 305 [.v 2, .v 3]),
    .ifs (.cmp .notIn (.v 4) (.call 306 [.v 0, .v 1, .v 6])) [.ret (.non)] [],
    .asg 7 (.call 307 [.v 0, .v 6, .v 4]),
    .ret (.ite (.cmp .isIn (.v 5) (.call 308 [.v 0, .v 7])) (.tup [.v 7, .call 309 [.v 7, .v 5]]) (.non))] }
/-- _law_told -/
def f329 : Fn := { nslots := 7, ios := [false, false, false, false, false, false], body := [.told 6 327 [.v 0, .v 1, .v 2, .v 3, .v 4, .v 5]] }
/-- law -/
def f330 : Fn := { nslots := 16, ios := [false], body := [.asg 1 (.call 7 [.v 0]),
    .asg 2 (.call 295 [.v 1, .int 8]),
    .asg 3 (.call 9 [.v 1, .idx (.v 2) (.int 0)]),
    .asg 4 (.call 310 [.v 1, .v 2, .v 3]),
    .asg 5 (.call 260 [.bi .lrng [.bi .len [.idx (.v 2) (.int 4)]]]),
    .asg 6 (.call 31 [.v 1, .call 304 [.v 2, .v 3, .v 4]]),
    .asg 7 (.call 305 [.v 4, .v 6]),
    .asg 8 (.call 306 [.v 2, .v 3, .v 7]),
    .asg 10 (.bin .add (.lc true (.one 9) .rng [.neg (.int 1), .bin .add (.bi .len [.idx (.v 2) (.int 4)]) (.int 1)] [] (.tup [.str "in", .v 9, .int 0])) (.lc true (.one 9) .rng [.bi .len [.idx (.v 2) (.int 4)]] [] (.tup [.str "out", .v 9]))),
    .asg 10 (.bin .add (.v 10) (.lst [.tup [.str "in", .int 0, .bi .len [.idx (.v 2) (.int 3)]], .tup [.str "none", .int 0], .tup [.str "in", .int 0], .tup [.str "out", .int 0, .int 0], .tup [.str "stay"], .tup [.str "In", .int 0, .int 0]])),
    .for false (.one 11) .seq [.bin .add (.v 8) (.v 10)] [.asg 12 (.ite (.cmp .isIn (.v 11) (.v 8)) (.call 307 [.v 2, .v 7, .v 11]) (.v 7)),
      .for false (.one 13) .seq [.bin .add (.slc (.call 308 [.v 2, .v 12]) (some (.neg (.int 3))) none) (.lst [.tup [], .tup [.int 0], .tup [.int 0, .int 0], .tup [.int 9], .tup [.int 1, .int 0], .tup [.neg (.int 1)]])] [.asg 14 (.call 328 [.v 2, .v 3, .v 4, .v 6, .v 11, .v 13]),
        .ifs (.not (.call 6 [.call 329 [.v 2, .v 3, .v 4, .v 6, .v 11, .v 13], .ite (.isN (.v 14)) (.tup [.str "refused", .str "NotAllowed"]) (.v 14)])) [.ret (.bl false)] []]],
    .for true (.one 15) .seq [.bin .add (.v 5) (.lst [.bin .add (.v 6) (.slc (.v 6) (some (.neg (.int 1))) none), .bi .trev [.v 6], .tup [.int 9], .tup [.neg (.int 1)], .bin .add (.v 6) (.tup [.int 7])])] [.asg 14 (.call 328 [.v 2, .v 3, .v 4, .v 15, .tup [.str "none"], .tup []]),
      .ifs (.not (.call 6 [.call 329 [.v 2, .v 3, .v 4, .v 15, .tup [.str "none"], .tup []], .ite (.isN (.v 14)) (.tup [.str "refused", .str "NotAllowed"]) (.v 14)])) [.ret (.bl false)] []],
    .ret (.bl true)] }
/-- _law_same and what it calls -/
structure H6 (P : Prog) : Prop where
  me : P.tab 6 = some f6
/-- _law_pool and what it calls -/
structure H7 (P : Prog) : Prop where
  me : P.tab 7 = some f7
/-- _law_spread and what it calls -/
structure H8 (P : Prog) : Prop where
  me : P.tab 8 = some f8
/-- _law_draw and what it calls -/
structure H9 (P : Prog) : Prop where
  me : P.tab 9 = some f9
  h8 : H8 P
/-- _law_pick and what it calls -/
structure H31 (P : Prog) : Prop where
  me : P.tab 31 = some f31
  h9 : H9 P
/-- _law_subsets and what it calls -/
structure H260 (P : Prog) : Prop where
  me : P.tab 260 = some f260
/-- subsets and what it calls -/
structure H262 (P : Prog) : Prop where
  me : P.tab 262 = some f262
/-- _law_port and what it calls -/
structure H294 (P : Prog) : Prop where
  me : P.tab 294 = some f294
  h9 : H9 P
/-- _law_any_port and what it calls -/
structure H295 (P : Prog) : Prop where
  me : P.tab 295 = some f295
  h9 : H9 P
  h294 : H294 P
/-- _law_start and what it calls -/
structure H296 (P : Prog) : Prop where
  me : P.tab 296 = some f296
/-- _law_at and what it calls -/
structure H302 (P : Prog) : Prop where
  me : P.tab 302 = some f302
/-- _law_put and what it calls -/
structure H303 (P : Prog) : Prop where
  me : P.tab 303 = some f303
/-- _law_arrivals and what it calls -/
structure H304 (P : Prog) : Prop where
  me : P.tab 304 = some f304
  h260 : H260 P
  h302 : H302 P
/-- _law_arrived and what it calls -/
structure H305 (P : Prog) : Prop where
  me : P.tab 305 = some f305
/-- _law_movements and what it calls -/
structure H306 (P : Prog) : Prop where
  me : P.tab 306 = some f306
  h302 : H302 P
/-- _law_moved and what it calls -/
structure H307 (P : Prog) : Prop where
  me : P.tab 307 = some f307
  h303 : H303 P
/-- _law_stops and what it calls -/
structure H308 (P : Prog) : Prop where
  me : P.tab 308 = some f308
  h260 : H260 P
  h302 : H302 P
/-- _law_worked and what it calls -/
structure H309 (P : Prog) : Prop where
  me : P.tab 309 = some f309
/-- _law_some_state and what it calls -/
structure H310 (P : Prog) : Prop where
  me : P.tab 310 = some f310
  h9 : H9 P
  h31 : H31 P
  h296 : H296 P
  h304 : H304 P
  h305 : H305 P
  h306 : H306 P
  h307 : H307 P
  h308 : H308 P
  h309 : H309 P
/-- vessels_at and what it calls -/
structure H312 (P : Prog) : Prop where
  me : P.tab 312 = some f312
/-- with_vessel and what it calls -/
structure H313 (P : Prog) : Prop where
  me : P.tab 313 = some f313
/-- arrivals_of and what it calls -/
structure H314 (P : Prog) : Prop where
  me : P.tab 314 = some f314
  h262 : H262 P
  h312 : H312 P
  g10 : P.gl 10 = some (.int 0)
/-- arrived and what it calls -/
structure H315 (P : Prog) : Prop where
  me : P.tab 315 = some f315
  h313 : H313 P
  g11 : P.gl 11 = some (.int 1)
/-- berth_of and what it calls -/
structure H317 (P : Prog) : Prop where
  me : P.tab 317 = some f317
  g12 : P.gl 12 = some (.int 2)
/-- passes_bar and what it calls -/
structure H318 (P : Prog) : Prop where
  me : P.tab 318 = some f318
/-- can_go_in and what it calls -/
structure H319 (P : Prog) : Prop where
  me : P.tab 319 = some f319
  h317 : H317 P
  h318 : H318 P
/-- movements_of and what it calls -/
structure H320 (P : Prog) : Prop where
  me : P.tab 320 = some f320
  h312 : H312 P
  h318 : H318 P
  h319 : H319 P
  g11 : P.gl 11 = some (.int 1)
  g12 : P.gl 12 = some (.int 2)
/-- moved_state and what it calls -/
structure H321 (P : Prog) : Prop where
  me : P.tab 321 = some f321
  h313 : H313 P
  g12 : P.gl 12 = some (.int 2)
  g13 : P.gl 13 = some (.int 3)
/-- busy_berths and what it calls -/
structure H323 (P : Prog) : Prop where
  me : P.tab 323 = some f323
  h312 : H312 P
  g12 : P.gl 12 = some (.int 2)
/-- stops_of and what it calls -/
structure H324 (P : Prog) : Prop where
  me : P.tab 324 = some f324
  h262 : H262 P
  h323 : H323 P
/-- worked and what it calls -/
structure H325 (P : Prog) : Prop where
  me : P.tab 325 = some f325
  g11 : P.gl 11 = some (.int 1)
  g12 : P.gl 12 = some (.int 2)
/-- tick_after and what it calls -/
structure H327 (P : Prog) : Prop where
  me : P.tab 327 = some f327
  h314 : H314 P
  h315 : H315 P
  h320 : H320 P
  h321 : H321 P
  h324 : H324 P
  h325 : H325 P
/-- _law_tick and what it calls -/
structure H328 (P : Prog) : Prop where
  me : P.tab 328 = some f328
  h304 : H304 P
  h305 : H305 P
  h306 : H306 P
  h307 : H307 P
  h308 : H308 P
  h309 : H309 P
/-- _law_told and what it calls -/
structure H329 (P : Prog) : Prop where
  me : P.tab 329 = some f329
  h327 : H327 P
/-- law and what it calls -/
structure H330 (P : Prog) : Prop where
  me : P.tab 330 = some f330
  h6 : H6 P
  h7 : H7 P
  h9 : H9 P
  h31 : H31 P
  h260 : H260 P
  h295 : H295 P
  h304 : H304 P
  h305 : H305 P
  h306 : H306 P
  h307 : H307 P
  h308 : H308 P
  h310 : H310 P
  h328 : H328 P
  h329 : H329 P
end F

set_option Elab.async false
set_option linter.all false
set_option maxRecDepth 100000
set_option maxHeartbeats 4000000
set_option autoImplicit false
/-! SPA: defs that many laws share. -/
namespace DL
open PySem
theorem range4 : range 0 4 = [.int 0, .int 1, .int 2, .int 3] := rfl
theorem sp_spread {P : Prog} {k : Nat} (h : F.H8 P) (c : Int) : ∃ v, callF P (k + 1) 8 [.fz (.int c)] = .ok (.fz (.int v), []) := by
  obtain ⟨p, e, v, rfl⟩ := run_to (k := k) h.me rfl (vs := [.fz (.int c)]) (Q := fun p => ∃ v, p = (.fz (.int v), [])) (by
    simp [F.f8, items_r1, FL_cons, FL_nil, range4, small64_eq])
  exact ⟨v, e⟩
def PV (xs : List D) : Prop := ∃ (cells : List Int) (at_ hold cnt salt : Int), xs = [.list (cells.map .int), .int at_, .int hold, .int cnt, .int salt] ∧ 0 ≤ at_
def DrawQ (m : Int) (p : Val × List (List D)) : Prop := ∃ (v : Int) (ys : List D), p = (.fz (.int v), [ys]) ∧ PV ys ∧ 0 ≤ v ∧ v < m
theorem drawQ_mk {m x at_ hold cnt salt : Int} {cells : List Int} (h : 0 < m) (ha : 0 ≤ at_) : DrawQ m (.fz (.int (x % m)), [[.list (cells.map .int), .int at_, .int hold, .int cnt, .int salt]]) :=
  ⟨_, _, rfl, ⟨cells, at_, hold, cnt, salt, rfl, ha⟩, Int.emod_nonneg x (by omega), Int.emod_lt_of_pos x h⟩
theorem sp_draw {P : Prog} {k : Nat} (h : F.H9 P) {xs : List D} (pv : PV xs) {m : Int} (h0 : 0 < m) (h1 : m < 18446744073709551616) :
    ∃ (v : Int) (ys : List D), callF P (k + 2) 9 [.io xs, .fz (.int m)] = .ok (.fz (.int v), [ys]) ∧ PV ys ∧ 0 ≤ v ∧ v < m := by
  obtain ⟨cells, at_, hold, cnt, salt, rfl, ha⟩ := pv
  have i8 := ios_of h.h8.me
  have hs : small64 m = true := by rw [small64_eq]; omega
  have key : Sq (P.ctx (k + 1)) F.f9.body [.io [.list (cells.map .int), .int at_, .int hold, .int cnt, .int salt], .fz (.int m), .em, .em, .em] fun fl => fE F.f9.ios (DrawQ m) fl := by
    by_cases c1 : hold ≤ 0
    · by_cases c2 : at_ < cells.length
      · obtain ⟨c, hc⟩ : ∃ c, atL cells at_ = some c := by
          rw [atL_of ha]
          exact ⟨_, List.getElem?_eq_getElem (by omega)⟩
        by_cases c3 : c < 1000000000000000000
        · obtain ⟨v, hv⟩ := sp_spread h.h8 (k := k) c
          by_cases c4 : v ≤ 0
          · simp [F.f9, F.f8, small64_eq, hs, h0, atL_map, i8, c1, c2, hc, c3, hv, c4, L2.ixN]
            exact drawQ_mk h0 (by omega)
          · simp [F.f9, F.f8, small64_eq, hs, h0, atL_map, i8, c1, c2, hc, c3, hv, c4, L2.ixN]
            exact drawQ_mk h0 (by omega)
        · have c4 : ¬ c ≤ 0 := by omega
          simp [F.f9, F.f8, small64_eq, hs, h0, atL_map, i8, c1, c2, hc, c3, c4, L2.ixN]
          exact drawQ_mk h0 (by omega)
      · simp [F.f9, small64_eq, hs, h0, atL_map, i8, c1, c2, L2.ixN]
        exact drawQ_mk h0 ha
    · simp [F.f9, small64_eq, hs, h0, atL_map, i8, c1, L2.ixN]
      exact drawQ_mk h0 ha
  obtain ⟨p, e, v, ys, rfl, h2⟩ := run_to (k := k + 1) h.me rfl (vs := [.io [.list (cells.map .int), .int at_, .int hold, .int cnt, .int salt], .fz (.int m)]) (Q := DrawQ m) ⟨key⟩
  exact ⟨v, ys, e, h2⟩
theorem cut_map {α β : Type} {f : α → β} {xs : List α} {lo hi : Option Int} : cutL (xs.map f) lo hi = (cutL xs lo hi).map f := by
  unfold cutL
  rw [List.length_map, List.map_take, List.map_drop]
@[simp] theorem slc_l {xs : List D} {lo hi : Option Int} {Q : Val → Prop} : W (slcD (.list xs) lo hi) Q = Q (.ow (cutL xs lo hi)) := propext Iff.rfl
@[simp] theorem slc_t {xs : List D} {lo hi : Option Int} {Q : Val → Prop} : W (slcD (.tuple xs) lo hi) Q = Q (.fz (.tuple (cutL xs lo hi))) := propext Iff.rfl
theorem cut_take {α : Type} {l : List α} {a : Int} (h : 0 ≤ a) : cutL l none (some a) = l.take a.toNat := by
  obtain ⟨n, rfl⟩ := Int.eq_ofNat_of_zero_le h
  unfold cutL
  rw [show _root_.HT.sIx l.length 0 none = 0 from rfl, show _root_.HT.sIx l.length l.length (some (n : Int)) = min n l.length from _root_.HT.sIx_nat _ _ _]
  simp [List.take_eq_take_iff]
theorem cut_drop {α : Type} {l : List α} {a : Int} (h : 0 ≤ a) : cutL l (some a) none = l.drop a.toNat := by
  obtain ⟨n, rfl⟩ := Int.eq_ofNat_of_zero_le h
  unfold cutL
  rw [show _root_.HT.sIx l.length l.length none = l.length from rfl, show _root_.HT.sIx l.length 0 (some (n : Int)) = min n l.length from _root_.HT.sIx_nat _ _ _]
  by_cases h : n ≤ l.length
  · rw [Nat.min_eq_left h]
    simp
    exact List.take_of_length_le (by simp)
  · rw [Nat.min_eq_right (by omega)]
    simp
    omega
theorem sp_pool {P : Prog} {k : Nat} (h : F.H7 P) (ns : List Int) : ∃ ys : List D, callF P (k + 1) 7 [.fz (.list (ns.map .int))] = .ok (.ow ys, []) ∧ PV ys := by
  obtain ⟨p, e, ys, rfl, h2⟩ := run_to (k := k) h.me rfl (vs := [.fz (.list (ns.map .int))]) (Q := fun p => ∃ ys, p = (.ow ys, []) ∧ PV ys) (by
    simp [F.f7]
    refine FL_ix (fun _ r => ∃ (s : Int) (y : Val), r = [.fz (.list (ns.map .int)), .fz (.int s), y] ∧ (y = .em ∨ ∃ z, y = .fz z)) ⟨_, _, rfl, .inl rfl⟩ (fun i x r hx hr => ?_) fun r hr => ?_
    · obtain ⟨s, y, rfl, hy⟩ := hr
      rw [cut_map, List.getElem?_map] at hx
      obtain ⟨n, _, rfl⟩ := Option.map_eq_some_iff.mp hx
      rcases hy with rfl | ⟨z, rfl⟩ <;> (simp [small64_eq]; exact ⟨_, _, ⟨rfl, rfl⟩, .inr ⟨_, rfl⟩⟩)
    · obtain ⟨s, y, rfl, hy⟩ := hr
      simp [PV]
      exact ⟨ns, 0, ⟨rfl, rfl⟩, Int.le_refl 0⟩)
  exact ⟨ys, e, h2⟩
/-! ### values of any kind -/
/-- data of at most n levels; numbers, texts, lists not too large -/
def okD (m : Nat) : Nat → D → Bool
  | _, .none => true
  | _, .bool _ => true
  | _, .int i => decide (i.natAbs ≤ 10 ^ 40 + m)
  | _, .str z => decide (z.length ≤ 1000000 + m) && PyData.strOk z
  | n + 1, .list xs => decide (xs.length ≤ 1000000 + m) && xs.all (okD m n)
  | n + 1, .tuple xs => decide (xs.length ≤ 1000000 + m) && xs.all (okD m n)
  | _ + 2, .dict [] => true
  | _ + 2, .dict [(.str z, .int i)] => decide (z.length ≤ 1000000 + m) && PyData.strOk z && decide (i.natAbs ≤ 10 ^ 40 + m)
  | _, _ => false
def cpD : Nat → D → D
  | n + 1, .list xs => .list (xs.map (cpD n))
  | n + 1, .tuple xs => .tuple (xs.map (cpD n))
  | _ + 1, .dict kvs => .list (kvs.map fun p => .tuple [p.1, p.2])
  | _, d => d
theorem okD_tup {m n : Nat} {xs : List D} (h : okD m n (.tuple xs) = true) : ∃ n', n = n' + 1 ∧ xs.length ≤ 1000000 + m ∧ ∀ x ∈ xs, okD m n' x = true := by
  cases n with
  | zero => simp [okD] at h
  | succ n =>
    simp only [okD, Bool.and_eq_true, decide_eq_true_eq, List.all_eq_true] at h
    exact ⟨n, rfl, h.1, h.2⟩
theorem okD_lst {m n : Nat} {xs : List D} (h : okD m n (.list xs) = true) : ∃ n', n = n' + 1 ∧ xs.length ≤ 1000000 + m ∧ ∀ x ∈ xs, okD m n' x = true := by
  cases n with
  | zero => simp [okD] at h
  | succ n =>
    simp only [okD, Bool.and_eq_true, decide_eq_true_eq, List.all_eq_true] at h
    exact ⟨n, rfl, h.1, h.2⟩
theorem okD_dct {m n : Nat} {kvs : List (D × D)} (h : okD m n (.dict kvs) = true) : ∃ n', n = n' + 2 ∧ (kvs = [] ∨ ∃ z i, kvs = [(.str z, .int i)] ∧ z.length ≤ 1000000 + m ∧ PyData.strOk z = true) := by
  match n, kvs, h with
  | 0, _, h => simp [okD] at h
  | 1, _, h => simp [okD] at h
  | n + 2, [], _ => exact ⟨n, rfl, .inl rfl⟩
  | n + 2, [(.str z, .int i)], h =>
    simp only [okD, Bool.and_eq_true, decide_eq_true_eq] at h
    exact ⟨n, rfl, .inr ⟨z, i, rfl, h.1.1, h.1.2⟩⟩
theorem okD_mono {m m' : Nat} (hm : m ≤ m') : ∀ {n n' : Nat} {d : D}, n ≤ n' → okD m n d = true → okD m' n' d = true
  | _, _, .none, _, _ => by simp [okD]
  | _, _, .bool _, _, _ => by simp [okD]
  | _, _, .int _, _, h => by simp [okD] at h ⊢; omega
  | _, _, .str _, _, h => by simp [okD] at h ⊢; exact ⟨by omega, h.2⟩
  | n, n', .list xs, hn, h => by
    obtain ⟨n1, rfl, h1, h2⟩ := okD_lst h
    obtain ⟨n2, rfl⟩ : ∃ n2, n' = n2 + 1 := ⟨n' - 1, by omega⟩
    simp only [okD, Bool.and_eq_true, decide_eq_true_eq, List.all_eq_true]
    exact ⟨by omega, fun x hx => okD_mono hm (by omega) (h2 x hx)⟩
  | n, n', .tuple xs, hn, h => by
    obtain ⟨n1, rfl, h1, h2⟩ := okD_tup h
    obtain ⟨n2, rfl⟩ : ∃ n2, n' = n2 + 1 := ⟨n' - 1, by omega⟩
    simp only [okD, Bool.and_eq_true, decide_eq_true_eq, List.all_eq_true]
    exact ⟨by omega, fun x hx => okD_mono hm (by omega) (h2 x hx)⟩
  | n, n', .dict kvs, hn, h => by
    obtain ⟨n2, rfl⟩ : ∃ n2, n' = n2 + 2 := ⟨n' - 2, by obtain ⟨_, e, _⟩ := okD_dct h; omega⟩
    match n, kvs, hn, h with
    | 0, _, _, h => simp [okD] at h
    | 1, _, _, h => simp [okD] at h
    | n + 2, [], _, _ => simp [okD]
    | n + 2, [(.str z, .int i)], _, h =>
      simp only [okD, Bool.and_eq_true, decide_eq_true_eq] at h ⊢
      exact ⟨⟨by omega, h.1.2⟩, by omega⟩
termination_by n => n
end DL


set_option Elab.async false
set_option linter.all false
set_option maxRecDepth 100000
set_option maxHeartbeats 4000000
set_option autoImplicit false
/-! SPB: bent copies. -/
namespace DL
open PySem
@[simp] theorem slc_s {z : Str} {lo hi : Option Int} {Q : Val → Prop} : W (slcD (.str z) lo hi) Q = (z.length ≤ 16777216 ∧ Q (.fz (.str ⟨(cutL z.cps.toList lo hi).toArray⟩))) := by
  show W (if lenOk z.length = true then _ else .no) Q = _
  rw [ite_and, lenOk_eq]; rfl
def BentQ (m n : Nat) (p : Val × List (List D)) : Prop := ∃ x ys d', p = (x, [ys]) ∧ PV ys ∧ x.fix = .ok d' ∧ okD (m + 2) (n + 1) d' = true
end DL


set_option Elab.async false
set_option linter.all false
set_option maxRecDepth 100000
set_option maxHeartbeats 4000000
set_option autoImplicit false
/-! SPC: booled, listed, odd values, same of bools; the spells of k01. -/
namespace DL
open PySem
@[simp] theorem W_isIn {d e : D} {Q : Bool → Prop} : W (cmpD .isIn d e) Q = W (inD d e) Q := propext Iff.rfl
@[simp] theorem W_notIn {d e : D} {Q : Bool → Prop} : W (cmpD .notIn d e) Q = W (inD d e) fun c => Q (!c) := by
  show W (_ >>= _) Q = _
  rw [W_bind]; rfl
theorem paired_right {α β : Type} {G : α → β → Prop} {p : β → Prop} (h : ∀ x y, G x y → p y) : ∀ {xs : List α} {ys : List β}, Paired G xs ys → ∀ y ∈ ys, p y
  | _, _, .nil, y, hy => by cases hy
  | _, _, .cons a b, y, hy => by
    rcases List.mem_cons.mp hy with rfl | hy
    · exact h _ _ a
    · exact paired_right h b y hy
def deepN : Nat → D
  | 0 => .tuple []
  | n + 1 => .tuple [deepN n]
def oddL : List D := [deepN 90, .tuple [.str "plan", deepN 90, deepN 90], .none, .int 0, .int 1, .bool true, .bool false, .str "", .str "x", .tuple [], .list [], .dict [], .tuple [.tuple []], .tuple [.tuple [], .tuple []], .tuple [.int 0], .tuple [.int 1, .int 2], .tuple [.str "x"], .tuple [.list []], .dict [(.str "a", .int 1)], .tuple [.none], .tuple [.tuple [.tuple []]], .int (-1)]
end DL


set_option Elab.async false
set_option linter.all false
set_option maxRecDepth 100000
set_option maxHeartbeats 4000000
set_option autoImplicit false
/-! SPD: spells of ticks. -/
namespace DL
open PySem
def isSp : D → Bool
  | .tuple [.int a, .int b] => decide (0 ≤ a) && decide (a < b)
  | _ => false
abbrev encP (p : Int × Int) : D := .tuple [.int p.1, .int p.2]
def SpP (d : D) : Prop := ∃ ps : List (Int × Int), d = .tuple (ps.map encP) ∧ (∀ p ∈ ps, 0 ≤ p.1 ∧ p.1 < p.2) ∧ ∀ i, i + 1 < ps.length → (ps.getD i (0, 0)).2 < (ps.getD (i + 1) (0, 0)).1
@[simp] theorem W_allf {α : Type} {f : α → Bool} {xs : List α} {Q : Val → Prop} : W (biD .all [.list (xs.map fun x => PyData.bool (f x))]) Q = Q (.fz (.bool (xs.all f))) := by
  have e : (xs.map fun x => PyData.bool (f x)) = (xs.map f).map PyData.bool := by rw [List.map_map]; rfl
  rw [e, W_all, List.all_map]; rfl
def SpQ (d : D) (p : Val × List (List D)) : Prop := ∃ b, p = (.fz (.bool b), []) ∧ (b = true ↔ SpP d)
def gapB (ps : List (Int × Int)) : D → Bool
  | .int i => decide ((ps.getD i.toNat (0, 0)).2 < (ps.getD (i.toNat + 1) (0, 0)).1)
  | _ => false
end DL


set_option Elab.async false
set_option linter.all false
set_option maxRecDepth 100000
set_option maxHeartbeats 4000000
set_option autoImplicit false
set_option exponentiation.threshold 500
/-! SPE: spells of ticks, as the law reads them. -/
namespace DL
open PySem
def inB (lo hi : Int) : D → Bool
  | .int i => decide (lo ≤ i) && decide (i ≤ hi)
  | _ => false
def badB : List S := [.ifs (.or [.not (.isi (.v 1) .tuple), .cmp .ne (.bi .len [.v 1]) (.int 2), .not (.call 14 [.idx (.v 1) (.int 0), .int 0, .bin .pow (.int 10) (.int 60)]), .not (.call 5 [.idx (.v 1) (.int 1)])]) [.ret (.bl false)] [],
      .ifs (.cmp .le (.idx (.v 1) (.int 1)) (.idx (.v 1) (.int 0))) [.ret (.bl false)] []]
def gapN (ps : List (Int × Int)) : D → Bool
  | .int i => decide ((ps.getD i.toNat (0, 0)).1 ≤ (ps.getD (i.toNat - 1) (0, 0)).2)
  | _ => false
end DL


set_option Elab.async false
set_option linter.all false
set_option maxRecDepth 100000
set_option maxHeartbeats 4000000
set_option autoImplicit false
/-! SPG: runs step by step: calls, draws, picks. -/
namespace DL
open PySem
def glK (r : Env) (Q : Val → Env → Prop) : Option D → PrOf Q
  | some d => Q (.fz d) r
  | none => False
@[simp] theorem glK_some {r : Env} {Q : Val → Env → Prop} {d : D} : glK r Q (some d) = Q (.fz d) r := propext Iff.rfl
@[simp] theorem Ev_gl {C : Ctx} {i : Nat} {r : Env} {Q : Val → Env → Prop} : Ev C (.gl i) r Q = glK r Q (C.gl i) := by
  unfold Ev; simp only [evE]
  cases C.gl i with
  | none => rfl
  | some d => rfl
@[simp] theorem ctx_gl {P : Prog} {k : Nat} {i : Nat} : (P.ctx k).gl i = P.gl i := rfl
/-- a call: what holds behind the body -/
theorem W_run {P : Prog} {n f : Nat} {fn : Fn} {vs : List Val} {Q : Val × List (List D) → Prop} (hn : 1 ≤ n) (h : P.tab f = some fn) (fit : (argsFit fn.ios vs && decide (fn.ios.length ≤ fn.nslots)) = true)
    (q : ∀ k, n = k + 1 → Say (Sq (P.ctx k) fn.body (vs ++ List.replicate (fn.nslots - fn.ios.length) .em) fun fl => fE fn.ios Q fl)) : W (callF P n f vs) Q := by
  obtain ⟨k, rfl⟩ : ∃ k, n = k + 1 := ⟨n - 1, by omega⟩
  exact run_fn h fit (say (q k rfl))
theorem E_run {P : Prog} {n f : Nat} {fn : Fn} {vs : List Val} {x : Val × List (List D)} (hn : 1 ≤ n) (h : P.tab f = some fn) (fit : (argsFit fn.ios vs && decide (fn.ios.length ≤ fn.nslots)) = true)
    (q : ∀ k, n = k + 1 → Say (Sq (P.ctx k) fn.body (vs ++ List.replicate (fn.nslots - fn.ios.length) .em) fun fl => fE fn.ios (fun p => p = x) fl)) : callF P n f vs = .ok x := run_eq (W_run hn h fit q)
theorem draw_W {P : Prog} {n : Nat} (h : F.H9 P) (hn : 2 ≤ n) {xs : List D} (pv : PV xs) {m : Int} {Q : Val × List (List D) → Prop} (h0 : 0 < m) (h1 : m < 18446744073709551616)
    (q : ∀ v ys, PV ys → 0 ≤ v → v < m → Say (Q (.fz (.int v), [ys]))) : W (callF P n 9 [.io xs, .fz (.int m)]) Q := by
  obtain ⟨k, rfl⟩ : ∃ k, n = k + 2 := ⟨n - 2, by omega⟩
  obtain ⟨v, ys, e, pv1, a0, a1⟩ := sp_draw (k := k) h pv h0 h1
  rw [W_eq e]; exact say (q v ys pv1 a0 a1)
theorem pool_W {P : Prog} {n : Nat} (h : F.H7 P) (hn : 1 ≤ n) (ns : List Int) {Q : Val × List (List D) → Prop} (q : ∀ ys, PV ys → Say (Q (.ow ys, []))) : W (callF P n 7 [.fz (.list (ns.map .int))]) Q := by
  obtain ⟨k, rfl⟩ : ∃ k, n = k + 1 := ⟨n - 1, by omega⟩
  obtain ⟨ys, e, pv⟩ := sp_pool (k := k) h ns
  rw [W_eq e]; exact say (q ys pv)
theorem pick_W {l : List D} {v : Int} {Q : D → Prop} (h0 : 0 ≤ v) (h1 : v < l.length) (q : ∀ d ∈ l, Say (Q d)) : W (ofO (atL l v)) Q := by
  rw [atL_of h0, List.getElem?_eq_getElem (by omega)]
  simp only [ofO_some, W_ok]
  exact say (q _ (List.getElem_mem _))
/-- one of some ints -/
theorem pickI_W {l : List D} {ws : List Int} {v : Int} {Q : D → Prop} (e : l = ws.map .int) (h0 : 0 ≤ v) (h1 : v < ws.length) (q : ∀ w ∈ ws, Say (Q (.int w))) : W (ofO (atL l v)) Q := by
  refine pick_W h0 (by rw [e]; simpa using h1) fun d hd => ?_
  rw [e] at hd
  obtain ⟨w, hw, rfl⟩ := List.mem_map.mp hd
  exact q w hw
/-- a slot that may be written -/
def EF (y : Val) : Prop := y = .em ∨ ∃ z, y = .fz z
theorem pK_EF {i : Nat} {x y : Val} {r : Env} {Q : Env → Prop} (h : EF y) : pK i x r Q (some y) = Q (r.set i x) := by
  rcases h with rfl | ⟨z, rfl⟩
  · exact pK_em
  · exact pK_fz
theorem EF_em : EF .em := .inl rfl
theorem EF_fz {d : D} : EF (.fz d) := .inr ⟨_, rfl⟩
/-- a slot of any kind but a lent one -/
def EW (y : Val) : Prop := y = .em ∨ (∃ z, y = .fz z) ∨ ∃ z, y = .ow z
theorem pK_EW {i : Nat} {x y : Val} {r : Env} {Q : Env → Prop} (h : EW y) : pK i x r Q (some y) = Q (r.set i x) := by
  rcases h with rfl | ⟨z, rfl⟩ | ⟨z, rfl⟩
  · exact pK_em
  · exact pK_fz
  · exact pK_ow
theorem ioB_EF {y : Val} (h : EF y) : ioB (some y) = false := by
  rcases h with rfl | ⟨z, rfl⟩ <;> rfl
theorem EW_em : EW .em := .inl rfl
theorem EW_fz {d : D} : EW (.fz d) := .inr (.inl ⟨_, rfl⟩)
theorem EW_ow {d : List D} : EW (.ow d) := .inr (.inr ⟨_, rfl⟩)
/-- data that stands for something good -/
def Is {α : Type} (enc : α → D) (p : α → Prop) (d : D) : Prop := ∃ a, d = enc a ∧ p a
theorem typed_of {α : Type} {enc : α → D} {p : α → Prop} : ∀ {l : List D}, (∀ d ∈ l, Is enc p d) → ∃ as : List α, l = as.map enc ∧ ∀ a ∈ as, p a
  | [], _ => ⟨[], rfl, fun _ h => by cases h⟩
  | d :: l, h => by
    obtain ⟨a, rfl, ha⟩ := h d (by simp)
    obtain ⟨as, rfl, hs⟩ := typed_of (l := l) fun d hd => h d (by simp [hd])
    exact ⟨a :: as, rfl, fun b hb => by
      rcases List.mem_cons.mp hb with rfl | hb
      · exact ha
      · exact hs b hb⟩
/-- a comprehension that draws -/
theorem LC_pool {C : Ctx} {t : Tgt} {elt : E} (G : D → Prop) (e : List D → Env) {ps xs : List D} {Q : List D → Env → Prop} (pv : PV ps)
    (h : ∀ x ∈ xs, ∀ ps, PV ps → Say (Bt t x (e ps) fun r1 => Ev C elt r1 fun v r3 => W v.fix fun d => G d ∧ ∃ ps', PV ps' ∧ wipeE t.slots r3 = e ps')) (hl : xs.length ≤ 16777216)
    (q : ∀ ds ps, PV ps → ds.length = xs.length → (∀ d ∈ ds, G d) → Say (Q ds (e ps))) : LC C t [] elt xs [] (e ps) Q := by
  refine LC_rel (fun r => ∃ ps, PV ps ∧ r = e ps) (fun _ d => G d) ⟨ps, pv, rfl⟩ (fun x hx r hr => ?_) (by simpa using hl) fun ds r' hr hp => ?_
  · obtain ⟨ps, pv, rfl⟩ := hr
    exact h x hx ps pv
  · obtain ⟨ps, pv, rfl⟩ := hr
    exact q ds ps pv (Paired.length hp).symm (paired_right (p := G) (fun _ _ h => h) hp)
end DL
namespace DL
open PySem
/-- a loop with what holds throughout -/
theorem FL_all {C : Ctx} {t : Tgt} {body : List S} {K : Flow → Prop} (I : Env → Prop) (p : D → Prop) {xs : List D} {r : Env} (hx : ∀ x ∈ xs, p x) (h0 : I r)
    (step : ∀ x r, p x → I r → Say (Bt t x r fun r1 => Sq C body r1 fun f => lJ I K f)) (done : ∀ r, I r → Say (K (.nx r))) : FL C t body xs r K :=
  FL_ix (fun _ => I) h0 (fun _ x r h hi => step x r (hx x (List.mem_of_getElem? h)) hi) done
def okV (d : D) : Prop := okD 10 100 d = true
theorem okV.of {m j : Nat} {d : D} (h : okD m j d = true) (hm : m ≤ 10) (hj : j ≤ 100) : okV d := okD_mono hm hj h
def nxR (R : Env → Prop) : Flow → Prop
  | .nx r => R r
  | _ => False
@[simp] theorem nxR_nx {R : Env → Prop} {r : Env} : nxR R (.nx r) = R r := propext Iff.rfl
/-- what holds behind one statement -/
theorem Sx_cut {C : Ctx} {s : S} {r : Env} {K : Flow → Prop} (R : Env → Prop) (h : Say (Sx C s r (nxR R))) (k : ∀ r', R r' → Say (K (.nx r'))) : Sx C s r K := by
  have h1 := say h
  unfold Sx at h1 ⊢
  exact W_mono h1 fun f hf => by
    cases f with
    | nx r' => exact say (k r' hf)
    | _ => exact hf.elim
@[simp] theorem W_allB {α : Type} {f : α → Bool} {as : List α} {Q : Val → Prop} : W (biD .all [.list (as.map fun a => .bool (f a))]) Q = Q (.fz (.bool (as.all f))) := by
  have e : as.map (fun a => PyData.bool (f a)) = (as.map f).map .bool := by rw [List.map_map]; rfl
  rw [e, W_all, List.all_map]; rfl
@[simp] theorem W_anyB {α : Type} {f : α → Bool} {as : List α} {Q : Val → Prop} : W (biD .any [.list (as.map fun a => .bool (f a))]) Q = Q (.fz (.bool (as.any f))) := by
  have e : as.map (fun a => PyData.bool (f a)) = (as.map f).map .bool := by rw [List.map_map]; rfl
  rw [e]
  simp only [biD, bools_map]
  rw [List.any_map]; rfl
@[simp] theorem W_sumB {α : Type} {f : α → Int} {as : List α} {Q : Val → Prop} : W (biD .sum [.list (as.map fun a => .int (f a))]) Q = Q (.fz (.int (as.map f).sum)) := by
  have e : as.map (fun a => PyData.int (f a)) = (as.map f).map .int := by rw [List.map_map]; rfl
  rw [e, W_sum]
/-- what one turn of a checking loop does: goes on, or ends the def with False -/
def chF (I : Env → Prop) (b : Bool) : Flow → Prop
  | .nx r => b = true ∧ I r
  | .ct r => b = true ∧ I r
  | .rt (.fz (.bool c)) r => c = false ∧ b = false ∧ I r
  | _ => False
@[simp] theorem chF_nx {I : Env → Prop} {b : Bool} {r : Env} : chF I b (.nx r) = (b = true ∧ I r) := propext Iff.rfl
@[simp] theorem chF_ct {I : Env → Prop} {b : Bool} {r : Env} : chF I b (.ct r) = (b = true ∧ I r) := propext Iff.rfl
@[simp] theorem chF_rt {I : Env → Prop} {b c : Bool} {r : Env} : chF I b (.rt (.fz (.bool c)) r) = (c = false ∧ b = false ∧ I r) := propext Iff.rfl
@[simp] theorem W_mulT {xs : List D} {n : Int} {Q : Val → Prop} : W (binD .mul (.tuple xs) (.int n)) Q = (((-1000 ≤ n ∧ n ≤ 1000) ∧ xs.length ≤ 1000 ∧ xs ≠ []) ∧ Q (.fz (.tuple (rep xs n.toNat)))) := by
  simp only [binD]
  rw [ite_and]
  simp [and_assoc]
@[simp] theorem W_mulL {xs : List D} {n : Int} {Q : Val → Prop} : W (binD .mul (.list xs) (.int n)) Q = (((-1000000 ≤ n ∧ n ≤ 1000000) ∧ xs.length * n.toNat ≤ 16777216) ∧ Q (.ow (rep xs n.toNat))) := by
  simp only [binD]
  rw [ite_and]
  simp [and_assoc]
end DL


set_option Elab.async false
set_option linter.all false
set_option maxRecDepth 100000
set_option maxHeartbeats 4000000
set_option autoImplicit false
/-! SPP: ports drawn. -/
namespace DL
open PySem
structure Ves where
  len : Int
  dra : Int
  early : Int
  late : Int
  work : Int
def Ves.enc (v : Ves) : D := .tuple [.int v.len, .int v.dra, .int v.early, .int v.late, .int v.work]
theorem Ves.enc_mk {a b c d e : Int} : PyData.tuple [.int a, .int b, .int c, .int d, .int e] = Ves.enc ⟨a, b, c, d, e⟩ := rfl
def e2 (p : Int × Int) : D := .tuple [.int p.1, .int p.2]
theorem e2_mk {a b : Int} : PyData.tuple [.int a, .int b] = e2 (a, b) := rfl
structure Port where
  ticks : Int
  bar : Int
  tide : List Int
  berths : List (Int × Int)
  vessels : List Ves
  stops : Int
def Port.enc (p : Port) : D := .tuple [.int p.ticks, .int p.bar, .tuple (p.tide.map .int), .tuple (p.berths.map e2), .tuple (p.vessels.map Ves.enc), .int p.stops]
structure Ves.Ok (t : Int) (v : Ves) : Prop where
  len : 1 ≤ v.len ∧ v.len ≤ 400
  dra : 0 ≤ v.dra ∧ v.dra ≤ 900
  early : 0 ≤ v.early ∧ v.early ≤ v.late ∧ v.late < t
  work : 1 ≤ v.work ∧ v.work ≤ 9
structure Port.Ok (p : Port) : Prop where
  ticks : 1 ≤ p.ticks ∧ p.ticks ≤ 40
  bar : 0 ≤ p.bar ∧ p.bar ≤ 500
  tideL : p.tide.length = p.ticks.toNat
  tide : ∀ x ∈ p.tide, 0 ≤ x ∧ x ≤ 500
  berthsL : 1 ≤ p.berths.length ∧ p.berths.length ≤ 3
  berths : ∀ b ∈ p.berths, (1 ≤ b.1 ∧ b.1 ≤ 400) ∧ 0 ≤ b.2 ∧ b.2 ≤ 500
  vesselsL : 1 ≤ p.vessels.length ∧ p.vessels.length ≤ 4
  vessels : ∀ v ∈ p.vessels, Ves.Ok p.ticks v
  stops : 0 ≤ p.stops ∧ p.stops ≤ 3
@[simp] theorem idx_p0 {p : Port} : idxD p.enc (.int 0) = .ok (.int p.ticks) := rfl
@[simp] theorem idx_p1 {p : Port} : idxD p.enc (.int 1) = .ok (.int p.bar) := rfl
@[simp] theorem idx_p2 {p : Port} : idxD p.enc (.int 2) = .ok (.tuple (p.tide.map .int)) := rfl
@[simp] theorem idx_p3 {p : Port} : idxD p.enc (.int 3) = .ok (.tuple (p.berths.map e2)) := rfl
@[simp] theorem idx_p4 {p : Port} : idxD p.enc (.int 4) = .ok (.tuple (p.vessels.map Ves.enc)) := rfl
@[simp] theorem idx_p5 {p : Port} : idxD p.enc (.int 5) = .ok (.int p.stops) := rfl
@[simp] theorem idx_v0 {p : Ves} : idxD p.enc (.int 0) = .ok (.int p.len) := rfl
@[simp] theorem idx_v1 {p : Ves} : idxD p.enc (.int 1) = .ok (.int p.dra) := rfl
@[simp] theorem idx_v2 {p : Ves} : idxD p.enc (.int 2) = .ok (.int p.early) := rfl
@[simp] theorem idx_v3 {p : Ves} : idxD p.enc (.int 3) = .ok (.int p.late) := rfl
@[simp] theorem idx_v4 {p : Ves} : idxD p.enc (.int 4) = .ok (.int p.work) := rfl
@[simp] theorem idx_e0 {p : Int × Int} : idxD (e2 p) (.int 0) = .ok (.int p.1) := rfl
@[simp] theorem idx_e1 {p : Int × Int} : idxD (e2 p) (.int 1) = .ok (.int p.2) := rfl
theorem port_W {P : Prog} {n : Nat} (h : F.H294 P) (hn : 3 ≤ n) {xs : List D} (pv : PV xs) {t v b s : Int} (ht : 1 ≤ t ∧ t ≤ 40) (hv : 1 ≤ v ∧ v ≤ 4) (hb : 1 ≤ b ∧ b ≤ 3) (hs : 0 ≤ s ∧ s ≤ 3) {Q : Val × List (List D) → Prop}
    (q : ∀ p : Port, p.Ok → p.ticks = t → ∀ ys, PV ys → Say (Q (.fz p.enc, [ys]))) : W (callF P n 294 [.io xs, .fz (.int t), .fz (.int v), .fz (.int b), .fz (.int s)]) Q := by
  refine W_run (by omega) h.me rfl fun k hk => ?_
  have i9 : P.ios 9 = [true, false] := ios_of h.h9.me
  have r1 : itemsD .rng [.int v] = .ok (range 0 v.toNat) := items_r1 (by omega)
  have r2 : itemsD .rng [.int t] = .ok (range 0 t.toNat) := items_r1 (by omega)
  have r3 : itemsD .rng [.int b] = .ok (range 0 b.toNat) := items_r1 (by omega)
  simp [F.f294, i9]
  refine draw_W h.h9 (by omega) pv (by omega) (by omega) fun v1 ys pv a0 a1 => ?_
  simp
  refine pickI_W (ws := [3, 12]) rfl a0 (by simpa using a1) fun high hh => ?_
  have hh : 3 ≤ high ∧ high ≤ 12 := by simp at hh; omega
  simp [i9]
  refine draw_W h.h9 (by omega) pv (by omega) (by omega) fun v1 ys pv a0 a1 => ?_
  simp
  refine pickI_W (ws := [0, 60, 200]) rfl a0 (by simpa using a1) fun base hb2 => ?_
  have hb2 : 0 ≤ base ∧ base ≤ 200 := by simp at hb2; omega
  simp [i9]
  refine draw_W h.h9 (by omega) pv (by omega) (by omega) fun easy ys pv e0 e1 => ?_
  simp [r1]
  refine FL_rng (fun i r => ∃ (ps rows : List D) (y9 y10 y11 y12 : Val), r = [.io ps, .fz (.int t), .fz (.int v), .fz (.int b), .fz (.int s), .fz (.int high), .fz (.int base), .fz (.int easy), .ow rows, y9, y10, y11, y12, .em, .em] ∧ PV ps ∧ rows.length = i ∧ (∀ d ∈ rows, Is Ves.enc (Ves.Ok t) d) ∧ EF y9 ∧ EF y10 ∧ EF y11 ∧ EF y12) ?_ (fun i r hi hr => ?_) fun r hr => ?_
  · exact ⟨_, [], _, _, _, _, rfl, pv, rfl, by simp, EF_em, EF_em, EF_em, EF_em⟩
  · obtain ⟨ps, rows, y9, y10, y11, y12, rfl, pv, hl, hok, f9, f10, f11, f12⟩ := hr
    simp [pK_EF f9, i9]
    refine draw_W h.h9 (by omega) pv (by omega) (by omega) fun early ys pv a0 a1 => ?_
    simp [pK_EF f10, i9]
    refine draw_W h.h9 (by omega) pv (by omega) (by omega) fun v2 ys pv b0 b1 => ?_
    simp
    by_cases c : 0 < v2
    all_goals
      simp [c, i9, small64_eq]
      refine draw_W h.h9 (by omega) pv (by omega) (by omega) fun v3 ys pv c0 c1 => ?_
      simp [pK_EF f11, i9]
      refine draw_W h.h9 (by omega) pv (by omega) (by omega) fun v4 ys pv d0 d1 => ?_
      simp [i9]
      refine pickI_W (ws := [3, 400]) rfl d0 (by simpa using d1) fun w hw => ?_
      have hw : 3 ≤ w ∧ w ≤ 400 := by simp at hw; omega
      simp [i9]
      refine draw_W h.h9 (by omega) pv (by omega) (by omega) fun v5 ys pv g0 g1 => ?_
      simp [pK_EF f12, i9]
      refine pickI_W (ws := [high + 4, 6]) rfl e0 (by simpa using e1) fun w2 hw2 => ?_
      have hw2 : 3 ≤ w2 ∧ w2 ≤ 20 := by simp at hw2; omega
      simp [i9]
      refine draw_W h.h9 (by omega) pv (by omega) (by omega) fun v6 ys pv k0 k1 => ?_
      simp [i9]
      refine draw_W h.h9 (by omega) pv (by omega) (by omega) fun v7 ys pv m0 m1 => ?_
      simp [i9]
      refine pickI_W (ws := [2, 2, 4, 4, 9]) rfl m0 (by simpa using m1) fun w3 hw3 => ?_
      have hw3 : 2 ≤ w3 ∧ w3 ≤ 9 := by simp at hw3; omega
      simp [i9]
      refine draw_W h.h9 (by omega) pv (by omega) (by omega) fun v8 ys pv p0 p1 => ?_
      simp
    · refine ⟨by omega, _, _, _, _, _, _, ⟨rfl, rfl, rfl, rfl, rfl, rfl⟩, pv, by simp [hl], fun d hd => ?_, EF_fz, EF_fz, EF_fz, EF_fz⟩
      rcases List.mem_append.mp hd with hd | hd
      · exact hok d hd
      · simp at hd
        refine ⟨_, hd.trans Ves.enc_mk, ?_⟩
        exact ⟨by dsimp only; omega, by dsimp only; omega, by dsimp only; omega, by dsimp only; omega⟩
    · refine ⟨by omega, _, _, _, _, _, _, ⟨rfl, rfl, rfl, rfl, rfl, rfl⟩, pv, by simp [hl], fun d hd => ?_, EF_fz, EF_fz, EF_fz, EF_fz⟩
      rcases List.mem_append.mp hd with hd | hd
      · exact hok d hd
      · simp at hd
        refine ⟨_, hd.trans Ves.enc_mk, ?_⟩
        exact ⟨by dsimp only; omega, by dsimp only; omega, by dsimp only; omega, by dsimp only; omega⟩
  · obtain ⟨ps, rows, y9, y10, y11, y12, rfl, pv, hl, hok, f9, f10, f11, f12⟩ := hr
    obtain ⟨vs, rfl, hvs⟩ := typed_of hok
    simp [r2, ioB_EF f9]
    refine LC_pool (ps := ps) (Is PyData.int fun w => 0 ≤ w ∧ w ≤ 500) (fun ps => .io ps :: _) pv (fun x hx ps pv => ?_) ?_ fun ds ps pv tl hd => ?_
    · simp [i9]
      refine draw_W h.h9 (by omega) pv (by omega) (by omega) fun w ys pv a0 a1 => ?_
      simp
      exact ⟨⟨_, rfl, a0, by omega⟩, pv⟩
    · simp; omega
    · obtain ⟨td, rfl, htd⟩ := typed_of hd
      simp at tl hl
      simp [r3, ioB_EF f9]
      refine LC_pool (ps := ps) (Is e2 fun w => (1 ≤ w.1 ∧ w.1 ≤ 400) ∧ 0 ≤ w.2 ∧ w.2 ≤ 500) (fun ps => .io ps :: _) pv (fun x hx ps pv => ?_) ?_ fun ds ps pv bl hd => ?_
      · simp [i9, small64_eq]
        refine draw_W h.h9 (by omega) pv (by omega) (by omega) fun w ys pv a0 a1 => ?_
        simp
        refine pickI_W (ws := [3, 200, 400]) rfl (by omega) (by simp; omega) fun w2 hw2 => ?_
        have hw2 : 3 ≤ w2 ∧ w2 ≤ 400 := by simp at hw2; omega
        simp [i9]
        refine draw_W h.h9 (by omega) pv (by omega) (by omega) fun w3 ys pv a0 a1 => ?_
        simp [small64_eq]
        refine ⟨⟨_, e2_mk, ?_⟩, pv⟩
        dsimp only
        omega
      · simp; omega
      · obtain ⟨bd, rfl, hbd⟩ := typed_of hd
        simp at bl
        simp [i9]
        refine draw_W h.h9 (by omega) pv (by omega) (by omega) fun w3 ys pv a0 a1 => ?_
        simp [small64_eq]
        exact say (q ⟨t, _, td, bd, vs, s⟩ ⟨ht, by dsimp only; omega, tl, htd, by dsimp only; omega, hbd, by dsimp only; omega, hvs, hs⟩ rfl ys pv)
theorem anyport_W {P : Prog} {n : Nat} (h : F.H295 P) (hn : 4 ≤ n) {xs : List D} (pv : PV xs) {t : Int} (ht : 1 ≤ t ∧ t ≤ 40) {Q : Val × List (List D) → Prop}
    (q : ∀ p : Port, p.Ok → p.ticks ≤ t → ∀ ys, PV ys → Say (Q (.fz p.enc, [ys]))) : W (callF P n 295 [.io xs, .fz (.int t)]) Q := by
  refine W_run (by omega) h.me rfl fun k hk => ?_
  have i9 : P.ios 9 = [true, false] := ios_of h.h9.me
  have i294 : P.ios 294 = [true, false, false, false, false] := ios_of h.h294.me
  simp [F.f295, i9]
  refine draw_W h.h9 (by omega) pv (by omega) (by omega) fun v1 ys pv a0 a1 => ?_
  simp [i9, i294]
  refine draw_W h.h9 (by omega) pv (by omega) (by omega) fun v2 ys pv b0 b1 => ?_
  simp [i9]
  refine pickI_W (ws := [2, 4]) rfl b0 (by simpa using b1) fun w hw => ?_
  have hw : 2 ≤ w ∧ w ≤ 4 := by simp at hw; omega
  simp [i9]
  refine draw_W h.h9 (by omega) pv (by omega) (by omega) fun v3 ys pv c0 c1 => ?_
  simp [i9]
  refine draw_W h.h9 (by omega) pv (by omega) (by omega) fun v4 ys pv d0 d1 => ?_
  simp [i9]
  refine draw_W h.h9 (by omega) pv (by omega) (by omega) fun v5 ys pv e0 e1 => ?_
  simp
  refine port_W h.h294 (by omega) pv (by omega) (by omega) (by omega) (by omega) fun p hp tp ys pv => ?_
  simp
  exact say (q p hp (by omega) ys pv)
end DL


set_option Elab.async false
set_option linter.all false
set_option maxRecDepth 100000
set_option maxHeartbeats 4000000
set_option autoImplicit false
/-! SPO: sorted data. -/
namespace DL
open PySem PySem.W
open PyProof.Rows (itemOrd)
mutual
theorem alike_eq : ∀ (x y : D), alike x y = true → PyData.eqv x y = true → x = y
  | .none, y, h, e => by cases y <;> simp [alike] at h; rfl
  | .bool a, y, h, e => by cases y <;> simp [alike, PyData.eqv] at h e; rw [e]
  | .int a, y, h, e => by cases y <;> simp [alike, PyData.eqv] at h e; rw [e]
  | .str a, y, h, e => by cases y <;> simp [alike, PyData.eqv] at h e; rw [e]
  | .list xs, y, h, e => by
    cases y with
    | list ys => rw [alikes_eq xs ys (by simpa [alike] using h) (by simpa [PyData.eqv] using e)]
    | _ => simp [alike] at h
  | .tuple xs, y, h, e => by
    cases y with
    | tuple ys => rw [alikes_eq xs ys (by simpa [alike] using h) (by simpa [PyData.eqv] using e)]
    | _ => simp [alike] at h
  | .dict _, y, h, e => by cases y <;> simp [alike] at h
theorem alikes_eq : ∀ (xs ys : List D), alikeAll xs ys = true → PyData.eqvAll xs ys = true → xs = ys
  | [], [], _, _ => rfl
  | [], _ :: _, _, e => by simp [PyData.eqvAll] at e
  | _ :: _, [], _, e => by simp [PyData.eqvAll] at e
  | x :: xs, y :: ys, h, e => by
    simp only [alikeAll, Bool.and_eq_true] at h
    simp only [PyData.eqvAll, Bool.and_eq_true] at e
    rw [alike_eq x y h.1 e.1, alikes_eq xs ys h.2 e.2]
end
theorem dle_eq {a b : D} : dataLe false id a b = !dataLt b a := rfl
theorem dle_trans (a b c : D) (h1 : dataLe false id a b = true) (h2 : dataLe false id b c = true) : dataLe false id a c = true := by
  rw [dle_eq, Bool.not_eq_true'] at *
  cases h : dataLt c a with
  | false => rfl
  | true =>
    rcases PyProof.Rows.lex_negTrans (O := itemOrd) (keyToks c) (keyToks b) (keyToks a) h with z | z
    · exact absurd z (by rw [show PyProof.Rows.lexLt itemOrd (keyToks c) (keyToks b) = false from h2]; exact Bool.false_ne_true)
    · exact absurd z (by rw [show PyProof.Rows.lexLt itemOrd (keyToks b) (keyToks a) = false from h1]; exact Bool.false_ne_true)
theorem dle_total (a b : D) : (dataLe false id a b || dataLe false id b a) = true := by
  rw [dle_eq, dle_eq]
  cases h : dataLt b a with
  | false => rfl
  | true =>
    cases h2 : dataLt a b with
    | false => rfl
    | true =>
      have := PyProof.Rows.lex_trans (O := itemOrd) _ _ _ h h2
      rw [PyProof.Rows.lex_irrefl] at this
      cases this
theorem dle_anti {a b : D} (al : alike a b = true) (h1 : dataLe false id a b = true) (h2 : dataLe false id b a = true) : a = b := by
  rw [dle_eq, Bool.not_eq_true'] at *
  have e : keyToks a = keyToks b := PyProof.Rows.lex_total (O := itemOrd) _ _ h2 h1
  refine alike_eq a b al ?_
  cases q : PyData.eqv a b with
  | true => rfl
  | false =>
    have z := (toks_eqv a b al).2 q [] [Sum.inl 0]
    have z2 := lex_pre (keyToks b) [] [Sum.inl 0]
    rw [e, z2] at z
    rw [PyProof.Rows.lex_irrefl] at z
    cases z
theorem sortD_perm' (l : List D) : (sortD l).Perm l := List.mergeSort_perm ..
theorem sortD_sorted (l : List D) : (sortD l).Pairwise fun a b => dataLe false id a b = true := List.pairwise_mergeSort dle_trans dle_total l
theorem sorted_unique {l m : List D} (p : l.Perm m) (hl : l.Pairwise fun a b => dataLe false id a b = true) (hm : m.Pairwise fun a b => dataLe false id a b = true) (al : ∀ a ∈ l, ∀ b ∈ l, alike a b = true) : l = m :=
  p.eq_of_pairwise (fun a b ha hb h1 h2 => dle_anti (al a ha b (p.mem_iff.mpr hb)) h1 h2) hl hm
theorem sortD_perm {l m : List D} (p : l.Perm m) (al : ∀ a ∈ l, ∀ b ∈ l, alike a b = true) : sortD l = sortD m :=
  sorted_unique (((sortD_perm' l).trans p).trans (sortD_perm' m).symm) (sortD_sorted l) (sortD_sorted m) fun a ha b hb => al a ((sortD_perm' l).mem_iff.mp ha) b ((sortD_perm' l).mem_iff.mp hb)
theorem sortD_filter {l : List D} (p : D → Bool) (al : ∀ a ∈ l, ∀ b ∈ l, alike a b = true) : (sortD l).filter p = sortD (l.filter p) :=
  sorted_unique (((sortD_perm' l).filter p).trans (sortD_perm' _).symm) ((sortD_sorted l).filter p) (sortD_sorted _) fun a ha b hb =>
    al a ((sortD_perm' l).mem_iff.mp (List.mem_filter.mp ha).1) b ((sortD_perm' l).mem_iff.mp (List.mem_filter.mp hb).1)
theorem mem_sortD {l : List D} {x : D} : x ∈ sortD l ↔ x ∈ l := (sortD_perm' l).mem_iff
theorem sortD_len {l : List D} : (sortD l).length = l.length := (sortD_perm' l).length_eq
@[simp] theorem W_sorted {l : List D} {Q : Val → Prop} : W (biD .sorted [.list l]) Q = (sortOk l = true ∧ Q (.ow (sortD l))) := by
  simp only [biD]; rw [ite_and]; rfl
@[simp] theorem W_sortedT {l : List D} {Q : Val → Prop} : W (biD .sorted [.tuple l]) Q = (sortOk l = true ∧ Q (.ow (sortD l))) := by
  simp only [biD]; rw [ite_and]; rfl
/-- a row of ints -/
def rowE (r : List Int) : D := .tuple (r.map .int)
theorem rowE_alike (r s : List Int) : alike (rowE r) (rowE s) = true := by
  simp only [rowE, alike]; exact alike_ints r s
theorem ints_lay (r : List Int) : PyData.canLayAll0 (r.map .int) = true := by
  induction r with
  | nil => simp [PyData.canLayAll0]
  | cons x r ih => simp [PyData.canLayAll0, PyData.canLay0, ih]
theorem rowE_lay (r : List Int) : (rowE r).canLay0 = true := by simp only [rowE, PyData.canLay0]; exact ints_lay r
theorem rowE_depth (r : List Int) : (rowE r).depth ≤ 1 := by simp only [rowE, PyData.depth]; rw [depth_ints]; omega
theorem sortOk_of {l : List D} (hl : l.length ≤ 16777216) (h : ∀ d ∈ l, d.canLay0 = true ∧ d.depth ≤ 100) (al : ∀ a ∈ l, ∀ b ∈ l, alike a b = true) (k : (∀ d ∈ l, isTupB d = true) ∨ ∀ d ∈ l, isTupB d = false ∧ isNonB d = false) : sortOk l = true := by
  simp only [sortOk, Bool.and_eq_true, List.all_eq_true, Bool.or_eq_true, decide_eq_true_eq, lenOk_eq, Bool.not_eq_true']
  exact ⟨⟨⟨hl, h⟩, al⟩, k⟩
theorem sortOk_rows {l : List (List Int)} (hl : l.length ≤ 16777216) : sortOk (l.map rowE) = true :=
  sortOk_of (by simpa using hl) (fun d hd => by
    obtain ⟨r, _, rfl⟩ := List.mem_map.mp hd
    exact ⟨rowE_lay r, by have := rowE_depth r; omega⟩) (fun a ha b hb => by
    obtain ⟨r, _, rfl⟩ := List.mem_map.mp ha
    obtain ⟨s, _, rfl⟩ := List.mem_map.mp hb
    exact rowE_alike r s) (.inl fun d hd => by
    obtain ⟨r, _, rfl⟩ := List.mem_map.mp hd
    rfl)
theorem sortOk_ints {l : List Int} (hl : l.length ≤ 16777216) : sortOk (l.map .int) = true :=
  sortOk_of (by simpa using hl) (fun d hd => by
    obtain ⟨r, _, rfl⟩ := List.mem_map.mp hd
    simp [PyData.canLay0, PyData.depth]) (fun a ha b hb => by
    obtain ⟨r, _, rfl⟩ := List.mem_map.mp ha
    obtain ⟨s, _, rfl⟩ := List.mem_map.mp hb
    simp [alike]) (.inr fun d hd => by
    obtain ⟨r, _, rfl⟩ := List.mem_map.mp hd
    simp [isTupB, isNonB])
theorem alike_rows {l : List (List Int)} : ∀ a ∈ l.map rowE, ∀ b ∈ l.map rowE, alike a b = true := fun a ha b hb => by
  obtain ⟨r, _, rfl⟩ := List.mem_map.mp ha
  obtain ⟨s, _, rfl⟩ := List.mem_map.mp hb
  exact rowE_alike r s
/-- all tuples of some of the items -/
def subsI : List Int → List (List Int) := List.foldl (fun found x => found ++ found.map (· ++ [x])) [[]]
theorem subs_filter (p : Int → Bool) (l : List Int) : (subsI l).filter (fun r => r.all p) = subsI (l.filter p) := by
  have key : ∀ (l : List Int) (f g : List (List Int)), f.filter (fun r => r.all p) = g → (l.foldl (fun found x => found ++ found.map (· ++ [x])) f).filter (fun r => r.all p) = (l.filter p).foldl (fun found x => found ++ found.map (· ++ [x])) g := by
    intro l
    induction l with
    | nil => intro f g h; exact h
    | cons x l ih =>
      intro f g h
      rw [List.foldl_cons]
      by_cases c : p x = true
      · rw [List.filter_cons_of_pos c, List.foldl_cons]
        refine ih _ _ ?_
        rw [List.filter_append, h, List.filter_map]
        congr 2
        rw [← h]
        congr 1
        funext r
        simp [c]
      · rw [List.filter_cons_of_neg c]
        refine ih _ _ ?_
        rw [List.filter_append, h, List.filter_map]
        have : List.filter ((fun r => r.all p) ∘ fun x_1 => x_1 ++ [x]) f = [] := by
          rw [List.filter_eq_nil_iff]
          intro r _
          simp [c]
        rw [this]
        simp
  exact key l [[]] [[]] (by simp)
theorem subs_len (l : List Int) : (subsI l).length = 2 ^ l.length := by
  have key : ∀ (l : List Int) (f : List (List Int)), (l.foldl (fun found x => found ++ found.map (· ++ [x])) f).length = f.length * 2 ^ l.length := by
    intro l
    induction l with
    | nil => intro f; simp
    | cons x l ih => intro f; rw [List.foldl_cons, ih]; simp [Nat.pow_succ, ← Nat.two_mul, Nat.mul_comm, Nat.mul_left_comm, Nat.mul_assoc]
  have := key l [[]]
  simp only [List.length_singleton, Nat.one_mul] at this
  exact this
theorem subs_mem {l : List Int} {r : List Int} (h : r ∈ subsI l) : r.Sublist l := by
  have key : ∀ (l pre : List Int) (f : List (List Int)), (∀ r ∈ f, r.Sublist pre) → ∀ r ∈ l.foldl (fun found x => found ++ found.map (· ++ [x])) f, r.Sublist (pre ++ l) := by
    intro l
    induction l with
    | nil => intro pre f h r hr; simpa using h r hr
    | cons x l ih =>
      intro pre f h r hr
      rw [List.foldl_cons] at hr
      have := ih (pre ++ [x]) _ (fun r hr => by
        rcases List.mem_append.mp hr with hr | hr
        · exact (h r hr).trans (List.sublist_append_left ..)
        · obtain ⟨s, hs, rfl⟩ := List.mem_map.mp hr
          exact (h s hs).append (List.Sublist.refl _)) r hr
      simpa using this
  simpa using key l [] [[]] (by simp) r h
end DL


set_option Elab.async false
set_option linter.all false
/-! SPW: words that differ. -/
namespace DL
open PySem
@[simp] theorem ne_afloat_roads : (Str.ofString "afloat" = Str.ofString "roads") = False := eq_false (by decide +kernel)
@[simp] theorem ne_afloat_apart : (Str.ofString "afloat" = Str.ofString "apart") = False := eq_false (by decide +kernel)
@[simp] theorem ne_afloat_waits : (Str.ofString "afloat" = Str.ofString "waits") = False := eq_false (by decide +kernel)
@[simp] theorem ne_afloat_berthed : (Str.ofString "afloat" = Str.ofString "berthed") = False := eq_false (by decide +kernel)
@[simp] theorem ne_afloat_gone : (Str.ofString "afloat" = Str.ofString "gone") = False := eq_false (by decide +kernel)
@[simp] theorem ne_roads_afloat : (Str.ofString "roads" = Str.ofString "afloat") = False := eq_false (by decide +kernel)
@[simp] theorem ne_roads_apart : (Str.ofString "roads" = Str.ofString "apart") = False := eq_false (by decide +kernel)
@[simp] theorem ne_roads_waits : (Str.ofString "roads" = Str.ofString "waits") = False := eq_false (by decide +kernel)
@[simp] theorem ne_roads_berthed : (Str.ofString "roads" = Str.ofString "berthed") = False := eq_false (by decide +kernel)
@[simp] theorem ne_roads_gone : (Str.ofString "roads" = Str.ofString "gone") = False := eq_false (by decide +kernel)
@[simp] theorem ne_apart_afloat : (Str.ofString "apart" = Str.ofString "afloat") = False := eq_false (by decide +kernel)
@[simp] theorem ne_apart_roads : (Str.ofString "apart" = Str.ofString "roads") = False := eq_false (by decide +kernel)
@[simp] theorem ne_apart_waits : (Str.ofString "apart" = Str.ofString "waits") = False := eq_false (by decide +kernel)
@[simp] theorem ne_apart_berthed : (Str.ofString "apart" = Str.ofString "berthed") = False := eq_false (by decide +kernel)
@[simp] theorem ne_apart_gone : (Str.ofString "apart" = Str.ofString "gone") = False := eq_false (by decide +kernel)
@[simp] theorem ne_waits_afloat : (Str.ofString "waits" = Str.ofString "afloat") = False := eq_false (by decide +kernel)
@[simp] theorem ne_waits_roads : (Str.ofString "waits" = Str.ofString "roads") = False := eq_false (by decide +kernel)
@[simp] theorem ne_waits_apart : (Str.ofString "waits" = Str.ofString "apart") = False := eq_false (by decide +kernel)
@[simp] theorem ne_waits_berthed : (Str.ofString "waits" = Str.ofString "berthed") = False := eq_false (by decide +kernel)
@[simp] theorem ne_waits_gone : (Str.ofString "waits" = Str.ofString "gone") = False := eq_false (by decide +kernel)
@[simp] theorem ne_berthed_afloat : (Str.ofString "berthed" = Str.ofString "afloat") = False := eq_false (by decide +kernel)
@[simp] theorem ne_berthed_roads : (Str.ofString "berthed" = Str.ofString "roads") = False := eq_false (by decide +kernel)
@[simp] theorem ne_berthed_apart : (Str.ofString "berthed" = Str.ofString "apart") = False := eq_false (by decide +kernel)
@[simp] theorem ne_berthed_waits : (Str.ofString "berthed" = Str.ofString "waits") = False := eq_false (by decide +kernel)
@[simp] theorem ne_berthed_gone : (Str.ofString "berthed" = Str.ofString "gone") = False := eq_false (by decide +kernel)
@[simp] theorem ne_gone_afloat : (Str.ofString "gone" = Str.ofString "afloat") = False := eq_false (by decide +kernel)
@[simp] theorem ne_gone_roads : (Str.ofString "gone" = Str.ofString "roads") = False := eq_false (by decide +kernel)
@[simp] theorem ne_gone_apart : (Str.ofString "gone" = Str.ofString "apart") = False := eq_false (by decide +kernel)
@[simp] theorem ne_gone_waits : (Str.ofString "gone" = Str.ofString "waits") = False := eq_false (by decide +kernel)
@[simp] theorem ne_gone_berthed : (Str.ofString "gone" = Str.ofString "berthed") = False := eq_false (by decide +kernel)
@[simp] theorem ne_none_in : (Str.ofString "none" = Str.ofString "in") = False := eq_false (by decide +kernel)
@[simp] theorem ne_none_out : (Str.ofString "none" = Str.ofString "out") = False := eq_false (by decide +kernel)
@[simp] theorem ne_in_none : (Str.ofString "in" = Str.ofString "none") = False := eq_false (by decide +kernel)
@[simp] theorem ne_in_out : (Str.ofString "in" = Str.ofString "out") = False := eq_false (by decide +kernel)
@[simp] theorem ne_out_none : (Str.ofString "out" = Str.ofString "none") = False := eq_false (by decide +kernel)
@[simp] theorem ne_out_in : (Str.ofString "out" = Str.ofString "in") = False := eq_false (by decide +kernel)
@[simp] theorem ne_tick_tide : (Str.ofString "tick" = Str.ofString "tide") = False := eq_false (by decide +kernel)
@[simp] theorem ne_tick_roads : (Str.ofString "tick" = Str.ofString "roads") = False := eq_false (by decide +kernel)
@[simp] theorem ne_tick_berthed : (Str.ofString "tick" = Str.ofString "berthed") = False := eq_false (by decide +kernel)
@[simp] theorem ne_tick_stops : (Str.ofString "tick" = Str.ofString "stops") = False := eq_false (by decide +kernel)
@[simp] theorem ne_tide_tick : (Str.ofString "tide" = Str.ofString "tick") = False := eq_false (by decide +kernel)
@[simp] theorem ne_tide_roads : (Str.ofString "tide" = Str.ofString "roads") = False := eq_false (by decide +kernel)
@[simp] theorem ne_tide_berthed : (Str.ofString "tide" = Str.ofString "berthed") = False := eq_false (by decide +kernel)
@[simp] theorem ne_tide_stops : (Str.ofString "tide" = Str.ofString "stops") = False := eq_false (by decide +kernel)
@[simp] theorem ne_roads_tick : (Str.ofString "roads" = Str.ofString "tick") = False := eq_false (by decide +kernel)
@[simp] theorem ne_roads_tide : (Str.ofString "roads" = Str.ofString "tide") = False := eq_false (by decide +kernel)
@[simp] theorem ne_roads_stops : (Str.ofString "roads" = Str.ofString "stops") = False := eq_false (by decide +kernel)
@[simp] theorem ne_berthed_tick : (Str.ofString "berthed" = Str.ofString "tick") = False := eq_false (by decide +kernel)
@[simp] theorem ne_berthed_tide : (Str.ofString "berthed" = Str.ofString "tide") = False := eq_false (by decide +kernel)
@[simp] theorem ne_berthed_stops : (Str.ofString "berthed" = Str.ofString "stops") = False := eq_false (by decide +kernel)
@[simp] theorem ne_stops_tick : (Str.ofString "stops" = Str.ofString "tick") = False := eq_false (by decide +kernel)
@[simp] theorem ne_stops_tide : (Str.ofString "stops" = Str.ofString "tide") = False := eq_false (by decide +kernel)
@[simp] theorem ne_stops_roads : (Str.ofString "stops" = Str.ofString "roads") = False := eq_false (by decide +kernel)
@[simp] theorem ne_stops_berthed : (Str.ofString "stops" = Str.ofString "berthed") = False := eq_false (by decide +kernel)
@[simp] theorem ne_first_last : (Str.ofString "first" = Str.ofString "last") = False := eq_false (by decide +kernel)
@[simp] theorem ne_first_longest : (Str.ofString "first" = Str.ofString "longest") = False := eq_false (by decide +kernel)
@[simp] theorem ne_first_deepest : (Str.ofString "first" = Str.ofString "deepest") = False := eq_false (by decide +kernel)
@[simp] theorem ne_first_busiest : (Str.ofString "first" = Str.ofString "busiest") = False := eq_false (by decide +kernel)
@[simp] theorem ne_first_oldest : (Str.ofString "first" = Str.ofString "oldest") = False := eq_false (by decide +kernel)
@[simp] theorem ne_first_tightest : (Str.ofString "first" = Str.ofString "tightest") = False := eq_false (by decide +kernel)
@[simp] theorem ne_last_first : (Str.ofString "last" = Str.ofString "first") = False := eq_false (by decide +kernel)
@[simp] theorem ne_last_longest : (Str.ofString "last" = Str.ofString "longest") = False := eq_false (by decide +kernel)
@[simp] theorem ne_last_deepest : (Str.ofString "last" = Str.ofString "deepest") = False := eq_false (by decide +kernel)
@[simp] theorem ne_last_busiest : (Str.ofString "last" = Str.ofString "busiest") = False := eq_false (by decide +kernel)
@[simp] theorem ne_last_oldest : (Str.ofString "last" = Str.ofString "oldest") = False := eq_false (by decide +kernel)
@[simp] theorem ne_last_tightest : (Str.ofString "last" = Str.ofString "tightest") = False := eq_false (by decide +kernel)
@[simp] theorem ne_longest_first : (Str.ofString "longest" = Str.ofString "first") = False := eq_false (by decide +kernel)
@[simp] theorem ne_longest_last : (Str.ofString "longest" = Str.ofString "last") = False := eq_false (by decide +kernel)
@[simp] theorem ne_longest_deepest : (Str.ofString "longest" = Str.ofString "deepest") = False := eq_false (by decide +kernel)
@[simp] theorem ne_longest_busiest : (Str.ofString "longest" = Str.ofString "busiest") = False := eq_false (by decide +kernel)
@[simp] theorem ne_longest_oldest : (Str.ofString "longest" = Str.ofString "oldest") = False := eq_false (by decide +kernel)
@[simp] theorem ne_longest_tightest : (Str.ofString "longest" = Str.ofString "tightest") = False := eq_false (by decide +kernel)
@[simp] theorem ne_deepest_first : (Str.ofString "deepest" = Str.ofString "first") = False := eq_false (by decide +kernel)
@[simp] theorem ne_deepest_last : (Str.ofString "deepest" = Str.ofString "last") = False := eq_false (by decide +kernel)
@[simp] theorem ne_deepest_longest : (Str.ofString "deepest" = Str.ofString "longest") = False := eq_false (by decide +kernel)
@[simp] theorem ne_deepest_busiest : (Str.ofString "deepest" = Str.ofString "busiest") = False := eq_false (by decide +kernel)
@[simp] theorem ne_deepest_oldest : (Str.ofString "deepest" = Str.ofString "oldest") = False := eq_false (by decide +kernel)
@[simp] theorem ne_deepest_tightest : (Str.ofString "deepest" = Str.ofString "tightest") = False := eq_false (by decide +kernel)
@[simp] theorem ne_busiest_first : (Str.ofString "busiest" = Str.ofString "first") = False := eq_false (by decide +kernel)
@[simp] theorem ne_busiest_last : (Str.ofString "busiest" = Str.ofString "last") = False := eq_false (by decide +kernel)
@[simp] theorem ne_busiest_longest : (Str.ofString "busiest" = Str.ofString "longest") = False := eq_false (by decide +kernel)
@[simp] theorem ne_busiest_deepest : (Str.ofString "busiest" = Str.ofString "deepest") = False := eq_false (by decide +kernel)
@[simp] theorem ne_busiest_oldest : (Str.ofString "busiest" = Str.ofString "oldest") = False := eq_false (by decide +kernel)
@[simp] theorem ne_busiest_tightest : (Str.ofString "busiest" = Str.ofString "tightest") = False := eq_false (by decide +kernel)
@[simp] theorem ne_oldest_first : (Str.ofString "oldest" = Str.ofString "first") = False := eq_false (by decide +kernel)
@[simp] theorem ne_oldest_last : (Str.ofString "oldest" = Str.ofString "last") = False := eq_false (by decide +kernel)
@[simp] theorem ne_oldest_longest : (Str.ofString "oldest" = Str.ofString "longest") = False := eq_false (by decide +kernel)
@[simp] theorem ne_oldest_deepest : (Str.ofString "oldest" = Str.ofString "deepest") = False := eq_false (by decide +kernel)
@[simp] theorem ne_oldest_busiest : (Str.ofString "oldest" = Str.ofString "busiest") = False := eq_false (by decide +kernel)
@[simp] theorem ne_oldest_tightest : (Str.ofString "oldest" = Str.ofString "tightest") = False := eq_false (by decide +kernel)
@[simp] theorem ne_tightest_first : (Str.ofString "tightest" = Str.ofString "first") = False := eq_false (by decide +kernel)
@[simp] theorem ne_tightest_last : (Str.ofString "tightest" = Str.ofString "last") = False := eq_false (by decide +kernel)
@[simp] theorem ne_tightest_longest : (Str.ofString "tightest" = Str.ofString "longest") = False := eq_false (by decide +kernel)
@[simp] theorem ne_tightest_deepest : (Str.ofString "tightest" = Str.ofString "deepest") = False := eq_false (by decide +kernel)
@[simp] theorem ne_tightest_busiest : (Str.ofString "tightest" = Str.ofString "busiest") = False := eq_false (by decide +kernel)
@[simp] theorem ne_tightest_oldest : (Str.ofString "tightest" = Str.ofString "oldest") = False := eq_false (by decide +kernel)
@[simp high] theorem okW_Afloat {m n : Nat} : okD m n (.str (Str.ofString "Afloat")) = true := okD_mono (Nat.zero_le _) (Nat.zero_le _) (show okD 0 0 _ = true by decide +kernel)
@[simp high] theorem okW_None {m n : Nat} : okD m n (.str (Str.ofString "None")) = true := okD_mono (Nat.zero_le _) (Nat.zero_le _) (show okD 0 0 _ = true by decide +kernel)
@[simp high] theorem okW_afloat {m n : Nat} : okD m n (.str (Str.ofString "afloat")) = true := okD_mono (Nat.zero_le _) (Nat.zero_le _) (show okD 0 0 _ = true by decide +kernel)
@[simp high] theorem okW_aground {m n : Nat} : okD m n (.str (Str.ofString "aground")) = true := okD_mono (Nat.zero_le _) (Nat.zero_le _) (show okD 0 0 _ = true by decide +kernel)
@[simp high] theorem okW_apart {m n : Nat} : okD m n (.str (Str.ofString "apart")) = true := okD_mono (Nat.zero_le _) (Nat.zero_le _) (show okD 0 0 _ = true by decide +kernel)
@[simp high] theorem okW_berthed {m n : Nat} : okD m n (.str (Str.ofString "berthed")) = true := okD_mono (Nat.zero_le _) (Nat.zero_le _) (show okD 0 0 _ = true by decide +kernel)
@[simp high] theorem okW_busiest {m n : Nat} : okD m n (.str (Str.ofString "busiest")) = true := okD_mono (Nat.zero_le _) (Nat.zero_le _) (show okD 0 0 _ = true by decide +kernel)
@[simp high] theorem okW_changed {m n : Nat} : okD m n (.str (Str.ofString "changed")) = true := okD_mono (Nat.zero_le _) (Nat.zero_le _) (show okD 0 0 _ = true by decide +kernel)
@[simp high] theorem okW_deepest {m n : Nat} : okD m n (.str (Str.ofString "deepest")) = true := okD_mono (Nat.zero_le _) (Nat.zero_le _) (show okD 0 0 _ = true by decide +kernel)
@[simp high] theorem okW_first {m n : Nat} : okD m n (.str (Str.ofString "first")) = true := okD_mono (Nat.zero_le _) (Nat.zero_le _) (show okD 0 0 _ = true by decide +kernel)
@[simp high] theorem okW_gone {m n : Nat} : okD m n (.str (Str.ofString "gone")) = true := okD_mono (Nat.zero_le _) (Nat.zero_le _) (show okD 0 0 _ = true by decide +kernel)
@[simp high] theorem okW_in {m n : Nat} : okD m n (.str (Str.ofString "in")) = true := okD_mono (Nat.zero_le _) (Nat.zero_le _) (show okD 0 0 _ = true by decide +kernel)
@[simp high] theorem okW_last {m n : Nat} : okD m n (.str (Str.ofString "last")) = true := okD_mono (Nat.zero_le _) (Nat.zero_le _) (show okD 0 0 _ = true by decide +kernel)
@[simp high] theorem okW_longest {m n : Nat} : okD m n (.str (Str.ofString "longest")) = true := okD_mono (Nat.zero_le _) (Nat.zero_le _) (show okD 0 0 _ = true by decide +kernel)
@[simp high] theorem okW_none {m n : Nat} : okD m n (.str (Str.ofString "none")) = true := okD_mono (Nat.zero_le _) (Nat.zero_le _) (show okD 0 0 _ = true by decide +kernel)
@[simp high] theorem okW_oldest {m n : Nat} : okD m n (.str (Str.ofString "oldest")) = true := okD_mono (Nat.zero_le _) (Nat.zero_le _) (show okD 0 0 _ = true by decide +kernel)
@[simp high] theorem okW_out {m n : Nat} : okD m n (.str (Str.ofString "out")) = true := okD_mono (Nat.zero_le _) (Nat.zero_le _) (show okD 0 0 _ = true by decide +kernel)
@[simp high] theorem okW_road {m n : Nat} : okD m n (.str (Str.ofString "road")) = true := okD_mono (Nat.zero_le _) (Nat.zero_le _) (show okD 0 0 _ = true by decide +kernel)
@[simp high] theorem okW_roads {m n : Nat} : okD m n (.str (Str.ofString "roads")) = true := okD_mono (Nat.zero_le _) (Nat.zero_le _) (show okD 0 0 _ = true by decide +kernel)
@[simp high] theorem okW_stays {m n : Nat} : okD m n (.str (Str.ofString "stays")) = true := okD_mono (Nat.zero_le _) (Nat.zero_le _) (show okD 0 0 _ = true by decide +kernel)
@[simp high] theorem okW_stops {m n : Nat} : okD m n (.str (Str.ofString "stops")) = true := okD_mono (Nat.zero_le _) (Nat.zero_le _) (show okD 0 0 _ = true by decide +kernel)
@[simp high] theorem okW_tick {m n : Nat} : okD m n (.str (Str.ofString "tick")) = true := okD_mono (Nat.zero_le _) (Nat.zero_le _) (show okD 0 0 _ = true by decide +kernel)
@[simp high] theorem okW_tide {m n : Nat} : okD m n (.str (Str.ofString "tide")) = true := okD_mono (Nat.zero_le _) (Nat.zero_le _) (show okD 0 0 _ = true by decide +kernel)
@[simp high] theorem okW_tightest {m n : Nat} : okD m n (.str (Str.ofString "tightest")) = true := okD_mono (Nat.zero_le _) (Nat.zero_le _) (show okD 0 0 _ = true by decide +kernel)
@[simp high] theorem okW_waits {m n : Nat} : okD m n (.str (Str.ofString "waits")) = true := okD_mono (Nat.zero_le _) (Nat.zero_le _) (show okD 0 0 _ = true by decide +kernel)
@[simp high] theorem okW_x {m n : Nat} : okD m n (.str (Str.ofString "x")) = true := okD_mono (Nat.zero_le _) (Nat.zero_le _) (show okD 0 0 _ = true by decide +kernel)
@[simp high] theorem okW_y {m n : Nat} : okD m n (.str (Str.ofString "y")) = true := okD_mono (Nat.zero_le _) (Nat.zero_le _) (show okD 0 0 _ = true by decide +kernel)
@[simp] theorem okB {m n : Nat} {i : Bool} : okD m n (.bool i) = true := by cases n <;> simp [okD]
@[simp] theorem okN {m n : Nat} : okD m n .none = true := by cases n <;> simp [okD]
end DL


set_option Elab.async false
set_option linter.all false
set_option maxRecDepth 100000
set_option maxHeartbeats 4000000
set_option autoImplicit false
/-! SPT: states drawn. -/
namespace DL
open PySem
theorem rng0 {n : Nat} : range 0 n = (List.range n).map fun (i : Nat) => PyData.int (i : Int) := by
  unfold range
  congr 1
  funext i
  simp
/-- a comprehension over typed data -/
theorem LC_ty {α : Type} {C : Ctx} {t : Tgt} {c : List E} {elt : E} {r : Env} (enc : α → D) (p : α → Bool) (f : α → D) {as : List α} {Q : List D → Env → Prop}
    (h : ∀ a ∈ as, Say (Bt t (enc a) r fun r1 => Cs C c r1 fun b r2 => b = p a ∧ if b = true then Ev C elt r2 fun v r3 => W v.fix fun d => d = f a ∧ wipeE t.slots r3 = r else wipeE t.slots r2 = r))
    (hl : as.length ≤ 16777216) (q : Say (Q ((as.filter p).map f) r)) : LC C t c elt (as.map enc) [] r Q := by
  have key : ∀ (as : List α) (acc : List D), (∀ a ∈ as, Say (Bt t (enc a) r fun r1 => Cs C c r1 fun b r2 => b = p a ∧ if b = true then Ev C elt r2 fun v r3 => W v.fix fun d => d = f a ∧ wipeE t.slots r3 = r else wipeE t.slots r2 = r)) →
      acc.length + as.length ≤ 16777216 → Q (acc ++ (as.filter p).map f) r → LC C t c elt (as.map enc) acc r Q := by
    intro as
    induction as with
    | nil => intro acc _ _ q; rw [List.map_nil, LC_nil]; simpa using q
    | cons a as ih =>
      intro acc h hl q
      rw [List.map_cons, LC_cons]
      refine Bt_mono (say (h a (by simp))) fun r1 h1 => Cs_mono h1 fun b r2 ⟨hb, h2⟩ => ?_
      cases b with
      | false =>
        simp only [Bool.false_eq_true, if_false] at h2 ⊢
        rw [h2]
        refine ih acc (fun y hy => h y (by simp [hy])) (by simp at hl; omega) ?_
        simpa [← hb] using q
      | true =>
        simp only [if_true] at h2 ⊢
        refine Ev_mono h2 fun v r3 h3 => W_mono h3 fun d ⟨hd, h4⟩ => ⟨by simp at hl ⊢; omega, ?_⟩
        rw [h4, hd]
        refine ih _ (fun y hy => h y (by simp [hy])) (by simp at hl ⊢; omega) ?_
        simpa [← hb] using q
  exact key as [] h (by simpa using hl) (by simpa using say q)
theorem LC_tyM {α : Type} {C : Ctx} {t : Tgt} {elt : E} {r : Env} (enc : α → D) (f : α → D) {as : List α} {Q : List D → Env → Prop}
    (h : ∀ a ∈ as, Say (Bt t (enc a) r fun r1 => Ev C elt r1 fun v r3 => W v.fix fun d => d = f a ∧ wipeE t.slots r3 = r))
    (hl : as.length ≤ 16777216) (q : Say (Q (as.map f) r)) : LC C t [] elt (as.map enc) [] r Q := by
  have e : as.filter (fun _ => true) = as := List.filter_eq_self.mpr (by simp)
  refine LC_ty enc (fun _ => true) f (fun a ha => ⟨Bt_mono (say (h a ha)) fun r1 h1 => ?_⟩) hl (by rw [e]; exact q)
  simp only [Cs_nil, if_true, true_and]
  exact h1
abbrev T3 := Int × Int × Int
def e3 (p : T3) : D := .tuple [.int p.1, .int p.2.1, .int p.2.2]
structure Sta where
  vs : List T3
  stops : Int
def Sta.enc (s : Sta) : D := .tuple [.tuple (s.vs.map e3), .int s.stops]
def Sta.v (s : Sta) (i : Nat) : T3 := s.vs.getD i (0, 0, 0)
@[simp] theorem idx_s0 {s : Sta} : idxD s.enc (.int 0) = .ok (.tuple (s.vs.map e3)) := rfl
@[simp] theorem idx_s1 {s : Sta} : idxD s.enc (.int 1) = .ok (.int s.stops) := rfl
@[simp] theorem idx_t0 {s : T3} : idxD (e3 s) (.int 0) = .ok (.int s.1) := rfl
@[simp] theorem idx_t1 {s : T3} : idxD (e3 s) (.int 1) = .ok (.int s.2.1) := rfl
@[simp] theorem idx_t2 {s : T3} : idxD (e3 s) (.int 2) = .ok (.int s.2.2) := rfl
theorem Sta.enc_mk {vs : List T3} {n : Int} : PyData.tuple [.tuple (vs.map e3), .int n] = Sta.enc ⟨vs, n⟩ := rfl
theorem getD_map {α : Type} {f : α → D} {l : List α} {i : Nat} {d : α} (h : i < l.length) : atL (l.map f) (i : Int) = some (f (l.getD i d)) := by
  rw [atL_nat, List.getElem?_map, List.getElem?_eq_getElem h]
  simp [List.getD, List.getElem?_eq_getElem h]
def Sta.atN (s : Sta) (g : Int) : List Nat := (List.range s.vs.length).filter fun i => decide ((s.v i).1 = g)
def Sta.at_ (s : Sta) (g : Int) : List Int := (s.atN g).map fun (i : Nat) => (i : Int)
theorem mem_atN {s : Sta} {g : Int} {i : Nat} : i ∈ s.atN g ↔ i < s.vs.length ∧ (s.v i).1 = g := by
  unfold Sta.atN; simp
theorem mem_at {s : Sta} {g i : Int} : i ∈ s.at_ g ↔ ∃ k : Nat, i = k ∧ k < s.vs.length ∧ (s.v k).1 = g := by
  unfold Sta.at_; simp [mem_atN]
  constructor
  · rintro ⟨k, h, rfl⟩; exact ⟨k, rfl, h⟩
  · rintro ⟨k, rfl, h⟩; exact ⟨k, h, rfl⟩
theorem at_len {s : Sta} {g : Int} : (s.at_ g).length ≤ s.vs.length := by
  unfold Sta.at_ Sta.atN
  rw [List.length_map]
  have := List.length_filter_le (fun i => decide ((s.v i).1 = g)) (List.range s.vs.length)
  simpa using this
theorem at_E {P : Prog} {n : Nat} (h : F.H302 P) (hn : 1 ≤ n) (s : Sta) (hs : s.vs.length ≤ 1000) (g : Int) : callF P n 302 [.fz s.enc, .fz (.int g)] = .ok (.ow ((s.at_ g).map .int), []) := by
  refine E_run hn h.me rfl fun k hk => ?_
  have e : itemsD .rng [.int (s.vs.length : Int)] = .ok (range 0 s.vs.length) := by rw [items_r1 (by omega)]; rfl
  simp [F.f302, Sta.enc, e]
  rw [rng0]
  refine LC_ty _ (fun i => decide ((s.v i).1 = g)) (fun i => .int (i : Int)) (fun i hi => ?_) (by simp; omega) ?_
  · have hi : i < s.vs.length := by simpa using hi
    have e1 := getD_map (f := e3) (d := ((0, 0, 0) : T3)) hi
    simp [e1, e3]
    by_cases c : (s.v i).1 = g <;> simp [Sta.v] at c ⊢ <;> simp [c, Sta.v]
  · simp [Sta.at_, Sta.atN]
/-- the law's own subsets -/
theorem subs_snoc (l : List Int) (x : Int) : subsI (l ++ [x]) = subsI l ++ (subsI l).map (· ++ [x]) := by
  unfold subsI; rw [List.foldl_append]; rfl
theorem subs_E {P : Prog} {n : Nat} (h : F.H260 P) (hn : 1 ≤ n) (l : List Int) (hl : l.length ≤ 20) : callF P n 260 [.fz (.list (l.map .int))] = .ok (.ow (sortD ((subsI l).map rowE)), []) := by
  refine E_run hn h.me rfl fun k hk => ?_
  have pw : ∀ i, i ≤ l.length → 2 ^ i ≤ 1048576 := fun i hi => Nat.le_trans (Nat.pow_le_pow_right (by omega) (show i ≤ 20 by omega)) (by decide)
  simp [F.f260]
  refine FL_ix (fun i r => ∃ y2, r = [.fz (.list (l.map .int)), .ow ((subsI (l.take i)).map rowE), y2, .em] ∧ EF y2) ?_ (fun i x r hx hr => ?_) fun r hr => ?_
  · exact ⟨_, rfl, EF_em⟩
  · obtain ⟨y2, rfl, f2⟩ := hr
    rw [List.getElem?_map] at hx
    obtain ⟨z, hz, rfl⟩ := Option.map_eq_some_iff.mp hx
    have hi : i < l.length := (List.getElem?_eq_some_iff.mp hz).1
    have tk : l.take (i + 1) = l.take i ++ [z] := by rw [List.take_succ, hz]; rfl
    have l1 := subs_len (l.take i)
    have l2 := pw i (by omega)
    rw [List.length_take, Nat.min_eq_left (by omega)] at l1
    simp [pK_EF f2]
    refine LC_tyM rowE (fun r => rowE (r ++ [z])) (fun r hr => ?_) (by omega) ?_
    · have := (subs_mem hr).length_le
      simp [rowE]
      simp at this; omega
    · simp
      refine ⟨by omega, _, ⟨?_, rfl⟩, EF_fz⟩
      rw [tk, subs_snoc]
      simp [Function.comp_def]
  · obtain ⟨y2, rfl, f2⟩ := hr
    have l1 := subs_len l
    have l2 := pw l.length (by omega)
    have so : sortOk ((subsI l).map rowE) = true := sortOk_rows (by omega)
    simp [List.take_of_length_le, so]
def decR : D → List Int
  | .tuple ds => (ints? ds).getD []
  | _ => []
theorem decR_rowE (r : List Int) : decR (rowE r) = r := by simp [decR, rowE, ints_map]
theorem rowE_inj {r s : List Int} (h : rowE r = rowE s) : r = s := by rw [← decR_rowE r, h, decR_rowE]
/-- rows sorted -/
def sortR (l : List (List Int)) : List (List Int) := l.mergeSort fun a b => PySem.W.dataLe false id (rowE a) (rowE b)
theorem sortR_eq (l : List (List Int)) : sortD (l.map rowE) = (sortR l).map rowE := (List.map_mergeSort (f := rowE) fun _ _ _ _ => rfl).symm
theorem sortR_perm (l : List (List Int)) : (sortR l).Perm l := List.mergeSort_perm ..
theorem map_rowE_inj {l m : List (List Int)} (h : l.map rowE = m.map rowE) : l = m := (List.map_inj_right (fun _ _ h => rowE_inj h)).mp h
theorem sortR_filter (p : List Int → Bool) (l : List (List Int)) : (sortR l).filter p = sortR (l.filter p) := by
  refine map_rowE_inj ?_
  have e : ∀ m : List (List Int), (m.filter p).map rowE = (m.map rowE).filter fun d => p (decR d) := fun m => by
    rw [List.filter_map]
    congr 2
    funext r
    simp [decR_rowE]
  rw [e, ← sortR_eq, ← sortR_eq, sortD_filter _ alike_rows, e]
theorem mem_sortR {l : List (List Int)} {r : List Int} : r ∈ sortR l ↔ r ∈ l := (sortR_perm l).mem_iff
theorem sortR_len {l : List (List Int)} : (sortR l).length = l.length := (sortR_perm l).length_eq
/-- what a vessel's triple may be -/
def VOk (p : Port) (t : Int) (v : Ves) (x : T3) : Prop := x = (0, 0, 0) ∨ (∃ w, x = (1, w, 0) ∧ 0 ≤ w ∧ w ≤ t) ∨ (∃ b n, x = (2, b, n) ∧ 0 ≤ b ∧ b < p.berths.length ∧ 0 ≤ n ∧ n ≤ v.work) ∨ x = (3, 0, 0)
structure Sta.Ok (p : Port) (t : Int) (s : Sta) : Prop where
  len : s.vs.length = p.vessels.length
  vs : ∀ i, i < s.vs.length → VOk p t (p.vessels.getD i ⟨0, 0, 0, 0, 0⟩) (s.v i)
  stops : 0 ≤ s.stops ∧ s.stops ≤ 3
def Port.v (p : Port) (i : Nat) : Ves := p.vessels.getD i ⟨0, 0, 0, 0, 0⟩
def startS (p : Port) : Sta := ⟨p.vessels.map fun _ => (0, 0, 0), p.stops⟩
theorem start_ok {p : Port} (h : p.Ok) : (startS p).Ok p 0 := by
  refine ⟨by simp [startS], fun i hi => .inl ?_, h.stops⟩
  simp [startS] at hi
  simp [startS, Sta.v, List.getD, hi]
theorem start_E {P : Prog} {n : Nat} (h : F.H296 P) (hn : 1 ≤ n) {p : Port} (hp : p.Ok) : callF P n 296 [.fz p.enc] = .ok (.fz (startS p).enc, []) := by
  have := hp.vesselsL
  refine E_run hn h.me rfl fun k hk => ?_
  simp [F.f296, Port.enc]
  refine LC_tyM _ (fun _ => .tuple [.int 0, .int 0, .int 0]) (fun i hi => ?_) (by omega) ?_
  · simp
  · simp [startS, Sta.enc]
    exact fun _ _ => rfl
theorem v_at {p : Port} {i : Nat} (h : i < p.vessels.length) : atL (p.vessels.map Ves.enc) (i : Int) = some (p.v i).enc := getD_map h
theorem s_at {s : Sta} {i : Nat} (h : i < s.vs.length) : atL (s.vs.map e3) (i : Int) = some (e3 (s.v i)) := getD_map h
def Port.b (p : Port) (i : Nat) : Int × Int := p.berths.getD i (0, 0)
theorem b_at {p : Port} {i : Nat} (h : i < p.berths.length) : atL (p.berths.map e2) (i : Int) = some (e2 (p.b i)) := getD_map h
def okRow (p : Port) (t : Int) (s : Sta) (r : List Int) : Bool := (r.all fun k => decide ((p.v k.toNat).early ≤ t)) && (s.at_ 0).all fun k => decide (k ∈ r) || decide (t < (p.v k.toNat).late)
def arrs (p : Port) (t : Int) (s : Sta) : List (List Int) := (sortR (subsI (s.at_ 0))).filter (okRow p t s)
theorem lays_e {l : List Int} : eqD (.list (l.map .int)) (.list []) = .ok l.isEmpty := by
  have : eqOk (.list (l.map .int)) (.list []) = true := by
    simp [eqOk, PyData.canLay0, PyData.canLayAll0, PyData.depth, PyData.depthAll, ints_lay, PySem.W.depth_ints]
  simp only [eqD, this, Bool.or_true, if_true]
  cases l <;> simp [PyData.eqv, PyData.eqvAll]
theorem in_ints {x : Int} {l : List Int} : inD (.int x) (.tuple (l.map .int)) = .ok (decide (x ∈ l)) := by
  have : inOk (.int x) (l.map .int) = true := by
    unfold inOk
    simp [flat]
  simp only [inD, this, if_true]
  congr 1
  rw [Bool.eq_iff_iff]
  simp [PyData.eqv]
theorem lawarr_E {P : Prog} {n : Nat} (h : F.H304 P) (hn : 2 ≤ n) {p : Port} (hp : p.Ok) {t t' : Int} {s : Sta} (hs : s.Ok p t') : callF P n 304 [.fz p.enc, .fz (.int t), .fz s.enc] = .ok (.ow ((arrs p t s).map rowE), []) := by
  have i260 : P.ios 260 = [false] := ios_of h.h260.me
  have i302 : P.ios 302 = [false, false] := ios_of h.h302.me
  have h1 := hp.vesselsL
  have h2 := hs.len
  refine E_run (by omega) h.me rfl fun k hk => ?_
  have ea := at_E (n := k) h.h302 (by omega) s (by omega) 0
  have al := at_len (s := s) (g := 0)
  have es := subs_E (n := k) h.h260 (by omega) (s.at_ 0) (by omega)
  have sl : (subsI (s.at_ 0)).length ≤ 16 := by
    rw [subs_len]
    exact Nat.le_trans (Nat.pow_le_pow_right (by omega) (show _ ≤ 4 by omega)) (by decide)
  have vi : ∀ z ∈ s.at_ 0, ∃ j : Nat, z = j ∧ j < p.vessels.length := fun z hz => by
    obtain ⟨j, rfl, hj, _⟩ := mem_at.mp hz
    exact ⟨j, rfl, by omega⟩
  simp [F.f304, i260, i302, ea, es]
  rw [sortR_eq]
  refine FL_ix (fun i r => ∃ y4 y5 y6 y7, r = [.fz p.enc, .fz (.int t), .fz s.enc, .ow ((((sortR (subsI (s.at_ 0))).take i).filter (okRow p t s)).map rowE), y4, y5, y6, y7] ∧ EF y4 ∧ EF y5 ∧ EW y6 ∧ EW y7) ?_ (fun i x r hx hr => ?_) fun r hr => ?_
  · exact ⟨_, _, _, _, rfl, EF_em, EF_em, EW_em, EW_em⟩
  · obtain ⟨y4, y5, y6, y7, rfl, f4, f5, f6, f7⟩ := hr
    rw [List.getElem?_map] at hx
    obtain ⟨row, hrow, rfl⟩ := Option.map_eq_some_iff.mp hx
    have hi : i < (sortR (subsI (s.at_ 0))).length := (List.getElem?_eq_some_iff.mp hrow).1
    rw [sortR_len] at hi
    have hr := mem_sortR.mp (List.mem_of_getElem? hrow)
    have hsub := subs_mem hr
    have rl := hsub.length_le
    simp [pK_EF f4, rowE, ioB_EF f5]
    refine LC_ty (as := row) PyData.int (fun k => decide (t < (p.v k.toNat).early)) PyData.int (fun z hz => ?_) (by omega) ?_
    · obtain ⟨j, rfl, hj⟩ := vi z (hsub.subset hz)
      have e1 := getD_map (f := Ves.enc) (d := ⟨0, 0, 0, 0, 0⟩) hj
      simp [Port.enc, e1, Ves.enc, Port.v]
    · simp [pK_EW f6, i302, ea, ioB_EF f5]
      refine LC_ty (as := s.at_ 0) PyData.int (fun k => !decide (k ∈ row) && decide ((p.v k.toNat).late ≤ t)) PyData.int (fun z hz => ?_) (by omega) ?_
      · obtain ⟨j, rfl, hj⟩ := vi z hz
        have e1 := getD_map (f := Ves.enc) (d := ⟨0, 0, 0, 0, 0⟩) hj
        by_cases c : (j : Int) ∈ row <;> simp [Port.enc, e1, Ves.enc, Port.v, in_ints, c]
      · have tk : (sortR (subsI (s.at_ 0))).take (i + 1) = (sortR (subsI (s.at_ 0))).take i ++ [row] := by rw [List.take_succ, hrow]; rfl
        have fl : (((sortR (subsI (s.at_ 0))).take i).filter (okRow p t s)).length ≤ 16777215 := by
          have := List.length_filter_le (okRow p t s) ((sortR (subsI (s.at_ 0))).take i)
          rw [List.length_take, sortR_len] at this
          omega
        have eo : okRow p t s row = (decide (∀ a ∈ row, (p.v a.toNat).early ≤ t) && decide (∀ a ∈ s.at_ 0, ¬ a ∈ row → t < (p.v a.toNat).late)) := by
          unfold okRow
          rw [Bool.eq_iff_iff]
          simp
          intro _
          constructor
          · intro q a ha hn; exact (q a ha).resolve_left hn
          · intro q a ha
            by_cases c : a ∈ row
            · exact .inl c
            · exact .inr (q a ha c)
        by_cases c1 : ∀ a ∈ row, (p.v a.toNat).early ≤ t
        · by_cases c2 : ∀ a ∈ s.at_ 0, ¬ a ∈ row → t < (p.v a.toNat).late
          · have e1 : okRow p t s row = true := by rw [eo, decide_eq_true c1, decide_eq_true c2]; rfl
            simp [pK_EW f7, lays_e, c1, c2]
            rw [if_pos c1, if_pos c2]
            exact ⟨fl, _, _, _, _, ⟨by rw [tk, List.filter_append]; simp [e1, rowE], rfl, rfl, rfl, rfl⟩, EF_fz, f5, EW_ow, EW_ow⟩
          · have e1 : okRow p t s row = false := by rw [eo, decide_eq_false c2, Bool.and_false]
            simp [pK_EW f7, lays_e]
            rw [if_pos c1, if_neg c2]
            exact ⟨_, _, _, _, ⟨by rw [tk, List.filter_append]; simp [e1], rfl, rfl, rfl, rfl⟩, EF_fz, f5, EW_ow, EW_ow⟩
        · have e1 : okRow p t s row = false := by rw [eo, decide_eq_false c1, Bool.false_and]
          simp [pK_EW f7, lays_e]
          rw [if_neg c1, if_neg c1]
          exact ⟨_, _, _, _, ⟨by rw [tk, List.filter_append]; simp [e1], rfl, rfl, rfl, rfl⟩, EF_fz, f5, EW_ow, EW_ow⟩
  · obtain ⟨y4, y5, y6, y7, rfl, f4, f5, f6, f7⟩ := hr
    simp [arrs, List.take_of_length_le]
/-- there always are arrivals -/
theorem arrs_ne {p : Port} (hp : p.Ok) {t t' : Int} {s : Sta} (hs : s.Ok p t') : arrs p t s ≠ [] := by
  have h2 := hs.len
  have full : ∀ l : List Int, l ∈ subsI l := by
    intro l
    have key : ∀ (l pre : List Int) (f : List (List Int)), pre ∈ f → pre ++ l ∈ l.foldl (fun found x => found ++ found.map (· ++ [x])) f := by
      intro l
      induction l with
      | nil => intro pre f h; simpa using h
      | cons x l ih =>
        intro pre f h
        rw [List.foldl_cons]
        have := ih (pre ++ [x]) (f ++ f.map (· ++ [x])) (List.mem_append.mpr (.inr (List.mem_map.mpr ⟨pre, h, rfl⟩)))
        simpa using this
    have := key l [] [[]] (by simp)
    rw [List.nil_append] at this
    exact this
  have hm := full ((s.at_ 0).filter fun k => decide ((p.v k.toNat).early ≤ t))
  rw [← subs_filter, List.mem_filter] at hm
  refine List.ne_nil_of_mem (a := (s.at_ 0).filter fun k => decide ((p.v k.toNat).early ≤ t)) ?_
  unfold arrs
  rw [List.mem_filter]
  refine ⟨mem_sortR.mpr hm.1, ?_⟩
  unfold okRow
  rw [Bool.and_eq_true]
  refine ⟨hm.2, ?_⟩
  simp only [List.all_eq_true, Bool.or_eq_true, decide_eq_true_eq, List.mem_filter]
  intro k hk
  obtain ⟨j, rfl, hj, _⟩ := mem_at.mp hk
  by_cases c : (p.v (j : Int).toNat).early ≤ t
  · exact .inl ⟨hk, c⟩
  · refine .inr ?_
    have hv : p.v j ∈ p.vessels := by
      unfold Port.v
      rw [List.getD, List.getElem?_eq_getElem (by omega)]
      exact List.getElem_mem _
    have := (hp.vessels _ hv).early
    simp at c ⊢
    omega
end DL


set_option Elab.async false
set_option linter.all false
set_option maxRecDepth 100000
set_option maxHeartbeats 4000000
set_option autoImplicit false
/-! SPU: states drawn, the steps. -/
namespace DL
open PySem
def arrivedS (s : Sta) (r : List Int) : Sta := ⟨(List.range s.vs.length).map fun (i : Nat) => if (i : Int) ∈ r then (1, 0, 0) else s.v i, s.stops⟩
theorem lawarrived_E {P : Prog} {n : Nat} (h : F.H305 P) (hn : 1 ≤ n) (s : Sta) (hs : s.vs.length ≤ 1000) (r : List Int) : callF P n 305 [.fz s.enc, .fz (rowE r)] = .ok (.fz (arrivedS s r).enc, []) := by
  refine E_run hn h.me rfl fun k hk => ?_
  have e : itemsD .rng [.int (s.vs.length : Int)] = .ok (range 0 s.vs.length) := by rw [items_r1 (by omega)]; rfl
  simp [F.f305, Sta.enc, e]
  rw [rng0]
  refine LC_tyM (as := List.range s.vs.length) _ (fun (i : Nat) => e3 (if (i : Int) ∈ r then (1, 0, 0) else s.v i)) (fun i hi => ?_) (by simp; omega) ?_
  · have hi : i < s.vs.length := by simpa using hi
    have e1 := s_at hi
    by_cases c : (i : Int) ∈ r <;> simp [rowE, in_ints, c, e1, e3]
  · simp [arrivedS]
theorem arrived_v {s : Sta} {r : List Int} {i : Nat} (h : i < s.vs.length) : (arrivedS s r).v i = if (i : Int) ∈ r then (1, 0, 0) else s.v i := by
  have : (arrivedS s r).v i = (((List.range s.vs.length).map fun (i : Nat) => if (i : Int) ∈ r then (1, 0, 0) else s.v i)).getD i (0, 0, 0) := rfl
  rw [this, List.getD, List.getElem?_map, List.getElem?_range h]
  rfl
theorem arrived_ok {p : Port} {t : Int} {s : Sta} (hs : s.Ok p t) (ht : 0 ≤ t) (r : List Int) : (arrivedS s r).Ok p t := by
  have hl : (arrivedS s r).vs.length = s.vs.length := by simp [arrivedS]
  refine ⟨hl.trans hs.len, fun i hi => ?_, hs.stops⟩
  rw [hl] at hi
  rw [arrived_v hi]
  by_cases c : (i : Int) ∈ r
  · rw [if_pos c]; exact .inr (.inl ⟨0, rfl, by omega, ht⟩)
  · rw [if_neg c]; exact hs.vs i hi
def putS (s : Sta) (i : Nat) (x : T3) : Sta := ⟨s.vs.set i x, s.stops⟩
theorem lawput_E {P : Prog} {n : Nat} (h : F.H303 P) (hn : 1 ≤ n) (s : Sta) (hs : s.vs.length ≤ 1000) {i : Nat} (hi : i < s.vs.length) (x : T3) : callF P n 303 [.fz s.enc, .fz (.int (i : Int)), .fz (e3 x)] = .ok (.fz (putS s i x).enc, []) := by
  refine E_run hn h.me rfl fun k hk => ?_
  have c1 : cutL (s.vs.map e3) none (some (i : Int)) = (s.vs.take i).map e3 := by rw [cut_take (by omega)]; simp
  have c2 : cutL (s.vs.map e3) (some ((i : Int) + 1)) none = (s.vs.drop (i + 1)).map e3 := by rw [cut_drop (by omega)]; simp
  simp [F.f303, Sta.enc, c1, c2, intD]
  refine ⟨by omega, by omega, ?_⟩
  simp [putS, List.set_eq_take_append_cons_drop, hi]
inductive Mv where
  | no
  | inn (k b : Int)
  | out (k : Int)
def Mv.enc : Mv → D
  | .no => .tuple [.str (Str.ofString "none")]
  | .inn k b => .tuple [.str (Str.ofString "in"), .int k, .int b]
  | .out k => .tuple [.str (Str.ofString "out"), .int k]
theorem mv_alike (a b : Mv) : PySem.W.alike a.enc b.enc = true := by cases a <;> cases b <;> simp [Mv.enc, PySem.W.alike, PySem.W.alikeAll]
theorem mv_lay (a : Mv) : a.enc.canLay0 = true ∧ a.enc.depth ≤ 100 := by
  cases a <;> simp [Mv.enc, PyData.canLay0, PyData.canLayAll0, PyData.depth, PyData.depthAll] <;> decide +kernel
theorem sortOk_mvs {l : List Mv} (hl : l.length ≤ 16777216) : sortOk (l.map Mv.enc) = true :=
  sortOk_of (by simpa using hl) (fun d hd => by
    obtain ⟨r, _, rfl⟩ := List.mem_map.mp hd
    exact mv_lay r) (fun a ha b hb => by
    obtain ⟨r, _, rfl⟩ := List.mem_map.mp ha
    obtain ⟨s, _, rfl⟩ := List.mem_map.mp hb
    exact mv_alike r s) (.inl fun d hd => by
    obtain ⟨r, _, rfl⟩ := List.mem_map.mp hd
    cases r <;> rfl)
theorem alike_mvs {l : List Mv} : ∀ a ∈ l.map Mv.enc, ∀ b ∈ l.map Mv.enc, PySem.W.alike a b = true := fun a ha b hb => by
  obtain ⟨r, _, rfl⟩ := List.mem_map.mp ha
  obtain ⟨s, _, rfl⟩ := List.mem_map.mp hb
  exact mv_alike r s
def Port.tideAt (p : Port) (t : Int) : Int := p.tide.getD t.toNat 0
def held (s : Sta) : List Int := (s.at_ 2).map fun k => (s.v k.toNat).2.1
/-- berth j is open to vessel i -/
def mayIn (p : Port) (t : Int) (s : Sta) (i j : Nat) : Bool := !decide ((j : Int) ∈ held s) && (decide ((p.v i).len ≤ (p.b j).1) && decide ((p.v i).dra ≤ p.tideAt t + (p.b j).2))
def insOf (p : Port) (t : Int) (s : Sta) (i m : Nat) : List Mv := ((List.range m).filter (mayIn p t s i)).map fun (j : Nat) => .inn (i : Int) (j : Int)
def mvsOf (p : Port) (t : Int) (s : Sta) (i : Nat) : List Mv :=
  if p.tideAt t + p.bar < (p.v i).dra then [] else (if (s.v i).1 = 1 then insOf p t s i p.berths.length else []) ++ if (s.v i).1 = 2 ∧ (s.v i).2.2 = 0 then [.out (i : Int)] else []
def mvL (p : Port) (t : Int) (s : Sta) (m : Nat) : List Mv := .no :: (List.range m).flatMap (mvsOf p t s)
theorem mvs_len {p : Port} {t : Int} {s : Sta} {i : Nat} : (mvsOf p t s i).length ≤ p.berths.length + 1 := by
  have h : (insOf p t s i p.berths.length).length ≤ p.berths.length := by
    unfold insOf
    rw [List.length_map]
    have := List.length_filter_le (mayIn p t s i) (List.range p.berths.length)
    simpa using this
  unfold mvsOf
  split
  · simp
  · rw [List.length_append]
    split <;> split <;> simp <;> omega
theorem mvL_len {p : Port} {t : Int} {s : Sta} {m : Nat} : (mvL p t s m).length ≤ 1 + m * (p.berths.length + 1) := by
  unfold mvL
  induction m with
  | zero => simp
  | succ m ih =>
    rw [List.range_succ, List.flatMap_append]
    simp at ih ⊢
    have := mvs_len (p := p) (t := t) (s := s) (i := m)
    rw [Nat.succ_mul]
    omega
theorem mvL_succ {p : Port} {t : Int} {s : Sta} {m : Nat} : mvL p t s (m + 1) = mvL p t s m ++ mvsOf p t s m := by
  unfold mvL
  rw [List.range_succ, List.flatMap_append]
  simp
theorem notIn_ints {x : Int} {l : List Int} : inD (.int x) (.list (l.map .int)) = .ok (decide (x ∈ l)) := by
  have : inOk (.int x) (l.map .int) = true := by
    unfold inOk
    simp [flat]
  simp only [inD, this, if_true]
  congr 1
  rw [Bool.eq_iff_iff]
  simp [PyData.eqv]
theorem tide_at {p : Port} (hp : p.Ok) {t : Int} (h0 : 0 ≤ t) (h1 : t < p.ticks) : atL (p.tide.map PyData.int) t = some (.int (p.tideAt t)) := by
  have h2 := hp.tideL
  have := getD_map (f := PyData.int) (d := (0 : Int)) (l := p.tide) (i := t.toNat) (by omega)
  rw [show ((t.toNat : Nat) : Int) = t by omega] at this
  exact this
theorem lawmvs_E {P : Prog} {n : Nat} (h : F.H306 P) (hn : 2 ≤ n) {p : Port} (hp : p.Ok) {t t' : Int} (h0 : 0 ≤ t) (ht : t < p.ticks) {s : Sta} (hs : s.Ok p t') :
    callF P n 306 [.fz p.enc, .fz (.int t), .fz s.enc] = .ok (.ow (sortD ((mvL p t s p.vessels.length).map Mv.enc)), []) := by
  have i302 : P.ios 302 = [false, false] := ios_of h.h302.me
  have h1 := hp.vesselsL
  have h2 := hs.len
  have h3 := hp.berthsL
  refine E_run (by omega) h.me rfl fun k hk => ?_
  have ea := at_E (n := k) h.h302 (by omega) s (by omega) 2
  have al := at_len (s := s) (g := 2)
  have et := tide_at hp h0 ht
  have ev : itemsD .rng [.int (p.vessels.length : Int)] = .ok (range 0 p.vessels.length) := by rw [items_r1 (by omega)]; rfl
  have eb : itemsD .rng [.int (p.berths.length : Int)] = .ok (range 0 p.berths.length) := by rw [items_r1 (by omega)]; rfl
  simp [F.f306, i302, ea, et, Port.enc]
  refine LC_tyM (as := s.at_ 2) PyData.int (fun k => .int (s.v k.toNat).2.1) (fun z hz => ?_) (by omega) ?_
  · obtain ⟨j, rfl, hj, _⟩ := mem_at.mp hz
    have e1 := s_at hj
    simp [Sta.enc, e1, e3]
  · simp [ev]
    refine FL_rng (fun i r => ∃ y5 y7 y8 y9 y10 y11 y12, r = [.fz p.enc, .fz (.int t), .fz s.enc, .ow ((mvL p t s i).map Mv.enc), .fz (.int (p.tideAt t + p.bar)), y5, .ow ((held s).map .int), y7, y8, y9, y10, y11, y12] ∧ EF y5 ∧ EF y7 ∧ EF y8 ∧ EF y9 ∧ EF y10 ∧ EF y11 ∧ EF y12) ?_ (fun i r hi hr => ?_) fun r hr => ?_
    · refine ⟨_, _, _, _, _, _, _, ?_, EF_em, EF_em, EF_em, EF_em, EF_em, EF_em, EF_em⟩
      simp [mvL, Mv.enc, held, Port.enc]
    · obtain ⟨y5, y7, y8, y9, y10, y11, y12, rfl, f5, f7, f8, f9, f10, f11, f12⟩ := hr
      have e1 := v_at hi
      have e2 := s_at (s := s) (i := i) (by omega)
      have ml := mvL_len (p := p) (t := t) (s := s) (m := i)
      have mb : i * (p.berths.length + 1) ≤ 4 * 4 := Nat.mul_le_mul (by omega) (by omega)
      by_cases c1 : p.tideAt t + p.bar < (p.v i).dra
      · have em : mvL p t s (i + 1) = mvL p t s i := by rw [mvL_succ]; unfold mvsOf; rw [if_pos c1]; simp
        simp [pK_EF f5, Port.enc, e1, Ves.enc, cut_take, pK_EF f7, pK_EF f8, Sta.enc, e2, e3, pK_EF f9, pK_EF f10, pK_EF f11, c1]
        exact ⟨_, _, _, _, _, _, _, ⟨by rw [em], rfl, rfl, rfl, rfl, rfl, rfl, rfl⟩, EF_fz, EF_fz, EF_fz, EF_fz, EF_fz, EF_fz, f12⟩
      · by_cases c2 : (s.v i).1 = 1
        · have c3 : ¬ (s.v i).1 = 2 := by omega
          have em : mvL p t s (i + 1) = mvL p t s i ++ insOf p t s i p.berths.length := by rw [mvL_succ]; unfold mvsOf; rw [if_neg c1, if_pos c2, if_neg (fun z => c3 z.1)]; simp
          simp [pK_EF f5, Port.enc, e1, Ves.enc, cut_take, pK_EF f7, pK_EF f8, Sta.enc, e2, e3, pK_EF f9, pK_EF f10, pK_EF f11, c1, c2, eb]
          refine FL_rng (fun j r => ∃ y12, r = [.fz p.enc, .fz (.int t), .fz s.enc, .ow ((mvL p t s i ++ insOf p t s i j).map Mv.enc), .fz (.int (p.tideAt t + p.bar)), .fz (.int i), .ow ((held s).map .int), .fz (.int (p.v i).len), .fz (.int (p.v i).dra), .fz (.int 1), .fz (.int (s.v i).2.1), .fz (.int (s.v i).2.2), y12] ∧ EF y12) ?_ (fun j r hj hr => ?_) fun r hr => ?_
          · refine ⟨_, ?_, f12⟩
            simp [insOf, Port.enc, Sta.enc]
          · obtain ⟨y12, rfl, f12⟩ := hr
            have e4 := b_at hj
            have sn : insOf p t s i (j + 1) = insOf p t s i j ++ if mayIn p t s i j = true then [.inn (i : Int) (j : Int)] else [] := by
              unfold insOf
              rw [List.range_succ, List.filter_append, List.map_append]
              by_cases c : mayIn p t s i j = true
              · rw [List.filter_cons_of_pos c, if_pos c]; rfl
              · rw [List.filter_cons_of_neg c, if_neg c]; rfl
            have il : (insOf p t s i j).length ≤ j := by
              unfold insOf
              rw [List.length_map]
              have := List.length_filter_le (mayIn p t s i) (List.range j)
              simpa using this
            by_cases d1 : (j : Int) ∈ held s
            · have dm : mayIn p t s i j = false := by simp [mayIn, d1]
              simp [pK_EF f12, notIn_ints, d1, Port.enc, e4, DL.e2, et]
              exact ⟨_, ⟨by rw [sn, dm]; simp, rfl⟩, EF_fz⟩
            · by_cases d2 : (p.v i).len ≤ (p.b j).1
              · by_cases d3 : (p.v i).dra ≤ p.tideAt t + (p.b j).2
                · have dm : mayIn p t s i j = true := by simp [mayIn, d1, d2, d3]
                  simp [pK_EF f12, notIn_ints, d1, Port.enc, e4, DL.e2, et, d2, d3]
                  exact ⟨by omega, _, ⟨by rw [sn, dm]; simp [Mv.enc], rfl⟩, EF_fz⟩
                · have dm : mayIn p t s i j = false := by simp [mayIn, d3]
                  simp [pK_EF f12, notIn_ints, d1, Port.enc, e4, DL.e2, et, d2, d3]
                  exact ⟨_, ⟨by rw [sn, dm]; simp, rfl⟩, EF_fz⟩
              · have dm : mayIn p t s i j = false := by simp [mayIn, d2]
                simp [pK_EF f12, notIn_ints, d1, Port.enc, e4, DL.e2, et, d2]
                exact ⟨_, ⟨by rw [sn, dm]; simp, rfl⟩, EF_fz⟩
          · obtain ⟨y12, rfl, f12⟩ := hr
            simp [Port.enc, Sta.enc]
            exact ⟨_, _, _, _, _, _, _, ⟨by rw [em]; simp, rfl, rfl, rfl, rfl, rfl, rfl, rfl⟩, EF_fz, EF_fz, EF_fz, EF_fz, EF_fz, EF_fz, f12⟩
        · by_cases c3 : (s.v i).1 = 2
          · by_cases c4 : (s.v i).2.2 = 0
            · have em : mvL p t s (i + 1) = mvL p t s i ++ [.out (i : Int)] := by rw [mvL_succ]; unfold mvsOf; rw [if_neg c1, if_neg c2, if_pos ⟨c3, c4⟩]; simp
              simp [pK_EF f5, Port.enc, e1, Ves.enc, cut_take, pK_EF f7, pK_EF f8, Sta.enc, e2, e3, pK_EF f9, pK_EF f10, pK_EF f11, c1, c2, c3, c4]
              exact ⟨by omega, _, _, _, _, _, _, _, ⟨by rw [em]; simp [Mv.enc], rfl, rfl, rfl, rfl, rfl, rfl, rfl⟩, EF_fz, EF_fz, EF_fz, EF_fz, EF_fz, EF_fz, f12⟩
            · have em : mvL p t s (i + 1) = mvL p t s i := by rw [mvL_succ]; unfold mvsOf; rw [if_neg c1, if_neg c2, if_neg (fun z => c4 z.2)]; simp
              simp [pK_EF f5, Port.enc, e1, Ves.enc, cut_take, pK_EF f7, pK_EF f8, Sta.enc, e2, e3, pK_EF f9, pK_EF f10, pK_EF f11, c1, c2, c3, c4]
              exact ⟨_, _, _, _, _, _, _, ⟨by rw [em], rfl, rfl, rfl, rfl, rfl, rfl, rfl⟩, EF_fz, EF_fz, EF_fz, EF_fz, EF_fz, EF_fz, f12⟩
          · have em : mvL p t s (i + 1) = mvL p t s i := by rw [mvL_succ]; unfold mvsOf; rw [if_neg c1, if_neg c2, if_neg (fun z => c3 z.1)]; simp
            simp [pK_EF f5, Port.enc, e1, Ves.enc, cut_take, pK_EF f7, pK_EF f8, Sta.enc, e2, e3, pK_EF f9, pK_EF f10, pK_EF f11, c1, c2, c3]
            exact ⟨_, _, _, _, _, _, _, ⟨by rw [em], rfl, rfl, rfl, rfl, rfl, rfl, rfl⟩, EF_fz, EF_fz, EF_fz, EF_fz, EF_fz, EF_fz, f12⟩
    · obtain ⟨y5, y7, y8, y9, y10, y11, y12, rfl, f5, f7, f8, f9, f10, f11, f12⟩ := hr
      have ml := mvL_len (p := p) (t := t) (s := s) (m := p.vessels.length)
      have mb : p.vessels.length * (p.berths.length + 1) ≤ 4 * 4 := Nat.mul_le_mul (by omega) (by omega)
      have so : sortOk ((mvL p t s p.vessels.length).map Mv.enc) = true := sortOk_mvs (by omega)
      simp [so]
end DL


set_option Elab.async false
set_option linter.all false
set_option maxRecDepth 100000
set_option maxHeartbeats 4000000
set_option autoImplicit false
/-! SPV: states drawn, all of it. -/
namespace DL
open PySem
def movedS (p : Port) (s : Sta) : Mv → Sta
  | .no => s
  | .inn k b => putS s k.toNat (2, b, (p.v k.toNat).work)
  | .out k => putS s k.toNat (3, 0, 0)
/-- a movement that names a vessel and a berth -/
def Mv.In (p : Port) : Mv → Prop
  | .no => True
  | .inn k b => 0 ≤ k ∧ k < p.vessels.length ∧ 0 ≤ b ∧ b < p.berths.length
  | .out k => 0 ≤ k ∧ k < p.vessels.length
theorem lawmoved_E {P : Prog} {n : Nat} (h : F.H307 P) (hn : 2 ≤ n) {p : Port} (hp : p.Ok) {t : Int} {s : Sta} (hs : s.Ok p t) {mv : Mv} (hm : mv.In p) : callF P n 307 [.fz p.enc, .fz s.enc, .fz mv.enc] = .ok (.fz (movedS p s mv).enc, []) := by
  have i303 : P.ios 303 = [false, false, false] := ios_of h.h303.me
  have h1 := hp.vesselsL
  have h2 := hs.len
  refine E_run (by omega) h.me rfl fun k hk => ?_
  cases mv with
  | no => simp [F.f307, Mv.enc, movedS]
  | inn v b =>
    obtain ⟨m1, m2, m3, m4⟩ := hm
    obtain ⟨j, rfl⟩ := Int.eq_ofNat_of_zero_le m1
    have e := lawput_E (n := k) h.h303 (by omega) s (by omega) (i := j) (by omega) (2, b, (p.v j).work)
    have e1 := v_at (p := p) (i := j) (by omega)
    simp only [e3] at e
    simp [F.f307, Mv.enc, movedS, i303, Port.enc, e1, Ves.enc, e]
  | out v =>
    obtain ⟨m1, m2⟩ := hm
    obtain ⟨j, rfl⟩ := Int.eq_ofNat_of_zero_le m1
    have e := lawput_E (n := k) h.h303 (by omega) s (by omega) (i := j) (by omega) (3, 0, 0)
    simp only [e3] at e
    simp [F.f307, Mv.enc, movedS, i303, Port.enc, e]
theorem put_ok' {p : Port} {t : Int} {s : Sta} (hs : s.Ok p t) {i : Nat} {x : T3} (hx : i < p.vessels.length → VOk p t (p.v i) x) : (putS s i x).Ok p t := by
  refine ⟨by simp [putS, hs.len], fun j hj => ?_, hs.stops⟩
  have hj : j < s.vs.length := by simpa [putS] using hj
  have e : (putS s i x).v j = if i = j then x else s.v j := by
    simp only [Sta.v, putS, List.getD, List.getElem?_set]
    by_cases c : i = j
    · subst c; simp [hj]
    · simp [c]
  rw [e]
  by_cases c : i = j
  · subst c
    rw [if_pos rfl]
    exact hx (by rw [← hs.len]; exact hj)
  · rw [if_neg c]; exact hs.vs j hj
theorem vin {p : Port} {i : Nat} (h : i < p.vessels.length) : p.v i ∈ p.vessels := by
  unfold Port.v
  rw [List.getD, List.getElem?_eq_getElem h]
  exact List.getElem_mem _
theorem moved_ok {p : Port} (hp : p.Ok) {t : Int} {s : Sta} (hs : s.Ok p t) {mv : Mv} (hm : mv.In p) : (movedS p s mv).Ok p t := by
  cases mv with
  | no => exact hs
  | inn k b =>
    obtain ⟨m1, m2, m3, m4⟩ := hm
    refine put_ok' hs fun hi => .inr (.inr (.inl ⟨b, _, rfl, m3, m4, ?_, ?_⟩))
    · have := (hp.vessels _ (vin hi)).work; omega
    · omega
  | out k => exact put_ok' hs fun _ => .inr (.inr (.inr rfl))
theorem mvL_in {p : Port} {t t' : Int} {s : Sta} (hs : s.Ok p t') : ∀ mv ∈ mvL p t s p.vessels.length, mv.In p := by
  intro mv hm
  unfold mvL at hm
  rcases List.mem_cons.mp hm with rfl | hm
  · trivial
  · obtain ⟨i, hi, hm⟩ := List.mem_flatMap.mp hm
    have hi : i < p.vessels.length := by simpa using hi
    unfold mvsOf at hm
    split at hm
    · cases hm
    · rcases List.mem_append.mp hm with hm | hm
      · split at hm
        · unfold insOf at hm
          obtain ⟨j, hj, rfl⟩ := List.mem_map.mp hm
          have hj := (List.mem_filter.mp hj).1
          simp at hj
          exact ⟨by omega, by omega, by omega, by omega⟩
        · cases hm
      · split at hm
        · simp at hm
          subst hm
          exact ⟨by omega, by omega⟩
        · cases hm
def busy (s : Sta) : List Int := ((s.at_ 2).filter fun k => decide (0 < (s.v k.toNat).2.2)).map fun k => (s.v k.toNat).2.1
def sortI (l : List Int) : List Int := l.mergeSort fun a b => PySem.W.dataLe false id (PyData.int a) (PyData.int b)
theorem sortI_eq (l : List Int) : sortD (l.map .int) = (sortI l).map .int := (List.map_mergeSort (f := PyData.int) fun _ _ _ _ => rfl).symm
theorem sortI_perm (l : List Int) : (sortI l).Perm l := List.mergeSort_perm ..
theorem sortI_len {l : List Int} : (sortI l).length = l.length := (sortI_perm l).length_eq
def stopsOf (s : Sta) : List (List Int) := (sortR (subsI (sortI (busy s)))).filter fun r => decide ((r.length : Int) ≤ s.stops)
theorem busy_len {s : Sta} : (busy s).length ≤ s.vs.length := by
  unfold busy
  rw [List.length_map]
  exact Nat.le_trans (List.length_filter_le _ _) at_len
theorem lawstops_E {P : Prog} {n : Nat} (h : F.H308 P) (hn : 2 ≤ n) {p : Port} (hp : p.Ok) {t : Int} {s : Sta} (hs : s.Ok p t) : callF P n 308 [.fz p.enc, .fz s.enc] = .ok (.ow ((stopsOf s).map rowE), []) := by
  have i260 : P.ios 260 = [false] := ios_of h.h260.me
  have i302 : P.ios 302 = [false, false] := ios_of h.h302.me
  have h1 := hp.vesselsL
  have h2 := hs.len
  refine E_run (by omega) h.me rfl fun k hk => ?_
  have ea := at_E (n := k) h.h302 (by omega) s (by omega) 2
  have al := at_len (s := s) (g := 2)
  have bl := busy_len (s := s)
  have es := subs_E (n := k) h.h260 (by omega) (sortI (busy s)) (by rw [sortI_len]; omega)
  have sl : (subsI (sortI (busy s))).length ≤ 16 := by
    rw [subs_len, sortI_len]
    exact Nat.le_trans (Nat.pow_le_pow_right (by omega) (show _ ≤ 4 by omega)) (by decide)
  simp [F.f308, i302, ea]
  refine LC_ty (as := s.at_ 2) PyData.int (fun k => decide (0 < (s.v k.toNat).2.2)) (fun k => .int (s.v k.toNat).2.1) (fun z hz => ?_) (by omega) ?_
  · obtain ⟨j, rfl, hj, _⟩ := mem_at.mp hz
    have e1 := s_at hj
    by_cases c : 0 < (s.v j).2.2 <;> simp [Sta.enc, e1, e3, c]
  · have eb : (List.map (fun k => PyData.int (s.v k.toNat).2.1) (List.filter (fun k => decide (0 < (s.v k.toNat).2.2)) (s.at_ 2))) = (busy s).map .int := by simp [busy]
    have so : sortOk ((busy s).map .int) = true := sortOk_ints (by omega)
    rw [eb]
    simp [so, i260, sortI_eq, es, sortR_eq]
    refine LC_ty (as := sortR (subsI (sortI (busy s)))) rowE (fun r => decide ((r.length : Int) ≤ s.stops)) rowE (fun z hz => ?_) (by rw [sortR_len]; omega) ?_
    · by_cases c : (z.length : Int) ≤ s.stops <;> simp [rowE, Sta.enc, c]
    · simp [stopsOf]
theorem stops_ne {p : Port} {t : Int} {s : Sta} (hs : s.Ok p t) : stopsOf s ≠ [] := by
  have nilm : ∀ l : List Int, [] ∈ subsI l := by
    intro l
    have key : ∀ (l : List Int) (f : List (List Int)), [] ∈ f → [] ∈ l.foldl (fun found x => found ++ found.map (· ++ [x])) f := by
      intro l
      induction l with
      | nil => intro f h; exact h
      | cons x l ih => intro f h; rw [List.foldl_cons]; exact ih _ (List.mem_append.mpr (.inl h))
    exact key l [[]] (by simp)
  refine List.ne_nil_of_mem (a := []) ?_
  unfold stopsOf
  rw [List.mem_filter]
  exact ⟨mem_sortR.mpr (nilm _), by simpa using hs.stops.1⟩
def workT (r : List Int) (x : T3) : T3 := (x.1, if x.1 = 1 then x.2.1 + 1 else x.2.1, if x.1 = 2 ∧ 0 < x.2.2 ∧ ¬ x.2.1 ∈ r then x.2.2 - 1 else x.2.2)
def workedS (s : Sta) (r : List Int) : Sta := ⟨s.vs.map (workT r), s.stops - r.length⟩
theorem lawworked_E {P : Prog} {n : Nat} (h : F.H309 P) (hn : 1 ≤ n) (s : Sta) (hs : s.vs.length ≤ 1000) (r : List Int) : callF P n 309 [.fz s.enc, .fz (rowE r)] = .ok (.fz (workedS s r).enc, []) := by
  refine E_run hn h.me rfl fun k hk => ?_
  simp [F.f309, Sta.enc, rowE]
  refine FL_ix (fun i q => ∃ y3 y4 y5, q = [.fz s.enc, .fz (rowE r), .ow (((s.vs.take i).map (workT r)).map e3), y3, y4, y5] ∧ EF y3 ∧ EF y4 ∧ EF y5) ?_ (fun i x q hx hq => ?_) fun q hq => ?_
  · exact ⟨_, _, _, rfl, EF_em, EF_em, EF_em⟩
  · obtain ⟨y3, y4, y5, rfl, f3, f4, f5⟩ := hq
    rw [List.getElem?_map] at hx
    obtain ⟨z, hz, rfl⟩ := Option.map_eq_some_iff.mp hx
    obtain ⟨a, b, c⟩ := z
    have hi : i < s.vs.length := (List.getElem?_eq_some_iff.mp hz).1
    have tk : s.vs.take (i + 1) = s.vs.take i ++ [(a, b, c)] := by rw [List.take_succ, hz]; rfl
    rw [tk]
    simp [e3, pK_EF f3, pK_EF f4, pK_EF f5]
    by_cases c1 : a = 1
    · have c2 : ¬ a = 2 := by omega
      simp [c1]
      exact ⟨by omega, _, _, _, ⟨by simp [workT], rfl, rfl, rfl⟩, EF_fz, EF_fz, EF_fz⟩
    · by_cases c2 : a = 2
      · by_cases c3 : 0 < c
        · by_cases c4 : b ∈ r
          · simp [c2, c3, rowE, in_ints, c4]
            exact ⟨by omega, _, _, _, ⟨by simp [workT, c4], rfl, rfl, rfl⟩, EF_fz, EF_fz, EF_fz⟩
          · simp [c2, c3, rowE, in_ints, c4]
            exact ⟨by omega, _, _, _, ⟨by simp [workT, c4, c3], rfl, rfl, rfl⟩, EF_fz, EF_fz, EF_fz⟩
        · simp [c2, c3]
          exact ⟨by omega, _, _, _, ⟨by simp [workT, c3], rfl, rfl, rfl⟩, EF_fz, EF_fz, EF_fz⟩
      · simp [c1, c2]
        exact ⟨by omega, _, _, _, ⟨by simp [workT, c1, c2], rfl, rfl, rfl⟩, EF_fz, EF_fz, EF_fz⟩
  · obtain ⟨y3, y4, y5, rfl, f3, f4, f5⟩ := hq
    simp [List.take_of_length_le, Sta.enc, rowE, workedS]
theorem worked_ok {p : Port} {t : Int} {s : Sta} (hs : s.Ok p t) {r : List Int} (hr : r ∈ stopsOf s) : (workedS s r).Ok p (t + 1) := by
  have hl : (r.length : Int) ≤ s.stops := by
    unfold stopsOf at hr
    simpa using (List.mem_filter.mp hr).2
  have h3 := hs.stops
  refine ⟨by simp [workedS, hs.len], fun i hi => ?_, by simp only [workedS]; omega⟩
  have hi : i < s.vs.length := by simpa [workedS] using hi
  have e : (workedS s r).v i = workT r (s.v i) := by
    simp [workedS, Sta.v, List.getD, hi]
  rw [e]
  rcases hs.vs i hi with z | ⟨w, z, h1, h2⟩ | ⟨b, m, z, h1, h2, h4, h5⟩ | z
  · rw [z]; exact .inl rfl
  · rw [z]; exact .inr (.inl ⟨w + 1, by simp [workT], by omega, by omega⟩)
  · rw [z]
    refine .inr (.inr (.inl ⟨b, if 0 < m ∧ ¬ b ∈ r then m - 1 else m, by simp [workT], h1, h2, ?_, ?_⟩)) <;> split <;> omega
  · rw [z]; exact .inr (.inr (.inr rfl))
theorem pick31_W {P : Prog} {n : Nat} (h : F.H31 P) (hn : 3 ≤ n) {xs : List D} (pv : PV xs) {ds : List D} (hd : ds ≠ []) (hl : ds.length ≤ 1000000) {Q : Val × List (List D) → Prop} (q : ∀ d ∈ ds, ∀ ys, PV ys → Say (Q (.fz d, [ys]))) :
    W (callF P n 31 [.io xs, .fz (.list ds)]) Q := by
  have i9 : P.ios 9 = [true, false] := ios_of h.h9.me
  have : 0 < ds.length := List.length_pos_iff.mpr hd
  refine W_run (by omega) h.me rfl fun k hk => ?_
  simp [F.f31, i9]
  refine draw_W h.h9 (by omega) pv (by omega) (by omega) fun v ys pv a0 a1 => ?_
  simp
  refine pick_W a0 a1 fun d hd => ?_
  simp
  exact say (q d hd ys pv)
theorem somestate_W {P : Prog} {n : Nat} (h : F.H310 P) (hn : 4 ≤ n) {xs : List D} (pv : PV xs) {p : Port} (hp : p.Ok) {t : Int} (h0 : 0 ≤ t) (ht : t ≤ p.ticks) {Q : Val × List (List D) → Prop} (q : ∀ s : Sta, s.Ok p t → ∀ ys, PV ys → Say (Q (.fz s.enc, [ys]))) :
    W (callF P n 310 [.io xs, .fz p.enc, .fz (.int t)]) Q := by
  have i9 : P.ios 9 = [true, false] := ios_of h.h9.me
  have i31 : P.ios 31 = [true, false] := ios_of h.h31.me
  have i296 : P.ios 296 = [false] := ios_of h.h296.me
  have i304 : P.ios 304 = [false, false, false] := ios_of h.h304.me
  have i305 : P.ios 305 = [false, false] := ios_of h.h305.me
  have i306 : P.ios 306 = [false, false, false] := ios_of h.h306.me
  have i307 : P.ios 307 = [false, false, false] := ios_of h.h307.me
  have i308 : P.ios 308 = [false, false] := ios_of h.h308.me
  have i309 : P.ios 309 = [false, false] := ios_of h.h309.me
  have h1 := hp.ticks
  have h2 := hp.vesselsL
  have h3 := hp.berthsL
  refine W_run (by omega) h.me rfl fun k hk => ?_
  have es := start_E (n := k) h.h296 (by omega) hp
  have er : itemsD .rng [.int t] = .ok (range 0 t.toNat) := items_r1 (by omega)
  simp [F.f310, i296, es, er]
  refine FL_rng (fun i r => ∃ (ps : List D) (s : Sta) (y4 y5 : Val), r = [.io ps, .fz p.enc, .fz (.int t), .fz s.enc, y4, y5] ∧ PV ps ∧ s.Ok p i ∧ EF y4 ∧ EW y5) ?_ (fun i r hi hr => ?_) fun r hr => ?_
  · exact ⟨_, _, _, _, rfl, pv, start_ok hp, EF_em, EW_em⟩
  · obtain ⟨ps, s, y4, y5, rfl, pv, hs, f4, f5⟩ := hr
    have ea := lawarr_E (n := k) h.h304 (by omega) hp (t := (i : Int)) hs
    have hl := hs.len
    simp [pK_EF f4, i305, i31, i304, ea]
    have al : (arrs p i s).length ≤ 16 := by
      unfold arrs
      refine Nat.le_trans (List.length_filter_le _ _) ?_
      rw [sortR_len, subs_len]
      have := at_len (s := s) (g := 0)
      exact Nat.le_trans (Nat.pow_le_pow_right (by omega) (show _ ≤ 4 by omega)) (by decide)
    refine pick31_W h.h31 (by omega) pv (by simpa using arrs_ne hp hs) (by simp; omega) fun d hd ys pv => ?_
    obtain ⟨row, hrow, rfl⟩ := List.mem_map.mp hd
    have e1 := lawarrived_E (n := k) h.h305 (by omega) s (by omega) row
    simp [e1]
    have hs1 := arrived_ok hs (by omega) row
    have e2 := lawmvs_E (n := k) h.h306 (by omega) hp (t := (i : Int)) (by omega) (by omega) hs1
    simp [i306, e2, pK_EW f5, i307, i9]
    refine draw_W h.h9 (by omega) pv (by omega) (by omega) fun v ys pv a0 a1 => ?_
    have ml := mvL_len (p := p) (t := (i : Int)) (s := arrivedS s row) (m := p.vessels.length)
    have mb : p.vessels.length * (p.berths.length + 1) ≤ 4 * 4 := Nat.mul_le_mul (by omega) (by omega)
    have ne : (mvL p i (arrivedS s row) p.vessels.length).map Mv.enc ≠ [] := by simp [mvL]
    by_cases c : v = 0
    · have ne2 : sortD ((mvL p i (arrivedS s row) p.vessels.length).map Mv.enc) ≠ [] := fun z => ne (by have := sortD_len (l := (mvL p i (arrivedS s row) p.vessels.length).map Mv.enc); rw [z] at this; exact List.eq_nil_of_length_eq_zero this.symm)
      obtain ⟨d0, hd0, hd1⟩ : ∃ d, atL (sortD ((mvL p i (arrivedS s row) p.vessels.length).map Mv.enc)) (-1) = some d ∧ d ∈ sortD ((mvL p i (arrivedS s row) p.vessels.length).map Mv.enc) := by
        have hl := List.length_pos_iff.mpr ne2
        rw [atL_neg (by omega) (by omega)]
        exact ⟨_, List.getElem?_eq_getElem (by omega), List.getElem_mem _⟩
      obtain ⟨mv, hmv, rfl⟩ := List.mem_map.mp (mem_sortD.mp hd1)
      simp [c, hd0]
      have hmm := mvL_in hs1 mv hmv
      have e3 := lawmoved_E (n := k) h.h307 (by omega) hp hs1 hmm
      have hs2 := moved_ok hp hs1 hmm
      have e4 := lawstops_E (n := k) h.h308 (by omega) hp hs2
      have hl2 := hs2.len
      have bl := busy_len (s := movedS p (arrivedS s row) mv)
      have sl : (stopsOf (movedS p (arrivedS s row) mv)).length ≤ 16 := by
        unfold stopsOf
        refine Nat.le_trans (List.length_filter_le _ _) ?_
        rw [sortR_len, subs_len, sortI_len]
        exact Nat.le_trans (Nat.pow_le_pow_right (by omega) (show _ ≤ 4 by omega)) (by decide)
      simp [e3, i309, i31, i308, e4]
      refine pick31_W h.h31 (by omega) pv (by simpa using stops_ne hs2) (by simp; omega) fun d hd ys pv => ?_
      obtain ⟨rw2, hrw2, rfl⟩ := List.mem_map.mp hd
      have e5 := lawworked_E (n := k) h.h309 (by omega) (movedS p (arrivedS s row) mv) (by omega) rw2
      have hs3 := worked_ok hs2 hrw2
      simp [e5]
      exact ⟨_, _, _, _, ⟨rfl, rfl, rfl, rfl⟩, pv, hs3, EF_fz, by first | exact EW_ow | exact EW_fz⟩
    · simp [c, i31]
      refine pick31_W h.h31 (by omega) pv (fun z => ne (by have := sortD_len (l := (mvL p i (arrivedS s row) p.vessels.length).map Mv.enc); rw [z] at this; exact List.eq_nil_of_length_eq_zero this.symm)) (by rw [sortD_len]; simp; omega) fun d hd ys pv => ?_
      obtain ⟨mv, hmv, rfl⟩ := List.mem_map.mp (mem_sortD.mp hd)
      simp
      have hmm := mvL_in hs1 mv hmv
      have e3 := lawmoved_E (n := k) h.h307 (by omega) hp hs1 hmm
      have hs2 := moved_ok hp hs1 hmm
      have e4 := lawstops_E (n := k) h.h308 (by omega) hp hs2
      have hl2 := hs2.len
      have bl := busy_len (s := movedS p (arrivedS s row) mv)
      have sl : (stopsOf (movedS p (arrivedS s row) mv)).length ≤ 16 := by
        unfold stopsOf
        refine Nat.le_trans (List.length_filter_le _ _) ?_
        rw [sortR_len, subs_len, sortI_len]
        exact Nat.le_trans (Nat.pow_le_pow_right (by omega) (show _ ≤ 4 by omega)) (by decide)
      simp [e3, i309, i31, i308, e4]
      refine pick31_W h.h31 (by omega) pv (by simpa using stops_ne hs2) (by simp; omega) fun d hd ys pv => ?_
      obtain ⟨rw2, hrw2, rfl⟩ := List.mem_map.mp hd
      have e5 := lawworked_E (n := k) h.h309 (by omega) (movedS p (arrivedS s row) mv) (by omega) rw2
      have hs3 := worked_ok hs2 hrw2
      simp [e5]
      exact ⟨_, _, _, _, ⟨rfl, rfl, rfl, rfl⟩, pv, hs3, EF_fz, by first | exact EW_ow | exact EW_fz⟩
  · obtain ⟨ps, s, y4, y5, rfl, pv, hs, f4, f5⟩ := hr
    rw [show ((t.toNat : Nat) : Int) = t by omega] at hs
    simp
    exact say (q s hs ps pv)
end DL


set_option Elab.async false
set_option linter.all false
set_option maxRecDepth 100000
set_option maxHeartbeats 4000000
set_option autoImplicit false
/-! SPX: alike results, and the program's own steps of a port. -/
namespace DL
open PySem
/-- plain data of at most n levels -/
def smp : Nat → D → Bool
  | _, .none => true
  | _, .bool _ => true
  | _, .int _ => true
  | _, .str _ => true
  | n + 1, .list xs => decide (xs.length ≤ 1000000) && xs.all (smp n)
  | n + 1, .tuple xs => decide (xs.length ≤ 1000000) && xs.all (smp n)
  | _, _ => false
theorem smp_tup {n : Nat} {xs : List D} (h : smp n (.tuple xs) = true) : ∃ n', n = n' + 1 ∧ xs.length ≤ 1000000 ∧ ∀ x ∈ xs, smp n' x = true := by
  cases n with
  | zero => simp [smp] at h
  | succ n =>
    simp only [smp, Bool.and_eq_true, decide_eq_true_eq, List.all_eq_true] at h
    exact ⟨n, rfl, h.1, h.2⟩
theorem smp_lst {n : Nat} {xs : List D} (h : smp n (.list xs) = true) : ∃ n', n = n' + 1 ∧ xs.length ≤ 1000000 ∧ ∀ x ∈ xs, smp n' x = true := by
  cases n with
  | zero => simp [smp] at h
  | succ n =>
    simp only [smp, Bool.and_eq_true, decide_eq_true_eq, List.all_eq_true] at h
    exact ⟨n, rfl, h.1, h.2⟩
theorem smp_mkT {n : Nat} {xs : List D} (h : xs.length ≤ 1000000) (h2 : ∀ x ∈ xs, smp n x = true) : smp (n + 1) (.tuple xs) = true := by
  simp only [smp, Bool.and_eq_true, decide_eq_true_eq, List.all_eq_true]; exact ⟨h, h2⟩
@[simp] theorem smp_i {n : Nat} {i : Int} : smp n (.int i) = true := by cases n <;> rfl
@[simp] theorem smp_b {n : Nat} {i : Bool} : smp n (.bool i) = true := by cases n <;> rfl
@[simp] theorem smp_s {n : Nat} {i : Str} : smp n (.str i) = true := by cases n <;> rfl
@[simp] theorem smp_n {n : Nat} : smp n .none = true := by cases n <;> rfl
theorem same_E {P : Prog} (h : F.H6 P) : ∀ {j n : Nat} {d : D} (_ : smp j d = true) (_ : j + 1 ≤ n), callF P n 6 [.fz d, .fz d] = .ok (.fz (.bool true), [])
  | j, n, .none, _, hn => E_run (by omega) h.me rfl fun k hk => by simp [F.f6]
  | j, n, .bool b, _, hn => E_run (by omega) h.me rfl fun k hk => by simp [F.f6]
  | j, n, .int b, _, hn => E_run (by omega) h.me rfl fun k hk => by simp [F.f6]
  | j, n, .str b, _, hn => E_run (by omega) h.me rfl fun k hk => by simp [F.f6]
  | j, n, .dict b, hs, hn => by cases j <;> simp [smp] at hs
  | j, n, .list xs, hs, hn => by
    have i6 : P.ios 6 = [false, false] := ios_of h.me
    obtain ⟨j1, rfl, h1, h2⟩ := smp_lst hs
    have er : itemsD .rng [.int (xs.length : Int)] = .ok (range 0 xs.length) := by rw [items_r1 (by omega)]; rfl
    refine E_run (by omega) h.me rfl fun k hk => ?_
    simp [F.f6, er]
    rw [rng0]
    refine LC_ty (as := List.range xs.length) _ (fun _ => false) (fun _ => .none) (fun i hi => ?_) (by simp; omega) ?_
    · have hi : i < xs.length := by simpa using hi
      have e1 : atL xs (i : Int) = some xs[i] := by rw [atL_nat, List.getElem?_eq_getElem hi]
      have e2 := same_E h (h2 xs[i] (List.getElem_mem hi)) (n := k) (by omega)
      simp [e1, i6, e2]
    · simp
  | j, n, .tuple xs, hs, hn => by
    have i6 : P.ios 6 = [false, false] := ios_of h.me
    obtain ⟨j1, rfl, h1, h2⟩ := smp_tup hs
    have er : itemsD .rng [.int (xs.length : Int)] = .ok (range 0 xs.length) := by rw [items_r1 (by omega)]; rfl
    refine E_run (by omega) h.me rfl fun k hk => ?_
    simp [F.f6, er]
    rw [rng0]
    refine LC_ty (as := List.range xs.length) _ (fun _ => false) (fun _ => .none) (fun i hi => ?_) (by simp; omega) ?_
    · have hi : i < xs.length := by simpa using hi
      have e1 : atL xs (i : Int) = some xs[i] := by rw [atL_nat, List.getElem?_eq_getElem hi]
      have e2 := same_E h (h2 xs[i] (List.getElem_mem hi)) (n := k) (by omega)
      simp [e1, i6, e2]
    · simp
theorem smp_e3 (x : T3) : smp 1 (e3 x) = true := by simp [e3, smp]
theorem smp_sta (s : Sta) (h : s.vs.length ≤ 1000000) : smp 3 s.enc = true := by
  refine smp_mkT (by simp) fun x hx => ?_
  simp at hx
  rcases hx with rfl | rfl
  · exact smp_mkT (by simpa using h) fun y hy => by
      obtain ⟨z, _, rfl⟩ := List.mem_map.mp hy
      exact smp_e3 z
  · simp
/-- the program's own -/
theorem vat_E {P : Prog} {n : Nat} (h : F.H312 P) (hn : 1 ≤ n) (s : Sta) (hs : s.vs.length ≤ 1000) (g : Int) : callF P n 312 [.fz s.enc, .fz (.int g)] = .ok (.ow ((s.at_ g).map .int), []) := by
  refine E_run hn h.me rfl fun k hk => ?_
  have e : itemsD .rng [.int (s.vs.length : Int)] = .ok (range 0 s.vs.length) := by rw [items_r1 (by omega)]; rfl
  simp [F.f312, Sta.enc, e]
  rw [rng0]
  refine LC_ty _ (fun i => decide ((s.v i).1 = g)) (fun (i : Nat) => .int (i : Int)) (fun i hi => ?_) (by simp; omega) ?_
  · have hi : i < s.vs.length := by simpa using hi
    have e1 := s_at hi
    simp [e1, e3]
  · simp [Sta.at_, Sta.atN]
theorem with_E {P : Prog} {n : Nat} (h : F.H313 P) (hn : 1 ≤ n) (s : Sta) (hs : s.vs.length ≤ 1000) {i : Nat} (hi : i < s.vs.length) (x : T3) : callF P n 313 [.fz s.enc, .fz (.int (i : Int)), .fz (e3 x)] = .ok (.fz (putS s i x).enc, []) := by
  refine E_run hn h.me rfl fun k hk => ?_
  have c1 : cutL (s.vs.map e3) none (some (i : Int)) = (s.vs.take i).map e3 := by rw [cut_take (by omega)]; simp
  have c2 : cutL (s.vs.map e3) (some ((i : Int) + 1)) none = (s.vs.drop (i + 1)).map e3 := by rw [cut_drop (by omega)]; simp
  simp [F.f313, Sta.enc, c1, c2, intD]
  refine ⟨by omega, by omega, ?_⟩
  simp [putS, List.set_eq_take_append_cons_drop, hi]
def agr (p : Port) (t : Int) (s : Sta) : List Int := (s.at_ 2).filter fun k => decide (p.tideAt t + (p.b (s.v k.toNat).2.1.toNat).2 < (p.v k.toNat).dra)
end DL


set_option Elab.async false
set_option linter.all false
set_option maxRecDepth 100000
set_option maxHeartbeats 4000000
set_option autoImplicit false
/-! L44: arrivals. -/
namespace DL
open PySem
theorem psubs_E {P : Prog} {n : Nat} (h : F.H262 P) (hn : 1 ≤ n) (l : List Int) (hl : l.length ≤ 20) : callF P n 262 [.fz (.list (l.map .int))] = .ok (.ow (sortD ((subsI l).map rowE)), []) := by
  refine E_run hn h.me rfl fun k hk => ?_
  have pw : ∀ i, i ≤ l.length → 2 ^ i ≤ 1048576 := fun i hi => Nat.le_trans (Nat.pow_le_pow_right (by omega) (show i ≤ 20 by omega)) (by decide)
  simp [F.f262]
  refine FL_ix (fun i r => ∃ y2, r = [.fz (.list (l.map .int)), .ow ((subsI (l.take i)).map rowE), y2, .em] ∧ EF y2) ?_ (fun i x r hx hr => ?_) fun r hr => ?_
  · exact ⟨_, rfl, EF_em⟩
  · obtain ⟨y2, rfl, f2⟩ := hr
    rw [List.getElem?_map] at hx
    obtain ⟨z, hz, rfl⟩ := Option.map_eq_some_iff.mp hx
    have hi : i < l.length := (List.getElem?_eq_some_iff.mp hz).1
    have tk : l.take (i + 1) = l.take i ++ [z] := by rw [List.take_succ, hz]; rfl
    have l1 := subs_len (l.take i)
    have l2 := pw i (by omega)
    rw [List.length_take, Nat.min_eq_left (by omega)] at l1
    simp [pK_EF f2]
    refine LC_tyM rowE (fun r => rowE (r ++ [z])) (fun r hr => ?_) (by omega) ?_
    · have := (subs_mem hr).length_le
      simp [rowE]
      simp at this; omega
    · simp
      refine ⟨by omega, _, ⟨?_, rfl⟩, EF_fz⟩
      rw [tk, subs_snoc]
      simp [Function.comp_def]
  · obtain ⟨y2, rfl, f2⟩ := hr
    have l1 := subs_len l
    have l2 := pw l.length (by omega)
    have so : sortOk ((subsI l).map rowE) = true := sortOk_rows (by omega)
    simp [List.take_of_length_le, so]
def canL (p : Port) (t : Int) (s : Sta) : List Int := (s.at_ 0).filter fun k => decide ((p.v k.toNat).early ≤ t)
def mustL (p : Port) (t : Int) (s : Sta) : List Int := (s.at_ 0).filter fun k => decide ((p.v k.toNat).late ≤ t)
theorem arrs_eq {p : Port} {t : Int} {s : Sta} : arrs p t s = (sortR (subsI (canL p t s))).filter fun r => (mustL p t s).all fun k => decide (k ∈ r) := by
  have e1 : sortR (subsI (canL p t s)) = (sortR (subsI (s.at_ 0))).filter fun r => r.all fun k => decide ((p.v k.toNat).early ≤ t) := by
    rw [sortR_filter, subs_filter]; rfl
  rw [e1, List.filter_filter]
  unfold arrs
  congr 1
  funext r
  unfold okRow mustL
  rw [List.all_filter, Bool.and_comm]
  congr 1
  congr 1
  funext k
  by_cases c : k ∈ r <;> by_cases c2 : t < (p.v k.toNat).late
  · simp [c]
  · simp [c]
  · have : ¬ (p.v k.toNat).late ≤ t := by omega
    simp [c, c2, this]
  · have : (p.v k.toNat).late ≤ t := by omega
    simp [c, c2, this]
theorem parr_E {P : Prog} {n : Nat} (h : F.H314 P) (hn : 2 ≤ n) {p : Port} (hp : p.Ok) {t t' : Int} {s : Sta} (hs : s.Ok p t') : callF P n 314 [.fz p.enc, .fz (.int t), .fz s.enc] = .ok (.ow ((arrs p t s).map rowE), []) := by
  have i262 : P.ios 262 = [false] := ios_of h.h262.me
  have i312 : P.ios 312 = [false, false] := ios_of h.h312.me
  have g10 := h.g10
  have h1 := hp.vesselsL
  have h2 := hs.len
  refine E_run (by omega) h.me rfl fun k hk => ?_
  have ea := vat_E (n := k) h.h312 (by omega) s (by omega) 0
  have al := at_len (s := s) (g := 0)
  have cl : (canL p t s).length ≤ 4 := Nat.le_trans (List.length_filter_le _ _) (by omega)
  have ml : (mustL p t s).length ≤ 4 := Nat.le_trans (List.length_filter_le _ _) (by omega)
  have es := psubs_E (n := k) h.h262 (by omega) (canL p t s) (by omega)
  have sl : (subsI (canL p t s)).length ≤ 16 := by
    rw [subs_len]
    exact Nat.le_trans (Nat.pow_le_pow_right (by omega) (show _ ≤ 4 by omega)) (by decide)
  have vi : ∀ z ∈ s.at_ 0, ∃ j : Nat, z = j ∧ j < p.vessels.length := fun z hz => by
    obtain ⟨j, rfl, hj, _⟩ := mem_at.mp hz
    exact ⟨j, rfl, by omega⟩
  simp [F.f314, i312, g10, ea]
  refine LC_ty (as := s.at_ 0) PyData.int (fun k => decide ((p.v k.toNat).early ≤ t)) PyData.int (fun z hz => ?_) (by omega) ?_
  · obtain ⟨j, rfl, hj⟩ := vi z hz
    have e1 := v_at hj
    by_cases c : (p.v j).early ≤ t <;> simp [e1, c]
  · simp
    refine LC_ty (as := s.at_ 0) PyData.int (fun k => decide ((p.v k.toNat).late ≤ t)) PyData.int (fun z hz => ?_) (by omega) ?_
    · obtain ⟨j, rfl, hj⟩ := vi z hz
      have e1 := v_at hj
      by_cases c : (p.v j).late ≤ t <;> simp [e1, c]
    · have es' : callF P k 262 [.fz (.list (((s.at_ 0).filter fun k => decide ((p.v k.toNat).early ≤ t)).map .int))] = .ok (.ow (sortD ((subsI (canL p t s)).map rowE)), []) := es
      simp [i262, es', sortR_eq]
      refine LC_ty (as := sortR (subsI (canL p t s))) rowE (fun r => (mustL p t s).all fun k => decide (k ∈ r)) rowE (fun r hr => ?_) (by rw [sortR_len]; omega) ?_
      · simp [rowE]
        refine LC_tyM (as := mustL p t s) PyData.int (fun k => .bool (decide (k ∈ r))) (fun z hz => ?_) (by omega) ?_
        · simp [in_ints]
        · by_cases c : ((mustL p t s).all fun k => decide (k ∈ r)) = true
          · simp [c]
          · rw [Bool.not_eq_true] at c
            simp [c]
      · simp [arrs_eq]
theorem put_v {s : Sta} {i j : Nat} {x : T3} (hj : j < s.vs.length) : (putS s i x).v j = if i = j then x else s.v j := by
  simp only [Sta.v, putS, List.getD, List.getElem?_set]
  by_cases c : i = j
  · subst c; simp [hj]
  · simp [c]
theorem sta_ext {s t : Sta} (hl : s.vs.length = t.vs.length) (hs : s.stops = t.stops) (hv : ∀ i, i < s.vs.length → s.v i = t.v i) : s = t := by
  obtain ⟨a, b⟩ := s
  obtain ⟨c, d⟩ := t
  dsimp only at hl hs
  subst hs
  congr 1
  refine List.ext_getElem hl fun i h1 h2 => ?_
  have := hv i h1
  simpa [Sta.v, List.getD, h1, h2] using this
def putAll (s : Sta) (q : List Int) : Sta := q.foldl (fun s k => putS s k.toNat (1, 0, 0)) s
theorem putAll_v : ∀ (q : List Int) (s : Sta), (putAll s q).vs.length = s.vs.length ∧ (putAll s q).stops = s.stops ∧ ((∀ k ∈ q, 0 ≤ k) → ∀ i, i < s.vs.length → (putAll s q).v i = if (i : Int) ∈ q then (1, 0, 0) else s.v i)
  | [], s => ⟨rfl, rfl, fun _ i _ => by simp [putAll]⟩
  | k :: q, s => by
    obtain ⟨h1, h2, h3⟩ := putAll_v q (putS s k.toNat (1, 0, 0))
    have hl : (putS s k.toNat (1, 0, 0)).vs.length = s.vs.length := by simp [putS]
    refine ⟨h1.trans hl, h2, fun hk i hi => ?_⟩
    show (putAll (putS s k.toNat (1, 0, 0)) q).v i = _
    rw [h3 (fun j hj => hk j (by simp [hj])) i (by omega), put_v hi]
    have hk0 := hk k (by simp)
    by_cases c : (i : Int) ∈ q
    · simp [c]
    · by_cases c2 : k = i
      · have : k.toNat = i := by omega
        simp [c2]
      · have : ¬ k.toNat = i := by omega
        have c3 : ¬ (i : Int) = k := fun z => c2 z.symm
        simp [c, c3, this]
theorem putAll_arr {s : Sta} {q : List Int} (hq : ∀ k ∈ q, 0 ≤ k) : putAll s q = arrivedS s q := by
  obtain ⟨h1, h2, h3⟩ := putAll_v q s
  refine sta_ext (h1.trans (by simp [arrivedS])) h2 fun i hi => ?_
  rw [h1] at hi
  rw [h3 hq i hi, arrived_v hi]
theorem parrived_E {P : Prog} {n : Nat} (h : F.H315 P) (hn : 2 ≤ n) (s : Sta) (hs : s.vs.length ≤ 1000) (r : List Int) (hr : ∀ k ∈ r, ∃ j : Nat, k = j ∧ j < s.vs.length) : callF P n 315 [.fz s.enc, .fz (rowE r)] = .ok (.fz (arrivedS s r).enc, []) := by
  have i313 : P.ios 313 = [false, false, false] := ios_of h.h313.me
  have g11 := h.g11
  refine E_run (by omega) h.me rfl fun k hk => ?_
  simp [F.f315, rowE]
  refine FL_ix (fun i q => ∃ y2, q = [.fz (putAll s (r.take i)).enc, .fz (rowE r), y2] ∧ EF y2) ⟨_, rfl, EF_em⟩ (fun i x q hx hq => ?_) fun q hq => ?_
  · obtain ⟨y2, rfl, f2⟩ := hq
    rw [List.getElem?_map] at hx
    obtain ⟨z, hz, rfl⟩ := Option.map_eq_some_iff.mp hx
    obtain ⟨j, rfl, hj⟩ := hr z (List.mem_of_getElem? hz)
    have tk : r.take (i + 1) = r.take i ++ [(j : Int)] := by rw [List.take_succ, hz]; rfl
    have pl := (putAll_v (r.take i) s).1
    have e := with_E (n := k) h.h313 (by omega) (putAll s (r.take i)) (by omega) (i := j) (by omega) (1, 0, 0)
    simp only [e3] at e
    simp [pK_EF f2, i313, g11, e, rowE]
    refine ⟨_, ⟨?_, rfl⟩, EF_fz⟩
    rw [tk]
    unfold putAll
    rw [List.foldl_append]
    rfl
  · obtain ⟨y2, rfl, f2⟩ := hq
    have e : putAll s r = arrivedS s r := putAll_arr fun k hk => by obtain ⟨j, rfl, _⟩ := hr k hk; omega
    simp [List.take_of_length_le, e]
end DL


set_option Elab.async false
set_option linter.all false
set_option maxRecDepth 100000
set_option maxHeartbeats 4000000
set_option autoImplicit false
/-! L48: vessels aground. -/
namespace DL
open PySem
/-- the state that the law makes: vessels at berths, the others as told -/
def fullS (p : Port) (b : Int) (x : Int → T3) (st : Int) : Sta := ⟨(List.range p.vessels.length).map fun (i : Nat) => if (i : Int) < p.berths.length then (2, (i : Int), b) else x i, st⟩
end DL


set_option Elab.async false
set_option linter.all false
set_option maxRecDepth 100000
set_option maxHeartbeats 4000000
set_option autoImplicit false
/-! L46: stops and works. -/
namespace DL
open PySem
theorem busy_E {P : Prog} {n : Nat} (h : F.H323 P) (hn : 2 ≤ n) {p : Port} (hp : p.Ok) {t : Int} {s : Sta} (hs : s.Ok p t) : callF P n 323 [.fz s.enc] = .ok (.ow ((sortI (busy s)).map .int), []) := by
  have i312 : P.ios 312 = [false, false] := ios_of h.h312.me
  have g12 := h.g12
  have h1 := hp.vesselsL
  have h2 := hs.len
  refine E_run (by omega) h.me rfl fun k hk => ?_
  have ea := vat_E (n := k) h.h312 (by omega) s (by omega) 2
  have al := at_len (s := s) (g := 2)
  have bl := busy_len (s := s)
  simp [F.f323, i312, ea, g12]
  refine LC_ty (as := s.at_ 2) PyData.int (fun k => decide (0 < (s.v k.toNat).2.2)) (fun k => .int (s.v k.toNat).2.1) (fun z hz => ?_) (by omega) ?_
  · obtain ⟨j, rfl, hj, _⟩ := mem_at.mp hz
    have e1 := s_at hj
    by_cases c : 0 < (s.v j).2.2 <;> simp [e1, c]
  · have eb : (List.map (fun k => PyData.int (s.v k.toNat).2.1) (List.filter (fun k => decide (0 < (s.v k.toNat).2.2)) (s.at_ 2))) = (busy s).map .int := by simp [busy]
    have so : sortOk ((busy s).map .int) = true := sortOk_ints (by omega)
    rw [eb]
    simp [so, sortI_eq]
theorem pstops_E {P : Prog} {n : Nat} (h : F.H324 P) (hn : 3 ≤ n) {p : Port} (hp : p.Ok) {t : Int} {s : Sta} (hs : s.Ok p t) : callF P n 324 [.fz p.enc, .fz s.enc] = .ok (.ow ((stopsOf s).map rowE), []) := by
  have i262 : P.ios 262 = [false] := ios_of h.h262.me
  have i323 : P.ios 323 = [false] := ios_of h.h323.me
  have h1 := hp.vesselsL
  have h2 := hs.len
  refine E_run (by omega) h.me rfl fun k hk => ?_
  have ea := busy_E (n := k) h.h323 (by omega) hp hs
  have bl := busy_len (s := s)
  have es := psubs_E (n := k) h.h262 (by omega) (sortI (busy s)) (by rw [sortI_len]; omega)
  have sl : (subsI (sortI (busy s))).length ≤ 16 := by
    rw [subs_len, sortI_len]
    exact Nat.le_trans (Nat.pow_le_pow_right (by omega) (show _ ≤ 4 by omega)) (by decide)
  simp [F.f324, i323, i262, ea, es, sortR_eq]
  refine LC_ty (as := sortR (subsI (sortI (busy s)))) rowE (fun r => decide ((r.length : Int) ≤ s.stops)) rowE (fun z hz => ?_) (by rw [sortR_len]; omega) ?_
  · by_cases c : (z.length : Int) ≤ s.stops <;> simp [rowE, c]
  · simp [stopsOf]
theorem pworked_E {P : Prog} {n : Nat} (h : F.H325 P) (hn : 1 ≤ n) {p : Port} {t : Int} {s : Sta} (hok : s.Ok p t) (hs : s.vs.length ≤ 1000) (r : List Int) : callF P n 325 [.fz s.enc, .fz (rowE r)] = .ok (.fz (workedS s r).enc, []) := by
  have g11 := h.g11
  have g12 := h.g12
  refine E_run hn h.me rfl fun k hk => ?_
  simp [F.f325, rowE]
  refine FL_ix (fun i q => ∃ y3 y4 y5, q = [.fz s.enc, .fz (rowE r), .ow (((s.vs.take i).map (workT r)).map e3), y3, y4, y5] ∧ EF y3 ∧ EF y4 ∧ EF y5) ?_ (fun i x q hx hq => ?_) fun q hq => ?_
  · exact ⟨_, _, _, rfl, EF_em, EF_em, EF_em⟩
  · obtain ⟨y3, y4, y5, rfl, f3, f4, f5⟩ := hq
    rw [List.getElem?_map] at hx
    obtain ⟨z, hz, rfl⟩ := Option.map_eq_some_iff.mp hx
    obtain ⟨a, b, c⟩ := z
    have hi : i < s.vs.length := (List.getElem?_eq_some_iff.mp hz).1
    have tk : s.vs.take (i + 1) = s.vs.take i ++ [(a, b, c)] := by rw [List.take_succ, hz]; rfl
    have vv : s.v i = (a, b, c) := by simp [Sta.v, List.getD, hz]
    have hv := hok.vs i hi
    rw [vv] at hv
    rw [tk]
    simp [e3, pK_EF f3, pK_EF f4, pK_EF f5]
    by_cases c1 : a = 1
    · have c2 : ¬ a = 2 := by omega
      have c0 : c = 0 := by
        rcases hv with z | ⟨w, z, _⟩ | ⟨b', m, z, _⟩ | z <;> simp at z <;> omega
      simp [c1, g11]
      exact ⟨by omega, _, _, _, ⟨by simp [e3, workT, c0], rfl, rfl, rfl⟩, EF_fz, EF_fz, EF_fz⟩
    · by_cases c2 : a = 2
      · by_cases c3 : 0 < c
        · by_cases c4 : b ∈ r
          · simp [c2, c3, rowE, in_ints, c4, g11, g12]
            exact ⟨by omega, _, _, _, ⟨by simp [e3, workT, c4], rfl, rfl, rfl⟩, EF_fz, EF_fz, EF_fz⟩
          · simp [c2, c3, rowE, in_ints, c4, g11, g12]
            exact ⟨by omega, _, _, _, ⟨by simp [e3, workT, c4, c3], rfl, rfl, rfl⟩, EF_fz, EF_fz, EF_fz⟩
        · simp [c2, c3, g11, g12]
          exact ⟨by omega, _, _, _, ⟨by simp [e3, workT, c3], rfl, rfl, rfl⟩, EF_fz, EF_fz, EF_fz⟩
      · simp [c1, c2, g11, g12]
        exact ⟨by omega, _, _, _, ⟨by simp [e3, workT, c1, c2], rfl, rfl, rfl⟩, EF_fz, EF_fz, EF_fz⟩
  · obtain ⟨y3, y4, y5, rfl, f3, f4, f5⟩ := hq
    simp [List.take_of_length_le, Sta.enc, rowE, workedS]
end DL


set_option Elab.async false
set_option linter.all false
set_option maxRecDepth 100000
set_option maxHeartbeats 4000000
set_option autoImplicit false
/-! L45: movements. -/
namespace DL
open PySem
def berthD (x : T3) : D := if x.1 = 2 then .int x.2.1 else .none
theorem berthof_E {P : Prog} {n : Nat} (h : F.H317 P) (hn : 1 ≤ n) {s : Sta} {i : Nat} (hi : i < s.vs.length) : callF P n 317 [.fz s.enc, .fz (.int (i : Int))] = .ok (.fz (berthD (s.v i)), []) := by
  have g12 := h.g12
  have e1 := s_at hi
  refine E_run hn h.me rfl fun k hk => ?_
  by_cases c : (s.v i).1 = 2 <;> simp [F.f317, e1, e3, g12, c, berthD]
def passB (p : Port) (t : Int) (i : Nat) : Bool := decide ((p.v i).dra ≤ p.tideAt t + p.bar)
theorem passes_E {P : Prog} {n : Nat} (h : F.H318 P) (hn : 1 ≤ n) {p : Port} (hp : p.Ok) {t : Int} (h0 : 0 ≤ t) (ht : t < p.ticks) {i : Nat} (hi : i < p.vessels.length) : callF P n 318 [.fz p.enc, .fz (.int t), .fz (.int (i : Int))] = .ok (.fz (.bool (passB p t i)), []) := by
  have e1 := v_at hi
  have et := tide_at hp h0 ht
  refine E_run hn h.me rfl fun k hk => ?_
  simp [F.f318, e1, et, passB]
theorem flat_berth (x : T3) : flat (berthD x) = true := by unfold berthD; split <;> rfl
theorem cango_E {P : Prog} {n : Nat} (h : F.H319 P) (hn : 2 ≤ n) {p : Port} (hp : p.Ok) {t t' : Int} (h0 : 0 ≤ t) (ht : t < p.ticks) {s : Sta} (hs : s.Ok p t') {i j : Nat} (hi : i < p.vessels.length) (hj : j < p.berths.length) :
    callF P n 319 [.fz p.enc, .fz (.int t), .fz s.enc, .fz (.int (i : Int)), .fz (.int (j : Int))] = .ok (.fz (.bool (mayIn p t s i j && passB p t i)), []) := by
  have i317 : P.ios 317 = [false, false] := ios_of h.h317.me
  have i318 : P.ios 318 = [false, false, false] := ios_of h.h318.me
  have h1 := hp.vesselsL
  have h2 := hs.len
  have er : itemsD .rng [.int (s.vs.length : Int)] = .ok (range 0 s.vs.length) := by rw [items_r1 (by omega)]; rfl
  have e1 := v_at hi
  have e2 := b_at hj
  have et := tide_at hp h0 ht
  refine E_run (by omega) h.me rfl fun k hk => ?_
  have e4 := passes_E (n := k) h.h318 (by omega) hp h0 ht hi
  simp [F.f319, er]
  rw [rng0]
  refine LC_tyM (as := List.range s.vs.length) _ (fun i => berthD (s.v i)) (fun i hi => ?_) (by simp; omega) ?_
  · have hi : i < s.vs.length := by simpa using hi
    simp [i317, berthof_E (n := k) h.h317 (by omega) hi]
  · have ein : inD (.int (j : Int)) (.list ((List.range s.vs.length).map fun i => berthD (s.v i))) = .ok (decide ((j : Int) ∈ held s)) := by
      have ok : inOk (.int (j : Int)) ((List.range s.vs.length).map fun i => berthD (s.v i)) = true := by
        unfold inOk
        have : ((List.range s.vs.length).map fun i => berthD (s.v i)).all flat = true := by
          rw [List.all_map, List.all_eq_true]
          intro x _
          exact flat_berth _
        rw [this]
        rfl
      simp only [inD, ok, if_true]
      refine congrArg Res.ok ?_
      rw [Bool.eq_iff_iff, List.any_map]
      simp only [List.any_eq_true, decide_eq_true_eq, held, List.mem_map, List.mem_range, Function.comp]
      constructor
      · rintro ⟨x, hx, e⟩
        unfold berthD at e
        by_cases c : (s.v x).1 = 2
        · rw [if_pos c] at e
          simp [PyData.eqv] at e
          exact ⟨x, mem_at.mpr ⟨x, rfl, hx, c⟩, by simpa using e⟩
        · rw [if_neg c] at e
          simp [PyData.eqv] at e
      · rintro ⟨x, hx, e⟩
        obtain ⟨q, rfl, hq, c⟩ := mem_at.mp hx
        refine ⟨q, hq, ?_⟩
        unfold berthD
        rw [if_pos c]
        simp at e
        simp [PyData.eqv, e]
    simp [ein]
    by_cases d1 : (j : Int) ∈ held s
    · simp [d1, mayIn]
    · by_cases d2 : (p.v i).len ≤ (p.b j).1
      · have d2' : ¬ (p.b j).1 < (p.v i).len := by omega
        by_cases d3 : (p.v i).dra ≤ p.tideAt t + (p.b j).2
        · have d3' : ¬ p.tideAt t + (p.b j).2 < (p.v i).dra := by omega
          simp [d1, e1, e2, DL.e2, d2', et, d3', i318, e4, mayIn, d2, d3]
        · have d3' : p.tideAt t + (p.b j).2 < (p.v i).dra := by omega
          simp [d1, e1, e2, DL.e2, d2', et, d3', mayIn, d3]
      · have d2' : (p.b j).1 < (p.v i).len := by omega
        simp [d1, e1, e2, DL.e2, d2', mayIn, d2]
def insP (p : Port) (t : Int) (s : Sta) (k : Int) : List Mv := if passB p t k.toNat then insOf p t s k.toNat p.berths.length else []
def outP (p : Port) (t : Int) (s : Sta) (k : Int) : List Mv := if (s.v k.toNat).2.2 = 0 ∧ passB p t k.toNat = true then [.out k] else []
def mvP (p : Port) (t : Int) (s : Sta) : List Mv := .no :: ((s.at_ 1).flatMap (insP p t s) ++ (s.at_ 2).flatMap (outP p t s))
theorem flatMap_perm {α β : Type} (f g : α → List β) : ∀ l : List α, (l.flatMap fun a => f a ++ g a).Perm (l.flatMap f ++ l.flatMap g)
  | [] => by simp
  | a :: l => by
    simp only [List.flatMap_cons]
    have ih := flatMap_perm f g l
    refine (List.Perm.append_left _ ih).trans ?_
    rw [List.append_assoc, List.append_assoc]
    refine List.Perm.append_left _ ?_
    rw [← List.append_assoc, ← List.append_assoc]
    exact List.Perm.append_right _ List.perm_append_comm
theorem flatMap_at {s : Sta} {g : Int} {f : Int → List Mv} : (s.at_ g).flatMap f = (List.range s.vs.length).flatMap fun i => if (s.v i).1 = g then f (i : Int) else [] := by
  unfold Sta.at_ Sta.atN
  generalize List.range s.vs.length = l
  induction l with
  | nil => rfl
  | cons i l ih =>
    by_cases c : (s.v i).1 = g
    · rw [List.filter_cons_of_pos (by simpa using c), List.map_cons, List.flatMap_cons, List.flatMap_cons, if_pos c, ih]
    · rw [List.filter_cons_of_neg (by simpa using c), List.flatMap_cons, if_neg c, ih]; rfl
theorem mvs_perm {p : Port} {t t' : Int} {s : Sta} (hs : s.Ok p t') : (mvL p t s p.vessels.length).Perm (mvP p t s) := by
  unfold mvL mvP
  refine List.Perm.cons _ ?_
  rw [flatMap_at, flatMap_at, hs.len]
  refine List.Perm.trans ?_ (flatMap_perm _ _ _)
  refine List.Perm.of_eq ?_
  congr 1
  funext i
  unfold mvsOf insP outP passB
  by_cases c : p.tideAt t + p.bar < (p.v i).dra
  · have c' : ¬ (p.v i).dra ≤ p.tideAt t + p.bar := by omega
    simp [c, c']
  · have c' : (p.v i).dra ≤ p.tideAt t + p.bar := by omega
    by_cases c1 : (s.v i).1 = 1
    · have c2 : ¬ (s.v i).1 = 2 := by omega
      simp [c, c', c1]
    · by_cases c2 : (s.v i).1 = 2 <;> simp [c, c', c1, c2]
theorem moves_E {P : Prog} {n : Nat} (h : F.H320 P) (hn : 3 ≤ n) {p : Port} (hp : p.Ok) {t t' : Int} (h0 : 0 ≤ t) (ht : t < p.ticks) {s : Sta} (hs : s.Ok p t') :
    callF P n 320 [.fz p.enc, .fz (.int t), .fz s.enc] = .ok (.ow (sortD ((mvL p t s p.vessels.length).map Mv.enc)), []) := by
  have i312 : P.ios 312 = [false, false] := ios_of h.h312.me
  have i318 : P.ios 318 = [false, false, false] := ios_of h.h318.me
  have i319 : P.ios 319 = [false, false, false, false, false] := ios_of h.h319.me
  have g11 := h.g11
  have g12 := h.g12
  have h1 := hp.vesselsL
  have h2 := hs.len
  have h3 := hp.berthsL
  have erb : itemsD .rng [.int (p.berths.length : Int)] = .ok (range 0 p.berths.length) := by rw [items_r1 (by omega)]; rfl
  refine E_run (by omega) h.me rfl fun k hk => ?_
  have ea := vat_E (n := k) h.h312 (by omega) s (by omega) 1
  have eb := vat_E (n := k) h.h312 (by omega) s (by omega) 2
  have al := at_len (s := s) (g := 1)
  have bl := at_len (s := s) (g := 2)
  have il : ∀ i, (insP p t s i).length ≤ 3 := fun i => by
    unfold insP insOf
    split
    · rw [List.length_map]
      have := List.length_filter_le (mayIn p t s i.toNat) (List.range p.berths.length)
      simp at this
      omega
    · simp
  have fl : ∀ l : List Int, (l.flatMap (insP p t s)).length ≤ 3 * l.length := fun l => by
    induction l with
    | nil => simp
    | cons a l ih => simp only [List.flatMap_cons, List.length_append, List.length_cons]; have := il a; omega
  have ol : ∀ l : List Int, (l.flatMap (outP p t s)).length ≤ l.length := fun l => by
    induction l with
    | nil => simp
    | cons a l ih =>
      have : (outP p t s a).length ≤ 1 := by unfold outP; split <;> simp
      simp only [List.flatMap_cons, List.length_append, List.length_cons]; omega
  simp [F.f320, i312, g11, ea]
  refine FL_ix (fun i r => ∃ y4 y5 y6, r = [.fz p.enc, .fz (.int t), .fz s.enc, .ow ((.no :: ((s.at_ 1).take i).flatMap (insP p t s)).map Mv.enc), y4, y5, y6] ∧ EF y4 ∧ EF y5 ∧ EW y6) ?_ (fun i x r hx hr => ?_) fun r hr => ?_
  · exact ⟨_, _, _, rfl, EF_em, EF_em, EW_em⟩
  · obtain ⟨y4, y5, y6, rfl, f4, f5, f6⟩ := hr
    rw [List.getElem?_map] at hx
    obtain ⟨z, hz, rfl⟩ := Option.map_eq_some_iff.mp hx
    have hi := (List.getElem?_eq_some_iff.mp hz).1
    have tk : (s.at_ 1).take (i + 1) = (s.at_ 1).take i ++ [z] := by rw [List.take_succ, hz]; rfl
    obtain ⟨v, rfl, hv, _⟩ := mem_at.mp (List.mem_of_getElem? hz)
    have hv' : v < p.vessels.length := by omega
    simp [pK_EF f4, erb, ioB_EF f5]
    rw [rng0]
    refine LC_ty (as := List.range p.berths.length) _ (fun j => mayIn p t s v j && passB p t v) (fun (j : Nat) => .int (j : Int)) (fun j hj => ?_) (by simp; omega) ?_
    · have hj : j < p.berths.length := by simpa using hj
      have e1 := cango_E (n := k) h.h319 (by omega) hp h0 ht hs hv' hj
      by_cases c : mayIn p t s v j = true <;> by_cases c2 : passB p t v = true <;> simp [i319, e1, c, c2]
    · simp [pK_EW f6, ioB_EF f5]
      refine LC_tyM (as := (List.range p.berths.length).filter fun j => mayIn p t s v j && passB p t v) (fun (j : Nat) => PyData.int (j : Int)) (fun (j : Nat) => .tuple [.str (Str.ofString "in"), .int (v : Int), .int (j : Int)]) (fun j hj => ?_) ?_ ?_
      · simp
      · have := List.length_filter_le (fun j => mayIn p t s v j && passB p t v) (List.range p.berths.length)
        simp at this
        omega
      · have := List.length_filter_le (fun j => mayIn p t s v j && passB p t v) (List.range p.berths.length)
        have fl2 := fl ((s.at_ 1).take i)
        rw [List.length_take] at fl2
        simp at this
        have et : insP p t s (v : Int) = ((List.range p.berths.length).filter fun j => mayIn p t s v j && passB p t v).map fun (j : Nat) => Mv.inn (v : Int) (j : Int) := by
          unfold insP insOf
          by_cases c2 : passB p t v = true
          · simp [c2]
          · simp [c2]
        simp [-List.length_flatMap, -List.map_flatMap]
        refine ⟨by omega, _, _, _, ⟨?_, rfl, rfl, rfl⟩, EF_fz, f5, EW_ow⟩
        rw [tk, List.flatMap_append, List.map_append]
        refine congrArg (fun l => _ ++ l) ?_
        rw [List.flatMap_cons, List.flatMap_nil, List.append_nil, et, List.map_map]
        rfl
  · obtain ⟨y4, y5, y6, rfl, f4, f5, f6⟩ := hr
    simp [i312, g12, eb, List.take_of_length_le, -List.length_flatMap, -List.map_flatMap]
    refine FL_ix (fun i r => ∃ y4, r = [.fz p.enc, .fz (.int t), .fz s.enc, .ow ((.no :: ((s.at_ 1).flatMap (insP p t s) ++ ((s.at_ 2).take i).flatMap (outP p t s))).map Mv.enc), y4, y5, y6] ∧ EF y4) ?_ (fun i x r hx hr => ?_) fun r hr => ?_
    · exact ⟨_, by simp, f4⟩
    · obtain ⟨y4, rfl, f4⟩ := hr
      rw [List.getElem?_map] at hx
      obtain ⟨z, hz, rfl⟩ := Option.map_eq_some_iff.mp hx
      have hi := (List.getElem?_eq_some_iff.mp hz).1
      have tk : (s.at_ 2).take (i + 1) = (s.at_ 2).take i ++ [z] := by rw [List.take_succ, hz]; rfl
      obtain ⟨v, rfl, hv, _⟩ := mem_at.mp (List.mem_of_getElem? hz)
      have hv' : v < p.vessels.length := by omega
      have e1 := s_at hv
      have e2 := passes_E (n := k) h.h318 (by omega) hp h0 ht hv'
      have fl2 := fl (s.at_ 1)
      have ol2 := ol ((s.at_ 2).take i)
      rw [List.length_take] at ol2
      by_cases c : (s.v v).2.2 = 0
      · by_cases c2 : passB p t v = true
        · simp [pK_EF f4, e1, c, i318, e2, c2, -List.length_flatMap, -List.map_flatMap]
          refine ⟨by omega, _, ⟨?_, rfl⟩, EF_fz⟩
          rw [tk, List.flatMap_append]
          simp [outP, c, c2, Mv.enc]
        · simp [pK_EF f4, e1, c, i318, e2, c2, -List.length_flatMap, -List.map_flatMap]
          refine ⟨_, ⟨?_, rfl⟩, EF_fz⟩
          rw [tk, List.flatMap_append]
          simp [outP, c, c2]
      · simp [pK_EF f4, e1, c, -List.length_flatMap, -List.map_flatMap]
        refine ⟨_, ⟨?_, rfl⟩, EF_fz⟩
        rw [tk, List.flatMap_append]
        simp [outP, c]
    · obtain ⟨y4, rfl, f4⟩ := hr
      have fl2 := fl (s.at_ 1)
      have ol2 := ol (s.at_ 2)
      have e : (Mv.no :: ((s.at_ 1).flatMap (insP p t s) ++ ((s.at_ 2).take (s.at_ 2).length).flatMap (outP p t s))) = mvP p t s := by rw [List.take_of_length_le (Nat.le_refl _)]; rfl
      have so : sortOk ((mvP p t s).map Mv.enc) = true := sortOk_mvs (by unfold mvP; simp only [List.length_cons, List.length_append]; omega)
      have sp : sortD ((mvP p t s).map Mv.enc) = sortD ((mvL p t s p.vessels.length).map Mv.enc) := sortD_perm ((mvs_perm hs).symm.map _) alike_mvs
      simp only [List.length_map]
      rw [e]
      simp [so, sp]
theorem moved_E {P : Prog} {n : Nat} (h : F.H321 P) (hn : 2 ≤ n) {p : Port} (hp : p.Ok) {t : Int} {s : Sta} (hs : s.Ok p t) {mv : Mv} (hm : mv.In p) : callF P n 321 [.fz p.enc, .fz s.enc, .fz mv.enc] = .ok (.fz (movedS p s mv).enc, []) := by
  have i313 : P.ios 313 = [false, false, false] := ios_of h.h313.me
  have g12 := h.g12
  have g13 := h.g13
  have h1 := hp.vesselsL
  have h2 := hs.len
  refine E_run (by omega) h.me rfl fun k hk => ?_
  cases mv with
  | no => simp [F.f321, Mv.enc, movedS]
  | inn v b =>
    obtain ⟨m1, m2, m3, m4⟩ := hm
    obtain ⟨j, rfl⟩ := Int.eq_ofNat_of_zero_le m1
    have e := with_E (n := k) h.h313 (by omega) s (by omega) (i := j) (by omega) (2, b, (p.v j).work)
    have e1 := v_at (p := p) (i := j) (by omega)
    simp only [e3] at e
    simp [F.f321, Mv.enc, movedS, i313, e1, e, g12]
  | out v =>
    obtain ⟨m1, m2⟩ := hm
    obtain ⟨j, rfl⟩ := Int.eq_ofNat_of_zero_le m1
    have e := with_E (n := k) h.h313 (by omega) s (by omega) (i := j) (by omega) (3, 0, 0)
    simp only [e3] at e
    simp [F.f321, Mv.enc, movedS, i313, e, g13]
end DL


set_option Elab.async false
set_option linter.all false
set_option maxRecDepth 100000
set_option maxHeartbeats 4000000
set_option autoImplicit false
/-! SPK: a call between two copies of its arguments. -/
namespace DL
open PySem
end DL


set_option Elab.async false
set_option linter.all false
set_option maxRecDepth 100000
set_option maxHeartbeats 4000000
set_option autoImplicit false
/-! SPJ: sorted(set(..)), list(range(..)), tuple(reversed(..)) for simp. -/
namespace DL
open PySem
@[simp] theorem W_sset {ns : List Int} {Q : Val → Prop} : W (biD .sset [.list (ns.map .int)]) Q = (ns.length < 4000 ∧ Q (.ow ((ssetI ns).map .int))) := by
  simp only [biD, ints_map]
  by_cases h : ns.length < 4000 <;> simp [h]
@[simp] theorem W_lset {ns : List Int} {Q : Val → Prop} : W (biD .lset [.list (ns.map .int)]) Q = (ns.length < 4000 ∧ Q (.fz (.int (ssetI ns).length))) := by
  simp only [biD, ints_map]
  by_cases h : ns.length < 4000 <;> simp [h]
@[simp] theorem W_lsetT {ns : List Int} {Q : Val → Prop} : W (biD .lset [.tuple (ns.map .int)]) Q = (ns.length < 4000 ∧ Q (.fz (.int (ssetI ns).length))) := by
  simp only [biD, ints_map]
  by_cases h : ns.length < 4000 <;> simp [h]
@[simp] theorem W_trevl {xs : List D} {Q : Val → Prop} : W (biD .trev [.list xs]) Q = Q (.fz (.tuple xs.reverse)) := propext Iff.rfl
@[simp] theorem W_trevt {xs : List D} {Q : Val → Prop} : W (biD .trev [.tuple xs]) Q = Q (.fz (.tuple xs.reverse)) := propext Iff.rfl
@[simp] theorem W_srevl {xs : List D} {Q : Val → Prop} : W (biD .srev [.list xs]) Q = Q (.ow xs.reverse) := propext Iff.rfl
/-- ascending -/
def upI (ns : List Int) : Bool := (List.range (ns.length - 1)).all fun i => decide (ns.getD i 0 < ns.getD (i + 1) 0)
/-- plain data of bounded depth and size -/
def sml : Nat → D → Bool
  | _, .none => true
  | _, .bool _ => true
  | _, .int _ => true
  | _, .str z => PyData.strOk z
  | n + 1, .list xs => decide (xs.length ≤ 1000000) && xs.all (sml n)
  | n + 1, .tuple xs => decide (xs.length ≤ 1000000) && xs.all (sml n)
  | _, _ => false
theorem sml_tup {n : Nat} {xs : List D} (h : sml n (.tuple xs) = true) : ∃ n', n = n' + 1 ∧ xs.length ≤ 1000000 ∧ ∀ x ∈ xs, sml n' x = true := by
  cases n with
  | zero => simp [sml] at h
  | succ n =>
    simp only [sml, Bool.and_eq_true, decide_eq_true_eq, List.all_eq_true] at h
    exact ⟨n, rfl, h.1, h.2⟩
theorem sml_lst {n : Nat} {xs : List D} (h : sml n (.list xs) = true) : ∃ n', n = n' + 1 ∧ xs.length ≤ 1000000 ∧ ∀ x ∈ xs, sml n' x = true := by
  cases n with
  | zero => simp [sml] at h
  | succ n =>
    simp only [sml, Bool.and_eq_true, decide_eq_true_eq, List.all_eq_true] at h
    exact ⟨n, rfl, h.1, h.2⟩
theorem sml_mkT {n : Nat} {xs : List D} (h : xs.length ≤ 1000000) (h2 : ∀ x ∈ xs, sml n x = true) : sml (n + 1) (.tuple xs) = true := by
  simp only [sml, Bool.and_eq_true, decide_eq_true_eq, List.all_eq_true]; exact ⟨h, h2⟩
@[simp] theorem sml_i {n : Nat} {i : Int} : sml n (.int i) = true := by cases n <;> rfl
@[simp] theorem sml_b {n : Nat} {i : Bool} : sml n (.bool i) = true := by cases n <;> rfl
@[simp] theorem sml_s {n : Nat} {i : Str} : sml n (.str i) = PyData.strOk i := by cases n <;> rfl
@[simp] theorem sml_n {n : Nat} : sml n .none = true := by cases n <;> rfl
theorem sml_lay : ∀ {n : Nat} {d : D}, sml n d = true → d.canLay0 = true ∧ d.depth ≤ n ∧ PyData.eqv d d = true
  | n, .none, _ => by simp [PyData.canLay0, PyData.depth, PyData.eqv]
  | n, .bool b, _ => by simp [PyData.canLay0, PyData.depth, PyData.eqv]
  | n, .int b, _ => by simp [PyData.canLay0, PyData.depth, PyData.eqv]
  | n, .str b, h => by
    rw [sml_s] at h
    simp [PyData.canLay0, PyData.depth, PyData.eqv, h]
  | n, .list xs, h => by
    obtain ⟨n1, rfl, h1, h2⟩ := sml_lst h
    have key : PyData.canLayAll0 xs = true ∧ PyData.depthAll xs ≤ n1 ∧ PyData.eqvAll xs xs = true := by
      clear h h1
      induction xs with
      | nil => simp [PyData.canLayAll0, PyData.depthAll, PyData.eqvAll]
      | cons x xs ih =>
        obtain ⟨a1, a2, a3⟩ := sml_lay (h2 x (by simp))
        obtain ⟨b1, b2, b3⟩ := ih fun y hy => h2 y (by simp [hy])
        simp only [PyData.canLayAll0, PyData.depthAll, PyData.eqvAll, a1, a3, b1, b3, Bool.and_self, true_and, and_true]
        omega
    simp only [PyData.canLay0, PyData.depth, PyData.eqv]
    exact ⟨key.1, by omega, key.2.2⟩
  | n, .tuple xs, h => by
    obtain ⟨n1, rfl, h1, h2⟩ := sml_tup h
    have key : PyData.canLayAll0 xs = true ∧ PyData.depthAll xs ≤ n1 ∧ PyData.eqvAll xs xs = true := by
      clear h h1
      induction xs with
      | nil => simp [PyData.canLayAll0, PyData.depthAll, PyData.eqvAll]
      | cons x xs ih =>
        obtain ⟨a1, a2, a3⟩ := sml_lay (h2 x (by simp))
        obtain ⟨b1, b2, b3⟩ := ih fun y hy => h2 y (by simp [hy])
        simp only [PyData.canLayAll0, PyData.depthAll, PyData.eqvAll, a1, a3, b1, b3, Bool.and_self, true_and, and_true]
        omega
    simp only [PyData.canLay0, PyData.depth, PyData.eqv]
    exact ⟨key.1, by omega, key.2.2⟩
  | n, .dict kvs, h => by cases n <;> simp [sml] at h
termination_by n => n
end DL


set_option Elab.async false
set_option linter.all false
set_option maxRecDepth 100000
set_option maxHeartbeats 4000000
set_option autoImplicit false
/-! SPY: what raises, for simp. -/
namespace DL
open PySem
/-- the two ends of a call that may raise -/
def X2 (m : Res (Val × List (List D))) (A : Val → Prop) (B : Exn → Prop) : PrOf A := match m with
  | .ok (x, []) => A x
  | .ex e => B e
  | _ => False
@[simp] theorem X2_ok {x : Val} {A : Val → Prop} {B : Exn → Prop} : X2 (.ok (x, [])) A B = A x := propext Iff.rfl
@[simp] theorem X2_ex {e : Exn} {A : Val → Prop} {B : Exn → Prop} : X2 (.ex e) A B = B e := propext Iff.rfl
section
variable {C : Ctx} {r : Env}
theorem W_runX {f : Nat} {as : List Arg} {r1 : Env} {ok : Val → Env → Res Flow} {no : Exn → Res Flow} {K : Flow → Prop} :
    W (runX C f as r1 ok no) K = (ioIx as = [] ∧ W (argVals r1 as) fun vs => X2 (C.call f vs) (fun x => W (ok x r1) K) fun e => W (no e) K) := by
  unfold runX
  cases hi : ioIx as with
  | cons x l => simp
  | nil =>
    simp only [true_and]
    unfold doCall
    rw [if_pos (by rw [hi]; exact List.nodup_nil), hi]
    cases q : argVals r1 as with
    | ex e => exact absurd q argVals_nex
    | no => rfl
    | ok vs =>
      rw [ok_bind, W_ok]
      cases q2 : C.call f vs with
      | ok p =>
        obtain ⟨x, outs⟩ := p
        cases outs with
        | nil => rfl
        | cons _ _ => rfl
      | ex e => rfl
      | no => rfl
@[simp] theorem Sx_raise {c : Nat} {e : E} {K : Flow → Prop} : Sx C (.raise c e) r K = (C.xc c = true ∧ Ev C e r fun x _ => W x.fix fun d => K (.xc ⟨c, d⟩)) := by
  rw [← Dt_eq (Q := fun d _ => K (.xc ⟨c, d⟩))]
  unfold Sx Dt; simp only [exS]
  by_cases h : C.xc c = true
  · rw [if_pos h, W_bind]; simp only [h, true_and]; rfl
  · rw [if_neg h]; simp [h]
@[simp] theorem Sx_xasg {i f : Nat} {es : List E} {K : Flow → Prop} : Sx C (.xs (.asg i) f es) r K = As C es (C.ios f) r fun as r1 => ioIx as = [] ∧ W (argVals r1 as) fun vs => X2 (C.call f vs) (fun x => pK i x r1 (fun r2 => K (.nx r2)) r1[i]?) fun e => K (.xc e) := by
  have h : ∀ (x : Val) (r1 : Env), W (xkF (.asg i) x r1) K = pK i x r1 (fun r2 => K (.nx r2)) r1[i]? := fun x r1 => by
    simp only [xkF]; rw [W_bind]; exact W_put
  unfold Sx As; simp only [exS]; rw [W_bind]; congr 1; funext p; rw [W_runX]
  have hf : (fun x => W (xkF (.asg i) x p.2) K) = fun x => pK i x p.2 (fun r2 => K (.nx r2)) p.2[i]? := funext fun x => h x p.2
  rw [hf]; rfl
@[simp] theorem Sx_xasgT {ts : List Tgt} {f : Nat} {es : List E} {K : Flow → Prop} : Sx C (.xs (.asgT ts) f es) r K = As C es (C.ios f) r fun as r1 => ioIx as = [] ∧ W (argVals r1 as) fun vs => X2 (C.call f vs) (fun x => W x.data fun d => Bt (.many ts) d r1 fun r2 => K (.nx r2)) fun e => K (.xc e) := by
  have h : ∀ (x : Val) (r1 : Env), W (xkF (.asgT ts) x r1) K = W x.data fun d => Bt (.many ts) d r1 fun r2 => K (.nx r2) := fun x r1 => by
    unfold Bt; simp only [xkF]; rw [W_bind]; congr 1; funext d; rw [W_bind]; rfl
  unfold Sx As; simp only [exS]; rw [W_bind]; congr 1; funext p; rw [W_runX]
  have hf : (fun x => W (xkF (.asgT ts) x p.2) K) = fun x => W x.data fun d => Bt (.many ts) d p.2 fun r2 => K (.nx r2) := funext fun x => h x p.2
  rw [hf]; rfl
@[simp] theorem Sx_xret {f : Nat} {es : List E} {K : Flow → Prop} : Sx C (.xs .ret f es) r K = As C es (C.ios f) r fun as r1 => ioIx as = [] ∧ W (argVals r1 as) fun vs => X2 (C.call f vs) (fun x => K (.rt x r1)) fun e => K (.xc e) := by
  unfold Sx As; simp only [exS]; rw [W_bind]; congr 1; funext p; rw [W_runX]; rfl
@[simp] theorem Sx_told {i f : Nat} {es : List E} {K : Flow → Prop} : Sx C (.told i f es) r K = (C.er = true ∧ As C es (C.ios f) r fun as r1 => ioIx as = [] ∧ W (argVals r1 as) fun vs => X2 (C.call f vs) (fun x => K (.rt x r1)) fun e => C.xc e.cls = true ∧ K (.rt (.fz (errD e)) r1)) := by
  unfold Sx As; simp only [exS]
  by_cases h : C.er = true
  · rw [if_pos h, W_bind]; simp only [h, true_and]; congr 1; funext p; rw [W_runX]
    have hf : (fun e : Exn => W (if C.xc e.cls = true then Res.ok (Flow.rt (.fz (errD e)) p.2) else .no) K) = fun e => C.xc e.cls = true ∧ K (.rt (.fz (errD e)) p.2) := funext fun e => ite_and
    rw [hf]; rfl
  · rw [if_neg h]; simp [h]
theorem X_run {P : Prog} {n f : Nat} {fn : Fn} {vs : List Val} {e : Exn} (hn : 1 ≤ n) (h : P.tab f = some fn) (fit : (argsFit fn.ios vs && decide (fn.ios.length ≤ fn.nslots)) = true) (hio : fn.ios.all (!·) = true)
    (q : ∀ k, n = k + 1 → Say (Sq (P.ctx k) fn.body (vs ++ List.replicate (fn.nslots - fn.ios.length) .em) fun fl => fl = .xc e)) : callF P n f vs = .ex e := by
  obtain ⟨m, rfl⟩ : ∃ m, n = m + 1 := ⟨n - 1, by omega⟩
  exact run_xc h fit hio (say (q m rfl))
@[simp] theorem ix_nil : ioIx [] = [] := rfl
@[simp] theorem ix_d {d : D} {as : List Arg} : ioIx (.d d :: as) = ioIx as := rfl
@[simp] theorem ctx_xc {P : Prog} {k c : Nat} : (P.ctx k).xc c = P.xc c := rfl
@[simp] theorem ctx_er {P : Prog} {k : Nat} : (P.ctx k).er = P.er := rfl
end
/-- the two ends of a body -/
def rx (ios : List Bool) (A : Val → Prop) (B : Exn → Prop) : Flow → PrOf A
  | .xc e => B e
  | fl => fE ios (fun p => p.2 = [] ∧ A p.1) fl
@[simp] theorem rx_xc {ios : List Bool} {A : Val → Prop} {B : Exn → Prop} {e : Exn} : rx ios A B (.xc e) = B e := propext Iff.rfl
@[simp] theorem rx_rt {ios : List Bool} {A : Val → Prop} {B : Exn → Prop} {v : Val} {r : Env} : rx ios A B (.rt v r) = fE ios (fun p => p.2 = [] ∧ A p.1) (.rt v r) := propext Iff.rfl
@[simp] theorem rx_nx {ios : List Bool} {A : Val → Prop} {B : Exn → Prop} {r : Env} : rx ios A B (.nx r) = fE ios (fun p => p.2 = [] ∧ A p.1) (.nx r) := propext Iff.rfl
end DL


set_option Elab.async false
set_option linter.all false
set_option maxRecDepth 100000
set_option maxHeartbeats 4000000
set_option autoImplicit false
/-! Q47: ticks done or refused. -/
namespace DL
open PySem
open scoped Classical
theorem canLayAll_of47 : ∀ {l : List D}, (∀ x ∈ l, x.canLay0 = true) → PyData.canLayAll0 l = true
  | [], _ => by simp [PyData.canLayAll0]
  | x :: l, h => by
    have := canLayAll_of47 (l := l) fun y hy => h y (by simp [hy])
    simp [PyData.canLayAll0, this, h x (by simp)]
/-- in of a list of like tuples -/
theorem in_dec {n : Nat} {xs d0 : List D} (hn : n ≤ 100) (h : ∀ x ∈ xs, sml n x = true) (hd : sml n (.tuple d0) = true) (al : ∀ x ∈ xs, PySem.W.alike x (.tuple d0) = true) : inD (.tuple d0) (.list xs) = .ok (decide (PyData.tuple d0 ∈ xs)) := by
  obtain ⟨h1, h2, h3⟩ := sml_lay hd
  have ok : inOk (.tuple d0) xs = true := by
    unfold inOk
    have : PyData.canLayAll0 xs = true := canLayAll_of47 fun x hx => (sml_lay (h x hx)).1
    simp only [h1, this, Bool.true_and, Bool.or_eq_true, decide_eq_true_eq]
    exact .inr (by omega)
  simp only [inD, ok, if_true]
  refine congrArg Res.ok ?_
  by_cases m : PyData.tuple d0 ∈ xs
  · rw [decide_eq_true m, List.any_eq_true]
    exact ⟨_, m, h3⟩
  · rw [decide_eq_false m, Bool.eq_false_iff]
    intro z
    obtain ⟨x, hx, e⟩ := List.any_eq_true.mp z
    exact m (alike_eq x _ (al x hx) e ▸ hx)
theorem sml_row47 (r : List Int) (h : r.length ≤ 1000000) : sml 1 (rowE r) = true := sml_mkT (by simpa using h) fun x hx => by
  obtain ⟨i, _, rfl⟩ := List.mem_map.mp hx
  simp
theorem alike_row (a b : List Int) : PySem.W.alike (rowE a) (rowE b) = true := alike_rows _ (List.mem_map.mpr ⟨a, List.mem_cons_self, rfl⟩) _ (List.mem_map.mpr ⟨b, by exact List.mem_cons_of_mem _ (List.mem_singleton.mpr rfl), rfl⟩)
/-- a row among rows -/
theorem in_rows {l : List (List Int)} {a : List Int} (hl : ∀ r ∈ l, r.length ≤ 1000000) (ha : a.length ≤ 1000000) : inD (rowE a) (.list (l.map rowE)) = .ok (decide (a ∈ l)) := by
  rw [show rowE a = .tuple (a.map .int) from rfl, in_dec (n := 1) (by omega) (fun x hx => ?_) (sml_row47 a ha) fun x hx => ?_]
  · refine congrArg Res.ok (decide_eq_decide.mpr ⟨fun z => ?_, fun z => List.mem_map.mpr ⟨a, z, rfl⟩⟩)
    obtain ⟨r, hr, e⟩ := List.mem_map.mp z
    rw [← rowE_inj (show rowE r = rowE a from e)]
    exact hr
  · obtain ⟨r, hr, rfl⟩ := List.mem_map.mp hx
    exact sml_row47 r (hl r hr)
  · obtain ⟨r, hr, rfl⟩ := List.mem_map.mp hx
    exact alike_row r a
/-- a tuple that might be a movement -/
def moE (z : Str) (l : List Int) : D := .tuple (.str z :: l.map .int)
theorem sml_mo {z : Str} {l : List Int} (hz : PyData.strOk z = true) (hl : l.length ≤ 1000) : sml 1 (moE z l) = true := sml_mkT (by simp; omega) fun x hx => by
  rcases List.mem_cons.mp hx with rfl | hx
  · exact hz
  · obtain ⟨i, _, rfl⟩ := List.mem_map.mp hx
    simp
theorem alikeAll_ints : ∀ (a b : List Int), PySem.W.alikeAll (a.map .int) (b.map .int) = true
  | [], b => by cases b <;> rfl
  | x :: a, [] => rfl
  | x :: a, y :: b => by
    have ih := alikeAll_ints a b
    simp only [List.map_cons, PySem.W.alikeAll, PySem.W.alike, Bool.true_and]
    exact ih
theorem alike_mo (m : Mv) (z : Str) (l : List Int) : PySem.W.alike m.enc (moE z l) = true := by
  have key : ∃ (y : Str) (k : List Int), m.enc = moE y k := by
    cases m with
    | no => exact ⟨_, [], rfl⟩
    | inn a b => exact ⟨_, [a, b], rfl⟩
    | out a => exact ⟨_, [a], rfl⟩
  obtain ⟨y, k, e⟩ := key
  rw [e]
  simp only [moE, PySem.W.alike, PySem.W.alikeAll, Bool.true_and]
  exact alikeAll_ints k l
theorem sml_mv47 (m : Mv) : sml 1 m.enc = true := by cases m <;> simp [Mv.enc, sml] <;> decide +kernel
/-- a movement among movements -/
theorem in_mvs {p : Port} {t : Int} {s : Sta} {z : Str} {l : List Int} (hz : PyData.strOk z = true) (hl : l.length ≤ 1000) :
    inD (moE z l) (.list (sortD ((mvL p t s p.vessels.length).map Mv.enc))) = .ok (decide (∃ m ∈ mvL p t s p.vessels.length, m.enc = moE z l)) := by
  rw [show moE z l = .tuple (.str z :: l.map .int) from rfl, in_dec (n := 1) (by omega) (fun x hx => ?_) (sml_mo hz hl) fun x hx => ?_]
  · refine congrArg Res.ok (decide_eq_decide.mpr ⟨fun q => ?_, fun ⟨m, hm, e⟩ => mem_sortD.mpr (List.mem_map.mpr ⟨m, hm, e⟩)⟩)
    obtain ⟨m, hm, e⟩ := List.mem_map.mp (mem_sortD.mp q)
    exact ⟨m, hm, e⟩
  · obtain ⟨m, _, rfl⟩ := List.mem_map.mp (mem_sortD.mp hx)
    exact sml_mv47 m
  · obtain ⟨m, _, rfl⟩ := List.mem_map.mp (mem_sortD.mp hx)
    exact alike_mo m z l
theorem arr_in47 {p : Port} {t t' : Int} {s : Sta} {r : List Int} (h : r ∈ arrs p t s) : (∀ k ∈ r, ∃ j : Nat, k = j ∧ j < s.vs.length) ∧ r.length ≤ s.vs.length := by
  unfold arrs at h
  have h2 := subs_mem (mem_sortR.mp (List.mem_filter.mp h).1)
  have := at_len (s := s) (g := 0)
  have hl := h2.length_le
  refine ⟨fun k hk => ?_, by omega⟩
  obtain ⟨j, rfl, hj, _⟩ := mem_at.mp (h2.subset hk)
  exact ⟨j, rfl, hj⟩
theorem stop_in47 {s : Sta} {r : List Int} (h : r ∈ stopsOf s) : r.length ≤ s.vs.length := by
  unfold stopsOf at h
  have h2 := (subs_mem (mem_sortR.mp (List.mem_filter.mp h).1)).length_le
  have bl := busy_len (s := s)
  rw [sortI_len] at h2
  omega
/-- what a tick ends with: the states, or nothing -/
def tickR (p : Port) (t : Int) (s : Sta) (a : List Int) (md : D) (r : List Int) (o : Option (Sta × Sta)) : Prop :=
  (a ∉ arrs p t s ∧ o = none) ∨ (a ∈ arrs p t s ∧ (∀ m ∈ mvL p t (arrivedS s a) p.vessels.length, m.enc ≠ md) ∧ o = none) ∨
  ∃ m ∈ mvL p t (arrivedS s a) p.vessels.length, m.enc = md ∧ a ∈ arrs p t s ∧ ((r ∉ stopsOf (movedS p (arrivedS s a) m) ∧ o = none) ∨ (r ∈ stopsOf (movedS p (arrivedS s a) m) ∧ o = some (movedS p (arrivedS s a) m, workedS (movedS p (arrivedS s a) m) r)))
theorem tick_some (p : Port) (t : Int) (s : Sta) (a : List Int) (md : D) (r : List Int) : ∃ o, tickR p t s a md r o := by
  by_cases h1 : a ∈ arrs p t s
  · by_cases h2 : ∃ m ∈ mvL p t (arrivedS s a) p.vessels.length, m.enc = md
    · obtain ⟨m, hm, e⟩ := h2
      by_cases h3 : r ∈ stopsOf (movedS p (arrivedS s a) m)
      · exact ⟨_, .inr (.inr ⟨m, hm, e, h1, .inr ⟨h3, rfl⟩⟩)⟩
      · exact ⟨_, .inr (.inr ⟨m, hm, e, h1, .inl ⟨h3, rfl⟩⟩)⟩
    · exact ⟨_, .inr (.inl ⟨h1, fun m hm e => h2 ⟨m, hm, e⟩, rfl⟩)⟩
  · exact ⟨_, .inl ⟨h1, rfl⟩⟩
def tickD : Option (Sta × Sta) → D
  | none => .none
  | some x => .tuple [x.1.enc, x.2.enc]
def refD : D := .tuple [.str "refused", .str "NotAllowed"]
def toldD : Option (Sta × Sta) → D
  | none => refD
  | some x => .tuple [x.1.enc, x.2.enc]
section
variable {P : Prog} {n : Nat} {p : Port} {t : Int} {s : Sta} {a r l : List Int} {z : Str} {o : Option (Sta × Sta)}
theorem arrs_len (hs : s.Ok p t) (hv : p.vessels.length ≤ 4) : ∀ q ∈ arrs p t s, q.length ≤ 1000000 := fun q hq => by
  have := (arr_in47 (t' := 0) hq).2
  have := hs.len
  omega
theorem tick_ok (h : F.H327 P) (hn : 6 ≤ n) (hp : p.Ok) (h0 : 0 ≤ t) (ht : t < p.ticks) (hs : s.Ok p t) (hz : PyData.strOk z = true) (hl : l.length ≤ 1000) (ha : a.length ≤ 1000) (hr : r.length ≤ 1000) (hx : P.xc 1 = true) (ho : tickR p t s a (moE z l) r o) :
    (∃ x, o = some x ∧ callF P n 327 [.fz p.enc, .fz (.int t), .fz s.enc, .fz (rowE a), .fz (moE z l), .fz (rowE r)] = .ok (.fz (.tuple [x.1.enc, x.2.enc]), [])) ∨ o = none ∧ ∃ d, callF P n 327 [.fz p.enc, .fz (.int t), .fz s.enc, .fz (rowE a), .fz (moE z l), .fz (rowE r)] = .ex ⟨1, d⟩ := by
  have i314 : P.ios 314 = [false, false, false] := ios_of h.h314.me
  have i315 : P.ios 315 = [false, false] := ios_of h.h315.me
  have i320 : P.ios 320 = [false, false, false] := ios_of h.h320.me
  have i321 : P.ios 321 = [false, false, false] := ios_of h.h321.me
  have i324 : P.ios 324 = [false, false] := ios_of h.h324.me
  have i325 : P.ios 325 = [false, false] := ios_of h.h325.me
  have h1 := hp.vesselsL
  have hlen := hs.len
  have e1 := fun k (hk : n = k + 1) => parr_E (n := k) h.h314 (by omega) hp (t := t) hs
  have n1 := in_rows (a := a) (arrs_len hs (by omega)) (by omega)
  rcases ho with ⟨c1, rfl⟩ | ⟨c1, c2, rfl⟩ | ⟨m, hm, em, c1, c3⟩
  · refine .inr ⟨rfl, rowE a, X_run (by omega) h.me rfl rfl fun k hk => ?_⟩
    rw [decide_eq_false c1] at n1
    simp [F.f327, i314, e1 k hk, n1, hx]
  · refine .inr ⟨rfl, moE z l, X_run (by omega) h.me rfl rfl fun k hk => ?_⟩
    rw [decide_eq_true c1] at n1
    have e2 := parrived_E (n := k) h.h315 (by omega) s (by omega) a (arr_in47 (t' := 0) c1).1
    have hs1 := arrived_ok hs h0 a
    have e3 := moves_E (n := k) h.h320 (by omega) hp h0 ht hs1
    have n2 := in_mvs (p := p) (t := t) (s := arrivedS s a) hz hl
    rw [decide_eq_false (fun ⟨m, hm, e⟩ => c2 m hm e)] at n2
    simp [F.f327, i314, e1 k hk, n1, hx, i315, e2, i320, e3, n2]
  · rw [decide_eq_true c1] at n1
    have hs1 := arrived_ok hs h0 a
    have hmi := mvL_in hs1 m hm
    have hs2 := moved_ok hp hs1 hmi
    have hl2 := hs2.len
    have n2 := in_mvs (p := p) (t := t) (s := arrivedS s a) hz hl
    rw [decide_eq_true ⟨m, hm, em⟩] at n2
    have n3 := in_rows (l := stopsOf (movedS p (arrivedS s a) m)) (a := r) (fun q hq => by have := stop_in47 hq; omega) (by omega)
    have run := fun k (hk : n = k + 1) => And.intro (parrived_E (n := k) h.h315 (by omega) s (by omega) a (arr_in47 (t' := 0) c1).1) (And.intro (moves_E (n := k) h.h320 (by omega) hp h0 ht hs1) (And.intro (moved_E (n := k) h.h321 (by omega) hp hs1 hmi) (And.intro (pstops_E (n := k) h.h324 (by omega) hp hs2) (pworked_E (n := k) h.h325 (by omega) hs2 (by omega) r))))
    rw [← em] at n2 ⊢
    rcases c3 with ⟨c3, rfl⟩ | ⟨c3, rfl⟩
    · refine .inr ⟨rfl, rowE r, X_run (by omega) h.me rfl rfl fun k hk => ?_⟩
      obtain ⟨e2, e3, e4, e5, e6⟩ := run k hk
      rw [decide_eq_false c3] at n3
      simp [F.f327, i314, e1 k hk, n1, hx, i315, e2, i320, e3, n2, i321, e4, i324, e5, n3]
    · refine .inl ⟨_, rfl, E_run (by omega) h.me rfl fun k hk => ?_⟩
      obtain ⟨e2, e3, e4, e5, e6⟩ := run k hk
      rw [decide_eq_true c3] at n3
      simp [F.f327, i314, e1 k hk, n1, hx, i315, e2, i320, e3, n2, i321, e4, i324, e5, n3, i325, e6]
theorem told_E (h : F.H329 P) (hn : 7 ≤ n) (hp : p.Ok) (h0 : 0 ≤ t) (ht : t < p.ticks) (hs : s.Ok p t) (hz : PyData.strOk z = true) (hl : l.length ≤ 1000) (ha : a.length ≤ 1000) (hr : r.length ≤ 1000) (hx : P.xc 1 = true) (he : P.er = true) (ho : tickR p t s a (moE z l) r o) :
    callF P n 329 [.fz p.enc, .fz (.int t), .fz s.enc, .fz (rowE a), .fz (moE z l), .fz (rowE r)] = .ok (.fz (toldD o), []) := by
  have i327 : P.ios 327 = [false, false, false, false, false, false] := ios_of h.h327.me
  refine E_run (by omega) h.me rfl fun k hk => ?_
  rcases tick_ok (n := k) h.h327 (by omega) hp h0 ht hs hz hl ha hr hx ho with ⟨x, rfl, e⟩ | ⟨rfl, d, e⟩
  · simp [F.f329, he, i327, e, toldD]
  · simp [F.f329, he, i327, e, hx, toldD, errD, cnm, refD]
theorem ltick_E (h : F.H328 P) (hn : 6 ≤ n) (hp : p.Ok) (h0 : 0 ≤ t) (ht : t < p.ticks) (hs : s.Ok p t) (hz : PyData.strOk z = true) (hl : l.length ≤ 1000) (ha : a.length ≤ 1000) (hr : r.length ≤ 1000) (ho : tickR p t s a (moE z l) r o) :
    callF P n 328 [.fz p.enc, .fz (.int t), .fz s.enc, .fz (rowE a), .fz (moE z l), .fz (rowE r)] = .ok (.fz (tickD o), []) := by
  have i304 : P.ios 304 = [false, false, false] := ios_of h.h304.me
  have i305 : P.ios 305 = [false, false] := ios_of h.h305.me
  have i306 : P.ios 306 = [false, false, false] := ios_of h.h306.me
  have i307 : P.ios 307 = [false, false, false] := ios_of h.h307.me
  have i308 : P.ios 308 = [false, false] := ios_of h.h308.me
  have i309 : P.ios 309 = [false, false] := ios_of h.h309.me
  have h1 := hp.vesselsL
  have hlen := hs.len
  refine E_run (by omega) h.me rfl fun k hk => ?_
  have e1 := lawarr_E (n := k) h.h304 (by omega) hp (t := t) hs
  have n1 := in_rows (a := a) (arrs_len hs (by omega)) (by omega)
  have e2 := lawarrived_E (n := k) h.h305 (by omega) s (by omega) a
  have hs1 := arrived_ok hs h0 a
  have e3 := lawmvs_E (n := k) h.h306 (by omega) hp h0 ht hs1
  have n2 := in_mvs (p := p) (t := t) (s := arrivedS s a) hz hl
  rcases ho with ⟨c1, rfl⟩ | ⟨c1, c2, rfl⟩ | ⟨m, hm, em, c1, c3⟩
  · rw [decide_eq_false c1] at n1
    simp [F.f328, i304, e1, n1, tickD]
  · rw [decide_eq_true c1] at n1
    rw [decide_eq_false (fun ⟨m, hm, e⟩ => c2 m hm e)] at n2
    simp [F.f328, i304, e1, n1, i305, e2, i306, e3, n2, tickD]
  · rw [decide_eq_true c1] at n1
    rw [decide_eq_true ⟨m, hm, em⟩] at n2
    have hmi := mvL_in hs1 m hm
    have hs2 := moved_ok hp hs1 hmi
    have hl2 := hs2.len
    have e4 := lawmoved_E (n := k) h.h307 (by omega) hp hs1 hmi
    have e5 := lawstops_E (n := k) h.h308 (by omega) hp hs2
    have e6 := lawworked_E (n := k) h.h309 (by omega) (movedS p (arrivedS s a) m) (by omega) r
    have n3 := in_rows (l := stopsOf (movedS p (arrivedS s a) m)) (a := r) (fun q hq => by have := stop_in47 hq; omega) (by omega)
    rw [← em] at n2 ⊢
    rcases c3 with ⟨c3, rfl⟩ | ⟨c3, rfl⟩
    · rw [decide_eq_false c3] at n3
      simp [F.f328, i304, e1, n1, i305, e2, i306, e3, n2, i307, e4, i308, e5, n3, tickD]
    · rw [decide_eq_true c3] at n3
      simp [F.f328, i304, e1, n1, i305, e2, i306, e3, n2, i307, e4, i308, e5, n3, i309, e6, tickD]
theorem told_same (h : F.H6 P) (hn : 10 ≤ n) (hp : p.Ok) (ho : ∀ x, o = some x → x.1.vs.length ≤ 1000 ∧ x.2.vs.length ≤ 1000) : callF P n 6 [.fz (toldD o), .fz (toldD o)] = .ok (.fz (.bool true), []) := by
  refine same_E h (j := 4) (n := n) ?_ (by omega)
  cases o with
  | none => decide +kernel
  | some x =>
    obtain ⟨a1, a2⟩ := ho x rfl
    exact smp_mkT (by simp) fun y hy => by
      simp at hy
      rcases hy with rfl | rfl
      · exact smp_sta x.1 (by omega)
      · exact smp_sta x.2 (by omega)
end
end DL


set_option Elab.async false
set_option linter.all false
set_option maxRecDepth 100000
set_option maxHeartbeats 4000000
set_option autoImplicit false
/-! XER: the laws' own teller of errors, called in an except suite. -/
namespace DL
open PySem PySem.Spec PyProof.Rows L2

/-- isinstance(e, x), a text; p: where they stand -/
def isiS (p : Nat → Pos) (i : Nat) (x : Str) : Expr := .Call (.Name "isinstance" (p i)) [.Name "e" (p (i + 1)), .Name x (p (i + 2))] [] (p (i + 3))
def strS (p : Nat → Pos) (i : Nat) (x : Str) : Expr := .Constant (.str x) 0 (p i)
/-- the body, whatever its places are -/
def errB (p : Nat → Pos) : List Stmt := [.Assign [.Name "flags" (p 0)] (.List [isiS p 1 "BadText", isiS p 5 "NotAllowed", isiS p 9 "BadLine", isiS p 13 "BadCourse"] (p 17)) (p 18),
  .Assign [.Name "flags" (p 19)] (.BinOp (.Name "flags" (p 20)) .Add (.List [isiS p 21 "Over", isiS p 25 "NothingToUndo", isiS p 29 "NoRule", isiS p 33 "Full"] (p 37)) (p 38)) (p 39),
  .If (.BoolOp .Or [.Compare (.Call (.Attribute (.Name "flags" (p 40)) "count" (p 41)) [.Constant (.bool true) 0 (p 42)] [] (p 43)) [.NotEq] [.Constant (.int 1) 0 (p 44)] (p 45), .UnaryOp .Not (isiS p 46 "ValueError") (p 50)] (p 51))
    [.Return (some (.Tuple [strS p 52 "refused", strS p 53 "none"] 0 (p 54))) (p 55)] [] (p 56),
  .Assign [.Name "name" (p 57)] (.Subscript (.Tuple [strS p 58 "BadText", strS p 59 "NotAllowed", strS p 60 "BadLine", strS p 61 "BadCourse", strS p 62 "Over", strS p 63 "NothingToUndo", strS p 64 "NoRule", strS p 65 "Full"] 0 (p 66))
    (.Call (.Attribute (.Name "flags" (p 67)) "index" (p 68)) [.Constant (.bool true) 0 (p 69)] [] (p 70)) (p 71)) (p 72),
  .If (.Compare (.Name "name" (p 73)) [.Eq] [strS p 74 "BadLine"] (p 75)) [.Return (some (.Tuple [strS p 76 "refused", .Name "name" (p 77), .Attribute (.Name "e" (p 78)) "line" (p 79)] 0 (p 80))) (p 81)] [] (p 82),
  .Return (some (.IfExp (.Compare (.Name "name" (p 83)) [.Eq] [strS p 84 "BadCourse"] (p 85)) (.Tuple [strS p 86 "refused", .Name "name" (p 87), .Attribute (.Name "e" (p 88)) "tick" (p 89)] 0 (p 90)) (.Tuple [strS p 91 "refused", .Name "name" (p 92)] 0 (p 93)) (p 94))) (p 95)]

section
variable {X : Cx}
theorem pe_no {e : Expr} : PE X e (fun _ _ _ => False) := ⟨fun _ _ _ _ _ _ z => z.elim⟩
/-- isinstance(e, c), e an error that stands in the state, of the class D -/
theorem call_isP {a D : Addr} {oe : Obj} (k : ExcC X.K D) (hz : Zc (.ref D) none oe) (hf : ∃ vs, oe.data = .fields vs) (hp : (a, oe) ∈ X.pn) : CallR X (.builtin "isinstance") (rIsE X.K D a) := by
  intro pins s σ H xs us Q J rr ⟨c, cv, b, exs, hcv, ek, q⟩
  subst exs
  cases rr with
  | cons ra rt =>
    cases rt with
    | cons rc rn =>
      cases rn
      cases ra
      cases hcv _ rc
      have g := (J.pin (a, oe) (List.mem_append_left _ hp)).1
      obtain ⟨vs, hv⟩ := hf
      have at_ : PySem.W.InstAt s.heap a oe D none := by
        obtain ⟨c1, d1, e1, f1⟩ := oe
        obtain ⟨z1, z2⟩ := hz
        dsimp only at z1 z2 hv
        subst z1 z2 hv
        exact ⟨g, rfl, rfl, trivial⟩
      exact PySem.W.kia_one (PySem.W.handS_kitx_exc k.hg k.hk k.hs k.hd k.ha k.hn k.ht k.hm) J.kIn at_ ek (fun z => nomatch z) fun tk => ⟨.bl b, H, J.kept (t' := tk) fun _ _ z => z, rfl, q⟩
/-- list.count of flat items -/
def rCntF (K : PySem.W.Frag) : V → List V → Hp → VK → Prop := fun x xs H Q => ∃ (p : Addr) (ys : List V) (y : V), x = .ref p ∧ xs = [y] ∧ SqL K H p ys ∧ flatV y = true ∧ ys.all flatV = true ∧ Q (.int (ys.countP (fun z => eqV z y) : Nat)) H
theorem cnt_flat {y : V} : ∀ {ys : List V} {us : List Value}, Vals ys us → ys.all flatV = true → us.countP (eqU y) = ys.countP (fun z => eqV z y)
  | _, _, .nil, _ => rfl
  | z :: ys, u :: us, .cons r t, f => by
    rw [List.all_cons, Bool.and_eq_true] at f
    rw [List.countP_cons, List.countP_cons, cnt_flat t f.2, eqU_of r f.1]
theorem mt_cntF : MtR X "list.count" (rCntF X.K) := by
  intro pins s σ H x xs v us Q J rx rxs ⟨p, ys, y, ex, exs, hs, fy, fys, q⟩
  subst ex exs
  cases rx
  obtain ⟨u, rfl, ru⟩ := rxs.one
  obtain ⟨its, rv, ⟨⟨c1, d1, e1, f1⟩, n, ho, hc, hdn, hd⟩, hlen⟩ := J.list hs
  simp only at hc hd
  subst hc hd
  refine call_meets PySem.F.slot_list_count ⟨_, ho, rfl⟩ PySem.F.entry_list_count (PySem.F.args_list_count_2 _ _) (SeqAt.list_countAt p its.toArray n d1 f1 u (eqU y)) ⟨ho, fun z hz => mem_eqAt ru fy rv fys z (by simpa using hz), ?_⟩
  have ec : its.toArray.toList.countP (eqU y) = ys.countP (fun z => eqV z y) := cnt_flat rv fys
  refine ⟨.int (ys.countP (fun z => eqV z y) : Nat), H, J.tok _, ⟨s.toks, ?_⟩, q⟩
  show Value.int ((its.toArray.toList.countP (eqU y) : Nat) : Int) s.toks = _
  rw [ec]
end

/-- what is known of the classes, of an error of the class c at Ca -/
structure ErrF (K : PySem.W.Frag) (mg : Str → Option Value) (c : Nat) (Ca : Addr) (a0 a1 a2 a3 a4 a5 a6 a7 : Addr) : Prop where
  ec : ExcC K Ca
  n0 : mg "BadText" = some (.ref a0)
  n1 : mg "NotAllowed" = some (.ref a1)
  n2 : mg "BadLine" = some (.ref a2)
  n3 : mg "BadCourse" = some (.ref a3)
  n4 : mg "Over" = some (.ref a4)
  n5 : mg "NothingToUndo" = some (.ref a5)
  n6 : mg "NoRule" = some (.ref a6)
  n7 : mg "Full" = some (.ref a7)
  k0 : PySem.W.kitOne K (.ref Ca) (.ref a0) = some (c == 0)
  k1 : PySem.W.kitOne K (.ref Ca) (.ref a1) = some (c == 1)
  k2 : PySem.W.kitOne K (.ref Ca) (.ref a2) = some false
  k3 : PySem.W.kitOne K (.ref Ca) (.ref a3) = some false
  k4 : PySem.W.kitOne K (.ref Ca) (.ref a4) = some false
  k5 : PySem.W.kitOne K (.ref Ca) (.ref a5) = some false
  k6 : PySem.W.kitOne K (.ref Ca) (.ref a6) = some false
  k7 : PySem.W.kitOne K (.ref Ca) (.ref a7) = some false
  kv : PySem.W.kitOne K (.ref Ca) (.type "ValueError") = some true
  nv : mg "ValueError" = none
  ni : mg "isinstance" = none
  cc : c < 2

def errGl : List Str := ["isinstance", "BadText", "NotAllowed", "BadLine", "BadCourse", "Over", "NothingToUndo", "NoRule", "Full", "ValueError"]
section
variable {X : Cx} {c : Nat} {Ca a a0 a1 a2 a3 a4 a5 a6 a7 : Addr} {oe : Obj} {p : Nat → Pos}
/-- isinstance(e, x) of a class of the program, as one step -/
theorem pe_isJ (Fa : ErrF X.K X.mg c Ca a0 a1 a2 a3 a4 a5 a6 a7) (hz : Zc (.ref Ca) none oe) (hf : ∃ vs, oe.data = .fields vs) (hp : (a, oe) ∈ X.pn) (hN : X.N[0]? = some ("e" : Str)) (hl : X.env.scope.names.lookup ("e" : Str) = some .local) (gl : ∀ x ∈ errGl, Gl X x)
    {x : Str} {t : Addr} {b : Bool} (hx : x ∈ errGl) (hm : X.mg x = some (.ref t)) (hk : PySem.W.kitOne X.K (.ref Ca) (.ref t) = some b) (hd : (x == ("__debug__" : Str)) = false) (i : Nat) :
    PE X (isiS p i x) (fun σ H Q => σ[0]? = some (some (.ref a)) ∧ Q (.bl b) H) := by
  have pe := pe_callB (p := p i) (pos := p (i + 3)) (call_isP Fa.ec hz hf hp) (gl _ (by decide)) Fa.ni boot_isinstance (pa_cons (pe_var (pos := p (i + 1)) hN (.inl hl)) (pa_cons (pe_glob (v := .ref t) (pos := p (i + 2)) (gl x hx) hm rfl hd) pa_nil))
  exact pe_imp pe fun σ H Q ⟨h0, q⟩ => ⟨_, h0, _, .ref t, b, rfl, fun u r => r, hk, q⟩
theorem pe_isV (Fa : ErrF X.K X.mg c Ca a0 a1 a2 a3 a4 a5 a6 a7) (hz : Zc (.ref Ca) none oe) (hf : ∃ vs, oe.data = .fields vs) (hp : (a, oe) ∈ X.pn) (hN : X.N[0]? = some ("e" : Str)) (hl : X.env.scope.names.lookup ("e" : Str) = some .local) (gl : ∀ x ∈ errGl, Gl X x) (i : Nat) :
    PE X (isiS p i "ValueError") (fun σ H Q => σ[0]? = some (some (.ref a)) ∧ Q (.bl true) H) := by
  have pe := pe_callB (p := p i) (pos := p (i + 3)) (call_isP Fa.ec hz hf hp) (gl _ (by decide)) Fa.ni boot_isinstance (pa_cons (pe_var (pos := p (i + 1)) hN (.inl hl)) (pa_cons (pe_bltn (v := .ty "ValueError") (pos := p (i + 2)) (gl "ValueError" (by decide)) Fa.nv (u := .type "ValueError") (by rfl) rfl) pa_nil))
  exact pe_imp pe fun σ H Q ⟨h0, q⟩ => ⟨_, h0, _, .type "ValueError", true, rfl, fun u r => r, Fa.kv, q⟩
def flags0 (c : Nat) : List V := [.bl (c == 0), .bl (c == 1), .bl false, .bl false]
def errNm : List V := [.str "BadText", .str "NotAllowed", .str "BadLine", .str "BadCourse", .str "Over", .str "NothingToUndo", .str "NoRule", .str "Full"]
def flags1 : List V := [.bl false, .bl false, .bl false, .bl false]
theorem err_body (Fa : ErrF X.K X.mg c Ca a0 a1 a2 a3 a4 a5 a6 a7) (hz : Zc (.ref Ca) none oe) (hf : ∃ vs, oe.data = .fields vs) (hp : (a, oe) ∈ X.pn) (hN : X.N = (["e", "flags", "name"] : List Str)) (hl : ∀ x ∈ (["e", "flags", "name"] : List Str), X.env.scope.names.lookup x = some .local) (gl : ∀ x ∈ errGl, Gl X x)
    (h1 : ((p 41).endLine == (p 43).line) = true) (h2 : ((p 68).endLine == (p 70).line) = true) :
    PSs X (errB p) (fun D σ H => ∃ x y, σ = [some (.ref a), x, y] ∧ ∀ q H', (∀ b o, H b = some o → H' b = some o) → H q = none → H' q = some (.tup [.str "refused", .str (cnm c)]) → D.rt (.ref q) H') := by
  have nd : X.N.Nodup := by rw [hN]; decide
  have e0 : X.N[0]? = some ("e" : Str) := by rw [hN]; rfl
  have e1 : X.N[1]? = some ("flags" : Str) := by rw [hN]; rfl
  have e2 : X.N[2]? = some ("name" : Str) := by rw [hN]; rfl
  have l0 := hl "e" (by decide)
  have l1 := hl "flags" (by decide)
  have l2 := hl "name" (by decide)
  have isJ := fun {x : Str} {t : Addr} {b : Bool} (hx : x ∈ errGl) hm hk hd i => pe_isJ (p := p) Fa hz hf hp e0 l0 gl (x := x) (t := t) (b := b) hx hm hk hd i
  have s1 := ps_set (i := 1) (pos' := p 0) (pos := p 18) nd e1 (.inl l1) (pe_lst (pos := p 17) (pa_cons (isJ (by decide) Fa.n0 Fa.k0 rfl 1) (pa_cons (isJ (by decide) Fa.n1 Fa.k1 rfl 5) (pa_cons (isJ (by decide) Fa.n2 Fa.k2 rfl 9) (pa_cons (isJ (by decide) Fa.n3 Fa.k3 rfl 13) pa_nil))))) rfl (.inr l1)
  have s2 := ps_set (i := 1) (pos' := p 19) (pos := p 39) nd e1 (.inl l1) (pe_op (pos := p 38) op_catR (pe_var (pos := p 20) e1 (.inl l1)) (pe_lst (pos := p 37) (pa_cons (isJ (by decide) Fa.n4 Fa.k4 rfl 21) (pa_cons (isJ (by decide) Fa.n5 Fa.k5 rfl 25) (pa_cons (isJ (by decide) Fa.n6 Fa.k6 rfl 29) (pa_cons (isJ (by decide) Fa.n7 Fa.k7 rfl 33) pa_nil)))))) rfl (.inr l1)
  have cnt := pe_bm (apos := p 41) (cpos := p 43) PySem.F.plainAttrs_list PySem.F.slot_list_count PySem.F.type_list_count mt_cntF (pe_var (pos := p 40) e1 (.inl l1)) (pa_cons (pe_bl (pos := p 42) (j := 0) (b := true)) pa_nil) rfl rfl h1
  have s3 := ps_if (pos := p 56) (a := [.Return (some (.Tuple [strS p 52 "refused", strS p 53 "none"] 0 (p 54))) (p 55)]) (PW.pt (pw_or (pos := p 51) (pt_cmpR (pos := p 45) op_ne cnt (pe_int (pos := p 44) (j := 0) (i := 1)) (nomark _)) (pw_or1 (pos := p 51) (pt_not (pos := p 50) (pt_truth (pe_isV (p := p) Fa hz hf hp e0 l0 gl 46) (by intro _; rfl)))))) pss_never pss_nil
  have idx := pe_bm (apos := p 68) (cpos := p 70) PySem.F.plainAttrs_list PySem.F.slot_list_index PySem.F.type_list_index mt_index (pe_var (pos := p 67) e1 (.inl l1)) (pa_cons (pe_bl (pos := p 69) (j := 0) (b := true)) pa_nil) rfl rfl h2
  have s4 := ps_set (i := 2) (pos' := p 57) (pos := p 72) nd e2 (.inl l2) (pe_ix (pos := p 71) ix_tup (pe_tup (pos := p 66) (x1 := 0) (pa_cons (e := strS p 58 "BadText") pe_str (pa_cons (e := strS p 59 "NotAllowed") pe_str (pa_cons (e := strS p 60 "BadLine") pe_str (pa_cons (e := strS p 61 "BadCourse") pe_str (pa_cons (e := strS p 62 "Over") pe_str (pa_cons (e := strS p 63 "NothingToUndo") pe_str (pa_cons (e := strS p 64 "NoRule") pe_str (pa_cons (e := strS p 65 "Full") pe_str pa_nil))))))))) idx (fun _ _ => rfl)) rfl (.inr l2)
  have s5 := ps_if (pos := p 82) (a := [.Return (some (.Tuple [strS p 76 "refused", .Name "name" (p 77), .Attribute (.Name "e" (p 78)) "line" (p 79)] 0 (p 80))) (p 81)]) (pt_cmpR (pos := p 75) op_eq (pe_var (pos := p 73) e2 (.inl l2)) (pe_str (pos := p 74) (j := 0) (x := "BadLine")) (nomark _)) pss_never pss_nil
  have s6 := ps_ret (pos := p 95) (pe_ifExp (pos := p 94) (a := .Tuple [strS p 86 "refused", .Name "name" (p 87), .Attribute (.Name "e" (p 88)) "tick" (p 89)] 0 (p 90)) (pt_cmpR (pos := p 85) op_eq (pe_var (pos := p 83) e2 (.inl l2)) (pe_str (pos := p 84) (j := 0) (x := "BadCourse")) (nomark _)) pe_no (pe_tup (pos := p 93) (x1 := 0) (pa_cons (e := strS p 91 "refused") pe_str (pa_cons (pe_var (pos := p 92) e2 (.inl l2)) pa_nil))))
  refine pss_imp (pss_cons s1 (pss_cons s2 (pss_cons s3 (pss_cons s4 (pss_cons s5 (pss_one s6)))))) fun DD σ H ⟨x, y, es, q⟩ => ?_
  subst es
  have hc : c = 0 ∨ c = 1 := by have := Fa.cc; omega
  refine ⟨rfl, rfl, rfl, rfl, (by show 4 ≤ sizeLine; decide), fun p1 hp1 => ?_⟩
  refine ⟨_, rfl, rfl, rfl, rfl, rfl, (by show 4 ≤ sizeLine; decide), fun p2 hp2 => ?_⟩
  have h12 : p1 ≠ p2 := fun z => by rw [← z, upd_same] at hp2; cases hp2
  refine ⟨p1, p2, flags0 c, flags1, rfl, rfl, SqL.of (by rw [upd_ne h12]; exact upd_same), SqL.of upd_same, (by show 8 ≤ sizeLine; decide), fun p3 hp3 => ?_⟩
  have k3 : ∀ b o, H b = some o → upd (upd (upd H p1 (.lst (flags0 c))) p2 (.lst flags1)) p3 (.lst (flags0 c ++ flags1)) b = some o := fun b o hb => by
    have n1 : b ≠ p1 := fun z => by rw [z, hp1] at hb; cases hb
    have u1 : upd H p1 (.lst (flags0 c)) b = some o := by rw [upd_ne n1]; exact hb
    have n2 : b ≠ p2 := fun z => by rw [z] at u1; rw [show upd H p1 (.lst (flags0 c)) p2 = none from hp2] at u1; cases u1
    have u2 : upd (upd H p1 (.lst (flags0 c))) p2 (.lst flags1) b = some o := by rw [upd_ne n2]; exact u1
    have n3 : b ≠ p3 := fun z => by rw [z] at u2; rw [show upd (upd H p1 (.lst (flags0 c))) p2 (.lst flags1) p3 = none from hp3] at u2; cases u2
    rw [upd_ne n3]; exact u2
  show tSeq _ _ _ _ (upd (upd (upd H p1 (.lst (flags0 c))) p2 (.lst flags1)) p3 (.lst (flags0 c ++ flags1)))
  have h3 : upd (upd (upd H p1 (.lst (flags0 c))) p2 (.lst flags1)) p3 (.lst (flags0 c ++ flags1)) p3 = some (.lst (flags0 c ++ flags1)) := upd_same
  have sq3 : SqL X.K (upd (upd (upd H p1 (.lst (flags0 c))) p2 (.lst flags1)) p3 (.lst (flags0 c ++ flags1))) p3 (flags0 c ++ flags1) := SqL.of upd_same
  generalize upd (upd (upd H p1 (.lst (flags0 c))) p2 (.lst flags1)) p3 (.lst (flags0 c ++ flags1)) = H3 at k3 h3 sq3 ⊢
  have fl : (flags0 c ++ flags1).all flatV = true := rfl
  have cn : (flags0 c ++ flags1).countP (fun z => eqV z (.bl true)) = 1 := by rcases hc with rfl | rfl <;> rfl
  refine ⟨.ref p3, rfl, .inl ⟨rfl, _, sq3⟩, p3, flags0 c ++ flags1, .bl true, rfl, rfl, sq3, rfl, fl, ?_⟩
  rw [cn]
  refine ⟨rfl, false, rfl, ?_⟩
  simp only [Bool.false_eq_true, if_false]
  refine ⟨rfl, true, rfl, ?_⟩
  simp only [Bool.not_true, Bool.false_eq_true, if_false]
  refine ⟨(by show 8 ≤ sizeLine; decide), fun p4 hp4 => ?_⟩
  have n34 : p3 ≠ p4 := fun z => by rw [← z, h3] at hp4; cases hp4
  have k4 : ∀ b o, H b = some o → upd H3 p4 (.tup errNm) b = some o := fun b o hb => by
    have := k3 b o hb
    rw [upd_ne (fun z => by rw [z, hp4] at this; cases this)]
    exact this
  have sq4 : SqL X.K (upd H3 p4 (.tup errNm)) p3 (flags0 c ++ flags1) := SqL.of (by rw [upd_ne n34]; exact h3)
  have tq4 : SqT X.K (upd H3 p4 (.tup errNm)) p4 errNm := SqT.of upd_same
  show tBM _ _ _ _ _ _ (upd H3 p4 (.tup errNm)) _
  generalize upd H3 p4 (.tup errNm) = H4 at k4 sq4 tq4 ⊢
  refine ⟨.ref p3, rfl, .inl ⟨rfl, _, sq4⟩, p3, flags0 c ++ flags1, .bl true, c, .bl true, rfl, rfl, sq4, rfl, fl, ?_, rfl, fun m z hm hz => ?_, p4, errNm, (c : Int), .str (cnm c), rfl, rfl, tq4, ?_, ?_⟩
  · rcases hc with rfl | rfl <;> rfl
  · rcases hc with rfl | rfl
    · omega
    · obtain rfl : m = 0 := by omega
      cases hz
      rfl
  · rcases hc with rfl | rfl <;> rfl
  have d1 : decide (V.str (cnm c) = V.str ("BadLine" : Str)) = false := by rcases hc with rfl | rfl <;> decide
  have d2 : decide (V.str (cnm c) = V.str ("BadCourse" : Str)) = false := by rcases hc with rfl | rfl <;> decide
  refine ⟨.str (cnm c), rfl, rfl, _, rfl, ?_⟩
  rw [d1]
  simp only [Bool.false_eq_true, if_false]
  refine ⟨.str (cnm c), rfl, rfl, _, rfl, ?_⟩
  rw [d2]
  simp only [Bool.false_eq_true, if_false]
  refine ⟨.str (cnm c), rfl, (by show 2 ≤ sizeLine; decide), fun p5 hp5 => q p5 _ (fun b o hb => ?_) ?_ upd_same⟩
  · have := k4 b o hb
    rw [upd_ne (fun z => by rw [z, hp5] at this; cases this)]
    exact this
  · cases e : H p5 with
    | none => rfl
    | some o => rw [k4 p5 o e] at hp5; cases hp5
end

/-- where the teller lies -/
theorem err_fn {P : Program} {w : World} {K : PySem.W.Frag} {mg : Str → Option Value} {base : Heap} {st : Stmt} {f : Addr} {fd : FuncData} {p : Nat → Pos} {c : Nat} {Ca a0 a1 a2 a3 a4 a5 a6 a7 : Addr} (F : Fun K "_law_error" "_law_error" st f fd) (S : FnScope ["e", "flags", "name"] ["e"] (defScope st))
    (sl : ∀ x ∈ (["e", "flags", "name"] : List Str), (defScope st).names.lookup x = some .local) (gl : ∀ x ∈ errGl, (defScope st).names.lookup x = some .globalImplicit) (hb : defBody st = errB p) (h1 : ((p 41).endLine == (p 43).line) = true) (h2 : ((p 68).endLine == (p 70).line) = true)
    (Fa : ErrF K mg c Ca a0 a1 a2 a3 a4 a5 a6 a7) : FnE P w K mg base f fd c Ca := by
  obtain ⟨oc, od, kV, doc, pm, an, cdv, ct, osl, rfl, lk, hcd⟩ := F.ex
  intro A outer s H args a oe Q E hr hpin hz hf env bnd hq
  have kin : K.In s.heap := env.mod.kin.keeps fun b o e => (env.bs b o e).1
  have lim : s.heap.NoLimit := env.mod.nolimit.keeps fun b o e => (env.bs b o e).1
  refine codeAny_call_function hr.depth (kin _ _ lk) rfl S.co S.gen rfl (PySem.W.codeRec_of kin hcd) (bnd _ _ _ _ (wpAny_newFunctionEnv_cells S.kind (fun y hy => ?_) fun en he s1 x => ?_))
  · rw [List.mem_singleton.mp hy]
    exact .inl (sl "e" (by decide))
  subst he
  refine ⟨lim.keeps x.toInCall.keep, codeAny_func ?_⟩
  have J := L2H.inv_startH (CX := L2.CX P w) (ps := ["e"]) (us := [.ref a]) (vs := [.ref a]) (E := E) S hpin env rfl (.cons rfl .nil) x
  have body := err_body (X := L2H.cxH (L2.CX P w) P w K mg base ["e", "flags", "name"] "_law_error" (defScope st) f cdv A outer s H E (a, oe)) (p := p) Fa hz hf List.mem_cons_self rfl sl gl h1 h2
  rw [hb]
  refine wpAny_mono (body.run [] s1 _ H { nx := fun _ H' => Q .non H', rt := Q } J ⟨none, none, rfl, hq⟩) (fun fl s2 hs => ?_) fun _ _ z => z
  cases fl with
  | ret u =>
    obtain ⟨v, _, H2, J2, rv, q2⟩ := hs
    exact ⟨v, H2, J2.os, J2.bare, J2.base, J2.hok, rv, q2⟩
  | next =>
    obtain ⟨_, H2, J2, q2⟩ := hs
    exact ⟨.non, H2, J2.os, J2.bare, J2.base, J2.hok, rfl, q2⟩
  | brk =>
    obtain ⟨_, _, _, z⟩ := hs
    exact z.elim
  | cont =>
    obtain ⟨_, _, _, z⟩ := hs
    exact z.elim
/-- all that is told of the errors of a law -/
theorem err_mk {Pg : Program} {w : World} {K : PySem.W.Frag} {h : Heap} {mg : Str → Option Value} (X : K.In h) (G : h.Ns mainGlobals mg) {Pa fe a0 a1 a2 a3 a4 a5 a6 a7 : Addr} {st : Stmt} {p : Nat → Pos} {oc kV dc pm cd ct : Value} {od an : Option Addr} {sl : Array (Option Value)}
    (S : FnScope ["e", "flags", "name"] ["e"] (defScope st)) (slk : ∀ x ∈ (["e", "flags", "name"] : List Str), (defScope st).names.lookup x = some .local) (glk : ∀ x ∈ errGl, (defScope st).names.lookup x = some .globalImplicit) (hb : defBody st = errB p) (h1 : ((p 41).endLine == (p 43).line) = true) (h2 : ((p 68).endLine == (p 70).line) = true)
    (bnd : ∀ us : List Value, us.length = (["e"] : List Str).length → bindArgs (PySem.W.fnOf "_law_error" "_law_error" (defArgs st) (defBody st) (defScope st) .none kV dc pm an cd ct) ⟨us, []⟩ = pure ((["e"] : List Str).zip us)) (zi : mg "isinstance" = none)
    (xpn : PySem.W.nsIn K mainGlobals "PortError" = some (some (.ref Pa)))
    (xpb : PySem.W.subIn K (.ref Pa) (.type "BaseException") = some true)
    (xph : PySem.W.hasDictIn K Pa = true)
    (xpt : PySem.W.typeIn K (.ref Pa) = some (.type "type"))
    (xen : PySem.W.nsIn K mainGlobals "_law_error" = some (some (.ref fe)))
    (xel : K.lookup fe = some ⟨oc, od, .func (PySem.W.fnOf "_law_error" "_law_error" (defArgs st) (defBody st) (defScope st) .none kV dc pm an cd ct), sl⟩)
    (xec : PySem.W.codeIn K cd "_law_error" = true)
    (xek : PySem.W.keepIn K (.ref fe) = true)
    (xn0 : PySem.W.nsIn K mainGlobals "BadText" = some (some (.ref a0)))
    (xn1 : PySem.W.nsIn K mainGlobals "NotAllowed" = some (some (.ref a1)))
    (xn2 : PySem.W.nsIn K mainGlobals "BadLine" = some (some (.ref a2)))
    (xn3 : PySem.W.nsIn K mainGlobals "BadCourse" = some (some (.ref a3)))
    (xn4 : PySem.W.nsIn K mainGlobals "Over" = some (some (.ref a4)))
    (xn5 : PySem.W.nsIn K mainGlobals "NothingToUndo" = some (some (.ref a5)))
    (xn6 : PySem.W.nsIn K mainGlobals "NoRule" = some (some (.ref a6)))
    (xn7 : PySem.W.nsIn K mainGlobals "Full" = some (some (.ref a7)))
    (xnv : PySem.W.nsIn K mainGlobals "ValueError" = some none)
    (xhn : PySem.W.specialIn K (.builtin "object.__class__") "__get__" = some (some (.builtin "getset_descriptor.__get__")))
    (xht : PySem.W.takesIn K (.builtin "object.__class__") = some true)
    (xx0 : PySem.W.excIn K a0 [.type "ValueError", .type "Exception", .type "BaseException", .type "object"] "ValueError.__new__" = true)
    (xk0 : PySem.W.keepIn K (.ref a0) = true)
    (xb0 : PySem.W.subIn K (.ref a0) (.type "BaseException") = some true)
    (xt0 : PySem.W.typeIn K (.ref a0) = some (.type "type"))
    (xs0 : PySem.W.subIn K (.ref a0) (.ref Pa) = some true)
    (xg0 : PySem.W.findIn K (.ref a0) "__getattribute__" = some (some (.builtin "BaseException.__getattribute__")))
    (xa0 : PySem.W.findIn K (.ref a0) "__getattr__" = some none)
    (xd0 : PySem.W.hasDictIn K a0 = true)
    (xc0 : PySem.W.findIn K (.ref a0) "__class__" = some (some (.builtin "object.__class__")))
    (xm0 : PySem.W.mroIn K a0 (.type "object") = some true)
    (xv0 : PySem.W.kitOne K (.ref a0) (.type "ValueError") = some true)
    (xq00 : PySem.W.kitOne K (.ref a0) (.ref a0) = some true)
    (xq01 : PySem.W.kitOne K (.ref a0) (.ref a1) = some false)
    (xq02 : PySem.W.kitOne K (.ref a0) (.ref a2) = some false)
    (xq03 : PySem.W.kitOne K (.ref a0) (.ref a3) = some false)
    (xq04 : PySem.W.kitOne K (.ref a0) (.ref a4) = some false)
    (xq05 : PySem.W.kitOne K (.ref a0) (.ref a5) = some false)
    (xq06 : PySem.W.kitOne K (.ref a0) (.ref a6) = some false)
    (xq07 : PySem.W.kitOne K (.ref a0) (.ref a7) = some false)
    (xx1 : PySem.W.excIn K a1 [.type "ValueError", .type "Exception", .type "BaseException", .type "object"] "ValueError.__new__" = true)
    (xk1 : PySem.W.keepIn K (.ref a1) = true)
    (xb1 : PySem.W.subIn K (.ref a1) (.type "BaseException") = some true)
    (xt1 : PySem.W.typeIn K (.ref a1) = some (.type "type"))
    (xs1 : PySem.W.subIn K (.ref a1) (.ref Pa) = some true)
    (xg1 : PySem.W.findIn K (.ref a1) "__getattribute__" = some (some (.builtin "BaseException.__getattribute__")))
    (xa1 : PySem.W.findIn K (.ref a1) "__getattr__" = some none)
    (xd1 : PySem.W.hasDictIn K a1 = true)
    (xc1 : PySem.W.findIn K (.ref a1) "__class__" = some (some (.builtin "object.__class__")))
    (xm1 : PySem.W.mroIn K a1 (.type "object") = some true)
    (xv1 : PySem.W.kitOne K (.ref a1) (.type "ValueError") = some true)
    (xq10 : PySem.W.kitOne K (.ref a1) (.ref a0) = some false)
    (xq11 : PySem.W.kitOne K (.ref a1) (.ref a1) = some true)
    (xq12 : PySem.W.kitOne K (.ref a1) (.ref a2) = some false)
    (xq13 : PySem.W.kitOne K (.ref a1) (.ref a3) = some false)
    (xq14 : PySem.W.kitOne K (.ref a1) (.ref a4) = some false)
    (xq15 : PySem.W.kitOne K (.ref a1) (.ref a5) = some false)
    (xq16 : PySem.W.kitOne K (.ref a1) (.ref a6) = some false)
    (xq17 : PySem.W.kitOne K (.ref a1) (.ref a7) = some false) :
    (∀ c, decide (c < 2) = true → ∃ Ca, XCls K mg c Ca) ∧ ∀ base : Heap, ErrOk Pg w K mg base (fun c => decide (c < 2)) := by
  have m0 := PySem.W.mg_of X G xn0
  have m1 := PySem.W.mg_of X G xn1
  have m2 := PySem.W.mg_of X G xn2
  have m3 := PySem.W.mg_of X G xn3
  have m4 := PySem.W.mg_of X G xn4
  have m5 := PySem.W.mg_of X G xn5
  have m6 := PySem.W.mg_of X G xn6
  have m7 := PySem.W.mg_of X G xn7
  have mp := PySem.W.mg_of X G xpn
  have mv := PySem.W.mg_none_of X G xnv
  have F0 : ErrF K mg 0 a0 a0 a1 a2 a3 a4 a5 a6 a7 := ⟨⟨xg0, xa0, xb0, xd0, xc0, xhn, xht, xm0⟩, m0, m1, m2, m3, m4, m5, m6, m7, xq00, xq01, xq02, xq03, xq04, xq05, xq06, xq07, xv0, mv, zi, by decide⟩
  have F1 : ErrF K mg 1 a1 a0 a1 a2 a3 a4 a5 a6 a7 := ⟨⟨xg1, xa1, xb1, xd1, xc1, xhn, xht, xm1⟩, m0, m1, m2, m3, m4, m5, m6, m7, xq10, xq11, xq12, xq13, xq14, xq15, xq16, xq17, xv1, mv, zi, by decide⟩
  have two : ∀ c, decide (c < 2) = true → c = 0 ∨ c = 1 := fun c hc => by have := of_decide_eq_true hc; omega
  have F := fun_mk (st := st) xel xec xek
  refine ⟨fun c hc => ?_, fun base => ⟨⟨Pa, mp, fun c Ca hc hm => ?_⟩, fe, _, PySem.W.mg_of X G xen, xek, .all bnd, fun c Ca hc hm => ?_⟩⟩
  · rcases two c hc with rfl | rfl
    · exact ⟨a0, m0, xx0, xk0, xb0, xt0⟩
    · exact ⟨a1, m1, xx1, xk1, xb1, xt1⟩
  · rcases two c hc with rfl | rfl
    · cases (show some (Value.ref a0) = some (.ref Ca) from m0.symm.trans hm)
      exact PySem.W.exm_ref xpb xph xpt xs0
    · cases (show some (Value.ref a1) = some (.ref Ca) from m1.symm.trans hm)
      exact PySem.W.exm_ref xpb xph xpt xs1
  · rcases two c hc with rfl | rfl
    · cases (show some (Value.ref a0) = some (.ref Ca) from m0.symm.trans hm)
      exact err_fn F S slk glk hb h1 h2 F0
    · cases (show some (Value.ref a1) = some (.ref Ca) from m1.symm.trans hm)
      exact err_fn F S slk glk hb h1 h2 F1
end DL


set_option Elab.async false
set_option linter.all false
set_option maxRecDepth 100000
set_option maxHeartbeats 4000000
set_option autoImplicit false
/-! L47: the law on ticks done or refused. -/
namespace DL
open PySem
open scoped Classical
def Moi (d : D) : Prop := ∃ z l, d = moE z l ∧ PyData.strOk z = true ∧ l.length ≤ 1000
def Roi (d : D) : Prop := ∃ r : List Int, d = rowE r ∧ r.length ≤ 1000
theorem roi_of : ∀ {xs : List D}, (∀ x ∈ xs, ∃ i, x = .int i) → xs.length ≤ 1000 → Roi (.tuple xs) := fun {xs} h hl => by
  have : ∃ r : List Int, xs = r.map .int := by
    induction xs with
    | nil => exact ⟨[], rfl⟩
    | cons x xs ih =>
      obtain ⟨i, rfl⟩ := h x (by simp)
      obtain ⟨r, e⟩ := ih (fun y hy => h y (by simp [hy])) (by simp at hl; omega)
      exact ⟨i :: r, by rw [e]; rfl⟩
  obtain ⟨r, rfl⟩ := this
  exact ⟨r, rfl, by simpa using hl⟩
theorem moi_mv (m : Mv) : Moi m.enc := by
  cases m with
  | no => exact ⟨_, [], rfl, by decide +kernel, by simp⟩
  | inn a b => exact ⟨_, [a, b], rfl, by decide +kernel, by simp⟩
  | out a => exact ⟨_, [a], rfl, by decide +kernel, by simp⟩
theorem paired_r {G : D → D → Prop} {Q : D → Prop} (k : ∀ x d, G x d → Q d) : ∀ {xs ds : List D}, Paired G xs ds → ∀ d ∈ ds, Q d
  | _, _, .nil, d, h => by cases h
  | _, _, .cons g t, d, h => by
    rcases List.mem_cons.mp h with rfl | h
    · exact k _ _ g
    · exact paired_r k t d h
theorem cut_mem {xs : List D} {lo hi : Option Int} {x : D} (h : x ∈ cutL xs lo hi) : x ∈ xs := List.mem_of_mem_drop (List.mem_of_mem_take h)
theorem cut_len47 {xs : List D} {lo hi : Option Int} : (cutL xs lo hi).length ≤ xs.length := by
  unfold cutL
  rw [List.length_take, List.length_drop]
  omega
/-- one asking -/
theorem ask47 {P : Prog} {n : Nat} (h6 : F.H6 P) (h328 : F.H328 P) (h329 : F.H329 P) (hn : 10 ≤ n) {p : Port} (hp : p.Ok) {t : Int} (h0 : 0 ≤ t) (ht : t < p.ticks) {s : Sta} (hs : s.Ok p t) {da dm dr : D} (ha : Roi da) (hm : Moi dm) (hr : Roi dr) (hx : P.xc 1 = true) (he : P.er = true) :
    ∃ o, callF P n 328 [.fz p.enc, .fz (.int t), .fz s.enc, .fz da, .fz dm, .fz dr] = .ok (.fz (tickD o), []) ∧ callF P n 329 [.fz p.enc, .fz (.int t), .fz s.enc, .fz da, .fz dm, .fz dr] = .ok (.fz (toldD o), []) ∧
      callF P n 6 [.fz (toldD o), .fz (toldD o)] = .ok (.fz (.bool true), []) := by
  obtain ⟨a, rfl, ha⟩ := ha
  obtain ⟨r, rfl, hr⟩ := hr
  obtain ⟨z, l, rfl, hz, hl⟩ := hm
  obtain ⟨o, ho⟩ := tick_some p t s a (moE z l) r
  refine ⟨o, ltick_E h328 (by omega) hp h0 ht hs hz hl ha hr ho, told_E h329 (by omega) hp h0 ht hs hz hl ha hr hx he ho, told_same h6 (by omega) hp fun x hx => ?_⟩
  have h1 := hp.vesselsL
  rcases ho with ⟨_, rfl⟩ | ⟨_, _, rfl⟩ | ⟨m, hm, em, c1, ⟨_, rfl⟩ | ⟨_, rfl⟩⟩
  · cases hx
  · cases hx
  · cases hx
  · cases hx
    have hs1 := arrived_ok hs h0 a
    have hs2 := moved_ok hp hs1 (mvL_in hs1 m hm)
    have := hs2.len
    exact ⟨by show (movedS p (arrivedS s a) m).vs.length ≤ 1000; omega, by show (workedS (movedS p (arrivedS s a) m) r).vs.length ≤ 1000; simp [workedS]; omega⟩
theorem law_k47 {P : Prog} (hx' : P.xc 1 = true) (he : P.er = true) (h : F.H330 P) (k : Nat) (ns : List Int) : ∃ outs, callF P (k + 140) 330 [.fz (.list (ns.map .int))] = .ok (.fz (.bool true), outs) := by
  have i7 : P.ios 7 = [false] := ios_of h.h7.me
  have i9 : P.ios 9 = [true, false] := ios_of h.h9.me
  have i31 : P.ios 31 = [true, false] := ios_of h.h31.me
  have i260 : P.ios 260 = [false] := ios_of h.h260.me
  have i295 : P.ios 295 = [true, false] := ios_of h.h295.me
  have i310 : P.ios 310 = [true, false, false] := ios_of h.h310.me
  have i304 : P.ios 304 = [false, false, false] := ios_of h.h304.me
  have i305 : P.ios 305 = [false, false] := ios_of h.h305.me
  have i306 : P.ios 306 = [false, false, false] := ios_of h.h306.me
  have i307 : P.ios 307 = [false, false, false] := ios_of h.h307.me
  have i308 : P.ios 308 = [false, false] := ios_of h.h308.me
  have i328 : P.ios 328 = [false, false, false, false, false, false] := ios_of h.h328.me
  have i329 : P.ios 329 = [false, false, false, false, false, false] := ios_of h.h329.me
  have i6 : P.ios 6 = [false, false] := ios_of h.h6.me
  suffices hq : W (callF P (k + 140) 330 [.fz (.list (ns.map .int))]) fun p => ∃ outs, p = (.fz (.bool true), outs) by
    obtain ⟨p, e, outs, rfl⟩ := W_iff.mp hq
    exact ⟨outs, e⟩
  refine W_run (by omega) h.me rfl fun k' hk => ?_
  have hk : 139 ≤ k' := by omega
  simp [F.f330, i7]
  refine pool_W h.h7 (by omega) ns fun ps pv => ?_
  simp [i295]
  refine anyport_W h.h295 (by omega) pv (by omega) fun p hp ht ys pv => ?_
  have h1 := hp.ticks
  have h2 := hp.vesselsL
  have h3 := hp.berthsL
  simp [i9]
  refine draw_W h.h9 (by omega) pv (by omega) (by omega) fun tick ys pv a0 a1 => ?_
  simp [i310]
  refine somestate_W h.h310 (by omega) pv hp a0 (by omega) fun s hs ys pv => ?_
  have hl := hs.len
  have e260 := subs_E (n := k') h.h260 (by omega) ((List.range p.vessels.length).map fun (i : Nat) => (i : Int)) (by simp; omega)
  have erg : range 0 p.vessels.length = ((List.range p.vessels.length).map fun (i : Nat) => (i : Int)).map .int := by rw [rng0, List.map_map]; rfl
  have ea := lawarr_E (n := k') h.h304 (by omega) hp (t := tick) hs
  have al : (arrs p tick s).length ≤ 16 := by
    unfold arrs
    refine Nat.le_trans (List.length_filter_le _ _) ?_
    rw [sortR_len, subs_len]
    have := at_len (s := s) (g := 0)
    exact Nat.le_trans (Nat.pow_le_pow_right (by omega) (show _ ≤ 4 by omega)) (by decide)
  have elr : biD .lrng [.int (p.vessels.length : Int)] = .ok (.ow (((List.range p.vessels.length).map fun (i : Nat) => (i : Int)).map .int)) := by
    rw [← erg]
    simp only [biD]
    rw [if_pos (by simp [rgOk, bnd62]; omega)]
    rfl
  simp only [List.map_map] at elr e260
  simp [i260, elr, e260, i31, i304, ea]
  refine pick31_W h.h31 (by omega) pv (by simpa using arrs_ne hp hs) (by simp; omega) fun d hd ys pv => ?_
  obtain ⟨row, hrow, rfl⟩ := List.mem_map.mp hd
  have hrl := (arr_in47 (t' := 0) hrow).2
  have e1 := lawarrived_E (n := k') h.h305 (by omega) s (by omega) row
  have hs1 := arrived_ok hs a0 row
  have hl1 := hs1.len
  have e2 := lawmvs_E (n := k') h.h306 (by omega) hp a0 (by omega) hs1
  have ero : itemsD .rng [.int (-1), .int ((p.vessels.length : Int) + 1)] = .ok (range (-1) ((p.vessels.length : Int) + 2).toNat) := by rw [items_r2 (by omega) (by omega)]; exact congrArg (fun n => Res.ok (range (-1) n)) (by omega)
  have erv : itemsD .rng [.int (p.vessels.length : Int)] = .ok (range 0 p.vessels.length) := by rw [items_r1 (by omega)]; rfl
  simp [i305, e1, i306, e2, ero]
  generalize hE : sortD (List.map rowE (subsI (List.map (fun (i : Nat) => (i : Int)) (List.range p.vessels.length)))) = ev
  refine LC_rel (fun r => r = [.fz (.list (ns.map .int)), .ow ys, .fz p.enc, .fz (.int tick), .fz s.enc, .ow ev, .fz (rowE row), .fz (arrivedS s row).enc, .ow (sortD ((mvL p tick (arrivedS s row) p.vessels.length).map Mv.enc)), .em, .em, .em, .em, .em, .em, .em]) (fun _ d => Moi d) rfl (fun x hx r hr => ?_) (by simp; omega) fun ds r hr hp1 => ?_
  · subst hr
    obtain ⟨i, hi, rfl⟩ := mem_range hx
    simp
    exact ⟨_, [_, 0], rfl, by decide +kernel, by simp⟩
  subst hr
  have m1 := paired_r (Q := Moi) (fun _ _ h => h) hp1
  have l1 := Paired.length hp1
  simp at l1
  simp [erv]
  refine LC_rel (fun r => r = [.fz (.list (ns.map .int)), .ow ys, .fz p.enc, .fz (.int tick), .fz s.enc, .ow ev, .fz (rowE row), .fz (arrivedS s row).enc, .ow (sortD ((mvL p tick (arrivedS s row) p.vessels.length).map Mv.enc)), .em, .em, .em, .em, .em, .em, .em]) (fun _ d => Moi d) rfl (fun x hx r hr => ?_) (by simp; omega) fun ds2 r hr hp2 => ?_
  · subst hr
    obtain ⟨i, hi, rfl⟩ := mem_range hx
    simp
    exact ⟨_, [_], rfl, by decide +kernel, by simp⟩
  subst hr
  have m2 := paired_r (Q := Moi) (fun _ _ h => h) hp2
  have l2 := Paired.length hp2
  simp at l2
  have ml := mvL_len (p := p) (t := tick) (s := arrivedS s row) (m := p.vessels.length)
  have mb : p.vessels.length * (p.berths.length + 1) ≤ 4 * 4 := Nat.mul_le_mul (by omega) (by omega)
  have sl : (sortD ((mvL p tick (arrivedS s row) p.vessels.length).map Mv.enc)).length ≤ 100 := by rw [sortD_len, List.length_map]; omega
  simp
  refine ⟨by omega, by omega, by omega, ?_⟩
  refine FL_all (fun r => ∃ y10 y11 y12 y13 y14, r = [.fz (.list (ns.map .int)), .ow ys, .fz p.enc, .fz (.int tick), .fz s.enc, .ow ev, .fz (rowE row), .fz (arrivedS s row).enc, .ow (sortD ((mvL p tick (arrivedS s row) p.vessels.length).map Mv.enc)), .em, y10, y11, y12, y13, y14, .em] ∧ EF y11 ∧ EF y12 ∧ EF y13 ∧ EF y14) Moi (fun x hx => ?_) ?_ (fun x r hx hr => ?_) fun r hr => ?_
  · simp only [List.mem_append] at hx
    rcases hx with hx | hx | hx | hx
    · obtain ⟨m, _, rfl⟩ := List.mem_map.mp (mem_sortD.mp hx)
      exact moi_mv m
    · exact m1 x hx
    · exact m2 x hx
    · simp at hx
      rcases hx with rfl | rfl | rfl | rfl | rfl | rfl
      · exact ⟨_, [_, _], rfl, by decide +kernel, by simp⟩
      · exact ⟨_, [_], rfl, by decide +kernel, by simp⟩
      · exact ⟨_, [_], rfl, by decide +kernel, by simp⟩
      · exact ⟨_, [_, _], rfl, by decide +kernel, by simp⟩
      · exact ⟨_, [], rfl, by decide +kernel, by simp⟩
      · exact ⟨_, [_, _], rfl, by decide +kernel, by simp⟩
  · exact ⟨_, _, _, _, _, rfl, EF_em, EF_em, EF_em, EF_em⟩
  · obtain ⟨y10, y11, y12, y13, y14, rfl, f11, f12, f13, f14⟩ := hr
    have hmo := hx
    obtain ⟨z, l, rfl, hz, hll⟩ := hx
    simp [-Sx_asg, pK_EF f11]
    refine Sx_cut (fun r => ∃ s2 : Sta, s2.Ok p tick ∧ r = [.fz (.list (ns.map .int)), .ow ys, .fz p.enc, .fz (.int tick), .fz s.enc, .ow ev, .fz (rowE row), .fz (arrivedS s row).enc, .ow (sortD ((mvL p tick (arrivedS s row) p.vessels.length).map Mv.enc)), .em, y10, .fz (moE z l), .fz s2.enc, y13, y14, .em]) ?_ fun r hr => ?_
    · have n2 := in_mvs (p := p) (t := tick) (s := arrivedS s row) hz hll
      by_cases c : ∃ m ∈ mvL p tick (arrivedS s row) p.vessels.length, m.enc = moE z l
      · rw [decide_eq_true c] at n2
        obtain ⟨m, hm, em⟩ := c
        have e307 := lawmoved_E (n := k') h.h307 (by omega) hp hs1 (mvL_in hs1 m hm)
        rw [em] at e307
        simp [n2, i307, e307, pK_EF f12]
        exact ⟨_, moved_ok hp hs1 (mvL_in hs1 m hm), rfl⟩
      · rw [decide_eq_false c] at n2
        simp [n2, pK_EF f12]
        exact ⟨_, hs1, rfl⟩
    · obtain ⟨s2, hs2, rfl⟩ := hr
      have e308 := lawstops_E (n := k') h.h308 (by omega) hp hs2
      have bl := busy_len (s := s2)
      have hl2 := hs2.len
      have sl2 : (stopsOf s2).length ≤ 16 := by
        unfold stopsOf
        refine Nat.le_trans (List.length_filter_le _ _) ?_
        rw [sortR_len, subs_len, sortI_len]
        exact Nat.le_trans (Nat.pow_le_pow_right (by omega) (show _ ≤ 4 by omega)) (by decide)
      have cl := cut_len47 (xs := (stopsOf s2).map rowE) (lo := some (-3)) (hi := none)
      simp at cl
      simp [i308, e308]
      refine ⟨by omega, ?_⟩
      refine FL_all (fun r => ∃ y13 y14, r = [.fz (.list (ns.map .int)), .ow ys, .fz p.enc, .fz (.int tick), .fz s.enc, .ow ev, .fz (rowE row), .fz (arrivedS s row).enc, .ow (sortD ((mvL p tick (arrivedS s row) p.vessels.length).map Mv.enc)), .em, y10, .fz (moE z l), .fz s2.enc, y13, y14, .em] ∧ EF y13 ∧ EF y14) Roi (fun x hx => ?_) ⟨_, _, rfl, f13, f14⟩ (fun x r hx hr => ?_) fun r hr => ?_
      · simp only [List.mem_append] at hx
        rcases hx with hx | hx
        · obtain ⟨q, hq, rfl⟩ := List.mem_map.mp (cut_mem hx)
          exact ⟨q, rfl, by have := stop_in47 hq; omega⟩
        · simp at hx
          rcases hx with rfl | rfl | rfl | rfl | rfl | rfl <;> exact roi_of (by simp) (by simp)
      · obtain ⟨y13, y14, rfl, f13, f14⟩ := hr
        obtain ⟨o, q1, q2, q3⟩ := ask47 (n := k') h.h6 h.h328 h.h329 (by omega) hp a0 (by omega) hs (da := rowE row) ⟨row, rfl, by omega⟩ hmo hx hx' he
        simp [pK_EF f13, pK_EF f14, i328, i329, i6, q1, q2]
        cases o with
        | none =>
          simp only [toldD, refD] at q3
          simp [tickD, toldD, refD, q3]
          exact ⟨_, _, ⟨rfl, rfl⟩, EF_fz, EF_fz⟩
        | some x =>
          simp only [toldD] at q3
          simp [tickD, toldD, q3]
          exact ⟨_, _, ⟨rfl, rfl⟩, EF_fz, EF_fz⟩
      · obtain ⟨y13, y14, rfl, f13, f14⟩ := hr
        simp
        exact ⟨_, _, _, _, _, ⟨rfl, rfl, rfl, rfl, rfl⟩, EF_fz, EF_fz, f13, f14⟩
  · obtain ⟨y10, y11, y12, y13, y14, rfl, f11, f12, f13, f14⟩ := hr
    have evr : ∀ d ∈ ev, Roi d := fun d hd => by
      rw [← hE] at hd
      obtain ⟨r, hr, rfl⟩ := List.mem_map.mp (mem_sortD.mp hd)
      have := (subs_mem hr).length_le
      simp at this
      exact ⟨r, rfl, by omega⟩
    have evl : ev.length ≤ 16 := by
      rw [← hE, sortD_len, List.length_map, subs_len]
      refine Nat.le_trans (Nat.pow_le_pow_right (by omega) (show _ ≤ 4 by simp; omega)) (by decide)
    have cl := cut_len47 (xs := row.map PyData.int) (lo := some (-1)) (hi := none)
    simp at cl
    have intsR : ∀ x ∈ row.map PyData.int, ∃ i, x = PyData.int i := fun x hx => by
      obtain ⟨i, _, rfl⟩ := List.mem_map.mp hx
      exact ⟨i, rfl⟩
    have cints : ∀ x ∈ cutL (row.map PyData.int) (some (-1)) none, ∃ i, x = PyData.int i := fun x hx => intsR x (cut_mem hx)
    simp [rowE, -List.mem_map]
    refine ⟨by omega, by omega, by omega, ?_⟩
    refine FL_all (fun r => ∃ y10 y11 y12 y13 y14 y15, r = [.fz (.list (ns.map .int)), .ow ys, .fz p.enc, .fz (.int tick), .fz s.enc, .ow ev, .fz (.tuple (row.map .int)), .fz (arrivedS s row).enc, .ow (sortD ((mvL p tick (arrivedS s row) p.vessels.length).map Mv.enc)), .em, y10, y11, y12, y13, y14, y15] ∧ EF y14 ∧ EF y15) Roi (fun x hx => ?_) ⟨_, _, _, _, _, _, rfl, f14, EF_em⟩ (fun x r hx hr => ?_) fun r hr => ?_
    · simp only [List.mem_append] at hx
      rcases hx with hx | hx
      · exact evr x hx
      · simp at hx
        rcases hx with rfl | rfl | rfl | rfl | rfl
        · refine roi_of (fun x hx => ?_) (by simp; omega)
          rcases List.mem_append.mp hx with hx | hx
          · exact intsR x hx
          · exact cints x hx
        · exact roi_of (fun x hx => intsR x (by simpa using hx)) (by simp; omega)
        · exact roi_of (by simp) (by simp)
        · exact roi_of (by simp) (by simp)
        · refine roi_of (fun x hx => ?_) (by simp; omega)
          rcases List.mem_append.mp hx with hx | hx
          · exact intsR x hx
          · exact ⟨7, by simpa using hx⟩
    · obtain ⟨y10, y11, y12, y13, y14, y15, rfl, f14, f15⟩ := hr
      obtain ⟨o, q1, q2, q3⟩ := ask47 (n := k') h.h6 h.h328 h.h329 (by omega) hp a0 (by omega) hs hx (moi_mv .no) (dr := .tuple []) ⟨[], rfl, by simp⟩ hx' he
      simp only [Mv.enc] at q1 q2
      simp [pK_EF f15, pK_EF f14, i328, i329, i6, q1, q2]
      cases o with
      | none =>
        simp only [toldD, refD] at q3
        simp [tickD, toldD, refD, q3]
        exact ⟨_, _, _, _, _, _, ⟨rfl, rfl, rfl, rfl, rfl, rfl⟩, EF_fz, EF_fz⟩
      | some x =>
        simp only [toldD] at q3
        simp [tickD, toldD, q3]
        exact ⟨_, _, _, _, _, _, ⟨rfl, rfl, rfl, rfl, rfl, rfl⟩, EF_fz, EF_fz⟩
    · obtain ⟨y10, y11, y12, y13, y14, y15, rfl, f14, f15⟩ := hr
      simp
end DL


namespace G_k47
open PySem PySem.Spec PyProof.Rows L2 DL
def topS (i : Nat) : Stmt := PySem.Challenge.pw_tidewarden_k47_ticks_done_or_refused.main.body.getD i (.Pass ⟨0, 0, 0, 0⟩)
def fname : Nat → Str
  | 262 => "subsets"
  | 312 => "vessels_at"
  | 313 => "with_vessel"
  | 314 => "arrivals_of"
  | 315 => "arrived"
  | 317 => "berth_of"
  | 318 => "passes_bar"
  | 319 => "can_go_in"
  | 320 => "movements_of"
  | 321 => "moved_state"
  | 323 => "busy_berths"
  | 324 => "stops_of"
  | 325 => "worked"
  | 327 => "tick_after"
  | 6 => "_law_same"
  | 7 => "_law_pool"
  | 8 => "_law_spread"
  | 9 => "_law_draw"
  | 31 => "_law_pick"
  | 260 => "_law_subsets"
  | 294 => "_law_port"
  | 295 => "_law_any_port"
  | 296 => "_law_start"
  | 302 => "_law_at"
  | 303 => "_law_put"
  | 304 => "_law_arrivals"
  | 305 => "_law_arrived"
  | 306 => "_law_movements"
  | 307 => "_law_moved"
  | 308 => "_law_stops"
  | 309 => "_law_worked"
  | 310 => "_law_some_state"
  | 328 => "_law_tick"
  | 329 => "_law_told"
  | 330 => "law"
  | _ => ""
def gname : Nat → Str
  | 10 => "AWAY"
  | 11 => "ROADS"
  | 12 => "BERTH"
  | 13 => "GONE"
  | _ => ""
def stOf : Nat → Stmt
  | 262 => topS 11
  | 312 => topS 17
  | 313 => topS 18
  | 314 => topS 20
  | 315 => topS 21
  | 317 => topS 22
  | 318 => topS 23
  | 319 => topS 24
  | 320 => topS 25
  | 321 => topS 26
  | 323 => topS 27
  | 324 => topS 28
  | 325 => topS 29
  | 327 => topS 30
  | 6 => topS 32
  | 7 => topS 33
  | 8 => topS 34
  | 9 => topS 35
  | 31 => topS 36
  | 260 => topS 37
  | 294 => topS 39
  | 295 => topS 40
  | 296 => topS 41
  | 302 => topS 42
  | 303 => topS 43
  | 304 => topS 44
  | 305 => topS 45
  | 306 => topS 46
  | 307 => topS 47
  | 308 => topS 48
  | 309 => topS 49
  | 310 => topS 50
  | 328 => topS 51
  | 329 => topS 52
  | 330 => topS 53
  | _ => topS 0
def nOf : Nat → List Str
  | 262 => ["items", "found", "item", "chosen"]
  | 312 => ["state", "stage", "vessel"]
  | 313 => ["state", "vessel", "triple"]
  | 314 => ["port", "tick", "state", "away", "vessel", "can", "must", "chosen"]
  | 315 => ["state", "arrivals", "vessel"]
  | 317 => ["state", "vessel", "stage", "berth", "_"]
  | 318 => ["port", "tick", "vessel"]
  | 319 => ["port", "tick", "state", "vessel", "berth", "other", "length", "depth"]
  | 320 => ["port", "tick", "state", "found", "vessel", "berth", "berths"]
  | 321 => ["port", "state", "movement"]
  | 323 => ["state", "vessel"]
  | 324 => ["port", "state", "chosen"]
  | 325 => ["state", "stops", "vessels", "stage", "one", "two"]
  | 327 => ["port", "tick", "state", "arrivals", "movement", "stops", "middle"]
  | 6 => ["actual", "due", "k"]
  | 7 => ["script", "salt", "cell"]
  | 8 => ["cell", "mixed", "total", "k"]
  | 9 => ["pool", "many", "cell", "mixed", "value"]
  | 31 => ["pool", "items"]
  | 260 => ["items", "found", "item", "row"]
  | 294 => ["pool", "ticks", "vessels", "berths", "stops", "high", "base", "easy", "rows", "k", "early", "late", "length", "tide", "places"]
  | 295 => ["pool", "most", "ticks"]
  | 296 => ["port", "one"]
  | 302 => ["state", "stage", "k"]
  | 303 => ["state", "vessel", "triple"]
  | 304 => ["port", "tick", "state", "found", "row", "k", "early", "late"]
  | 305 => ["state", "arrivals", "k"]
  | 306 => ["port", "tick", "state", "found", "over_bar", "k", "held", "length", "draught", "stage", "one", "two", "b"]
  | 307 => ["port", "state", "movement", "k"]
  | 308 => ["port", "state", "k", "busy", "row"]
  | 309 => ["state", "stops", "rows", "stage", "one", "two"]
  | 310 => ["pool", "port", "tick", "state", "now", "moves"]
  | 328 => ["port", "tick", "state", "arrivals", "movement", "stops", "start", "middle"]
  | 329 => ["port", "tick", "state", "arrivals", "movement", "stops", "e"]
  | 330 => ["script", "pool", "port", "tick", "state", "every", "arrivals", "start", "moves", "k", "odd", "movement", "middle", "stops", "due", "other"]
  | _ => []
def psOf : Nat → List Str
  | 262 => ["items"]
  | 312 => ["state", "stage"]
  | 313 => ["state", "vessel", "triple"]
  | 314 => ["port", "tick", "state"]
  | 315 => ["state", "arrivals"]
  | 317 => ["state", "vessel"]
  | 318 => ["port", "tick", "vessel"]
  | 319 => ["port", "tick", "state", "vessel", "berth"]
  | 320 => ["port", "tick", "state"]
  | 321 => ["port", "state", "movement"]
  | 323 => ["state"]
  | 324 => ["port", "state"]
  | 325 => ["state", "stops"]
  | 327 => ["port", "tick", "state", "arrivals", "movement", "stops"]
  | 6 => ["actual", "due"]
  | 7 => ["script"]
  | 8 => ["cell"]
  | 9 => ["pool", "many"]
  | 31 => ["pool", "items"]
  | 260 => ["items"]
  | 294 => ["pool", "ticks", "vessels", "berths", "stops"]
  | 295 => ["pool", "most"]
  | 296 => ["port"]
  | 302 => ["state", "stage"]
  | 303 => ["state", "vessel", "triple"]
  | 304 => ["port", "tick", "state"]
  | 305 => ["state", "arrivals"]
  | 306 => ["port", "tick", "state"]
  | 307 => ["port", "state", "movement"]
  | 308 => ["port", "state"]
  | 309 => ["state", "stops"]
  | 310 => ["pool", "port", "tick"]
  | 328 => ["port", "tick", "state", "arrivals", "movement", "stops"]
  | 329 => ["port", "tick", "state", "arrivals", "movement", "stops"]
  | 330 => ["script"]
  | _ => []
def kwOf : Nat → Option (Str × Int)
  | _ => none
def T : Txt := ⟨fname, gname, stOf, nOf, psOf, kwOf⟩
def tabL : List (Nat × Fn) := [(262, F.f262), (312, F.f312), (313, F.f313), (314, F.f314), (315, F.f315), (317, F.f317), (318, F.f318), (319, F.f319), (320, F.f320), (321, F.f321), (323, F.f323), (324, F.f324), (325, F.f325), (327, F.f327), (6, F.f6), (7, F.f7), (8, F.f8), (9, F.f9), (31, F.f31), (260, F.f260), (294, F.f294), (295, F.f295), (296, F.f296), (302, F.f302), (303, F.f303), (304, F.f304), (305, F.f305), (306, F.f306), (307, F.f307), (308, F.f308), (309, F.f309), (310, F.f310), (328, F.f328), (329, F.f329), (330, F.f330)]
def glL : List (Nat × D) := [(10, .int 0), (11, .int 1), (12, .int 2), (13, .int 3)]
def P : Prog := ⟨look tabL, look glL, 2 ^ 70, fun c => decide (c < 2), true⟩
theorem chk262 : FnChk T 262 F.f262 := ⟨⟨rfl, rfl, rfl, by decide +kernel, rfl, by decide +kernel, by decide +kernel⟩, rfl, rfl, by decide +kernel, by decide +kernel⟩
theorem chk312 : FnChk T 312 F.f312 := ⟨⟨rfl, rfl, rfl, by decide +kernel, rfl, by decide +kernel, by decide +kernel⟩, rfl, rfl, by decide +kernel, by decide +kernel⟩
theorem chk313 : FnChk T 313 F.f313 := ⟨⟨rfl, rfl, rfl, by decide +kernel, rfl, by decide +kernel, by decide +kernel⟩, rfl, rfl, by decide +kernel, by decide +kernel⟩
theorem chk314 : FnChk T 314 F.f314 := ⟨⟨rfl, rfl, rfl, by decide +kernel, rfl, by decide +kernel, by decide +kernel⟩, rfl, rfl, by decide +kernel, by decide +kernel⟩
theorem chk315 : FnChk T 315 F.f315 := ⟨⟨rfl, rfl, rfl, by decide +kernel, rfl, by decide +kernel, by decide +kernel⟩, rfl, rfl, by decide +kernel, by decide +kernel⟩
theorem chk317 : FnChk T 317 F.f317 := ⟨⟨rfl, rfl, rfl, by decide +kernel, rfl, by decide +kernel, by decide +kernel⟩, rfl, rfl, by decide +kernel, by decide +kernel⟩
theorem chk318 : FnChk T 318 F.f318 := ⟨⟨rfl, rfl, rfl, by decide +kernel, rfl, by decide +kernel, by decide +kernel⟩, rfl, rfl, by decide +kernel, by decide +kernel⟩
theorem chk319 : FnChk T 319 F.f319 := ⟨⟨rfl, rfl, rfl, by decide +kernel, rfl, by decide +kernel, by decide +kernel⟩, rfl, rfl, by decide +kernel, by decide +kernel⟩
theorem chk320 : FnChk T 320 F.f320 := ⟨⟨rfl, rfl, rfl, by decide +kernel, rfl, by decide +kernel, by decide +kernel⟩, rfl, rfl, by decide +kernel, by decide +kernel⟩
theorem chk321 : FnChk T 321 F.f321 := ⟨⟨rfl, rfl, rfl, by decide +kernel, rfl, by decide +kernel, by decide +kernel⟩, rfl, rfl, by decide +kernel, by decide +kernel⟩
theorem chk323 : FnChk T 323 F.f323 := ⟨⟨rfl, rfl, rfl, by decide +kernel, rfl, by decide +kernel, by decide +kernel⟩, rfl, rfl, by decide +kernel, by decide +kernel⟩
theorem chk324 : FnChk T 324 F.f324 := ⟨⟨rfl, rfl, rfl, by decide +kernel, rfl, by decide +kernel, by decide +kernel⟩, rfl, rfl, by decide +kernel, by decide +kernel⟩
theorem chk325 : FnChk T 325 F.f325 := ⟨⟨rfl, rfl, rfl, by decide +kernel, rfl, by decide +kernel, by decide +kernel⟩, rfl, rfl, by decide +kernel, by decide +kernel⟩
theorem chk327 : FnChk T 327 F.f327 := ⟨⟨rfl, rfl, rfl, by decide +kernel, rfl, by decide +kernel, by decide +kernel⟩, rfl, rfl, by decide +kernel, by decide +kernel⟩
theorem chk6 : FnChk T 6 F.f6 := ⟨⟨rfl, rfl, rfl, by decide +kernel, rfl, by decide +kernel, by decide +kernel⟩, rfl, rfl, by decide +kernel, by decide +kernel⟩
theorem chk7 : FnChk T 7 F.f7 := ⟨⟨rfl, rfl, rfl, by decide +kernel, rfl, by decide +kernel, by decide +kernel⟩, rfl, rfl, by decide +kernel, by decide +kernel⟩
theorem chk8 : FnChk T 8 F.f8 := ⟨⟨rfl, rfl, rfl, by decide +kernel, rfl, by decide +kernel, by decide +kernel⟩, rfl, rfl, by decide +kernel, by decide +kernel⟩
theorem chk9 : FnChk T 9 F.f9 := ⟨⟨rfl, rfl, rfl, by decide +kernel, rfl, by decide +kernel, by decide +kernel⟩, rfl, rfl, by decide +kernel, by decide +kernel⟩
theorem chk31 : FnChk T 31 F.f31 := ⟨⟨rfl, rfl, rfl, by decide +kernel, rfl, by decide +kernel, by decide +kernel⟩, rfl, rfl, by decide +kernel, by decide +kernel⟩
theorem chk260 : FnChk T 260 F.f260 := ⟨⟨rfl, rfl, rfl, by decide +kernel, rfl, by decide +kernel, by decide +kernel⟩, rfl, rfl, by decide +kernel, by decide +kernel⟩
theorem chk294 : FnChk T 294 F.f294 := ⟨⟨rfl, rfl, rfl, by decide +kernel, rfl, by decide +kernel, by decide +kernel⟩, rfl, rfl, by decide +kernel, by decide +kernel⟩
theorem chk295 : FnChk T 295 F.f295 := ⟨⟨rfl, rfl, rfl, by decide +kernel, rfl, by decide +kernel, by decide +kernel⟩, rfl, rfl, by decide +kernel, by decide +kernel⟩
theorem chk296 : FnChk T 296 F.f296 := ⟨⟨rfl, rfl, rfl, by decide +kernel, rfl, by decide +kernel, by decide +kernel⟩, rfl, rfl, by decide +kernel, by decide +kernel⟩
theorem chk302 : FnChk T 302 F.f302 := ⟨⟨rfl, rfl, rfl, by decide +kernel, rfl, by decide +kernel, by decide +kernel⟩, rfl, rfl, by decide +kernel, by decide +kernel⟩
theorem chk303 : FnChk T 303 F.f303 := ⟨⟨rfl, rfl, rfl, by decide +kernel, rfl, by decide +kernel, by decide +kernel⟩, rfl, rfl, by decide +kernel, by decide +kernel⟩
theorem chk304 : FnChk T 304 F.f304 := ⟨⟨rfl, rfl, rfl, by decide +kernel, rfl, by decide +kernel, by decide +kernel⟩, rfl, rfl, by decide +kernel, by decide +kernel⟩
theorem chk305 : FnChk T 305 F.f305 := ⟨⟨rfl, rfl, rfl, by decide +kernel, rfl, by decide +kernel, by decide +kernel⟩, rfl, rfl, by decide +kernel, by decide +kernel⟩
theorem chk306 : FnChk T 306 F.f306 := ⟨⟨rfl, rfl, rfl, by decide +kernel, rfl, by decide +kernel, by decide +kernel⟩, rfl, rfl, by decide +kernel, by decide +kernel⟩
theorem chk307 : FnChk T 307 F.f307 := ⟨⟨rfl, rfl, rfl, by decide +kernel, rfl, by decide +kernel, by decide +kernel⟩, rfl, rfl, by decide +kernel, by decide +kernel⟩
theorem chk308 : FnChk T 308 F.f308 := ⟨⟨rfl, rfl, rfl, by decide +kernel, rfl, by decide +kernel, by decide +kernel⟩, rfl, rfl, by decide +kernel, by decide +kernel⟩
theorem chk309 : FnChk T 309 F.f309 := ⟨⟨rfl, rfl, rfl, by decide +kernel, rfl, by decide +kernel, by decide +kernel⟩, rfl, rfl, by decide +kernel, by decide +kernel⟩
theorem chk310 : FnChk T 310 F.f310 := ⟨⟨rfl, rfl, rfl, by decide +kernel, rfl, by decide +kernel, by decide +kernel⟩, rfl, rfl, by decide +kernel, by decide +kernel⟩
theorem chk328 : FnChk T 328 F.f328 := ⟨⟨rfl, rfl, rfl, by decide +kernel, rfl, by decide +kernel, by decide +kernel⟩, rfl, rfl, by decide +kernel, by decide +kernel⟩
theorem chk329 : FnChk T 329 F.f329 := ⟨⟨rfl, rfl, rfl, by decide +kernel, rfl, by decide +kernel, by decide +kernel⟩, rfl, rfl, by decide +kernel, by decide +kernel⟩
theorem chk330 : FnChk T 330 F.f330 := ⟨⟨rfl, rfl, rfl, by decide +kernel, rfl, by decide +kernel, by decide +kernel⟩, rfl, rfl, by decide +kernel, by decide +kernel⟩
theorem eqb262 {kV doc pm cd ct : Value} {an : Option Addr} : ∀ us : List Value, us.length = (T.ps 262).length → bindArgs (PySem.W.fnOf (T.fname 262) (T.fname 262) (defArgs (T.st 262)) (defBody (T.st 262)) (defScope (T.st 262)) .none kV doc pm an cd ct) ⟨us, []⟩ = pure ((T.ps 262).zip us)
  | [_], _ => rfl
theorem eqb312 {kV doc pm cd ct : Value} {an : Option Addr} : ∀ us : List Value, us.length = (T.ps 312).length → bindArgs (PySem.W.fnOf (T.fname 312) (T.fname 312) (defArgs (T.st 312)) (defBody (T.st 312)) (defScope (T.st 312)) .none kV doc pm an cd ct) ⟨us, []⟩ = pure ((T.ps 312).zip us)
  | [_, _], _ => rfl
theorem eqb313 {kV doc pm cd ct : Value} {an : Option Addr} : ∀ us : List Value, us.length = (T.ps 313).length → bindArgs (PySem.W.fnOf (T.fname 313) (T.fname 313) (defArgs (T.st 313)) (defBody (T.st 313)) (defScope (T.st 313)) .none kV doc pm an cd ct) ⟨us, []⟩ = pure ((T.ps 313).zip us)
  | [_, _, _], _ => rfl
theorem eqb314 {kV doc pm cd ct : Value} {an : Option Addr} : ∀ us : List Value, us.length = (T.ps 314).length → bindArgs (PySem.W.fnOf (T.fname 314) (T.fname 314) (defArgs (T.st 314)) (defBody (T.st 314)) (defScope (T.st 314)) .none kV doc pm an cd ct) ⟨us, []⟩ = pure ((T.ps 314).zip us)
  | [_, _, _], _ => rfl
theorem eqb315 {kV doc pm cd ct : Value} {an : Option Addr} : ∀ us : List Value, us.length = (T.ps 315).length → bindArgs (PySem.W.fnOf (T.fname 315) (T.fname 315) (defArgs (T.st 315)) (defBody (T.st 315)) (defScope (T.st 315)) .none kV doc pm an cd ct) ⟨us, []⟩ = pure ((T.ps 315).zip us)
  | [_, _], _ => rfl
theorem eqb317 {kV doc pm cd ct : Value} {an : Option Addr} : ∀ us : List Value, us.length = (T.ps 317).length → bindArgs (PySem.W.fnOf (T.fname 317) (T.fname 317) (defArgs (T.st 317)) (defBody (T.st 317)) (defScope (T.st 317)) .none kV doc pm an cd ct) ⟨us, []⟩ = pure ((T.ps 317).zip us)
  | [_, _], _ => rfl
theorem eqb318 {kV doc pm cd ct : Value} {an : Option Addr} : ∀ us : List Value, us.length = (T.ps 318).length → bindArgs (PySem.W.fnOf (T.fname 318) (T.fname 318) (defArgs (T.st 318)) (defBody (T.st 318)) (defScope (T.st 318)) .none kV doc pm an cd ct) ⟨us, []⟩ = pure ((T.ps 318).zip us)
  | [_, _, _], _ => rfl
theorem eqb319 {kV doc pm cd ct : Value} {an : Option Addr} : ∀ us : List Value, us.length = (T.ps 319).length → bindArgs (PySem.W.fnOf (T.fname 319) (T.fname 319) (defArgs (T.st 319)) (defBody (T.st 319)) (defScope (T.st 319)) .none kV doc pm an cd ct) ⟨us, []⟩ = pure ((T.ps 319).zip us)
  | [_, _, _, _, _], _ => rfl
theorem eqb320 {kV doc pm cd ct : Value} {an : Option Addr} : ∀ us : List Value, us.length = (T.ps 320).length → bindArgs (PySem.W.fnOf (T.fname 320) (T.fname 320) (defArgs (T.st 320)) (defBody (T.st 320)) (defScope (T.st 320)) .none kV doc pm an cd ct) ⟨us, []⟩ = pure ((T.ps 320).zip us)
  | [_, _, _], _ => rfl
theorem eqb321 {kV doc pm cd ct : Value} {an : Option Addr} : ∀ us : List Value, us.length = (T.ps 321).length → bindArgs (PySem.W.fnOf (T.fname 321) (T.fname 321) (defArgs (T.st 321)) (defBody (T.st 321)) (defScope (T.st 321)) .none kV doc pm an cd ct) ⟨us, []⟩ = pure ((T.ps 321).zip us)
  | [_, _, _], _ => rfl
theorem eqb323 {kV doc pm cd ct : Value} {an : Option Addr} : ∀ us : List Value, us.length = (T.ps 323).length → bindArgs (PySem.W.fnOf (T.fname 323) (T.fname 323) (defArgs (T.st 323)) (defBody (T.st 323)) (defScope (T.st 323)) .none kV doc pm an cd ct) ⟨us, []⟩ = pure ((T.ps 323).zip us)
  | [_], _ => rfl
theorem eqb324 {kV doc pm cd ct : Value} {an : Option Addr} : ∀ us : List Value, us.length = (T.ps 324).length → bindArgs (PySem.W.fnOf (T.fname 324) (T.fname 324) (defArgs (T.st 324)) (defBody (T.st 324)) (defScope (T.st 324)) .none kV doc pm an cd ct) ⟨us, []⟩ = pure ((T.ps 324).zip us)
  | [_, _], _ => rfl
theorem eqb325 {kV doc pm cd ct : Value} {an : Option Addr} : ∀ us : List Value, us.length = (T.ps 325).length → bindArgs (PySem.W.fnOf (T.fname 325) (T.fname 325) (defArgs (T.st 325)) (defBody (T.st 325)) (defScope (T.st 325)) .none kV doc pm an cd ct) ⟨us, []⟩ = pure ((T.ps 325).zip us)
  | [_, _], _ => rfl
theorem eqb327 {kV doc pm cd ct : Value} {an : Option Addr} : ∀ us : List Value, us.length = (T.ps 327).length → bindArgs (PySem.W.fnOf (T.fname 327) (T.fname 327) (defArgs (T.st 327)) (defBody (T.st 327)) (defScope (T.st 327)) .none kV doc pm an cd ct) ⟨us, []⟩ = pure ((T.ps 327).zip us)
  | [_, _, _, _, _, _], _ => rfl
theorem eqb6 {kV doc pm cd ct : Value} {an : Option Addr} : ∀ us : List Value, us.length = (T.ps 6).length → bindArgs (PySem.W.fnOf (T.fname 6) (T.fname 6) (defArgs (T.st 6)) (defBody (T.st 6)) (defScope (T.st 6)) .none kV doc pm an cd ct) ⟨us, []⟩ = pure ((T.ps 6).zip us)
  | [_, _], _ => rfl
theorem eqb7 {kV doc pm cd ct : Value} {an : Option Addr} : ∀ us : List Value, us.length = (T.ps 7).length → bindArgs (PySem.W.fnOf (T.fname 7) (T.fname 7) (defArgs (T.st 7)) (defBody (T.st 7)) (defScope (T.st 7)) .none kV doc pm an cd ct) ⟨us, []⟩ = pure ((T.ps 7).zip us)
  | [_], _ => rfl
theorem eqb8 {kV doc pm cd ct : Value} {an : Option Addr} : ∀ us : List Value, us.length = (T.ps 8).length → bindArgs (PySem.W.fnOf (T.fname 8) (T.fname 8) (defArgs (T.st 8)) (defBody (T.st 8)) (defScope (T.st 8)) .none kV doc pm an cd ct) ⟨us, []⟩ = pure ((T.ps 8).zip us)
  | [_], _ => rfl
theorem eqb9 {kV doc pm cd ct : Value} {an : Option Addr} : ∀ us : List Value, us.length = (T.ps 9).length → bindArgs (PySem.W.fnOf (T.fname 9) (T.fname 9) (defArgs (T.st 9)) (defBody (T.st 9)) (defScope (T.st 9)) .none kV doc pm an cd ct) ⟨us, []⟩ = pure ((T.ps 9).zip us)
  | [_, _], _ => rfl
theorem eqb31 {kV doc pm cd ct : Value} {an : Option Addr} : ∀ us : List Value, us.length = (T.ps 31).length → bindArgs (PySem.W.fnOf (T.fname 31) (T.fname 31) (defArgs (T.st 31)) (defBody (T.st 31)) (defScope (T.st 31)) .none kV doc pm an cd ct) ⟨us, []⟩ = pure ((T.ps 31).zip us)
  | [_, _], _ => rfl
theorem eqb260 {kV doc pm cd ct : Value} {an : Option Addr} : ∀ us : List Value, us.length = (T.ps 260).length → bindArgs (PySem.W.fnOf (T.fname 260) (T.fname 260) (defArgs (T.st 260)) (defBody (T.st 260)) (defScope (T.st 260)) .none kV doc pm an cd ct) ⟨us, []⟩ = pure ((T.ps 260).zip us)
  | [_], _ => rfl
theorem eqb294 {kV doc pm cd ct : Value} {an : Option Addr} : ∀ us : List Value, us.length = (T.ps 294).length → bindArgs (PySem.W.fnOf (T.fname 294) (T.fname 294) (defArgs (T.st 294)) (defBody (T.st 294)) (defScope (T.st 294)) .none kV doc pm an cd ct) ⟨us, []⟩ = pure ((T.ps 294).zip us)
  | [_, _, _, _, _], _ => rfl
theorem eqb295 {kV doc pm cd ct : Value} {an : Option Addr} : ∀ us : List Value, us.length = (T.ps 295).length → bindArgs (PySem.W.fnOf (T.fname 295) (T.fname 295) (defArgs (T.st 295)) (defBody (T.st 295)) (defScope (T.st 295)) .none kV doc pm an cd ct) ⟨us, []⟩ = pure ((T.ps 295).zip us)
  | [_, _], _ => rfl
theorem eqb296 {kV doc pm cd ct : Value} {an : Option Addr} : ∀ us : List Value, us.length = (T.ps 296).length → bindArgs (PySem.W.fnOf (T.fname 296) (T.fname 296) (defArgs (T.st 296)) (defBody (T.st 296)) (defScope (T.st 296)) .none kV doc pm an cd ct) ⟨us, []⟩ = pure ((T.ps 296).zip us)
  | [_], _ => rfl
theorem eqb302 {kV doc pm cd ct : Value} {an : Option Addr} : ∀ us : List Value, us.length = (T.ps 302).length → bindArgs (PySem.W.fnOf (T.fname 302) (T.fname 302) (defArgs (T.st 302)) (defBody (T.st 302)) (defScope (T.st 302)) .none kV doc pm an cd ct) ⟨us, []⟩ = pure ((T.ps 302).zip us)
  | [_, _], _ => rfl
theorem eqb303 {kV doc pm cd ct : Value} {an : Option Addr} : ∀ us : List Value, us.length = (T.ps 303).length → bindArgs (PySem.W.fnOf (T.fname 303) (T.fname 303) (defArgs (T.st 303)) (defBody (T.st 303)) (defScope (T.st 303)) .none kV doc pm an cd ct) ⟨us, []⟩ = pure ((T.ps 303).zip us)
  | [_, _, _], _ => rfl
theorem eqb304 {kV doc pm cd ct : Value} {an : Option Addr} : ∀ us : List Value, us.length = (T.ps 304).length → bindArgs (PySem.W.fnOf (T.fname 304) (T.fname 304) (defArgs (T.st 304)) (defBody (T.st 304)) (defScope (T.st 304)) .none kV doc pm an cd ct) ⟨us, []⟩ = pure ((T.ps 304).zip us)
  | [_, _, _], _ => rfl
theorem eqb305 {kV doc pm cd ct : Value} {an : Option Addr} : ∀ us : List Value, us.length = (T.ps 305).length → bindArgs (PySem.W.fnOf (T.fname 305) (T.fname 305) (defArgs (T.st 305)) (defBody (T.st 305)) (defScope (T.st 305)) .none kV doc pm an cd ct) ⟨us, []⟩ = pure ((T.ps 305).zip us)
  | [_, _], _ => rfl
theorem eqb306 {kV doc pm cd ct : Value} {an : Option Addr} : ∀ us : List Value, us.length = (T.ps 306).length → bindArgs (PySem.W.fnOf (T.fname 306) (T.fname 306) (defArgs (T.st 306)) (defBody (T.st 306)) (defScope (T.st 306)) .none kV doc pm an cd ct) ⟨us, []⟩ = pure ((T.ps 306).zip us)
  | [_, _, _], _ => rfl
theorem eqb307 {kV doc pm cd ct : Value} {an : Option Addr} : ∀ us : List Value, us.length = (T.ps 307).length → bindArgs (PySem.W.fnOf (T.fname 307) (T.fname 307) (defArgs (T.st 307)) (defBody (T.st 307)) (defScope (T.st 307)) .none kV doc pm an cd ct) ⟨us, []⟩ = pure ((T.ps 307).zip us)
  | [_, _, _], _ => rfl
theorem eqb308 {kV doc pm cd ct : Value} {an : Option Addr} : ∀ us : List Value, us.length = (T.ps 308).length → bindArgs (PySem.W.fnOf (T.fname 308) (T.fname 308) (defArgs (T.st 308)) (defBody (T.st 308)) (defScope (T.st 308)) .none kV doc pm an cd ct) ⟨us, []⟩ = pure ((T.ps 308).zip us)
  | [_, _], _ => rfl
theorem eqb309 {kV doc pm cd ct : Value} {an : Option Addr} : ∀ us : List Value, us.length = (T.ps 309).length → bindArgs (PySem.W.fnOf (T.fname 309) (T.fname 309) (defArgs (T.st 309)) (defBody (T.st 309)) (defScope (T.st 309)) .none kV doc pm an cd ct) ⟨us, []⟩ = pure ((T.ps 309).zip us)
  | [_, _], _ => rfl
theorem eqb310 {kV doc pm cd ct : Value} {an : Option Addr} : ∀ us : List Value, us.length = (T.ps 310).length → bindArgs (PySem.W.fnOf (T.fname 310) (T.fname 310) (defArgs (T.st 310)) (defBody (T.st 310)) (defScope (T.st 310)) .none kV doc pm an cd ct) ⟨us, []⟩ = pure ((T.ps 310).zip us)
  | [_, _, _], _ => rfl
theorem eqb328 {kV doc pm cd ct : Value} {an : Option Addr} : ∀ us : List Value, us.length = (T.ps 328).length → bindArgs (PySem.W.fnOf (T.fname 328) (T.fname 328) (defArgs (T.st 328)) (defBody (T.st 328)) (defScope (T.st 328)) .none kV doc pm an cd ct) ⟨us, []⟩ = pure ((T.ps 328).zip us)
  | [_, _, _, _, _, _], _ => rfl
theorem eqb329 {kV doc pm cd ct : Value} {an : Option Addr} : ∀ us : List Value, us.length = (T.ps 329).length → bindArgs (PySem.W.fnOf (T.fname 329) (T.fname 329) (defArgs (T.st 329)) (defBody (T.st 329)) (defScope (T.st 329)) .none kV doc pm an cd ct) ⟨us, []⟩ = pure ((T.ps 329).zip us)
  | [_, _, _, _, _, _], _ => rfl
theorem eqb330 {kV doc pm cd ct : Value} {an : Option Addr} : ∀ us : List Value, us.length = (T.ps 330).length → bindArgs (PySem.W.fnOf (T.fname 330) (T.fname 330) (defArgs (T.st 330)) (defBody (T.st 330)) (defScope (T.st 330)) .none kV doc pm an cd ct) ⟨us, []⟩ = pure ((T.ps 330).zip us)
  | [_], _ => rfl
def errP (i : Nat) : Pos := ([⟨150, 4, 150, 9⟩, ⟨150, 13, 150, 23⟩, ⟨150, 24, 150, 25⟩, ⟨150, 27, 150, 34⟩, ⟨150, 13, 150, 35⟩, ⟨150, 37, 150, 47⟩, ⟨150, 48, 150, 49⟩, ⟨150, 51, 150, 61⟩, ⟨150, 37, 150, 62⟩, ⟨150, 64, 150, 74⟩, ⟨150, 75, 150, 76⟩, ⟨150, 78, 150, 85⟩, ⟨150, 64, 150, 86⟩, ⟨150, 88, 150, 98⟩, ⟨150, 99, 150, 100⟩, ⟨150, 102, 150, 111⟩, ⟨150, 88, 150, 112⟩, ⟨150, 12, 150, 113⟩, ⟨150, 4, 150, 113⟩, ⟨151, 4, 151, 9⟩, ⟨151, 12, 151, 17⟩, ⟨151, 21, 151, 31⟩, ⟨151, 32, 151, 33⟩, ⟨151, 35, 151, 39⟩, ⟨151, 21, 151, 40⟩, ⟨151, 42, 151, 52⟩, ⟨151, 53, 151, 54⟩, ⟨151, 56, 151, 69⟩, ⟨151, 42, 151, 70⟩, ⟨151, 72, 151, 82⟩, ⟨151, 83, 151, 84⟩, ⟨151, 86, 151, 92⟩, ⟨151, 72, 151, 93⟩, ⟨151, 95, 151, 105⟩, ⟨151, 106, 151, 107⟩, ⟨151, 109, 151, 113⟩, ⟨151, 95, 151, 114⟩, ⟨151, 20, 151, 115⟩, ⟨151, 12, 151, 115⟩, ⟨151, 4, 151, 115⟩, ⟨152, 7, 152, 12⟩, ⟨152, 7, 152, 18⟩, ⟨152, 19, 152, 23⟩, ⟨152, 7, 152, 24⟩, ⟨152, 28, 152, 29⟩, ⟨152, 7, 152, 29⟩, ⟨152, 37, 152, 47⟩, ⟨152, 48, 152, 49⟩, ⟨152, 51, 152, 61⟩, ⟨152, 37, 152, 62⟩, ⟨152, 33, 152, 62⟩, ⟨152, 7, 152, 62⟩, ⟨153, 16, 153, 25⟩, ⟨153, 27, 153, 33⟩, ⟨153, 15, 153, 34⟩, ⟨153, 8, 153, 34⟩, ⟨152, 4, 153, 34⟩, ⟨154, 4, 154, 8⟩, ⟨154, 12, 154, 21⟩, ⟨154, 23, 154, 35⟩, ⟨154, 37, 154, 46⟩, ⟨154, 48, 154, 59⟩, ⟨154, 61, 154, 67⟩, ⟨154, 69, 154, 84⟩, ⟨154, 86, 154, 94⟩, ⟨154, 96, 154, 102⟩, ⟨154, 11, 154, 103⟩, ⟨154, 104, 154, 109⟩, ⟨154, 104, 154, 115⟩, ⟨154, 116, 154, 120⟩, ⟨154, 104, 154, 121⟩, ⟨154, 11, 154, 122⟩, ⟨154, 4, 154, 122⟩, ⟨155, 7, 155, 11⟩, ⟨155, 15, 155, 24⟩, ⟨155, 7, 155, 24⟩, ⟨156, 16, 156, 25⟩, ⟨156, 27, 156, 31⟩, ⟨156, 33, 156, 34⟩, ⟨156, 33, 156, 39⟩, ⟨156, 15, 156, 40⟩, ⟨156, 8, 156, 40⟩, ⟨155, 4, 156, 40⟩, ⟨157, 40, 157, 44⟩, ⟨157, 48, 157, 59⟩, ⟨157, 40, 157, 59⟩, ⟨157, 12, 157, 21⟩, ⟨157, 23, 157, 27⟩, ⟨157, 29, 157, 30⟩, ⟨157, 29, 157, 35⟩, ⟨157, 11, 157, 36⟩, ⟨157, 66, 157, 75⟩, ⟨157, 77, 157, 81⟩, ⟨157, 65, 157, 82⟩, ⟨157, 11, 157, 82⟩, ⟨157, 4, 157, 82⟩] : List Pos).getD i ⟨0, 0, 0, 0⟩
theorem errH : defBody (topS 38) = errB errP := by kernel_rfl
theorem errS : FnScope ["e", "flags", "name"] ["e"] (defScope (topS 38)) := ⟨rfl, rfl, rfl, by decide +kernel, rfl, by decide +kernel, by decide +kernel⟩
theorem errL : ∀ x ∈ (["e", "flags", "name"] : List Str), (defScope (topS 38)).names.lookup x = some .local := by decide +kernel
theorem errG : ∀ x ∈ errGl, (defScope (topS 38)).names.lookup x = some .globalImplicit := by decide +kernel
theorem errQ {kV dc pm cd ct : Value} {an : Option Addr} : ∀ us : List Value, us.length = (["e"] : List Str).length → bindArgs (PySem.W.fnOf "_law_error" "_law_error" (defArgs (topS 38)) (defBody (topS 38)) (defScope (topS 38)) .none kV dc pm an cd ct) ⟨us, []⟩ = pure ((["e"] : List Str).zip us)
  | [_], _ => rfl
theorem chk : ∀ (f : Nat) (fn : Fn), P.tab f = some fn → FnChk T f fn := look_all ⟨chk262, chk312, chk313, chk314, chk315, chk317, chk318, chk319, chk320, chk321, chk323, chk324, chk325, chk327, chk6, chk7, chk8, chk9, chk31, chk260, chk294, chk295, chk296, chk302, chk303, chk304, chk305, chk306, chk307, chk308, chk309, chk310, chk328, chk329, chk330, trivial⟩
theorem all_mk {K : PySem.W.Frag} {h : Heap} {mg : Str → Option Value} {fa : Addr} {w : World} (X : K.In h) (G : h.Ns mainGlobals mg) (hfa : mg "law" = some (.ref fa)) {a262 a312 a313 a314 a315 a317 a318 a319 a320 a321 a323 a324 a325 a327 a6 a7 a8 a9 a31 a260 a294 a295 a296 a302 a303 a304 a305 a306 a307 a308 a309 a310 a328 a329 a330 : Addr}
    {oc262 kV262 dc262 pm262 cd262 ct262 : Value} {od262 an262 : Option Addr} {sl262 : Array (Option Value)}
    (n262 : PySem.W.nsIn K mainGlobals "subsets" = some (some (.ref a262))) (l262 : K.lookup a262 = some ⟨oc262, od262, .func (PySem.W.fnOf "subsets" "subsets" (defArgs (topS 11)) (defBody (topS 11)) (defScope (topS 11)) .none kV262 dc262 pm262 an262 cd262 ct262), sl262⟩) (c262 : PySem.W.codeIn K cd262 "subsets" = true) (k262 : PySem.W.keepIn K (.ref a262) = true)
    {oc312 kV312 dc312 pm312 cd312 ct312 : Value} {od312 an312 : Option Addr} {sl312 : Array (Option Value)}
    (n312 : PySem.W.nsIn K mainGlobals "vessels_at" = some (some (.ref a312))) (l312 : K.lookup a312 = some ⟨oc312, od312, .func (PySem.W.fnOf "vessels_at" "vessels_at" (defArgs (topS 17)) (defBody (topS 17)) (defScope (topS 17)) .none kV312 dc312 pm312 an312 cd312 ct312), sl312⟩) (c312 : PySem.W.codeIn K cd312 "vessels_at" = true) (k312 : PySem.W.keepIn K (.ref a312) = true)
    {oc313 kV313 dc313 pm313 cd313 ct313 : Value} {od313 an313 : Option Addr} {sl313 : Array (Option Value)}
    (n313 : PySem.W.nsIn K mainGlobals "with_vessel" = some (some (.ref a313))) (l313 : K.lookup a313 = some ⟨oc313, od313, .func (PySem.W.fnOf "with_vessel" "with_vessel" (defArgs (topS 18)) (defBody (topS 18)) (defScope (topS 18)) .none kV313 dc313 pm313 an313 cd313 ct313), sl313⟩) (c313 : PySem.W.codeIn K cd313 "with_vessel" = true) (k313 : PySem.W.keepIn K (.ref a313) = true)
    {oc314 kV314 dc314 pm314 cd314 ct314 : Value} {od314 an314 : Option Addr} {sl314 : Array (Option Value)}
    (n314 : PySem.W.nsIn K mainGlobals "arrivals_of" = some (some (.ref a314))) (l314 : K.lookup a314 = some ⟨oc314, od314, .func (PySem.W.fnOf "arrivals_of" "arrivals_of" (defArgs (topS 20)) (defBody (topS 20)) (defScope (topS 20)) .none kV314 dc314 pm314 an314 cd314 ct314), sl314⟩) (c314 : PySem.W.codeIn K cd314 "arrivals_of" = true) (k314 : PySem.W.keepIn K (.ref a314) = true)
    {oc315 kV315 dc315 pm315 cd315 ct315 : Value} {od315 an315 : Option Addr} {sl315 : Array (Option Value)}
    (n315 : PySem.W.nsIn K mainGlobals "arrived" = some (some (.ref a315))) (l315 : K.lookup a315 = some ⟨oc315, od315, .func (PySem.W.fnOf "arrived" "arrived" (defArgs (topS 21)) (defBody (topS 21)) (defScope (topS 21)) .none kV315 dc315 pm315 an315 cd315 ct315), sl315⟩) (c315 : PySem.W.codeIn K cd315 "arrived" = true) (k315 : PySem.W.keepIn K (.ref a315) = true)
    {oc317 kV317 dc317 pm317 cd317 ct317 : Value} {od317 an317 : Option Addr} {sl317 : Array (Option Value)}
    (n317 : PySem.W.nsIn K mainGlobals "berth_of" = some (some (.ref a317))) (l317 : K.lookup a317 = some ⟨oc317, od317, .func (PySem.W.fnOf "berth_of" "berth_of" (defArgs (topS 22)) (defBody (topS 22)) (defScope (topS 22)) .none kV317 dc317 pm317 an317 cd317 ct317), sl317⟩) (c317 : PySem.W.codeIn K cd317 "berth_of" = true) (k317 : PySem.W.keepIn K (.ref a317) = true)
    {oc318 kV318 dc318 pm318 cd318 ct318 : Value} {od318 an318 : Option Addr} {sl318 : Array (Option Value)}
    (n318 : PySem.W.nsIn K mainGlobals "passes_bar" = some (some (.ref a318))) (l318 : K.lookup a318 = some ⟨oc318, od318, .func (PySem.W.fnOf "passes_bar" "passes_bar" (defArgs (topS 23)) (defBody (topS 23)) (defScope (topS 23)) .none kV318 dc318 pm318 an318 cd318 ct318), sl318⟩) (c318 : PySem.W.codeIn K cd318 "passes_bar" = true) (k318 : PySem.W.keepIn K (.ref a318) = true)
    {oc319 kV319 dc319 pm319 cd319 ct319 : Value} {od319 an319 : Option Addr} {sl319 : Array (Option Value)}
    (n319 : PySem.W.nsIn K mainGlobals "can_go_in" = some (some (.ref a319))) (l319 : K.lookup a319 = some ⟨oc319, od319, .func (PySem.W.fnOf "can_go_in" "can_go_in" (defArgs (topS 24)) (defBody (topS 24)) (defScope (topS 24)) .none kV319 dc319 pm319 an319 cd319 ct319), sl319⟩) (c319 : PySem.W.codeIn K cd319 "can_go_in" = true) (k319 : PySem.W.keepIn K (.ref a319) = true)
    {oc320 kV320 dc320 pm320 cd320 ct320 : Value} {od320 an320 : Option Addr} {sl320 : Array (Option Value)}
    (n320 : PySem.W.nsIn K mainGlobals "movements_of" = some (some (.ref a320))) (l320 : K.lookup a320 = some ⟨oc320, od320, .func (PySem.W.fnOf "movements_of" "movements_of" (defArgs (topS 25)) (defBody (topS 25)) (defScope (topS 25)) .none kV320 dc320 pm320 an320 cd320 ct320), sl320⟩) (c320 : PySem.W.codeIn K cd320 "movements_of" = true) (k320 : PySem.W.keepIn K (.ref a320) = true)
    {oc321 kV321 dc321 pm321 cd321 ct321 : Value} {od321 an321 : Option Addr} {sl321 : Array (Option Value)}
    (n321 : PySem.W.nsIn K mainGlobals "moved_state" = some (some (.ref a321))) (l321 : K.lookup a321 = some ⟨oc321, od321, .func (PySem.W.fnOf "moved_state" "moved_state" (defArgs (topS 26)) (defBody (topS 26)) (defScope (topS 26)) .none kV321 dc321 pm321 an321 cd321 ct321), sl321⟩) (c321 : PySem.W.codeIn K cd321 "moved_state" = true) (k321 : PySem.W.keepIn K (.ref a321) = true)
    {oc323 kV323 dc323 pm323 cd323 ct323 : Value} {od323 an323 : Option Addr} {sl323 : Array (Option Value)}
    (n323 : PySem.W.nsIn K mainGlobals "busy_berths" = some (some (.ref a323))) (l323 : K.lookup a323 = some ⟨oc323, od323, .func (PySem.W.fnOf "busy_berths" "busy_berths" (defArgs (topS 27)) (defBody (topS 27)) (defScope (topS 27)) .none kV323 dc323 pm323 an323 cd323 ct323), sl323⟩) (c323 : PySem.W.codeIn K cd323 "busy_berths" = true) (k323 : PySem.W.keepIn K (.ref a323) = true)
    {oc324 kV324 dc324 pm324 cd324 ct324 : Value} {od324 an324 : Option Addr} {sl324 : Array (Option Value)}
    (n324 : PySem.W.nsIn K mainGlobals "stops_of" = some (some (.ref a324))) (l324 : K.lookup a324 = some ⟨oc324, od324, .func (PySem.W.fnOf "stops_of" "stops_of" (defArgs (topS 28)) (defBody (topS 28)) (defScope (topS 28)) .none kV324 dc324 pm324 an324 cd324 ct324), sl324⟩) (c324 : PySem.W.codeIn K cd324 "stops_of" = true) (k324 : PySem.W.keepIn K (.ref a324) = true)
    {oc325 kV325 dc325 pm325 cd325 ct325 : Value} {od325 an325 : Option Addr} {sl325 : Array (Option Value)}
    (n325 : PySem.W.nsIn K mainGlobals "worked" = some (some (.ref a325))) (l325 : K.lookup a325 = some ⟨oc325, od325, .func (PySem.W.fnOf "worked" "worked" (defArgs (topS 29)) (defBody (topS 29)) (defScope (topS 29)) .none kV325 dc325 pm325 an325 cd325 ct325), sl325⟩) (c325 : PySem.W.codeIn K cd325 "worked" = true) (k325 : PySem.W.keepIn K (.ref a325) = true)
    {oc327 kV327 dc327 pm327 cd327 ct327 : Value} {od327 an327 : Option Addr} {sl327 : Array (Option Value)}
    (n327 : PySem.W.nsIn K mainGlobals "tick_after" = some (some (.ref a327))) (l327 : K.lookup a327 = some ⟨oc327, od327, .func (PySem.W.fnOf "tick_after" "tick_after" (defArgs (topS 30)) (defBody (topS 30)) (defScope (topS 30)) .none kV327 dc327 pm327 an327 cd327 ct327), sl327⟩) (c327 : PySem.W.codeIn K cd327 "tick_after" = true) (k327 : PySem.W.keepIn K (.ref a327) = true)
    {oc6 kV6 dc6 pm6 cd6 ct6 : Value} {od6 an6 : Option Addr} {sl6 : Array (Option Value)}
    (n6 : PySem.W.nsIn K mainGlobals "_law_same" = some (some (.ref a6))) (l6 : K.lookup a6 = some ⟨oc6, od6, .func (PySem.W.fnOf "_law_same" "_law_same" (defArgs (topS 32)) (defBody (topS 32)) (defScope (topS 32)) .none kV6 dc6 pm6 an6 cd6 ct6), sl6⟩) (c6 : PySem.W.codeIn K cd6 "_law_same" = true) (k6 : PySem.W.keepIn K (.ref a6) = true)
    {oc7 kV7 dc7 pm7 cd7 ct7 : Value} {od7 an7 : Option Addr} {sl7 : Array (Option Value)}
    (n7 : PySem.W.nsIn K mainGlobals "_law_pool" = some (some (.ref a7))) (l7 : K.lookup a7 = some ⟨oc7, od7, .func (PySem.W.fnOf "_law_pool" "_law_pool" (defArgs (topS 33)) (defBody (topS 33)) (defScope (topS 33)) .none kV7 dc7 pm7 an7 cd7 ct7), sl7⟩) (c7 : PySem.W.codeIn K cd7 "_law_pool" = true) (k7 : PySem.W.keepIn K (.ref a7) = true)
    {oc8 kV8 dc8 pm8 cd8 ct8 : Value} {od8 an8 : Option Addr} {sl8 : Array (Option Value)}
    (n8 : PySem.W.nsIn K mainGlobals "_law_spread" = some (some (.ref a8))) (l8 : K.lookup a8 = some ⟨oc8, od8, .func (PySem.W.fnOf "_law_spread" "_law_spread" (defArgs (topS 34)) (defBody (topS 34)) (defScope (topS 34)) .none kV8 dc8 pm8 an8 cd8 ct8), sl8⟩) (c8 : PySem.W.codeIn K cd8 "_law_spread" = true) (k8 : PySem.W.keepIn K (.ref a8) = true)
    {oc9 kV9 dc9 pm9 cd9 ct9 : Value} {od9 an9 : Option Addr} {sl9 : Array (Option Value)}
    (n9 : PySem.W.nsIn K mainGlobals "_law_draw" = some (some (.ref a9))) (l9 : K.lookup a9 = some ⟨oc9, od9, .func (PySem.W.fnOf "_law_draw" "_law_draw" (defArgs (topS 35)) (defBody (topS 35)) (defScope (topS 35)) .none kV9 dc9 pm9 an9 cd9 ct9), sl9⟩) (c9 : PySem.W.codeIn K cd9 "_law_draw" = true) (k9 : PySem.W.keepIn K (.ref a9) = true)
    {oc31 kV31 dc31 pm31 cd31 ct31 : Value} {od31 an31 : Option Addr} {sl31 : Array (Option Value)}
    (n31 : PySem.W.nsIn K mainGlobals "_law_pick" = some (some (.ref a31))) (l31 : K.lookup a31 = some ⟨oc31, od31, .func (PySem.W.fnOf "_law_pick" "_law_pick" (defArgs (topS 36)) (defBody (topS 36)) (defScope (topS 36)) .none kV31 dc31 pm31 an31 cd31 ct31), sl31⟩) (c31 : PySem.W.codeIn K cd31 "_law_pick" = true) (k31 : PySem.W.keepIn K (.ref a31) = true)
    {oc260 kV260 dc260 pm260 cd260 ct260 : Value} {od260 an260 : Option Addr} {sl260 : Array (Option Value)}
    (n260 : PySem.W.nsIn K mainGlobals "_law_subsets" = some (some (.ref a260))) (l260 : K.lookup a260 = some ⟨oc260, od260, .func (PySem.W.fnOf "_law_subsets" "_law_subsets" (defArgs (topS 37)) (defBody (topS 37)) (defScope (topS 37)) .none kV260 dc260 pm260 an260 cd260 ct260), sl260⟩) (c260 : PySem.W.codeIn K cd260 "_law_subsets" = true) (k260 : PySem.W.keepIn K (.ref a260) = true)
    {oc294 kV294 dc294 pm294 cd294 ct294 : Value} {od294 an294 : Option Addr} {sl294 : Array (Option Value)}
    (n294 : PySem.W.nsIn K mainGlobals "_law_port" = some (some (.ref a294))) (l294 : K.lookup a294 = some ⟨oc294, od294, .func (PySem.W.fnOf "_law_port" "_law_port" (defArgs (topS 39)) (defBody (topS 39)) (defScope (topS 39)) .none kV294 dc294 pm294 an294 cd294 ct294), sl294⟩) (c294 : PySem.W.codeIn K cd294 "_law_port" = true) (k294 : PySem.W.keepIn K (.ref a294) = true)
    {oc295 kV295 dc295 pm295 cd295 ct295 : Value} {od295 an295 : Option Addr} {sl295 : Array (Option Value)}
    (n295 : PySem.W.nsIn K mainGlobals "_law_any_port" = some (some (.ref a295))) (l295 : K.lookup a295 = some ⟨oc295, od295, .func (PySem.W.fnOf "_law_any_port" "_law_any_port" (defArgs (topS 40)) (defBody (topS 40)) (defScope (topS 40)) .none kV295 dc295 pm295 an295 cd295 ct295), sl295⟩) (c295 : PySem.W.codeIn K cd295 "_law_any_port" = true) (k295 : PySem.W.keepIn K (.ref a295) = true)
    {oc296 kV296 dc296 pm296 cd296 ct296 : Value} {od296 an296 : Option Addr} {sl296 : Array (Option Value)}
    (n296 : PySem.W.nsIn K mainGlobals "_law_start" = some (some (.ref a296))) (l296 : K.lookup a296 = some ⟨oc296, od296, .func (PySem.W.fnOf "_law_start" "_law_start" (defArgs (topS 41)) (defBody (topS 41)) (defScope (topS 41)) .none kV296 dc296 pm296 an296 cd296 ct296), sl296⟩) (c296 : PySem.W.codeIn K cd296 "_law_start" = true) (k296 : PySem.W.keepIn K (.ref a296) = true)
    {oc302 kV302 dc302 pm302 cd302 ct302 : Value} {od302 an302 : Option Addr} {sl302 : Array (Option Value)}
    (n302 : PySem.W.nsIn K mainGlobals "_law_at" = some (some (.ref a302))) (l302 : K.lookup a302 = some ⟨oc302, od302, .func (PySem.W.fnOf "_law_at" "_law_at" (defArgs (topS 42)) (defBody (topS 42)) (defScope (topS 42)) .none kV302 dc302 pm302 an302 cd302 ct302), sl302⟩) (c302 : PySem.W.codeIn K cd302 "_law_at" = true) (k302 : PySem.W.keepIn K (.ref a302) = true)
    {oc303 kV303 dc303 pm303 cd303 ct303 : Value} {od303 an303 : Option Addr} {sl303 : Array (Option Value)}
    (n303 : PySem.W.nsIn K mainGlobals "_law_put" = some (some (.ref a303))) (l303 : K.lookup a303 = some ⟨oc303, od303, .func (PySem.W.fnOf "_law_put" "_law_put" (defArgs (topS 43)) (defBody (topS 43)) (defScope (topS 43)) .none kV303 dc303 pm303 an303 cd303 ct303), sl303⟩) (c303 : PySem.W.codeIn K cd303 "_law_put" = true) (k303 : PySem.W.keepIn K (.ref a303) = true)
    {oc304 kV304 dc304 pm304 cd304 ct304 : Value} {od304 an304 : Option Addr} {sl304 : Array (Option Value)}
    (n304 : PySem.W.nsIn K mainGlobals "_law_arrivals" = some (some (.ref a304))) (l304 : K.lookup a304 = some ⟨oc304, od304, .func (PySem.W.fnOf "_law_arrivals" "_law_arrivals" (defArgs (topS 44)) (defBody (topS 44)) (defScope (topS 44)) .none kV304 dc304 pm304 an304 cd304 ct304), sl304⟩) (c304 : PySem.W.codeIn K cd304 "_law_arrivals" = true) (k304 : PySem.W.keepIn K (.ref a304) = true)
    {oc305 kV305 dc305 pm305 cd305 ct305 : Value} {od305 an305 : Option Addr} {sl305 : Array (Option Value)}
    (n305 : PySem.W.nsIn K mainGlobals "_law_arrived" = some (some (.ref a305))) (l305 : K.lookup a305 = some ⟨oc305, od305, .func (PySem.W.fnOf "_law_arrived" "_law_arrived" (defArgs (topS 45)) (defBody (topS 45)) (defScope (topS 45)) .none kV305 dc305 pm305 an305 cd305 ct305), sl305⟩) (c305 : PySem.W.codeIn K cd305 "_law_arrived" = true) (k305 : PySem.W.keepIn K (.ref a305) = true)
    {oc306 kV306 dc306 pm306 cd306 ct306 : Value} {od306 an306 : Option Addr} {sl306 : Array (Option Value)}
    (n306 : PySem.W.nsIn K mainGlobals "_law_movements" = some (some (.ref a306))) (l306 : K.lookup a306 = some ⟨oc306, od306, .func (PySem.W.fnOf "_law_movements" "_law_movements" (defArgs (topS 46)) (defBody (topS 46)) (defScope (topS 46)) .none kV306 dc306 pm306 an306 cd306 ct306), sl306⟩) (c306 : PySem.W.codeIn K cd306 "_law_movements" = true) (k306 : PySem.W.keepIn K (.ref a306) = true)
    {oc307 kV307 dc307 pm307 cd307 ct307 : Value} {od307 an307 : Option Addr} {sl307 : Array (Option Value)}
    (n307 : PySem.W.nsIn K mainGlobals "_law_moved" = some (some (.ref a307))) (l307 : K.lookup a307 = some ⟨oc307, od307, .func (PySem.W.fnOf "_law_moved" "_law_moved" (defArgs (topS 47)) (defBody (topS 47)) (defScope (topS 47)) .none kV307 dc307 pm307 an307 cd307 ct307), sl307⟩) (c307 : PySem.W.codeIn K cd307 "_law_moved" = true) (k307 : PySem.W.keepIn K (.ref a307) = true)
    {oc308 kV308 dc308 pm308 cd308 ct308 : Value} {od308 an308 : Option Addr} {sl308 : Array (Option Value)}
    (n308 : PySem.W.nsIn K mainGlobals "_law_stops" = some (some (.ref a308))) (l308 : K.lookup a308 = some ⟨oc308, od308, .func (PySem.W.fnOf "_law_stops" "_law_stops" (defArgs (topS 48)) (defBody (topS 48)) (defScope (topS 48)) .none kV308 dc308 pm308 an308 cd308 ct308), sl308⟩) (c308 : PySem.W.codeIn K cd308 "_law_stops" = true) (k308 : PySem.W.keepIn K (.ref a308) = true)
    {oc309 kV309 dc309 pm309 cd309 ct309 : Value} {od309 an309 : Option Addr} {sl309 : Array (Option Value)}
    (n309 : PySem.W.nsIn K mainGlobals "_law_worked" = some (some (.ref a309))) (l309 : K.lookup a309 = some ⟨oc309, od309, .func (PySem.W.fnOf "_law_worked" "_law_worked" (defArgs (topS 49)) (defBody (topS 49)) (defScope (topS 49)) .none kV309 dc309 pm309 an309 cd309 ct309), sl309⟩) (c309 : PySem.W.codeIn K cd309 "_law_worked" = true) (k309 : PySem.W.keepIn K (.ref a309) = true)
    {oc310 kV310 dc310 pm310 cd310 ct310 : Value} {od310 an310 : Option Addr} {sl310 : Array (Option Value)}
    (n310 : PySem.W.nsIn K mainGlobals "_law_some_state" = some (some (.ref a310))) (l310 : K.lookup a310 = some ⟨oc310, od310, .func (PySem.W.fnOf "_law_some_state" "_law_some_state" (defArgs (topS 50)) (defBody (topS 50)) (defScope (topS 50)) .none kV310 dc310 pm310 an310 cd310 ct310), sl310⟩) (c310 : PySem.W.codeIn K cd310 "_law_some_state" = true) (k310 : PySem.W.keepIn K (.ref a310) = true)
    {oc328 kV328 dc328 pm328 cd328 ct328 : Value} {od328 an328 : Option Addr} {sl328 : Array (Option Value)}
    (n328 : PySem.W.nsIn K mainGlobals "_law_tick" = some (some (.ref a328))) (l328 : K.lookup a328 = some ⟨oc328, od328, .func (PySem.W.fnOf "_law_tick" "_law_tick" (defArgs (topS 51)) (defBody (topS 51)) (defScope (topS 51)) .none kV328 dc328 pm328 an328 cd328 ct328), sl328⟩) (c328 : PySem.W.codeIn K cd328 "_law_tick" = true) (k328 : PySem.W.keepIn K (.ref a328) = true)
    {oc329 kV329 dc329 pm329 cd329 ct329 : Value} {od329 an329 : Option Addr} {sl329 : Array (Option Value)}
    (n329 : PySem.W.nsIn K mainGlobals "_law_told" = some (some (.ref a329))) (l329 : K.lookup a329 = some ⟨oc329, od329, .func (PySem.W.fnOf "_law_told" "_law_told" (defArgs (topS 52)) (defBody (topS 52)) (defScope (topS 52)) .none kV329 dc329 pm329 an329 cd329 ct329), sl329⟩) (c329 : PySem.W.codeIn K cd329 "_law_told" = true) (k329 : PySem.W.keepIn K (.ref a329) = true)
    {oc330 kV330 dc330 pm330 cd330 ct330 : Value} {od330 an330 : Option Addr} {sl330 : Array (Option Value)}
    (n330 : PySem.W.nsIn K mainGlobals "law" = some (some (.ref a330))) (l330 : K.lookup a330 = some ⟨oc330, od330, .func (PySem.W.fnOf "law" "law" (defArgs (topS 53)) (defBody (topS 53)) (defScope (topS 53)) .none kV330 dc330 pm330 an330 cd330 ct330), sl330⟩) (c330 : PySem.W.codeIn K cd330 "law" = true) (k330 : PySem.W.keepIn K (.ref a330) = true)
    {gt10 : Tok} (g10 : PySem.W.nsIn K mainGlobals "AWAY" = some (some (.int 0 gt10)))
    {gt11 : Tok} (g11 : PySem.W.nsIn K mainGlobals "ROADS" = some (some (.int 1 gt11)))
    {gt12 : Tok} (g12 : PySem.W.nsIn K mainGlobals "BERTH" = some (some (.int 2 gt12)))
    {gt13 : Tok} (g13 : PySem.W.nsIn K mainGlobals "GONE" = some (some (.int 3 gt13)))
    (z0 : PySem.W.nsIn K mainGlobals "len" = some none)
    (z1 : PySem.W.nsIn K mainGlobals "int" = some none)
    (z2 : PySem.W.nsIn K mainGlobals "str" = some none)
    (z3 : PySem.W.nsIn K mainGlobals "tuple" = some none)
    (z4 : PySem.W.nsIn K mainGlobals "list" = some none)
    (z5 : PySem.W.nsIn K mainGlobals "abs" = some none)
    (z6 : PySem.W.nsIn K mainGlobals "sum" = some none)
    (z7 : PySem.W.nsIn K mainGlobals "all" = some none)
    (z8 : PySem.W.nsIn K mainGlobals "any" = some none)
    (z9 : PySem.W.nsIn K mainGlobals "min" = some none)
    (z10 : PySem.W.nsIn K mainGlobals "max" = some none)
    (z11 : PySem.W.nsIn K mainGlobals "sorted" = some none)
    (z12 : PySem.W.nsIn K mainGlobals "range" = some none)
    (z13 : PySem.W.nsIn K mainGlobals "reversed" = some none)
    (z14 : PySem.W.nsIn K mainGlobals "isinstance" = some none)
    (z15 : PySem.W.nsIn K mainGlobals "bool" = some none)
    (z16 : PySem.W.nsIn K mainGlobals "dict" = some none)
    (z17 : PySem.W.nsIn K mainGlobals "set" = some none)
    (z18 : PySem.W.nsIn K mainGlobals "zip" = some none)
    (er : (∀ c, decide (c < 2) = true → ∃ Ca, XCls K mg c Ca) ∧ ∀ base : Heap, ErrOk PySem.Challenge.pw_tidewarden_k47_ticks_done_or_refused w K mg base (fun c => decide (c < 2)))
    (hp : ∀ ns : List Int, ns.length ≤ 63 → (∀ z ∈ ns, Builtin.Int.intBits z ≤ 1048576) → ∃ outs, callF P 140 330 [.fz (.list (ns.map PyData.int))] = .ok (.fz (.bool true), outs)) :
    ∃ fd : FuncData, (∀ (s : Shared) (u : Value), BindsTo s fd ⟨[u], []⟩ [("script", u)]) ∧ ∀ base : Heap, K.In base → base.Ns mainGlobals mg → FnOk PySem.Challenge.pw_tidewarden_k47_ticks_done_or_refused w K mg base CX0 140 fa fd ["script"] (spLaw K) := by
  refine law_end (P := P) (T := T) (f := 330) (fn := F.f330) rfl rfl rfl ⟨?_, ?_, chk, ?_, er.1⟩ (fun _ => er.2) hfa hp
  · intro x hx
    simp only [bnames, List.mem_cons, List.not_mem_nil, or_false] at hx
    rcases hx with rfl | rfl | rfl | rfl | rfl | rfl | rfl | rfl | rfl | rfl | rfl | rfl | rfl | rfl | rfl | rfl | rfl | rfl | rfl
    · exact PySem.W.mg_none_of X G z0
    · exact PySem.W.mg_none_of X G z1
    · exact PySem.W.mg_none_of X G z2
    · exact PySem.W.mg_none_of X G z3
    · exact PySem.W.mg_none_of X G z4
    · exact PySem.W.mg_none_of X G z5
    · exact PySem.W.mg_none_of X G z6
    · exact PySem.W.mg_none_of X G z7
    · exact PySem.W.mg_none_of X G z8
    · exact PySem.W.mg_none_of X G z9
    · exact PySem.W.mg_none_of X G z10
    · exact PySem.W.mg_none_of X G z11
    · exact PySem.W.mg_none_of X G z12
    · exact PySem.W.mg_none_of X G z13
    · exact PySem.W.mg_none_of X G z14
    · exact PySem.W.mg_none_of X G z15
    · exact PySem.W.mg_none_of X G z16
    · exact PySem.W.mg_none_of X G z17
    · exact PySem.W.mg_none_of X G z18
  · exact look_all (p := fun i d => ∃ v u, mg (T.gname i) = some u ∧ RelV v u ∧ ∀ H S, Rp K H S v d) ⟨glInt X G g10, glInt X G g11, glInt X G g12, glInt X G g13, trivial⟩
  · exact look_all (p := fun f _ => Nonempty (FnLoc K mg T f)) ⟨⟨locOf X G n262 l262 c262 k262 rfl eqb262⟩, ⟨locOf X G n312 l312 c312 k312 rfl eqb312⟩, ⟨locOf X G n313 l313 c313 k313 rfl eqb313⟩, ⟨locOf X G n314 l314 c314 k314 rfl eqb314⟩, ⟨locOf X G n315 l315 c315 k315 rfl eqb315⟩, ⟨locOf X G n317 l317 c317 k317 rfl eqb317⟩, ⟨locOf X G n318 l318 c318 k318 rfl eqb318⟩, ⟨locOf X G n319 l319 c319 k319 rfl eqb319⟩, ⟨locOf X G n320 l320 c320 k320 rfl eqb320⟩, ⟨locOf X G n321 l321 c321 k321 rfl eqb321⟩, ⟨locOf X G n323 l323 c323 k323 rfl eqb323⟩, ⟨locOf X G n324 l324 c324 k324 rfl eqb324⟩, ⟨locOf X G n325 l325 c325 k325 rfl eqb325⟩, ⟨locOf X G n327 l327 c327 k327 rfl eqb327⟩, ⟨locOf X G n6 l6 c6 k6 rfl eqb6⟩, ⟨locOf X G n7 l7 c7 k7 rfl eqb7⟩, ⟨locOf X G n8 l8 c8 k8 rfl eqb8⟩, ⟨locOf X G n9 l9 c9 k9 rfl eqb9⟩, ⟨locOf X G n31 l31 c31 k31 rfl eqb31⟩, ⟨locOf X G n260 l260 c260 k260 rfl eqb260⟩, ⟨locOf X G n294 l294 c294 k294 rfl eqb294⟩, ⟨locOf X G n295 l295 c295 k295 rfl eqb295⟩, ⟨locOf X G n296 l296 c296 k296 rfl eqb296⟩, ⟨locOf X G n302 l302 c302 k302 rfl eqb302⟩, ⟨locOf X G n303 l303 c303 k303 rfl eqb303⟩, ⟨locOf X G n304 l304 c304 k304 rfl eqb304⟩, ⟨locOf X G n305 l305 c305 k305 rfl eqb305⟩, ⟨locOf X G n306 l306 c306 k306 rfl eqb306⟩, ⟨locOf X G n307 l307 c307 k307 rfl eqb307⟩, ⟨locOf X G n308 l308 c308 k308 rfl eqb308⟩, ⟨locOf X G n309 l309 c309 k309 rfl eqb309⟩, ⟨locOf X G n310 l310 c310 k310 rfl eqb310⟩, ⟨locOf X G n328 l328 c328 k328 rfl eqb328⟩, ⟨locOf X G n329 l329 c329 k329 rfl eqb329⟩, ⟨locOf X G n330 l330 c330 k330 rfl eqb330⟩, trivial⟩
end G_k47

namespace G_k47
open DL
theorem has262 : F.H262 P := ⟨rfl⟩
theorem has312 : F.H312 P := ⟨rfl⟩
theorem has313 : F.H313 P := ⟨rfl⟩
theorem has314 : F.H314 P := ⟨rfl, has262, has312, rfl⟩
theorem has315 : F.H315 P := ⟨rfl, has313, rfl⟩
theorem has317 : F.H317 P := ⟨rfl, rfl⟩
theorem has318 : F.H318 P := ⟨rfl⟩
theorem has319 : F.H319 P := ⟨rfl, has317, has318⟩
theorem has320 : F.H320 P := ⟨rfl, has312, has318, has319, rfl, rfl⟩
theorem has321 : F.H321 P := ⟨rfl, has313, rfl, rfl⟩
theorem has323 : F.H323 P := ⟨rfl, has312, rfl⟩
theorem has324 : F.H324 P := ⟨rfl, has262, has323⟩
theorem has325 : F.H325 P := ⟨rfl, rfl, rfl⟩
theorem has327 : F.H327 P := ⟨rfl, has314, has315, has320, has321, has324, has325⟩
theorem has6 : F.H6 P := ⟨rfl⟩
theorem has7 : F.H7 P := ⟨rfl⟩
theorem has8 : F.H8 P := ⟨rfl⟩
theorem has9 : F.H9 P := ⟨rfl, has8⟩
theorem has31 : F.H31 P := ⟨rfl, has9⟩
theorem has260 : F.H260 P := ⟨rfl⟩
theorem has294 : F.H294 P := ⟨rfl, has9⟩
theorem has295 : F.H295 P := ⟨rfl, has9, has294⟩
theorem has296 : F.H296 P := ⟨rfl⟩
theorem has302 : F.H302 P := ⟨rfl⟩
theorem has303 : F.H303 P := ⟨rfl⟩
theorem has304 : F.H304 P := ⟨rfl, has260, has302⟩
theorem has305 : F.H305 P := ⟨rfl⟩
theorem has306 : F.H306 P := ⟨rfl, has302⟩
theorem has307 : F.H307 P := ⟨rfl, has303⟩
theorem has308 : F.H308 P := ⟨rfl, has260, has302⟩
theorem has309 : F.H309 P := ⟨rfl⟩
theorem has310 : F.H310 P := ⟨rfl, has9, has31, has296, has304, has305, has306, has307, has308, has309⟩
theorem has328 : F.H328 P := ⟨rfl, has304, has305, has306, has307, has308, has309⟩
theorem has329 : F.H329 P := ⟨rfl, has327⟩
theorem has330 : F.H330 P := ⟨rfl, has6, has7, has9, has31, has260, has295, has304, has305, has306, has307, has308, has310, has328, has329⟩
theorem law_true : ∀ ns : List Int, ns.length ≤ 63 → (∀ z ∈ ns, PySem.Builtin.Int.intBits z ≤ 1048576) → ∃ outs, callF P 140 330 [.fz (.list (ns.map PySem.PyData.int))] = .ok (.fz (.bool true), outs) := fun ns _ _ => law_k47 rfl rfl has330 0 ns
end G_k47

open PySem PySem.W PyProof.Rows
set_option maxHeartbeats 0 in
theorem PySem.Challenge.cw_tidewarden_k47_ticks_done_or_refused_holds : PySem.Challenge.rw_tidewarden_k47_ticks_done_or_refused.Holds := by
  w_on; o_law; k_head; (case hw => w_witness2)
  k_fill
  refine L2.walk_ofB (l := PySem.Challenge.rw_tidewarden_k47_ticks_done_or_refused) (n := 63) (k := 140) (x := "script") (CX := fun _ => L2.CX0) (sp := fun w => DL.spLaw _) rfl (by decide) rfl ⟨rfl, by decide, by decide⟩ (fun w h Y => PySem.W.kIn_of Y) ?F (fun _ _ a ns hl hb _ hS => ⟨a, ns, rfl, hl, hb, hS, fun _ => rfl⟩) (fun _ _ _ _ _ h => h)
  case F =>
    intro w mg fa h KX G hmg
    refine' G_k47.all_mk KX G hmg ?n262 ?l262 ?c262 ?k262 ?n312 ?l312 ?c312 ?k312 ?n313 ?l313 ?c313 ?k313 ?n314 ?l314 ?c314 ?k314 ?n315 ?l315 ?c315 ?k315 ?n317 ?l317 ?c317 ?k317 ?n318 ?l318 ?c318 ?k318 ?n319 ?l319 ?c319 ?k319 ?n320 ?l320 ?c320 ?k320 ?n321 ?l321 ?c321 ?k321 ?n323 ?l323 ?c323 ?k323 ?n324 ?l324 ?c324 ?k324 ?n325 ?l325 ?c325 ?k325 ?n327 ?l327 ?c327 ?k327 ?n6 ?l6 ?c6 ?k6 ?n7 ?l7 ?c7 ?k7 ?n8 ?l8 ?c8 ?k8 ?n9 ?l9 ?c9 ?k9 ?n31 ?l31 ?c31 ?k31 ?n260 ?l260 ?c260 ?k260 ?n294 ?l294 ?c294 ?k294 ?n295 ?l295 ?c295 ?k295 ?n296 ?l296 ?c296 ?k296 ?n302 ?l302 ?c302 ?k302 ?n303 ?l303 ?c303 ?k303 ?n304 ?l304 ?c304 ?k304 ?n305 ?l305 ?c305 ?k305 ?n306 ?l306 ?c306 ?k306 ?n307 ?l307 ?c307 ?k307 ?n308 ?l308 ?c308 ?k308 ?n309 ?l309 ?c309 ?k309 ?n310 ?l310 ?c310 ?k310 ?n328 ?l328 ?c328 ?k328 ?n329 ?l329 ?c329 ?k329 ?n330 ?l330 ?c330 ?k330 ?gg10 ?gg11 ?gg12 ?gg13 ?z0 ?z1 ?z2 ?z3 ?z4 ?z5 ?z6 ?z7 ?z8 ?z9 ?z10 ?z11 ?z12 ?z13 ?z14 ?z15 ?z16 ?z17 ?z18 ?er G_k47.law_true
    (case n262 => k_is); (case l262 => k_is); (case c262 => k_is); (case k262 => k_is); (case n312 => k_is); (case l312 => k_is); (case c312 => k_is); (case k312 => k_is); (case n313 => k_is); (case l313 => k_is); (case c313 => k_is); (case k313 => k_is); (case n314 => k_is); (case l314 => k_is); (case c314 => k_is); (case k314 => k_is); (case n315 => k_is); (case l315 => k_is); (case c315 => k_is); (case k315 => k_is); (case n317 => k_is); (case l317 => k_is); (case c317 => k_is); (case k317 => k_is); (case n318 => k_is); (case l318 => k_is); (case c318 => k_is); (case k318 => k_is); (case n319 => k_is); (case l319 => k_is); (case c319 => k_is); (case k319 => k_is); (case n320 => k_is); (case l320 => k_is); (case c320 => k_is); (case k320 => k_is); (case n321 => k_is); (case l321 => k_is); (case c321 => k_is); (case k321 => k_is); (case n323 => k_is); (case l323 => k_is); (case c323 => k_is); (case k323 => k_is); (case n324 => k_is); (case l324 => k_is); (case c324 => k_is); (case k324 => k_is); (case n325 => k_is); (case l325 => k_is); (case c325 => k_is); (case k325 => k_is); (case n327 => k_is); (case l327 => k_is); (case c327 => k_is); (case k327 => k_is); (case n6 => k_is); (case l6 => k_is); (case c6 => k_is); (case k6 => k_is); (case n7 => k_is); (case l7 => k_is); (case c7 => k_is); (case k7 => k_is); (case n8 => k_is); (case l8 => k_is); (case c8 => k_is); (case k8 => k_is); (case n9 => k_is); (case l9 => k_is); (case c9 => k_is); (case k9 => k_is); (case n31 => k_is); (case l31 => k_is); (case c31 => k_is); (case k31 => k_is); (case n260 => k_is); (case l260 => k_is); (case c260 => k_is); (case k260 => k_is); (case n294 => k_is); (case l294 => k_is); (case c294 => k_is); (case k294 => k_is); (case n295 => k_is); (case l295 => k_is); (case c295 => k_is); (case k295 => k_is); (case n296 => k_is); (case l296 => k_is); (case c296 => k_is); (case k296 => k_is); (case n302 => k_is); (case l302 => k_is); (case c302 => k_is); (case k302 => k_is); (case n303 => k_is); (case l303 => k_is); (case c303 => k_is); (case k303 => k_is); (case n304 => k_is); (case l304 => k_is); (case c304 => k_is); (case k304 => k_is); (case n305 => k_is); (case l305 => k_is); (case c305 => k_is); (case k305 => k_is); (case n306 => k_is); (case l306 => k_is); (case c306 => k_is); (case k306 => k_is); (case n307 => k_is); (case l307 => k_is); (case c307 => k_is); (case k307 => k_is); (case n308 => k_is); (case l308 => k_is); (case c308 => k_is); (case k308 => k_is); (case n309 => k_is); (case l309 => k_is); (case c309 => k_is); (case k309 => k_is); (case n310 => k_is); (case l310 => k_is); (case c310 => k_is); (case k310 => k_is); (case n328 => k_is); (case l328 => k_is); (case c328 => k_is); (case k328 => k_is); (case n329 => k_is); (case l329 => k_is); (case c329 => k_is); (case k329 => k_is); (case n330 => k_is); (case l330 => k_is); (case c330 => k_is); (case k330 => k_is); (case gg10 => k_is); (case gg11 => k_is); (case gg12 => k_is); (case gg13 => k_is); (case z0 => k_is); (case z1 => k_is); (case z2 => k_is); (case z3 => k_is); (case z4 => k_is); (case z5 => k_is); (case z6 => k_is); (case z7 => k_is); (case z8 => k_is); (case z9 => k_is); (case z10 => k_is); (case z11 => k_is); (case z12 => k_is); (case z13 => k_is); (case z14 => k_is); (case z15 => k_is); (case z16 => k_is); (case z17 => k_is); (case z18 => k_is)
    (case er => refine' DL.err_mk (p := G_k47.errP) KX G G_k47.errS G_k47.errL G_k47.errG G_k47.errH (by decide +kernel) (by decide +kernel) G_k47.errQ (PySem.W.mg_none_of KX G ?xzi) ?xpn ?xpb ?xph ?xpt ?xen ?xel ?xec ?xek ?xn0 ?xn1 ?xn2 ?xn3 ?xn4 ?xn5 ?xn6 ?xn7 ?xnv ?xhn ?xht ?xx0 ?xk0 ?xb0 ?xt0 ?xs0 ?xg0 ?xa0 ?xd0 ?xc0 ?xm0 ?xv0 ?xq00 ?xq01 ?xq02 ?xq03 ?xq04 ?xq05 ?xq06 ?xq07 ?xx1 ?xk1 ?xb1 ?xt1 ?xs1 ?xg1 ?xa1 ?xd1 ?xc1 ?xm1 ?xv1 ?xq10 ?xq11 ?xq12 ?xq13 ?xq14 ?xq15 ?xq16 ?xq17; (case xzi => k_is); (case xpn => k_is); (case xpb => k_is); (case xph => k_is); (case xpt => k_is); (case xen => k_is); (case xel => k_is); (case xec => k_is); (case xek => k_is); (case xn0 => k_is); (case xn1 => k_is); (case xn2 => k_is); (case xn3 => k_is); (case xn4 => k_is); (case xn5 => k_is); (case xn6 => k_is); (case xn7 => k_is); (case xnv => k_is); (case xhn => k_is); (case xht => k_is); (case xx0 => first | k_is | k_exc); (case xk0 => k_is); (case xb0 => k_is); (case xt0 => k_is); (case xs0 => k_is); (case xg0 => k_is); (case xa0 => k_is); (case xd0 => k_is); (case xc0 => k_is); (case xm0 => k_is); (case xv0 => kit_is); (case xq00 => kit_is); (case xq01 => kit_is); (case xq02 => kit_is); (case xq03 => kit_is); (case xq04 => kit_is); (case xq05 => kit_is); (case xq06 => kit_is); (case xq07 => kit_is); (case xx1 => first | k_is | k_exc); (case xk1 => k_is); (case xb1 => k_is); (case xt1 => k_is); (case xs1 => k_is); (case xg1 => k_is); (case xa1 => k_is); (case xd1 => k_is); (case xc1 => k_is); (case xm1 => k_is); (case xv1 => kit_is); (case xq10 => kit_is); (case xq11 => kit_is); (case xq12 => kit_is); (case xq13 => kit_is); (case xq14 => kit_is); (case xq15 => kit_is); (case xq16 => kit_is); (case xq17 => kit_is))

