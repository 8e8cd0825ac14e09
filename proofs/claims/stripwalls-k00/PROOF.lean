import PyProof.Rows.All
import Wide.All
import OpenK.AllK
import Wide.FinOn
import HandS.ForMost
import HandS.ForExc
import HandS.Lambda
import HandS.HeadWalk
import HandS.TryMany
import HandS.ExcInit
import HandS.Defaults
import HandS.CallLocal
import KE.SortData
import KE.DataEq
import KE.DataCmp
import KE.DataMinMax
import KE.DataFind
import KE.DatumIndex
import HandS.Flow
import HandS.Style
import HandS.TupMul
import HandS.TupAny
import HandS.Wide
import HandS.IsInst
import PyProof.ReprLen
import PyProof.StrLawsRepr
import PyProof.ReprText
import HandS.Zip
import HandS.Deep
import KE.GoesEnum
import HandS.Dict
import HandS.ExcField
import HandS.TupSets
import HandS.HeadHook4
import HandS.Head2
import Lean
import PySem.Challenge.RW_stripwalls_k00_kits
set_option Elab.async false
set_option linter.all false
set_option maxRecDepth 100000
set_option maxHeartbeats 0
/-! SwEv: data D, a small language IE / IS, and its evaluator: what the text of the program does, without a heap. Own work. -/
namespace SW
open PySem (Str)

/-- what a value tells -/
inductive D where
  | non | bl (b : Bool) | int (i : Int) | str (s : Str)
  | tup (xs : List D) | lst (xs : List D)
  | dic (t : Bool) (kvs : List (D × D))
  | ins (c : Nat) (fs : List D)
  | fn (f : Nat) | row | rep (d : D)
  deriving Inhabited

/-- the drawing row: is it made, the script, cells taken, the mixed number, the great cell's rest -/
structure Row where
  live : Bool
  ns : List Int
  i : Int
  m : Int
  c : Int

inductive R (α : Type) where
  | ok (a : α) (r : Row)
  | exn (c : Nat) (d : D) (r : Row)
  | bad

@[reducible] def R.bind {α β : Type} : R α → (α → Row → R β) → R β
  | .ok a r, k => k a r
  | .exn c d r, _ => .exn c d r
  | .bad, _ => .bad

def liftO {α : Type} : Option α → Row → R α
  | some a, r => .ok a r
  | none, _ => .bad

def LIM : Nat := 16777216

/-! ### operations on data -/
/-- data without dicts, instances, defs, at most n deep -/
def D.plainN : Nat → D → Bool
  | _, .non => true
  | _, .bl _ => true
  | _, .int _ => true
  | _, .str _ => true
  | n + 1, .tup xs => xs.all (D.plainN n)
  | n + 1, .lst xs => xs.all (D.plainN n)
  | _, _ => false
def D.plain (d : D) : Bool := d.plainN 8
def plainAll (xs : List D) : Bool := xs.all (D.plainN 7)
mutual
/-- no list within -/
def D.noLst : D → Bool
  | .lst _ => false
  | .tup xs => noLstAll xs
  | .dic _ kvs => noLstKV kvs
  | .ins _ fs => noLstAll fs
  | _ => true
def noLstAll : List D → Bool
  | [] => true
  | x :: xs => x.noLst && noLstAll xs
def noLstKV : List (D × D) → Bool
  | [] => true
  | (k, v) :: r => k.noLst && v.noLst && noLstKV r
end
mutual
/-- no dict within -/
def D.noDic : D → Bool
  | .dic _ _ => false
  | .tup xs => noDicAll xs
  | .lst xs => noDicAll xs
  | .ins _ fs => noDicAll fs
  | _ => true
def noDicAll : List D → Bool
  | [] => true
  | x :: xs => x.noDic && noDicAll xs
end
mutual
/-- no instance within -/
def D.noIns : D → Bool
  | .ins _ _ => false
  | .tup xs => noInsAll xs
  | .lst xs => noInsAll xs
  | .dic _ kvs => noInsKV kvs
  | _ => true
def noInsAll : List D → Bool
  | [] => true
  | x :: xs => x.noIns && noInsAll xs
def noInsKV : List (D × D) → Bool
  | [] => true
  | (k, v) :: r => k.noIns && v.noIns && noInsKV r
end
mutual
/-- Python's == on plain data -/
def D.eqv : D → D → Bool
  | .non, .non => true
  | .bl a, .bl b => a == b
  | .int a, .int b => a == b
  | .bl a, .int b => (if a then 1 else 0) == b
  | .int a, .bl b => a == (if b then 1 else 0)
  | .str a, .str b => a == b
  | .tup xs, .tup ys => eqvAll xs ys
  | .lst xs, .lst ys => eqvAll xs ys
  | _, _ => false
def eqvAll : List D → List D → Bool
  | [], [] => true
  | x :: xs, y :: ys => x.eqv y && eqvAll xs ys
  | _, _ => false
end
/-- of one shape: what < tells of -/
def D.alikeN : Nat → D → D → Bool
  | _, .int _, .int _ => true
  | _, .str _, .str _ => true
  | n + 1, .tup xs, .tup ys => (xs.zip ys).all fun p => D.alikeN n p.1 p.2
  | _, _, _ => false
def D.alike (a b : D) : Bool := a.alikeN 8 b
mutual
def D.lt : D → D → Bool
  | .int a, .int b => decide (a < b)
  | .str a, .str b => decide (a.cps.toList < b.cps.toList)
  | .tup xs, .tup ys => ltAll xs ys
  | _, _ => false
def ltAll : List D → List D → Bool
  | [], [] => false
  | [], _ :: _ => true
  | _ :: _, [] => false
  | x :: xs, y :: ys => if x.eqv y then ltAll xs ys else x.lt y
end

/-- at least as long as the text that repr makes -/
def D.wt : Nat → D → Nat
  | _, .non => 4
  | _, .bl _ => 5
  | _, .int _ => 22
  | _, .str s => 12 * s.length + 2
  | n + 1, .tup xs => (xs.map fun x => D.wt n x + 2).sum + 3
  | n + 1, .lst xs => (xs.map fun x => D.wt n x + 2).sum + 3
  | _, _ => 4
def D.smallN : Nat → D → Bool
  | _, .int i => decide (i.natAbs < 10 ^ 12)
  | _, .str s => s.cps.toList.all fun c => decide (c < 1114112)
  | n + 1, .tup xs => xs.all (D.smallN n)
  | n + 1, .lst xs => xs.all (D.smallN n)
  | _, _ => true
def D.reprOk : D → Bool
  | .tup [.str s, .dic false []] => decide (s.length ≤ 1000) && s.cps.toList.all fun c => decide (c < 1114112)
  | .tup xs => (D.tup xs).plain && (D.tup xs).smallN 8 && decide ((D.tup xs).wt 8 ≤ 1000000)
  | _ => false
def D.truth : D → Option Bool
  | .non => some false
  | .bl b => some b
  | .int i => some (i != 0)
  | .str s => if s.length ≤ LIM then some (s.length != 0) else none
  | .tup xs => some (!xs.isEmpty)
  | .lst xs => some (!xs.isEmpty)
  | _ => none

abbrev idxI {α : Type} (xs : List α) (i : Int) : Option α := L2.atI xs i

/-- what a dict is keyed by: ints and texts; or tuples of these -/
def D.isAtom : D → Bool
  | .int _ => true
  | .str _ => true
  | _ => false
def D.isKey : Bool → D → Bool
  | true, .tup xs => xs.all D.isAtom
  | false, d => d.isAtom
  | _, _ => false
def getK (kvs : List (D × D)) (k : D) : Option D := (kvs.find? fun p => p.1.eqv k).map (·.2)
def putK (kvs : List (D × D)) (k v : D) : List (D × D) := if (kvs.any fun p => p.1.eqv k) = true then kvs.map (fun p => if p.1.eqv k = true then (p.1, v) else p) else kvs ++ [(k, v)]

/-- kinds that isinstance asks for -/
inductive Isk where
  | int | bool | str | tuple | list | dict | rowT | cls (c : Nat)

def D.isK : D → Isk → Option Bool
  | .non, _ => some false
  | .bl _, .int => some true
  | .bl _, .bool => some true
  | .bl _, _ => some false
  | .int _, .int => some true
  | .int _, _ => some false
  | .str _, .str => some true
  | .str _, _ => some false
  | .tup _, .tuple => some true
  | .tup _, .rowT => some true
  | .tup _, _ => some false
  | .lst _, .list => some true
  | .lst _, .rowT => some true
  | .lst _, _ => some false
  | .dic false _, .dict => some true
  | .dic false _, _ => some false
  | .ins c _, .cls d => some (c == d)
  | _, _ => none

inductive P1 where
  | len | int1 | all | any | tupleOf | listOf | sortedL | sortedSet | repr | neg | isI (k : Isk) | isNone | notNone | sum | maxL | minL | boolOf | abs

inductive P2 where
  | add | sub | mul | fdiv | mod | pow | eq | ne | lt | le | gt | ge | isIn | notIn | idx | isB | isNotB | index | max2 | min2

def D.sort (xs : List D) : List D := xs.mergeSort fun a b => !D.lt b a
/-- each two of one shape, at most 8 deep -/
def alikeL (xs : List D) : Bool := xs.all fun a => a.plain && xs.all fun b => a.alike b
/-- all are tuples with an item, or none is a tuple -/
def sortable (xs : List D) : Bool := (xs.all fun d => match d with
  | .tup (_ :: _) => true
  | _ => false) || xs.all fun d => match d with
  | .tup _ => false
  | _ => true
/-- without doubles, the first ones kept -/
def nubD : List D → List D
  | [] => []
  | x :: xs => x :: (nubD xs).filter fun y => !y.eqv x

def blsOf : List D → Option (List Bool)
  | [] => some []
  | .bl b :: r => (blsOf r).map (b :: ·)
  | _ :: _ => none
def intsOf : List D → Option (List Int)
  | [] => some []
  | .int b :: r => (intsOf r).map (b :: ·)
  | _ :: _ => none

/-- a tuple of small ints -/
def smallT : D → Option (List Int)
  | .tup xs => match intsOf xs with
    | some ns => if ns.all (fun m => decide (0 ≤ m) && decide (m < 64)) then some ns else none
    | none => none
  | _ => none
/-- without doubles, the first ones kept -/
def nubI : List (List Int) → List (List Int)
  | [] => []
  | x :: xs => x :: (nubI xs).filter fun y => !(y == x)
def smallAll : List D → Option (List (List Int))
  | [] => some []
  | d :: ds => match smallT d, smallAll ds with
    | some l, some ls => some (l :: ls)
    | _, _ => none
/-- sorted(set(..))'s condition: tuples of small ints of one length, few distinct -/
def setOk (xs : List D) : Bool := match smallAll xs with
  | some ls => (ls.all fun l => decide (1 ≤ l.length) && l.length == (ls.headD []).length) && decide ((nubI ls).length < 63)
  | none => false

def minD : D → List D → D
  | a, [] => a
  | a, x :: xs => minD (if x.lt a then x else a) xs
def maxD : D → List D → D
  | a, [] => a
  | a, x :: xs => maxD (if a.lt x then x else a) xs

def p1 : P1 → D → Option D
  | .len, .tup xs => some (.int xs.length)
  | .len, .lst xs => some (.int xs.length)
  | .len, .str s => if s.length ≤ LIM then some (.int s.length) else none
  | .len, .dic false kvs => some (.int kvs.length)
  | .int1, .int i => some (.int i)
  | .boolOf, d => d.truth.map .bl
  | .all, .lst xs => (blsOf xs).map fun bs => .bl (bs.all id)
  | .any, .lst xs => (blsOf xs).map fun bs => .bl (bs.any id)
  | .tupleOf, .lst xs => some (.tup xs)
  | .tupleOf, .tup xs => some (.tup xs)
  | .listOf, .lst xs => some (.lst xs)
  | .listOf, .tup xs => some (.lst xs)
  | .sortedL, .lst xs => if alikeL xs && sortable xs then some (.lst (D.sort xs)) else none
  | .sortedSet, .lst xs => if setOk xs then some (.lst (D.sort (nubD xs))) else none
  | .repr, d => if d.reprOk then some (.rep d) else none
  | .neg, .int i => some (.int (-i))
  | .abs, .int i => some (.int i.natAbs)
  | .isI k, d => (d.isK k).map .bl
  | .isNone, .non => some (.bl true)
  | .isNone, _ => some (.bl false)
  | .notNone, .non => some (.bl false)
  | .notNone, _ => some (.bl true)
  | .sum, .lst xs => (intsOf xs).map fun ns => .int ns.sum
  | .maxL, .lst (x :: xs) => if alikeL (x :: xs) then some (maxD x xs) else none
  | .minL, .lst (x :: xs) => if alikeL (x :: xs) then some (minD x xs) else none
  | _, _ => none

open Classical in
noncomputable def p2 : P2 → D → D → Option D
  | .add, .int a, .int b => some (.int (a + b))
  | .add, .tup a, .tup b => if a.length + b.length ≤ LIM then some (.tup (a ++ b)) else none
  | .add, .lst a, .lst b => if a.length + b.length ≤ LIM then some (.lst (a ++ b)) else none
  | .sub, .int a, .int b => some (.int (a - b))
  | .mul, .int a, .int b => if (-(2 ^ 64) < a ∧ a < 2 ^ 64) ∨ (-(2 ^ 64) < b ∧ b < 2 ^ 64) then some (.int (a * b)) else none
  | .mul, .lst a, .int b => if a.length * b.toNat ≤ LIM ∧ -(2 ^ 63) ≤ b ∧ b < 2 ^ 63 then some (.lst (List.replicate b.toNat a).flatten) else none
  | .mul, .tup a, .int b => if a ≠ [] ∧ 1 ≤ b ∧ b ≤ 1000 ∧ a.length ≤ 1000 then some (.tup (List.replicate b.toNat a).flatten) else none
  | .fdiv, .int a, .int b => if 0 < b ∧ b < 1073741824 then some (.int (a / b)) else none
  | .mod, .int a, .int b => if 0 < b then some (.int (a % b)) else none
  | .pow, .int a, .int b => if 0 ≤ b ∧ b ≤ 1000000 ∧ a.natAbs < 2 ^ 64 then some (.int (a ^ b.toNat)) else none
  | .eq, .rep a, .rep b => if a = b then some (.bl true) else none
  | .ne, .rep a, .rep b => if a = b then some (.bl false) else none
  | .eq, a, b => if a.plain && b.plain then some (.bl (a.eqv b)) else none
  | .ne, a, b => if a.plain && b.plain then some (.bl (!a.eqv b)) else none
  | .lt, a, b => if a.alike b && a.plain && b.plain then some (.bl (a.lt b)) else none
  | .le, a, b => if a.alike b && a.plain && b.plain then some (.bl (!b.lt a)) else none
  | .gt, a, b => if a.alike b && a.plain && b.plain then some (.bl (b.lt a)) else none
  | .ge, a, b => if a.alike b && a.plain && b.plain then some (.bl (!a.lt b)) else none
  | .isIn, a, .lst xs => if a.plain && plainAll xs then some (.bl (xs.any fun z => z.eqv a)) else none
  | .isIn, a, .tup xs => if a.plain && plainAll xs then some (.bl (xs.any fun z => z.eqv a)) else none
  | .isIn, a, .dic t kvs => if a.isKey t then some (.bl (getK kvs a).isSome) else none
  | .notIn, a, .lst xs => if a.plain && plainAll xs then some (.bl (!xs.any fun z => z.eqv a)) else none
  | .notIn, a, .tup xs => if a.plain && plainAll xs then some (.bl (!xs.any fun z => z.eqv a)) else none
  | .notIn, a, .dic t kvs => if a.isKey t then some (.bl (!(getK kvs a).isSome)) else none
  | .idx, .lst xs, .int i => idxI xs i
  | .idx, .tup xs, .int i => idxI xs i
  | .idx, .dic t kvs, k => if k.isKey t then getK kvs k else none
  | .isB, .bl a, .bl b => some (.bl (a == b))
  | .isNotB, .bl a, .bl b => some (.bl (!(a == b)))
  | .index, .lst xs, a => if a.plain && plainAll xs && (a.smallN 8 && (D.lst xs).smallN 8) && xs.any (fun z => z.eqv a) then some (.int (xs.findIdx fun z => z.eqv a)) else none
  | .max2, .int a, .int b => some (.int (if b > a then b else a))
  | .min2, .int a, .int b => some (.int (if b < a then b else a))
  | _, _, _ => none

/-- x[lo:hi] -/
def sliceL {α : Type} (xs : List α) (lo hi : Option Int) : List α := (xs.drop (HT.sIx xs.length 0 lo)).take (HT.sIx xs.length xs.length hi - HT.sIx xs.length 0 lo)
def D.isCls (c : Nat) : D → Bool
  | .ins b _ => b == c
  | _ => false
def D.isLst : D → Bool
  | .lst _ => true
  | _ => false
def fldOf (c f : Nat) : D → Option D
  | .ins b fs => if b = c then fs[f]? else none
  | _ => none
def slice (d : D) (lo hi : Option Int) : Option D := match d with
  | .lst xs => some (.lst (sliceL xs lo hi))
  | .tup xs => some (.tup (sliceL xs lo hi))
  | _ => none

def sliceN (d : D) (lo hi : Option Int) : Option D := match d with
  | .lst xs => some (.lst (sliceL xs lo hi))
  | _ => none
def addL (d e : D) : Option D := match d, e with
  | .lst a, .lst b => if a.length + b.length ≤ LIM then some (.lst (a ++ b)) else none
  | _, _ => none
def mulL (d e : D) : Option D := match d, e with
  | .lst a, .int b => if a.length * b.toNat ≤ LIM ∧ -(2 ^ 63) ≤ b ∧ b < 2 ^ 63 then some (.lst (List.replicate b.toNat a).flatten) else none
  | _, _ => none
def Row.take (r : Row) (many : Int) : Int × Row :=
  if r.c > 0 then (r.c % many, { r with c := r.c / many })
  else if r.i + 1 > r.ns.length then
    let m' := (r.m * 48271 + 11) % 2147483647
    ((m' / 7) % many, { r with i := r.i + 1, m := m' })
  else
    let cell := (idxI r.ns (r.i + 1 - 1)).getD 0
    let m' := (r.m * 48271 + cell + 11) % 2147483647
    (cell % many, { r with i := r.i + 1, m := m', c := if cell ≥ 10 ^ 18 then cell / many else r.c })

/-! ### the little language -/
inductive Tg where
  | nm (i : Nat)
  | tp (ts : List Tg)

mutual
def tgSlots : Tg → List Nat
  | .nm i => [i]
  | .tp ts => tgsSlots ts
def tgsSlots : List Tg → List Nat
  | [] => []
  | t :: ts => tgSlots t ++ tgsSlots ts
end
mutual
inductive IE where
  | var (i : Nat)
  | cst (d : D)
  | glb (i : Nat)
  | tup (es : List IE)
  | lst (es : List IE)
  | dnew (t : Bool)
  | call (f : Nat) (es : List IE)
  | callv (i : Nat) (es : List IE)
  | mk (c : Nat) (es : List IE)
  | meth (c m : Nat) (o : IE) (es : List IE)
  | fld (c : Nat) (o : IE) (f : Nat)
  | o1 (p : P1) (a : IE)
  | o2 (p : P2) (a b : IE)
  | index (a b : IE)
  | sl (a : IE) (lo hi : Option IE)
  | chain (p q : P2) (a b c : IE)
  | andE (a b : IE)
  | orE (a b : IE)
  | notE (a : IE)
  | ite (c a b : IE)
  | lc (own : List (Str × Nat)) (tg : Tg) (it : IT) (ts : List IE) (e : IE)
  | refused (e : IE)
  | borrow (is : List Nat) (e : IE)
inductive IT where
  | seq (e : IE)
  | rng (es : List IE)
  | enum (es : List IE)
  | zip (es : List IE)
end

inductive Sl where
  | no
  | sh (d : D)
  | ow (d : D)
  deriving Inhabited
abbrev Env := List Sl

@[reducible] def Sl.get : Sl → Option D
  | .sh d => some d
  | _ => none
def Sl.isOw : Sl → Bool
  | .ow _ => true
  | _ => false
def Sl.isOwL : Sl → Bool
  | .ow (.lst _) => true
  | _ => false
@[reducible] def Sl.frz : Sl → Sl
  | .ow d => .sh d
  | s => s
@[reducible] def frzE : List Nat → Env → Env
  | [], env => env
  | i :: is, env => frzE is (env.set i ((env.getD i .no).frz))
@[reducible] def killE : List Nat → Env → Env
  | [], env => env
  | i :: is, env => killE is (env.set i .no)
/-- what may be handed on though it was read while these were held: nothing of their kinds within -/
def D.clear (d : D) : Sl → Bool
  | .ow (.lst _) => d.noLst
  | .ow (.dic _ _) => d.noDic
  | .ow (.ins _ _) => d.noIns
  | .ow _ => false
  | _ => true

def clearAll (is : List Nat) (env : Env) (d : D) : Bool := is.all fun i => d.clear (env.getD i .no)
/-- .. of a new list: of what is within -/
def clearNew : Sl → D → Bool
  | .ow (.lst _), .lst ds => noLstAll ds
  | s, d => d.clear s
def clearB (nw : Bool) (is : List Nat) (env : Env) (d : D) : Bool := match nw with
  | false => clearAll is env d
  | true => is.all fun i => clearNew (env.getD i .no) d
def unborrow (nw : Bool) (is : List Nat) (env : Env) : R D → R D
  | .ok d r => if clearB nw is env d = true then .ok d r else .bad
  | .exn c d r => if clearAll is env d = true then .exn c d r else .bad
  | .bad => .bad
/-- an expression that makes a new list -/
def IE.isNew : IE → Bool
  | .lc _ _ _ _ _ => true
  | .lst _ => true
  | _ => false

mutual
def bindT : Tg → D → Env → Option Env
  | .nm i, d, env => if i < env.length then some (env.set i (.sh d)) else none
  | .tp ts, .tup ds, env => bindTs ts ds env
  | .tp _, _, _ => none
def bindTs : List Tg → List D → Env → Option Env
  | [], [], env => some env
  | t :: ts, d :: ds, env => (bindT t d env).bind fun e => bindTs ts ds e
  | _, _, _ => none
end

def zipD2 : List D → List D → List D
  | a :: as, b :: bs => .tup [a, b] :: zipD2 as bs
  | _, _ => []
def zipD3 : List D → List D → List D → List D
  | a :: as, b :: bs, c :: cs => .tup [a, b, c] :: zipD3 as bs cs
  | _, _, _ => []
def enumD : Int → List D → List D
  | _, [] => []
  | i, d :: ds => .tup [.int i, d] :: enumD (i + 1) ds
def rngD (lo hi st : Int) : Option (List D) :=
  if st = 1 then
    if -(2 ^ 62) ≤ lo ∧ lo < 2 ^ 62 ∧ -(2 ^ 62) ≤ hi ∧ hi < 2 ^ 62 ∧ (hi - lo).toNat ≤ LIM then some ((List.range (hi - lo).toNat).map fun (i : Nat) => D.int (lo + (i : Int))) else none
  else if st = -1 then
    if -(2 ^ 62) ≤ lo ∧ lo < 2 ^ 62 ∧ -(2 ^ 62) ≤ hi ∧ hi < 2 ^ 62 ∧ (lo - hi).toNat ≤ LIM then some ((List.range (lo - hi).toNat).map fun (i : Nat) => D.int (lo - (i : Int))) else none
  else none

def seqOf : D → Option (List D)
  | .lst xs => some xs
  | .tup xs => some xs
  | _ => none

def rgO : List D → Option (List D)
  | [.int hi] => rngD 0 hi 1
  | [.int lo, .int hi] => rngD lo hi 1
  | [.int lo, .int hi, .int st] => rngD lo hi st
  | _ => none
def enO : List D → Option (List D)
  | [d] => (seqOf d).map (enumD 0)
  | _ => none
def zpO : List D → Option (List D)
  | [a, b] => (seqOf a).bind fun xs => (seqOf b).map fun ys => zipD2 xs ys
  | [a, b, c] => (seqOf a).bind fun xs => (seqOf b).bind fun ys => (seqOf c).map fun zs => zipD3 xs ys zs
  | _ => none

/-- the turns of a comprehension -/
def lcLoop (bd : D → Option Env) (ts : Env → Row → R Bool) (e : Env → Row → R D) : List D → Row → R (List D)
  | [], r => .ok [] r
  | x :: xs, r => match bd x with
    | none => .bad
    | some env => (ts env r).bind fun b r1 => match b with
      | true => (e env r1).bind fun d r2 => (lcLoop bd ts e xs r2).bind fun ds r3 => .ok (d :: ds) r3
      | false => lcLoop bd ts e xs r1

/-- what is around: defs, classes' __init__ (by class), what an error is told as -/
structure Ctx where
  call : Nat → List D → Row → R D
  init : Nat → List D → Row → R D
  word : Nat → Option Str
  fuel : Nat
  has : Nat → Bool
  gl : Nat → D
  dv : Nat → Nat → List D
  idv : Nat → Nat → List D

noncomputable section
mutual
def ev (C : Ctx) : IE → Env → Row → R D
  | .var i, env, r => liftO (env.getD i .no).get r
  | .cst d, _, r => .ok d r
  | .glb i, _, r => .ok (C.gl i) r
  | .tup es, env, r => (evs C es env r).bind fun ds r1 => .ok (.tup ds) r1
  | .lst es, env, r => (evs C es env r).bind fun ds r1 => .ok (.lst ds) r1
  | .dnew t, _, r => .ok (.dic t []) r
  | .call f es, env, r => (evs C es env r).bind fun ds r1 => C.call f (ds ++ C.dv f es.length) r1
  | .callv i es, env, r => match (env.getD i .no).get with
    | some (.fn f) => if C.has f = true then (evs C es env r).bind fun ds r1 => C.call f ds r1 else .bad
    | _ => .bad
  | .mk c es, env, r => (evs C es env r).bind fun ds r1 => C.init c (ds ++ C.idv c es.length) r1
  | .meth c m o es, env, r => (ev C o env r).bind fun d r1 => if d.isCls c = true then (evs C es env r1).bind fun ds r2 => C.call m (d :: (ds ++ C.dv m (es.length + 1))) r2 else .bad
  | .fld c o f, env, r => (ev C o env r).bind fun d r1 => liftO (fldOf c f d) r1
  | .o1 p a, env, r => (ev C a env r).bind fun d r1 => liftO (p1 p d) r1
  | .o2 p a b, env, r => (ev C a env r).bind fun d r1 => (ev C b env r1).bind fun e r2 => liftO (p2 p d e) r2
  | .index a b, env, r => (ev C a env r).bind fun d r1 => if d.isLst = true then (ev C b env r1).bind fun e r2 => liftO (p2 .index d e) r2 else .bad
  | .sl a lo hi, env, r => (ev C a env r).bind fun d r1 => (evO C lo env r1).bind fun l r2 => (evO C hi env r2).bind fun h r3 => liftO (slice d l h) r3
  | .chain p q a b c, env, r => (ev C a env r).bind fun x r1 => (ev C b env r1).bind fun y r2 => match p2 p x y with
    | some (.bl true) => (ev C c env r2).bind fun z r3 => liftO (p2 q y z) r3
    | some (.bl false) => .ok (.bl false) r2
    | _ => .bad
  | .andE a b, env, r => (ev C a env r).bind fun d r1 => match d.truth with
    | some true => ev C b env r1
    | some false => .ok d r1
    | none => .bad
  | .orE a b, env, r => (ev C a env r).bind fun d r1 => match d.truth with
    | some true => .ok d r1
    | some false => ev C b env r1
    | none => .bad
  | .notE a, env, r => (ev C a env r).bind fun d r1 => match d.truth with
    | some t => .ok (.bl (!t)) r1
    | none => .bad
  | .ite c a b, env, r => (ev C c env r).bind fun d r1 => match d.truth with
    | some true => ev C a env r1
    | some false => ev C b env r1
    | none => .bad
  | .lc own tg it ts e, env, r => (evI C it env r).bind fun ds r1 =>
      (lcLoop (fun d => bindT tg d (killE (own.map (·.2)) env)) (fun env r => tsts C ts env r) (fun env r => match ev C e env r with
        | .exn _ _ _ => .bad
        | x => x) ds r1).bind fun xs r2 => .ok (.lst xs) r2
  | .refused e, env, r => match ev C e env r with
    | .ok _ r1 => .ok (.tup [.str (Str.ofString ""), .non]) r1
    | .exn c d r1 => match C.word c with
      | some w => .ok (.tup [.str w, d]) r1
      | none => .bad
    | .bad => .bad
  | .borrow is e, env, r => unborrow e.isNew is env (ev C e (frzE is env) r)
def evs (C : Ctx) : List IE → Env → Row → R (List D)
  | [], _, r => .ok [] r
  | e :: es, env, r => (ev C e env r).bind fun d r1 => (evs C es env r1).bind fun ds r2 => .ok (d :: ds) r2
def evO (C : Ctx) : Option IE → Env → Row → R (Option Int)
  | none, _, r => .ok none r
  | some e, env, r => (ev C e env r).bind fun d r1 => match d with
    | .int i => .ok (some i) r1
    | _ => .bad
def tsts (C : Ctx) : List IE → Env → Row → R Bool
  | [], _, r => .ok true r
  | t :: ts, env, r => match ev C t env r with
    | .ok d r1 => match d.truth with
      | some true => tsts C ts env r1
      | some false => .ok false r1
      | none => .bad
    | _ => .bad
def evI (C : Ctx) : IT → Env → Row → R (List D)
  | .seq e, env, r => (ev C e env r).bind fun d r1 => liftO (seqOf d) r1
  | .rng es, env, r => (evs C es env r).bind fun ds r1 => liftO (rgO ds) r1
  | .enum es, env, r => (evs C es env r).bind fun ds r1 => liftO (enO ds) r1
  | .zip es, env, r => (evs C es env r).bind fun ds r1 => liftO (zpO ds) r1
end
/-- an expression whose value is a new list or dict -/
def evN (C : Ctx) : IE → Env → Row → R D
  | .o2 .add a b, env, r => (ev C a env r).bind fun d r1 => (ev C b env r1).bind fun e r2 => liftO (addL d e) r2
  | .o2 .mul a b, env, r => (ev C a env r).bind fun d r1 => (ev C b env r1).bind fun e r2 => liftO (mulL d e) r2
  | .sl a lo hi, env, r => (ev C a env r).bind fun d r1 => (evO C lo env r1).bind fun l r2 => (evO C hi env r2).bind fun h r3 => liftO (sliceN d l h) r3
  | e, env, r => ev C e env r
def tst (C : Ctx) (e : IE) (env : Env) (r : Row) : R Bool := (ev C e env r).bind fun d r1 => liftO d.truth r1
end

/-! ### statements -/
inductive IS where
  | asg (tg : Tg) (e : IE)
  | asgO (i : Nat) (e : IE)
  | par (is : List Nat) (es : List IE)
  | aug (i : Nat) (p : P2) (e : IE)
  | setS (i : Nat) (k e : IE)
  | augS (i : Nat) (k : IE) (p : P2) (e : IE)
  | setF (c i f : Nat) (e : IE)
  | app (i : Nat) (e : IE)
  | ext (i : Nat) (e : IE)
  | ex (e : IE)
  | for_ (tg : Tg) (it : IT) (body : List IS) (kill : List Nat)
  | while_ (c : IE) (body : List IS) (kill : List Nat)
  | if_ (c : IE) (a b : List IS)
  | ret (e : IE)
  | retN
  | brk
  | cont
  | pass
  | raise (c : Nat) (e : IE)
  | freeze (is : List Nat)
  | kill (is : List Nat)

inductive RS where
  | next (env : Env) (r : Row)
  | ret (d : D) (r : Row)
  | brk (env : Env) (r : Row)
  | cont (env : Env) (r : Row)
  | exn (c : Nat) (d : D) (r : Row)
  | bad

@[reducible] def R.then {α : Type} : R α → (α → Row → RS) → RS
  | .ok a r, k => k a r
  | .exn c d r, _ => .exn c d r
  | .bad, _ => .bad
@[reducible] def RS.then : RS → (Env → Row → RS) → RS
  | .next env r, k => k env r
  | .ret d r, _ => .ret d r
  | .brk env r, _ => .brk env r
  | .cont env r, _ => .cont env r
  | .exn c d r, _ => .exn c d r
  | .bad, _ => .bad
def nextO : Option Env → Row → RS
  | some env, r => .next env r
  | none, _ => .bad
def setO (env : Env) (i : Nat) (d : D) : Option Env := match d with
  | .lst _ => if i < env.length then some (env.set i (.ow d)) else none
  | .dic _ _ => if i < env.length then some (env.set i (.ow d)) else none
  | _ => none
def putO (env : Env) (i : Nat) (k d : D) : Option Env := match env.getD i .no with
  | .ow (.dic t kvs) => if k.isKey t ∧ kvs.length < LIM then some (env.set i (.ow (.dic t (putK kvs k d)))) else none
  | .ow (.lst xs) => match k with
    | .int j => if 0 ≤ j ∧ j < xs.length then some (env.set i (.ow (.lst (xs.set j.toNat d)))) else if 0 ≤ j + xs.length ∧ j < 0 then some (env.set i (.ow (.lst (xs.set (j + xs.length).toNat d)))) else none
    | _ => none
  | _ => none
def seqL : D → Option (List D)
  | .lst xs => some xs
  | _ => none
def augI (p : P2) (x d : D) : Option D := match p, x, d with
  | .add, .int a, .int b => some (.int (a + b))
  | .sub, .int a, .int b => some (.int (a - b))
  | _, _, _ => none
def slD : Sl → Option D
  | .sh d => some d
  | .ow d => some d
  | .no => none
def appO (env : Env) (i : Nat) (ds : List D) : Option Env := match env.getD i .no with
  | .ow (.lst xs) => if xs.length + ds.length ≤ LIM then some (env.set i (.ow (.lst (xs ++ ds)))) else none
  | _ => none
def fldO (env : Env) (i f : Nat) (d : D) : Option Env := match env.getD i .no with
  | .ow (.ins c fs) => if fs.length = f then some (env.set i (.ow (.ins c (fs ++ [d])))) else none
  | _ => none
def parE : List Nat → List D → Env → Option Env
  | [], [], env => some env
  | i :: is, d :: ds, env => if i < env.length then parE is ds (env.set i (.sh d)) else none
  | _, _, _ => none

def forLoop (bd : D → Env → Option Env) (body : Env → Row → RS) (kl : Env → Env) : List D → Env → Row → RS
  | [], env, r => .next env r
  | x :: xs, env, r => match bd x env with
    | none => .bad
    | some e1 => match body e1 r with
      | .next e2 r2 => forLoop bd body kl xs (kl e2) r2
      | .cont e2 r2 => forLoop bd body kl xs (kl e2) r2
      | .brk e2 r2 => .next e2 r2
      | .ret d r2 => .ret d r2
      | .exn c d r2 => .exn c d r2
      | .bad => .bad
def whileLoop (t : Env → Row → R Bool) (body : Env → Row → RS) (kl : Env → Env) : Nat → Env → Row → RS
  | 0, _, _ => .bad
  | n + 1, env, r => match t env r with
    | .ok true r1 => match body env r1 with
      | .next e2 r2 => whileLoop t body kl n (kl e2) r2
      | .cont e2 r2 => whileLoop t body kl n (kl e2) r2
      | .brk e2 r2 => .next e2 r2
      | .ret d r2 => .ret d r2
      | .exn c d r2 => .exn c d r2
      | .bad => .bad
    | .ok false r1 => .next env r1
    | .exn c d r1 => .exn c d r1
    | .bad => .bad

noncomputable section
mutual
def exS (C : Ctx) : IS → Env → Row → RS
  | .asg tg e, env, r => (ev C e env r).then fun d r1 => nextO (bindT tg d env) r1
  | .asgO i e, env, r => (evN C e env r).then fun d r1 => nextO (setO env i d) r1
  | .par is es, env, r => (evs C es env r).then fun ds r1 => nextO (parE is ds env) r1
  | .aug i p e, env, r => (liftO (env.getD i .no).get r).then fun x r1 => (ev C e env r1).then fun d r2 => (liftO (augI p x d) r2).then fun z r3 => nextO (bindT (.nm i) z env) r3
  | .setS i k e, env, r => if (env.getD i .no).isOw = true then (ev C e env r).then fun d r1 => (ev C k env r1).then fun kd r2 => nextO (putO env i kd d) r2 else .bad
  | .augS i k p e, env, r => match env.getD i .no with
    | .ow (.dic t kvs) => (ev C k env r).then fun kd r1 => (liftO (if kd.isKey t then getK kvs kd else none) r1).then fun x r2 => (ev C e env r2).then fun d r3 => (liftO (augI p x d) r3).then fun z r4 => nextO (putO env i kd z) r4
    | _ => .bad
  | .setF c i f e, env, r => match env.getD i .no with
    | .ow (.ins b _) => if b = c then (ev C e env r).then fun d r1 => nextO (fldO env i f d) r1 else .bad
    | _ => .bad
  | .app i e, env, r => if (env.getD i .no).isOwL = true then (ev C e env r).then fun d r1 => nextO (appO env i [d]) r1 else .bad
  | .ext i e, env, r => if (env.getD i .no).isOwL = true then (ev C e env r).then fun d r1 => nextO ((seqL d).bind fun ds => appO env i ds) r1 else .bad
  | .ex e, env, r => (ev C e env r).then fun _ r1 => .next env r1
  | .for_ tg it body kl, env, r => (evI C it env r).then fun ds r1 => forLoop (bindT tg) (fun e r => exSs C body e r) (killE kl) ds env r1
  | .while_ c body kl, env, r => whileLoop (fun e r => tst C c e r) (fun e r => exSs C body e r) (killE kl) C.fuel env r
  | .if_ c a b, env, r => (tst C c env r).then fun t r1 => match t with
    | true => exSs C a env r1
    | false => exSs C b env r1
  | .ret e, env, r => (ev C e env r).then fun d r1 => .ret d r1
  | .retN, _, r => .ret .non r
  | .brk, env, r => .brk env r
  | .cont, env, r => .cont env r
  | .pass, env, r => .next env r
  | .raise c e, env, r => (ev C e env r).then fun d r1 => .exn c d r1
  | .freeze is, env, r => .next (frzE is env) r
  | .kill is, env, r => .next (killE is env) r
def exSs (C : Ctx) : List IS → Env → Row → RS
  | [], env, r => .next env r
  | s :: ss, env, r => (exS C s env r).then fun e1 r1 => exSs C ss e1 r1
end
end

/-- a def: its parameters' number, its names' number, its body -/
structure FD where
  np : Nat
  sz : Nat
  body : List IS
/-- the text: defs by number, each class's __init__, the words that errors are told by -/
structure Pg where
  fn : Nat → Option FD
  ini : Nat → Option Nat
  word : Nat → Option Str
  fuel : Nat
  has : Nat → Bool
  gl : Nat → D
  dv : Nat → Nat → List D
  idv : Nat → Nat → List D

/-- the number of the drawing def -/
def fTaken : Nat := 0
def takeD : List D → Row → R D
  | [.row, .int many], r => if r.live ∧ 0 < many ∧ many < 1073741824 then .ok (.int (r.take many).1) (r.take many).2 else .bad
  | _, _ => .bad
def env0 (fd : FD) (ds : List D) : Env := ds.map .sh ++ List.replicate (fd.sz - fd.np) .no
def ended : RS → R D
  | .next _ r => .ok .non r
  | .ret d r => .ok d r
  | .exn c d r => .exn c d r
  | _ => .bad
def made : RS → R D
  | .next env r => match env.getD 0 .no with
    | .ow d => .ok d r
    | _ => .bad
  | .exn c d r => .exn c d r
  | _ => .bad
noncomputable section
def ctx (P : Pg) (cl : Nat → List D → Row → R D) (ini : Nat → List D → Row → R D) : Ctx := ⟨cl, ini, P.word, P.fuel, P.has, P.gl, P.dv, P.idv⟩
/-- C(..): the body of its __init__ -/
def iniF (P : Pg) (rf : Nat → List D → Row → R D) (c : Nat) (as : List D) (r : Row) : R D := match P.ini c with
  | none => .bad
  | some g => match P.fn g with
    | some gd => if as.length + 1 = gd.np then made (exSs (ctx P rf fun _ _ _ => .bad) gd.body (.ow (.ins c []) :: (as.map .sh ++ List.replicate (gd.sz - gd.np) .no)) r) else .bad
    | none => .bad
/-- a call with at most n calls, one in another -/
def runF (P : Pg) : Nat → Nat → List D → Row → R D
  | 0, _, _, _ => .bad
  | n + 1, f, ds, r =>
    if f = fTaken then takeD ds r else
    match P.fn f with
    | none => .bad
    | some fd => if ds.length = fd.np then ended (exSs (ctx P (runF P n) (iniF P (runF P n))) fd.body (env0 fd ds) r) else .bad
end
end SW

/-! SwDen: how a value of the heap tells data; the relation between the heap and the evaluator's names. Own work. -/
namespace SW
open PySem PySem.Spec PyProof.Rows L2

structure Wd where
  K : PySem.W.Frag
  fnA : Nat → Addr
  clA : Nat → Addr
  nc : Nat
  fld : Nat → List Str
  exA : Nat → Addr
  T : List (Addr × Str)
  r : Option Addr
  scr : Addr
  B : Hp

mutual
def D.py : D → PyData
  | .bl b => .bool b
  | .int i => .int i
  | .str s => .str s
  | .tup xs => .tuple (pyAll xs)
  | .lst xs => .list (pyAll xs)
  | .dic _ _ => .dict []
  | _ => .none
def pyAll : List D → List PyData
  | [] => []
  | x :: xs => x.py :: pyAll xs
end

def keyD : D → Option Key
  | .int i => some (.inl i)
  | .str s => some (.inr s)
  | _ => none
def keysD : List D → Option (List Key)
  | [] => some []
  | d :: ds => match keyD d, keysD ds with
    | some k, some ks => some (k :: ks)
    | _, _ => none

mutual
inductive Den (W : Wd) (G : Hp) : D → V → Prop
  | non : Den W G .non .non
  | bl (b : Bool) : Den W G (.bl b) (.bl b)
  | int (i : Int) : Den W G (.int i) (.int i)
  | str (s : Str) : Den W G (.str s) (.str s)
  | tup {a : Addr} {xs : List D} {vs : List V} : G a = some (.tup vs) → DenAll W G xs vs → Den W G (.tup xs) (.ref a)
  | lst {a : Addr} {xs : List D} {vs : List V} : G a = some (.lst vs) → DenAll W G xs vs → Den W G (.lst xs) (.ref a)
  | dicT {a : Addr} {ds : List (D × D)} {kvs : List (List Key × V)} : Rd G a (.dT kvs) → DenT W G ds kvs → Den W G (.dic true ds) (.ref a)
  | dicK {a : Addr} {ds : List (D × D)} {kvs : List (Key × V)} : Rd G a (.dK kvs) → DenK W G ds kvs → Den W G (.dic false ds) (.ref a)
  | ins {a dx : Addr} {c : Nat} {ds : List D} {fs : List (Str × V)} : c < W.nc → G a = some (.ins (W.clA c) dx fs) → DenF W G (W.fld c) ds fs → Den W G (.ins c ds) (.ref a)
  | fn (f : Nat) : Den W G (.fn f) (.ref (W.fnA f))
  | row {a : Addr} : W.r = some a → Den W G .row (.ref a)
  | rep (d : D) : Den W G (.rep d) (.str d.py.shown)
inductive DenAll (W : Wd) (G : Hp) : List D → List V → Prop
  | nil : DenAll W G [] []
  | cons {d : D} {v : V} {ds : List D} {vs : List V} : Den W G d v → DenAll W G ds vs → DenAll W G (d :: ds) (v :: vs)
inductive DenT (W : Wd) (G : Hp) : List (D × D) → List (List Key × V) → Prop
  | nil : DenT W G [] []
  | cons {xs : List D} {ks : List Key} {d : D} {v : V} {ds : List (D × D)} {kvs : List (List Key × V)} : keysD xs = some ks → Den W G d v → DenT W G ds kvs → DenT W G ((.tup xs, d) :: ds) ((ks, v) :: kvs)
inductive DenK (W : Wd) (G : Hp) : List (D × D) → List (Key × V) → Prop
  | nil : DenK W G [] []
  | cons {x : D} {k : Key} {d : D} {v : V} {ds : List (D × D)} {kvs : List (Key × V)} : keyD x = some k → Den W G d v → DenK W G ds kvs → DenK W G ((x, d) :: ds) ((k, v) :: kvs)
inductive DenF (W : Wd) (G : Hp) : List Str → List D → List (Str × V) → Prop
  | nil {ns : List Str} : DenF W G ns [] []
  | cons {n : Str} {ns : List Str} {d : D} {v : V} {ds : List D} {fs : List (Str × V)} : Den W G d v → DenF W G ns ds fs → DenF W G (n :: ns) (d :: ds) ((n, v) :: fs)
end

def Sub (G H : Hp) : Prop := ∀ a o, G a = some o → H a = some o
theorem Sub.refl (G : Hp) : Sub G G := fun _ _ h => h
theorem Sub.trans {G H J : Hp} (a : Sub G H) (b : Sub H J) : Sub G J := fun x o h => b x o (a x o h)
theorem Sub.rd {G H : Hp} {a : Addr} {u : HO} (s : Sub G H) (h : Rd G a u) : Rd H a u := by
  rcases h with h | ⟨o, h⟩
  · exact .inl (s _ _ h)
  · exact .inr ⟨o, s _ _ h⟩
theorem Sub.sqL {K : PySem.W.Frag} {G H : Hp} {a : Addr} {xs : List V} (s : Sub G H) (h : SqL K G a xs) : SqL K H a xs := by
  rcases h with h | h
  · exact .inl (s.rd h)
  · exact .inr h
theorem Sub.sqT {K : PySem.W.Frag} {G H : Hp} {a : Addr} {xs : List V} (s : Sub G H) (h : SqT K G a xs) : SqT K H a xs := by
  rcases h with h | h
  · exact .inl (s.rd h)
  · exact .inr h

section
variable {W : Wd} {G G' : Hp}
mutual
theorem Den.mono (s : Sub G G') : ∀ {d : D} {v : V}, Den W G d v → Den W G' d v
  | _, _, .non => .non
  | _, _, .bl b => .bl b
  | _, _, .int i => .int i
  | _, _, .str x => .str x
  | _, _, .tup h a => .tup (s _ _ h) (DenAll.mono s a)
  | _, _, .lst h a => .lst (s _ _ h) (DenAll.mono s a)
  | _, _, .dicT h a => .dicT (s.rd h) (DenT.mono s a)
  | _, _, .dicK h a => .dicK (s.rd h) (DenK.mono s a)
  | _, _, .ins c h a => .ins c (s _ _ h) (DenF.mono s a)
  | _, _, .fn f => .fn f
  | _, _, .row h => .row h
  | _, _, .rep d => .rep d
theorem DenAll.mono (s : Sub G G') : ∀ {d : List D} {v : List V}, DenAll W G d v → DenAll W G' d v
  | _, _, .nil => .nil
  | _, _, .cons h a => .cons (Den.mono s h) (DenAll.mono s a)
theorem DenT.mono (s : Sub G G') : ∀ {d : List (D × D)} {v : List (List Key × V)}, DenT W G d v → DenT W G' d v
  | _, _, .nil => .nil
  | _, _, .cons e h a => .cons e (Den.mono s h) (DenT.mono s a)
theorem DenK.mono (s : Sub G G') : ∀ {d : List (D × D)} {v : List (Key × V)}, DenK W G d v → DenK W G' d v
  | _, _, .nil => .nil
  | _, _, .cons e h a => .cons e (Den.mono s h) (DenK.mono s a)
theorem DenF.mono (s : Sub G G') : ∀ {n : List Str} {d : List D} {v : List (Str × V)}, DenF W G n d v → DenF W G' n d v
  | _, _, _, .nil => .nil
  | _, _, _, .cons h a => .cons (Den.mono s h) (DenF.mono s a)
end

theorem DenAll.length : ∀ {ds : List D} {vs : List V}, DenAll W G ds vs → ds.length = vs.length
  | _, _, .nil => rfl
  | _, _, .cons _ a => by rw [List.length_cons, List.length_cons, DenAll.length a]
theorem DenAll.append : ∀ {ds es : List D} {vs us : List V}, DenAll W G ds vs → DenAll W G es us → DenAll W G (ds ++ es) (vs ++ us)
  | _, _, _, _, .nil, b => b
  | _, _, _, _, .cons h a, b => .cons h (DenAll.append a b)
theorem DenAll.get : ∀ {ds : List D} {vs : List V} {i : Nat} {d : D}, DenAll W G ds vs → ds[i]? = some d → ∃ v, vs[i]? = some v ∧ Den W G d v
  | _, _, _, _, .nil, e => by simp at e
  | _, _, 0, _, .cons h _, e => by
    simp at e
    subst e
    exact ⟨_, rfl, h⟩
  | _, _, i + 1, d, .cons _ a, e => by
    obtain ⟨v, h1, h2⟩ := DenAll.get (i := i) (d := d) a (by simpa using e)
    exact ⟨v, by simpa using h1, h2⟩
theorem DenAll.getV : ∀ {ds : List D} {vs : List V} {i : Nat} {v : V}, DenAll W G ds vs → vs[i]? = some v → ∃ d, ds[i]? = some d ∧ Den W G d v
  | _, _, _, _, .nil, e => by simp at e
  | _, _, 0, _, .cons h _, e => by
    simp at e
    subst e
    exact ⟨_, rfl, h⟩
  | _, _, i + 1, d, .cons _ a, e => by
    obtain ⟨v, h1, h2⟩ := DenAll.getV (i := i) (v := d) a (by simpa using e)
    exact ⟨v, by simpa using h1, h2⟩
theorem DenAll.drop : ∀ {ds : List D} {vs : List V} (n : Nat), DenAll W G ds vs → DenAll W G (ds.drop n) (vs.drop n)
  | _, _, 0, h => h
  | _, _, _ + 1, .nil => .nil
  | _, _, n + 1, .cons _ a => DenAll.drop n a
theorem DenAll.take : ∀ {ds : List D} {vs : List V} (n : Nat), DenAll W G ds vs → DenAll W G (ds.take n) (vs.take n)
  | _, _, 0, _ => .nil
  | _, _, _ + 1, .nil => .nil
  | _, _, n + 1, .cons h a => .cons h (DenAll.take n a)
theorem DenAll.set : ∀ {ds : List D} {vs : List V} {d : D} {v : V} (n : Nat), Den W G d v → DenAll W G ds vs → DenAll W G (ds.set n d) (vs.set n v)
  | _, _, _, _, _, _, .nil => .nil
  | _, _, _, _, 0, h, .cons _ a => .cons h a
  | _, _, _, _, n + 1, h, .cons k a => .cons k (DenAll.set n h a)
theorem DenAll.reverse : ∀ {ds : List D} {vs : List V}, DenAll W G ds vs → DenAll W G ds.reverse vs.reverse
  | _, _, .nil => .nil
  | _, _, .cons h a => by
    rw [List.reverse_cons, List.reverse_cons]
    exact (DenAll.reverse a).append (.cons h .nil)
theorem DenAll.inv_cons {ds : List D} {d : D} {vs : List V} (h : DenAll W G (d :: ds) vs) : ∃ v us, vs = v :: us ∧ Den W G d v ∧ DenAll W G ds us := by
  cases h with
  | cons a b => exact ⟨_, _, rfl, a, b⟩
end

section
variable {W : Wd} {G : Hp} {v : V}
theorem Den.itup {xs : List D} (h : Den W G (.tup xs) v) : ∃ a vs, v = .ref a ∧ G a = some (.tup vs) ∧ DenAll W G xs vs := by
  cases h with
  | tup a b => exact ⟨_, _, rfl, a, b⟩
theorem Den.ilst {xs : List D} (h : Den W G (.lst xs) v) : ∃ a vs, v = .ref a ∧ G a = some (.lst vs) ∧ DenAll W G xs vs := by
  cases h with
  | lst a b => exact ⟨_, _, rfl, a, b⟩
theorem Den.iint {i : Int} (h : Den W G (.int i) v) : v = .int i := by
  cases h
  rfl
theorem Den.ibl {i : Bool} (h : Den W G (.bl i) v) : v = .bl i := by
  cases h
  rfl
theorem Den.istr {i : Str} (h : Den W G (.str i) v) : v = .str i := by
  cases h
  rfl
theorem Den.inon (h : Den W G .non v) : v = .non := by
  cases h
  rfl
theorem Den.iins {c : Nat} {ds : List D} (h : Den W G (.ins c ds) v) : ∃ a dx fs, v = .ref a ∧ c < W.nc ∧ G a = some (.ins (W.clA c) dx fs) ∧ DenF W G (W.fld c) ds fs := by
  cases h with
  | ins c a b => exact ⟨_, _, _, rfl, c, a, b⟩
theorem Den.ifn {f : Nat} (h : Den W G (.fn f) v) : v = .ref (W.fnA f) := by
  cases h
  rfl
theorem Den.irow (h : Den W G .row v) : ∃ a, v = .ref a ∧ W.r = some a := by
  cases h with
  | row a => exact ⟨_, rfl, a⟩
theorem Den.idicT {ds : List (D × D)} (h : Den W G (.dic true ds) v) : ∃ a kvs, v = .ref a ∧ Rd G a (.dT kvs) ∧ DenT W G ds kvs := by
  cases h with
  | dicT a b => exact ⟨_, _, rfl, a, b⟩
theorem Den.idicK {ds : List (D × D)} (h : Den W G (.dic false ds) v) : ∃ a kvs, v = .ref a ∧ Rd G a (.dK kvs) ∧ DenK W G ds kvs := by
  cases h with
  | dicK a b => exact ⟨_, _, rfl, a, b⟩
end
/-- without the object at p -/
def del (G : Hp) (p : Addr) : Hp := fun a => if a = p then none else G a
theorem del_ne {G : Hp} {p a : Addr} (h : a ≠ p) : del G p a = G a := if_neg h
theorem del_same {G : Hp} {p : Addr} : del G p p = none := if_pos rfl
theorem del_sub (G : Hp) (p : Addr) : Sub (del G p) G := fun a o h => by
  unfold del at h
  split at h
  · cases h
  · exact h
theorem del_some {G : Hp} {p a : Addr} {o : HO} (h : G a = some o) (hp : ∀ u, G p = some u → u ≠ o) : del G p a = some o := by
  rw [del_ne]
  · exact h
  · intro e
    subst e
    exact hp o h rfl

/-! ### what may be handed on though an object is held -/
section
variable {W : Wd} {G : Hp} {p : Addr}
def isLst : HO → Prop
  | .lst _ => True
  | _ => False
def isDic : HO → Prop
  | .dT _ => True
  | .dK _ => True
  | _ => False
def isIns : HO → Prop
  | .ins _ _ _ => True
  | _ => False
theorem rd_del {u : HO} {a : Addr} (h : Rd G a u) (h1 : ∀ x, G p = some x → x ≠ u) (h2 : ∀ x, G p = some x → ∀ o, x ≠ .frz o u) : Rd (del G p) a u := by
  rcases h with h | ⟨o, h⟩
  · exact .inl (del_some h h1)
  · exact .inr ⟨o, del_some h fun x e => h2 x e o⟩
theorem sqT_del {xs : List V} {a : Addr} (h : SqT W.K G a xs) (hp : ∀ x, G p = some x → isLst x ∨ isDic x ∨ isIns x) : SqT W.K (del G p) a xs := by
  rcases h with h | h
  · refine .inl (rd_del h (fun x e z => ?_) fun x e o z => ?_)
    · subst z
      rcases hp _ e with q | q | q <;> exact q
    · subst z
      rcases hp _ e with q | q | q <;> exact q
  · exact .inr h
theorem sqL_del {xs : List V} {a : Addr} (h : SqL W.K G a xs) (hp : ∀ x, G p = some x → isDic x ∨ isIns x) : SqL W.K (del G p) a xs := by
  rcases h with h | h
  · refine .inl (rd_del h (fun x e z => ?_) fun x e o z => ?_)
    · subst z
      rcases hp _ e with q | q <;> exact q
    · subst z
      rcases hp _ e with q | q <;> exact q
  · exact .inr h

mutual
theorem Den.noLst (hp : ∀ x, G p = some x → isLst x) : ∀ {d : D} {v : V}, d.noLst = true → Den W G d v → Den W (del G p) d v
  | _, _, _, .non => .non
  | _, _, _, .bl b => .bl b
  | _, _, _, .int i => .int i
  | _, _, _, .str x => .str x
  | _, _, n, .tup h a => .tup (del_some h fun x e z => by subst z; exact hp _ e) (DenAll.noLst hp (by simpa [D.noLst] using n) a)
  | _, _, n, .lst _ _ => by simp [D.noLst] at n
  | _, _, n, .dicT h a => .dicT (rd_del h (fun x e z => by subst z; exact hp _ e) fun x e o z => by subst z; exact hp _ e) (DenT.noLst hp (by simpa [D.noLst] using n) a)
  | _, _, n, .dicK h a => .dicK (rd_del h (fun x e z => by subst z; exact hp _ e) fun x e o z => by subst z; exact hp _ e) (DenK.noLst hp (by simpa [D.noLst] using n) a)
  | _, _, n, .ins c h a => .ins c (del_some h fun x e z => by subst z; exact hp _ e) (DenF.noLst hp (by simpa [D.noLst] using n) a)
  | _, _, _, .fn f => .fn f
  | _, _, _, .row h => .row h
  | _, _, _, .rep d => .rep d
theorem DenAll.noLst (hp : ∀ x, G p = some x → isLst x) : ∀ {d : List D} {v : List V}, noLstAll d = true → DenAll W G d v → DenAll W (del G p) d v
  | _, _, _, .nil => .nil
  | _, _, n, .cons h a => by
    simp only [noLstAll, Bool.and_eq_true] at n
    exact .cons (Den.noLst hp n.1 h) (DenAll.noLst hp n.2 a)
theorem DenT.noLst (hp : ∀ x, G p = some x → isLst x) : ∀ {d : List (D × D)} {v : List (List Key × V)}, noLstKV d = true → DenT W G d v → DenT W (del G p) d v
  | _, _, _, .nil => .nil
  | _, _, n, .cons e h a => by
    simp only [noLstKV, Bool.and_eq_true] at n
    exact .cons e (Den.noLst hp n.1.2 h) (DenT.noLst hp n.2 a)
theorem DenK.noLst (hp : ∀ x, G p = some x → isLst x) : ∀ {d : List (D × D)} {v : List (Key × V)}, noLstKV d = true → DenK W G d v → DenK W (del G p) d v
  | _, _, _, .nil => .nil
  | _, _, n, .cons e h a => by
    simp only [noLstKV, Bool.and_eq_true] at n
    exact .cons e (Den.noLst hp n.1.2 h) (DenK.noLst hp n.2 a)
theorem DenF.noLst (hp : ∀ x, G p = some x → isLst x) : ∀ {ns : List Str} {d : List D} {v : List (Str × V)}, noLstAll d = true → DenF W G ns d v → DenF W (del G p) ns d v
  | _, _, _, _, .nil => .nil
  | _, _, _, n, .cons h a => by
    simp only [noLstAll, Bool.and_eq_true] at n
    exact .cons (Den.noLst hp n.1 h) (DenF.noLst hp n.2 a)
end
mutual
theorem Den.noDic (hp : ∀ x, G p = some x → isDic x) : ∀ {d : D} {v : V}, d.noDic = true → Den W G d v → Den W (del G p) d v
  | _, _, _, .non => .non
  | _, _, _, .bl b => .bl b
  | _, _, _, .int i => .int i
  | _, _, _, .str x => .str x
  | _, _, n, .tup h a => .tup (del_some h fun x e z => by subst z; exact hp _ e) (DenAll.noDic hp (by simpa [D.noDic] using n) a)
  | _, _, n, .lst h a => .lst (del_some h fun x e z => by subst z; exact hp _ e) (DenAll.noDic hp (by simpa [D.noDic] using n) a)
  | _, _, n, .dicT _ _ => by simp [D.noDic] at n
  | _, _, n, .dicK _ _ => by simp [D.noDic] at n
  | _, _, n, .ins c h a => .ins c (del_some h fun x e z => by subst z; exact hp _ e) (DenF.noDic hp (by simpa [D.noDic] using n) a)
  | _, _, _, .fn f => .fn f
  | _, _, _, .row h => .row h
  | _, _, _, .rep d => .rep d
theorem DenAll.noDic (hp : ∀ x, G p = some x → isDic x) : ∀ {d : List D} {v : List V}, noDicAll d = true → DenAll W G d v → DenAll W (del G p) d v
  | _, _, _, .nil => .nil
  | _, _, n, .cons h a => by
    simp only [noDicAll, Bool.and_eq_true] at n
    exact .cons (Den.noDic hp n.1 h) (DenAll.noDic hp n.2 a)
theorem DenF.noDic (hp : ∀ x, G p = some x → isDic x) : ∀ {ns : List Str} {d : List D} {v : List (Str × V)}, noDicAll d = true → DenF W G ns d v → DenF W (del G p) ns d v
  | _, _, _, _, .nil => .nil
  | _, _, _, n, .cons h a => by
    simp only [noDicAll, Bool.and_eq_true] at n
    exact .cons (Den.noDic hp n.1 h) (DenF.noDic hp n.2 a)
end
mutual
theorem Den.noIns (hp : ∀ x, G p = some x → isIns x) : ∀ {d : D} {v : V}, d.noIns = true → Den W G d v → Den W (del G p) d v
  | _, _, _, .non => .non
  | _, _, _, .bl b => .bl b
  | _, _, _, .int i => .int i
  | _, _, _, .str x => .str x
  | _, _, n, .tup h a => .tup (del_some h fun x e z => by subst z; exact hp _ e) (DenAll.noIns hp (by simpa [D.noIns] using n) a)
  | _, _, n, .lst h a => .lst (del_some h fun x e z => by subst z; exact hp _ e) (DenAll.noIns hp (by simpa [D.noIns] using n) a)
  | _, _, n, .dicT h a => .dicT (rd_del h (fun x e z => by subst z; exact hp _ e) fun x e o z => by subst z; exact hp _ e) (DenT.noIns hp (by simpa [D.noIns] using n) a)
  | _, _, n, .dicK h a => .dicK (rd_del h (fun x e z => by subst z; exact hp _ e) fun x e o z => by subst z; exact hp _ e) (DenK.noIns hp (by simpa [D.noIns] using n) a)
  | _, _, n, .ins _ _ _ => by simp [D.noIns] at n
  | _, _, _, .fn f => .fn f
  | _, _, _, .row h => .row h
  | _, _, _, .rep d => .rep d
theorem DenAll.noIns (hp : ∀ x, G p = some x → isIns x) : ∀ {d : List D} {v : List V}, noInsAll d = true → DenAll W G d v → DenAll W (del G p) d v
  | _, _, _, .nil => .nil
  | _, _, n, .cons h a => by
    simp only [noInsAll, Bool.and_eq_true] at n
    exact .cons (Den.noIns hp n.1 h) (DenAll.noIns hp n.2 a)
theorem DenT.noIns (hp : ∀ x, G p = some x → isIns x) : ∀ {d : List (D × D)} {v : List (List Key × V)}, noInsKV d = true → DenT W G d v → DenT W (del G p) d v
  | _, _, _, .nil => .nil
  | _, _, n, .cons e h a => by
    simp only [noInsKV, Bool.and_eq_true] at n
    exact .cons e (Den.noIns hp n.1.2 h) (DenT.noIns hp n.2 a)
theorem DenK.noIns (hp : ∀ x, G p = some x → isIns x) : ∀ {d : List (D × D)} {v : List (Key × V)}, noInsKV d = true → DenK W G d v → DenK W (del G p) d v
  | _, _, _, .nil => .nil
  | _, _, n, .cons e h a => by
    simp only [noInsKV, Bool.and_eq_true] at n
    exact .cons e (Den.noIns hp n.1.2 h) (DenK.noIns hp n.2 a)
end
end
end SW

/-! SwRel: the relation between what runs and the evaluator's names; what is wanted behind an expression, a statement. Own work. -/
namespace SW
open PySem PySem.Spec PyProof.Rows L2

/-- the frozen part G of the heap H grows to G', the heap to H'; nothing that was is changed, but the drawing row and the tables of code objects -/
def Fr (H : Hp) (a : Addr) : Prop := H a = none ∨ ∃ ps, H a = some (.tbl ps)
theorem Fr.ne {H : Hp} {a p : Addr} {o : HO} (f : Fr H p) (h : H a = some o) (n : ∀ ps, o ≠ .tbl ps) : a ≠ p := by
  rintro rfl
  rcases f with q | ⟨ps, q⟩
  · rw [q] at h
    cases h
  · rw [q] at h
    exact n ps (Option.some.inj h).symm
theorem Fr.not {H : Hp} {a : Addr} {o : HO} (f : Fr H a) (h : H a = some o) (n : isLst o ∨ isDic o ∨ isIns o) : False := Fr.ne f h (fun ps z => by
  subst z
  rcases n with y | y | y <;> exact y) rfl
theorem Fr.upd {H : Hp} {a p : Addr} {o : HO} (hp : Fr H p) (f : Fr (upd H p o) a) : Fr H a := by
  by_cases q : a = p
  · subst q
    exact hp
  · unfold Fr at f
    rw [upd_ne q] at f
    exact f
structure Ext (W : Wd) (G H G' H' : Hp) : Prop where
  keep : ∀ a o, H a = some o → (∀ ps, o ≠ .tbl ps) → W.r ≠ some a → H' a = some o
  there : ∀ a, Fr H' a → Fr H a
  sub : Sub G' H'
  mono : Sub G G'
  new : ∀ a, G' a ≠ none → G a ≠ none ∨ Fr H a
  tabs : LamX.Tabs W.T H → LamX.Tabs W.T H'
  ntb : (∀ a ps, G a ≠ some (.tbl ps)) → ∀ a ps, G' a ≠ some (.tbl ps)
theorem Ext.refl {W : Wd} {G H : Hp} (s : Sub G H) : Ext W G H G H := ⟨fun _ _ h _ _ => h, fun _ h => h, s, Sub.refl _, fun _ h => .inl h, fun h => h, fun h => h⟩
theorem Ext.trans {W : Wd} {G H G1 H1 G2 H2 : Hp} (a : Ext W G H G1 H1) (b : Ext W G1 H1 G2 H2) : Ext W G H G2 H2 where
  keep := fun x o h n r => b.keep x o (a.keep x o h n r) n r
  there := fun x h => a.there x (b.there x h)
  sub := b.sub
  mono := a.mono.trans b.mono
  new := fun x h => by
    rcases b.new x h with q | q
    · exact a.new x q
    · exact .inr (a.there x q)
  tabs := fun h => b.tabs (a.tabs h)
  ntb := fun h => b.ntb (a.ntb h)
theorem Ext.free {W : Wd} {G H G' H' : Hp} (e : Ext W G H G' H') {a : Addr} (h : Fr H' a) : Fr H a := e.there a h
theorem upd_some {H : Hp} {p a : Addr} {o u : HO} (hp : H p = none) (h : H a = some o) : upd H p u a = some o := by
  rw [upd_ne (ne_of_none h hp)]
  exact h
/-- a new object, frozen at once -/
theorem Ext.alloc {W : Wd} {G H : Hp} {p : Addr} {o : HO} (s : Sub G H) (hp : H p = none) (no : ∀ ps, o ≠ .tbl ps := by intro ps h; cases h) : Ext W G H (upd G p o) (upd H p o) where
  keep := fun a u h _ _ => upd_some hp h
  there := fun a h => Fr.upd (.inl hp) h
  sub := fun a u h => by
    by_cases e : a = p
    · subst e
      rw [upd_same] at h ⊢
      exact h
    · rw [upd_ne e] at h ⊢
      exact s a u h
  mono := fun a u h => by
    rw [upd_ne]
    · exact h
    · intro e
      subst e
      rw [s _ _ h] at hp
      cases hp
  new := fun a h => by
    by_cases e : a = p
    · subst e
      exact .inr (.inl hp)
    · rw [upd_ne e] at h
      exact .inl h
  tabs := fun h => h.ext fun b u q => upd_some hp q
  ntb := fun h a ps q => by
    by_cases e : a = p
    · subst e
      rw [upd_same] at q
      exact no ps (Option.some.inj q)
    · rw [upd_ne e] at q
      exact h a ps q
/-- a new object, not frozen -/
theorem Ext.scratch {W : Wd} {G H : Hp} {p : Addr} {o : HO} (s : Sub G H) (hp : H p = none) : Ext W G H G (upd H p o) where
  keep := fun a u h _ _ => upd_some hp h
  there := fun a h => Fr.upd (.inl hp) h
  sub := fun a u h => upd_some hp (s a u h)
  mono := Sub.refl _
  new := fun a h => .inl h
  tabs := fun h => h.ext fun b u q => upd_some hp q
  ntb := fun h => h
/-- what was made and owned is frozen -/
theorem Ext.freeze {W : Wd} {G H G' H' : Hp} {p : Addr} {o : HO} (e : Ext W G H G' H') (hp : Fr H p) (h' : H' p = some o) (hg : G' p = none) (no : ∀ ps, o ≠ .tbl ps) : Ext W G H (upd G' p o) H' where
  keep := e.keep
  there := e.there
  sub := fun a u h => by
    by_cases q : a = p
    · subst q
      rw [upd_same] at h
      rw [h']
      exact h
    · rw [upd_ne q] at h
      exact e.sub a u h
  mono := fun a u h => by
    have z := e.mono a u h
    rw [upd_ne]
    · exact z
    · intro q
      subst q
      rw [z] at hg
      cases hg
  new := fun a h => by
    by_cases q : a = p
    · subst q
      exact .inr hp
    · rw [upd_ne q] at h
      exact e.new a h
  tabs := e.tabs
  ntb := fun h a ps q => by
    by_cases z : a = p
    · subst z
      rw [upd_same] at q
      exact no ps (Option.some.inj q)
    · rw [upd_ne z] at q
      exact e.ntb h a ps q
theorem sub_upd {G : Hp} {p : Addr} {o : HO} (h : G p = none) : Sub G (upd G p o) := fun a u e => upd_some h e

/-- the drawing row's numbers are of a bounded size -/
structure RowWf (ρ : Row) : Prop where
  len : ρ.ns.length ≤ 100
  bits : ∀ z ∈ ρ.ns, Builtin.Int.intBits z ≤ 1048576
  i0 : 0 ≤ ρ.i
  m0 : 0 ≤ ρ.m ∧ ρ.m < 2147483647
  c0 : 0 ≤ ρ.c ∧ Builtin.Int.intBits ρ.c ≤ 1048576
def RowAt (W : Wd) (H : Hp) (ρ : Row) : Prop :=
  (ρ.live = true ↔ W.r.isSome = true) ∧ ∀ a, W.r = some a → RowWf ρ ∧ H a = some (.lst [.ref W.scr, .int ρ.i, .int ρ.m, .int ρ.c]) ∧ SqL W.K W.B W.scr (ρ.ns.map V.int)
theorem RowAt.ext {W : Wd} {H H' : Hp} {ρ : Row} (h : RowAt W H ρ) (k : ∀ a o, H a = some o → H' a = some o) : RowAt W H' ρ := ⟨h.1, fun a e => by
  obtain ⟨w, q1, q2⟩ := h.2 a e
  exact ⟨w, k _ _ q1, q2⟩⟩
theorem RowAt.here {W : Wd} {H : Hp} {ρ : Row} (h : RowAt W H ρ) {a : Addr} (e : W.r = some a) : H a ≠ none := by
  obtain ⟨_, q, _⟩ := h.2 a e
  rw [q]
  simp
theorem RowAt.poke {W : Wd} {H : Hp} {ρ : Row} (h : RowAt W H ρ) {p : Addr} {o : HO} (n : W.r ≠ some p) : RowAt W (upd H p o) ρ := ⟨h.1, fun a e => by
  obtain ⟨w, q1, q2⟩ := h.2 a e
  refine ⟨w, ?_, q2⟩
  rw [upd_ne]
  · exact q1
  · rintro rfl
    exact n e⟩
/-- .. and changed further: it was not there at the start -/
theorem Ext.poke {W : Wd} {G H G' H' : Hp} {p : Addr} {o : HO} (e : Ext W G H G' H') (hp : Fr H p) (hg : G' p = none) (nt : ∀ u, H' p = some u → isLst u ∨ isDic u ∨ isIns u) (no : isLst o ∨ isDic o ∨ isIns o) : Ext W G H G' (upd H' p o) where
  keep := fun a u h n r => by
    rw [upd_ne (hp.ne h n)]
    exact e.keep a u h n r
  there := fun a h => by
    by_cases q : a = p
    · subst q
      exact hp
    · unfold Fr at h
      rw [upd_ne q] at h
      exact e.there a h
  sub := fun a u h => by
    rw [upd_ne]
    · exact e.sub a u h
    · rintro rfl
      rw [hg] at h
      cases h
  mono := e.mono
  new := e.new
  tabs := fun h => by
    have t := e.tabs h
    intro x hx
    obtain ⟨ps, q, r, c⟩ := t x hx
    refine ⟨ps, ?_, r, fun pos cv hc => ?_⟩
    · rw [upd_ne]
      · exact q
      · intro z
        rw [z] at q
        rcases nt _ q with y | y | y <;> exact y
    · obtain ⟨cc, e1, e2⟩ := c pos cv hc
      refine ⟨cc, e1, ?_⟩
      rw [upd_ne]
      · exact e2
      · intro z
        rw [z] at e2
        rcases nt _ e2 with y | y | y <;> exact y
  ntb := e.ntb
theorem Ext.out {W : Wd} {G H G' H' : Hp} {p : Addr} {o : HO} (e : Ext W G H G' H') (hg : G p = none) (hp : H p = some o) (n : isLst o ∨ isDic o ∨ isIns o) : G' p = none := by
  cases q : G' p with
  | none => rfl
  | some o' =>
    rcases e.new p (by rw [q]; simp) with z | z
    · exact absurd hg z
    · exact (z.not hp n).elim

/-- what an owned name holds -/
def OwnAt (W : Wd) (G H : Hp) : D → Addr → Prop
  | .lst ds, p => ∃ vs, H p = some (.lst vs) ∧ DenAll W G ds vs
  | .dic true ds, p => ∃ kvs, H p = some (.dT kvs) ∧ DenT W G ds kvs
  | .dic false ds, p => ∃ kvs, H p = some (.dK kvs) ∧ DenK W G ds kvs
  | .ins c ds, p => c < W.nc ∧ ∃ dx fs, H p = some (.ins (W.clA c) dx fs) ∧ DenF W G (W.fld c) ds fs
  | _, _ => False
theorem OwnAt.mono {W : Wd} {G H G' H' : Hp} (s : Sub G G') {p : Addr} (k : ∀ o, H p = some o → (∀ ps, o ≠ .tbl ps) → H' p = some o) : ∀ {d : D}, OwnAt W G H d p → OwnAt W G' H' d p
  | .lst ds, ⟨vs, h, a⟩ => ⟨vs, k _ h (fun _ z => nomatch z), DenAll.mono s a⟩
  | .dic true ds, ⟨vs, h, a⟩ => ⟨vs, k _ h (fun _ z => nomatch z), DenT.mono s a⟩
  | .dic false ds, ⟨vs, h, a⟩ => ⟨vs, k _ h (fun _ z => nomatch z), DenK.mono s a⟩
  | .ins c ds, ⟨l, dx, fs, h, a⟩ => ⟨l, dx, fs, k _ h (fun _ z => nomatch z), DenF.mono s a⟩
  | .non, h => h.elim
  | .bl _, h => h.elim
  | .int _, h => h.elim
  | .str _, h => h.elim
  | .tup _, h => h.elim
  | .fn _, h => h.elim
  | .row, h => h.elim
  | .rep _, h => h.elim
/-- what stands there -/
theorem OwnAt.obj {W : Wd} {G H : Hp} {p : Addr} : ∀ {d : D}, OwnAt W G H d p → ∃ o, H p = some o ∧ (isLst o ∨ isDic o ∨ isIns o)
  | .lst ds, ⟨vs, h, a⟩ => ⟨_, h, .inl trivial⟩
  | .dic true ds, ⟨vs, h, a⟩ => ⟨_, h, .inr (.inl trivial)⟩
  | .dic false ds, ⟨vs, h, a⟩ => ⟨_, h, .inr (.inl trivial)⟩
  | .ins c ds, ⟨l, dx, fs, h, a⟩ => ⟨_, h, .inr (.inr trivial)⟩
  | .non, h => h.elim
  | .bl _, h => h.elim
  | .int _, h => h.elim
  | .str _, h => h.elim
  | .tup _, h => h.elim
  | .fn _, h => h.elim
  | .row, h => h.elim
  | .rep _, h => h.elim
theorem OwnAt.nt {W : Wd} {G H : Hp} {p : Addr} {d : D} {o : HO} (w : OwnAt W G H d p) (h : H p = some o) : ∀ ps, o ≠ .tbl ps := fun ps e => by
  obtain ⟨u, hu, n⟩ := w.obj
  rw [h] at hu
  cases hu
  subst e
  rcases n with y | y | y <;> exact y
/-- .. frozen, it tells the same -/
theorem OwnAt.den {W : Wd} {G H : Hp} {p : Addr} (hg : G p = none) : ∀ {d : D}, OwnAt W G H d p → ∃ o, H p = some o ∧ Den W (upd G p o) d (.ref p)
  | .lst ds, ⟨vs, h, a⟩ => ⟨_, h, .lst upd_same (DenAll.mono (sub_upd hg) a)⟩
  | .dic true ds, ⟨vs, h, a⟩ => ⟨_, h, .dicT (.inl upd_same) (DenT.mono (sub_upd hg) a)⟩
  | .dic false ds, ⟨vs, h, a⟩ => ⟨_, h, .dicK (.inl upd_same) (DenK.mono (sub_upd hg) a)⟩
  | .ins c ds, ⟨l, dx, fs, h, a⟩ => ⟨_, h, .ins l upd_same (DenF.mono (sub_upd hg) a)⟩
  | .non, h => h.elim
  | .bl _, h => h.elim
  | .int _, h => h.elim
  | .str _, h => h.elim
  | .tup _, h => h.elim
  | .fn _, h => h.elim
  | .row, h => h.elim
  | .rep _, h => h.elim

/-- a name: nothing is said; its value tells d; it alone holds d -/
inductive SlotOk (W : Wd) (H0 G H : Hp) : Sl → Option (Option V) → Prop
  | no {x : Option (Option V)} : SlotOk W H0 G H .no x
  | sh {d : D} {v : V} : Den W G d v → SlotOk W H0 G H (.sh d) (some (some v))
  | ow {d : D} {p : Addr} : OwnAt W G H d p → Fr H0 p → G p = none → W.r ≠ some p → SlotOk W H0 G H (.ow d) (some (some (.ref p)))

/-- the frozen part at the start; the first name's own object, in an __init__ -/
structure Bs where
  G : Hp
  s : Option Addr
  F : Hp
structure Rel (W : Wd) (H0 : Hp) (G0 : Bs) (G H : Hp) (σ : L2.St) (env : Env) (ρ : Row) : Prop where
  ext : Ext W G0.G H0 G H
  base : Sub W.B G
  floor : Sub G0.F G
  len : σ.length = env.length
  slot : ∀ i, SlotOk W H0 G H (env.getD i .no) σ[i]?
  apart : ∀ i j p d e, env.getD i .no = .ow d → env.getD j .no = .ow e → σ[i]? = some (some (.ref p)) → σ[j]? = some (some (.ref p)) → i = j
  row : RowAt W H ρ
  nrow : ∀ a, W.r = some a → G a = none
  tabs : LamX.Tabs W.T H
  gnt : ∀ a ps, G a ≠ some (.tbl ps)
  self : ∀ x, G0.s = some x → σ[0]? = some (some (.ref x))

section
variable {W : Wd} {H0 : Hp} {G0 : Bs} {G H G' H' : Hp} {σ : L2.St} {env : Env} {ρ ρ' : Row}
theorem SlotOk.ext {s : Sl} {x : Option (Option V)} (k : SlotOk W H0 G H s x) (e : Ext W G H G' H') : SlotOk W H0 G' H' s x := by
  cases k with
  | no => exact .no
  | sh d => exact .sh (Den.mono e.mono d)
  | ow o h0 g r =>
    obtain ⟨u, hu, n⟩ := o.obj
    exact .ow (o.mono e.mono fun o q n => e.keep _ o q n r) h0 (e.out g hu n) r
theorem Rel.extend (R : Rel W H0 G0 G H σ env ρ) (e : Ext W G H G' H') (hr : RowAt W H' ρ') : Rel W H0 G0 G' H' σ env ρ' where
  ext := R.ext.trans e
  base := R.base.trans e.mono
  floor := R.floor.trans e.mono
  len := R.len
  slot := fun i => (R.slot i).ext e
  apart := R.apart
  row := hr
  nrow := fun a h => by
    cases q : G' a with
    | none => rfl
    | some z =>
      rcases e.new a (by rw [q]; simp) with y | y
      · exact absurd (R.nrow a h) y
      · exact (y.not (R.row.2 a h).2.1 (.inl trivial)).elim
  tabs := e.tabs R.tabs
  gnt := e.ntb R.gnt
  self := R.self
theorem Rel.sub (R : Rel W H0 G0 G H σ env ρ) : Sub G H := R.ext.sub
theorem Rel.var (R : Rel W H0 G0 G H σ env ρ) {i : Nat} {d : D} (h : env.getD i .no = .sh d) : ∃ v, σ[i]? = some (some v) ∧ Den W G d v := by
  have q := R.slot i
  rw [h] at q
  generalize e : σ[i]? = x at q
  cases q with
  | sh a => exact ⟨_, rfl, a⟩
theorem Rel.own (R : Rel W H0 G0 G H σ env ρ) {i : Nat} {d : D} (h : env.getD i .no = .ow d) : ∃ p, σ[i]? = some (some (.ref p)) ∧ OwnAt W G H d p ∧ Fr H0 p ∧ G p = none ∧ W.r ≠ some p := by
  have q := R.slot i
  rw [h] at q
  generalize e : σ[i]? = x at q
  cases q with
  | ow a b c d => exact ⟨_, rfl, a, b, c, d⟩
end
/-- what is wanted behind an expression -/
def Out (W : Wd) (G H : Hp) (E : XK) (res : R D) (Q : VK) : Prop :=
  match res with
  | .ok d ρ => ∀ v G' H', Ext W G H G' H' → RowAt W H' ρ → Den W G' d v → Q v H'
  | .exn c d ρ => ∀ v G' H' x, Ext W G H G' H' → RowAt W H' ρ → Den W G' d v → Fr H x → H' x = some (.xd [("value", v)]) → E (.ref (W.exA c)) (some x) H'
  | .bad => False
def OutL (W : Wd) (G H : Hp) (E : XK) (res : R (List D)) (Q : List V → Hp → Prop) : Prop :=
  match res with
  | .ok ds ρ => ∀ vs G' H', Ext W G H G' H' → RowAt W H' ρ → DenAll W G' ds vs → Q vs H'
  | .exn c d ρ => ∀ v G' H' x, Ext W G H G' H' → RowAt W H' ρ → Den W G' d v → Fr H x → H' x = some (.xd [("value", v)]) → E (.ref (W.exA c)) (some x) H'
  | .bad => False
/-- a result of any kind: P tells what is handed on -/
def OutA {α : Type} (W : Wd) (G H : Hp) (E : XK) (res : R α) (P : α → Row → Hp → Hp → Prop) : Prop :=
  match res with
  | .ok a ρ => ∀ G' H', Ext W G H G' H' → RowAt W H' ρ → P a ρ G' H'
  | .exn c d ρ => ∀ v G' H' x, Ext W G H G' H' → RowAt W H' ρ → Den W G' d v → Fr H x → H' x = some (.xd [("value", v)]) → E (.ref (W.exA c)) (some x) H'
  | .bad => False
/-- of a new list: it is no one else's -/
def OutN (W : Wd) (G H : Hp) (E : XK) (res : R D) (Q : VK) : Prop :=
  match res with
  | .ok d ρ => ∀ p G' H', Ext W G H G' H' → RowAt W H' ρ → Fr H p → G' p = none → OwnAt W G' H' d p → Q (.ref p) H'
  | .exn c d ρ => ∀ v G' H' x, Ext W G H G' H' → RowAt W H' ρ → Den W G' d v → Fr H x → H' x = some (.xd [("value", v)]) → E (.ref (W.exA c)) (some x) H'
  | .bad => False
def OutS (W : Wd) (H0 : Hp) (G0 : Bs) (E : XK) (res : RS) (Dn : Ends) : Prop :=
  match res with
  | .next env ρ => ∀ G H σ, Rel W H0 G0 G H σ env ρ → Dn.nx σ H
  | .brk env ρ => ∀ G H σ, Rel W H0 G0 G H σ env ρ → Dn.bk σ H
  | .cont env ρ => ∀ G H σ, Rel W H0 G0 G H σ env ρ → Dn.ct σ H
  | .ret d ρ => ∀ v G H, Ext W G0.G H0 G H → RowAt W H ρ → Den W G d v → Dn.rt v H
  | .exn c d ρ => ∀ v G H x, Ext W G0.G H0 G H → RowAt W H ρ → Den W G d v → Fr H0 x → H x = some (.xd [("value", v)]) → E (.ref (W.exA c)) (some x) H
  | .bad => False

section
variable {W : Wd} {H0 : Hp} {G0 : Bs} {G H G1 H1 : Hp} {E : XK} {Q : VK} {ρ : Row}
theorem Out.trans {res : R D} (h : Out W G H E res Q) (e : Ext W G H G1 H1) : Out W G1 H1 E res Q := by
  cases res with
  | ok d ρ => exact fun v G' H' a b c => h v G' H' (e.trans a) b c
  | exn c d ρ => exact fun v G' H' x a b f hx g => h v G' H' x (e.trans a) b f (e.free hx) g
  | bad => exact h
theorem OutL.trans {res : R (List D)} {Q : List V → Hp → Prop} (h : OutL W G H E res Q) (e : Ext W G H G1 H1) : OutL W G1 H1 E res Q := by
  cases res with
  | ok d ρ => exact fun v G' H' a b c => h v G' H' (e.trans a) b c
  | exn c d ρ => exact fun v G' H' x a b f hx g => h v G' H' x (e.trans a) b f (e.free hx) g
  | bad => exact h
theorem OutN.trans {res : R D} (h : OutN W G H E res Q) (e : Ext W G H G1 H1) : OutN W G1 H1 E res Q := by
  cases res with
  | ok d ρ => exact fun v G' H' a b c => h v G' H' (e.trans a) b (e.free c)
  | exn c d ρ => exact fun v G' H' x a b f hx g => h v G' H' x (e.trans a) b f (e.free hx) g
  | bad => exact h
theorem OutA.trans {α : Type} {res : R α} {P : α → Row → Hp → Hp → Prop} (h : OutA W G H E res P) (e : Ext W G H G1 H1) : OutA W G1 H1 E res P := by
  cases res with
  | ok d ρ => exact fun G' H' a b => h G' H' (e.trans a) b
  | exn c d ρ => exact fun v G' H' x a b f hx g => h v G' H' x (e.trans a) b f (e.free hx) g
  | bad => exact h
/-- a new list, frozen, is a value -/
theorem Out.toN {res : R D} (h : Out W G H E res Q) : OutN W G H E res Q := by
  cases res with
  | ok d ρ =>
    intro p G' H' e r hp hg o
    obtain ⟨u, hu, dn⟩ := o.den hg
    exact h _ _ _ (e.freeze hp hu hg (o.nt hu)) r dn
  | exn c d ρ => exact h
  | bad => exact h
end

/-! ### readings -/
/-- an expression's reading by its evaluation f -/
def tF (W : Wd) (H0 : Hp) (G0 : Bs) (E : XK) (f : Env → Row → R D) : TE := fun σ H Q => ∃ G env ρ, Rel W H0 G0 G H σ env ρ ∧ Out W G H E (f env ρ) Q
def tN (W : Wd) (H0 : Hp) (G0 : Bs) (E : XK) (f : Env → Row → R D) : TE := fun σ H Q => ∃ G env ρ, Rel W H0 G0 G H σ env ρ ∧ OutN W G H E (f env ρ) Q
def tL (W : Wd) (H0 : Hp) (G0 : Bs) (E : XK) (f : Env → Row → R (List D)) : TA := fun σ H Q => ∃ G env ρ, Rel W H0 G0 G H σ env ρ ∧ OutL W G H E (f env ρ) Q
def tT (W : Wd) (H0 : Hp) (G0 : Bs) (E : XK) (f : Env → Row → R Bool) : TT := fun σ H Q => ∃ G env ρ, Rel W H0 G0 G H σ env ρ ∧ OutA W G H E (f env ρ) fun b _ _ H' => Q b H'
def tSt (W : Wd) (H0 : Hp) (G0 : Bs) (E : XK) (f : Env → Row → RS) : TS := fun Dn σ H => ∃ G env ρ, Rel W H0 G0 G H σ env ρ ∧ OutS W H0 G0 E (f env ρ) Dn

theorem PE.imp {X : Cx} {e : Expr} {t t' : TE} (h : PE X e t) (i : ∀ σ H Q, t' σ H Q → t σ H Q) : PE X e t' := ⟨fun pins s σ H Q I q => h.run pins s σ H Q I (i σ H Q q)⟩
theorem PT.imp {X : Cx} {e : Expr} {t t' : TT} (h : PT X e t) (i : ∀ σ H Q, t' σ H Q → t σ H Q) : PT X e t' := ⟨fun pins s σ H Q I q => h.run pins s σ H Q I (i σ H Q q)⟩
theorem PA.imp {X : Cx} {e : List Expr} {t t' : TA} (h : PA X e t) (i : ∀ σ H Q, t' σ H Q → t σ H Q) : PA X e t' := ⟨fun pos pins s σ H Q I q => h.run pos pins s σ H Q I (i σ H Q q)⟩
theorem PS.imp {X : Cx} {e : Stmt} {t t' : TS} (h : PS X e t) (i : ∀ Dn σ H, t' Dn σ H → t Dn σ H) : PS X e t' := ⟨fun pins s σ H Q I q => h.run pins s σ H Q I (i Q σ H q)⟩
theorem PSs.imp {X : Cx} {e : List Stmt} {t t' : TS} (h : PSs X e t) (i : ∀ Dn σ H, t' Dn σ H → t Dn σ H) : PSs X e t' := ⟨fun pins s σ H Q I q => h.run pins s σ H Q I (i Q σ H q)⟩

section
variable {W : Wd} {H0 : Hp} {G0 : Bs} {G H : Hp} {E : XK} {σ : L2.St} {env : Env} {ρ : Row} {f : Env → Row → R D} {Q : VK}
/-- the first part is evaluated, then the rest -/
theorem tF_bind {α : Type} {k : D → Row → R α} {P : α → Row → Hp → Hp → Prop} {Q' : VK} (R : Rel W H0 G0 G H σ env ρ) (h : OutA W G H E ((f env ρ).bind k) P)
    (hk : ∀ d ρ1 v G1 H1, Ext W G H G1 H1 → Den W G1 d v → Rel W H0 G0 G1 H1 σ env ρ1 → OutA W G1 H1 E (k d ρ1) P → Q' v H1) : tF W H0 G0 E f σ H Q' := by
  refine ⟨G, env, ρ, R, ?_⟩
  cases e : f env ρ with
  | ok d ρ1 =>
    rw [e] at h
    exact fun v G1 H1 x r dn => hk d ρ1 v G1 H1 x dn (R.extend x r) (OutA.trans h x)
  | exn c d ρ1 =>
    rw [e] at h
    exact h
  | bad =>
    rw [e] at h
    exact h
theorem out_A {res : R D} (h : Out W G H E res Q) : OutA W G H E res fun d _ G' H' => ∀ v, Den W G' d v → Q v H' := by
  cases res with
  | ok d ρ => exact fun G' H' a b v c => h v G' H' a b c
  | exn c d ρ => exact h
  | bad => exact h
theorem of_outA {res : R D} (h : OutA W G H E res fun d _ G' H' => ∀ v, Den W G' d v → Q v H') : Out W G H E res Q := by
  cases res with
  | ok d ρ => exact fun v G' H' a b c => h G' H' a b v c
  | exn c d ρ => exact h
  | bad => exact h
theorem outL_A {res : R (List D)} {Q : List V → Hp → Prop} (h : OutL W G H E res Q) : OutA W G H E res fun d _ G' H' => ∀ v, DenAll W G' d v → Q v H' := by
  cases res with
  | ok d ρ => exact fun G' H' a b v c => h v G' H' a b c
  | exn c d ρ => exact h
  | bad => exact h
theorem of_outLA {res : R (List D)} {Q : List V → Hp → Prop} (h : OutA W G H E res fun d _ G' H' => ∀ v, DenAll W G' d v → Q v H') : OutL W G H E res Q := by
  cases res with
  | ok d ρ => exact fun v G' H' a b c => h G' H' a b v c
  | exn c d ρ => exact h
  | bad => exact h
theorem outN_A {res : R D} (h : OutN W G H E res Q) : OutA W G H E res fun d _ G' H' => ∀ p, Fr H p → G' p = none → OwnAt W G' H' d p → Q (.ref p) H' := by
  cases res with
  | ok d ρ => exact fun G' H' a b p c d e => h p G' H' a b c d e
  | exn c d ρ => exact h
  | bad => exact h
/-- arguments, then the rest -/
theorem tL_bind {α : Type} {fs : Env → Row → R (List D)} {k : List D → Row → R α} {P : α → Row → Hp → Hp → Prop} {Q' : List V → Hp → Prop} (R : Rel W H0 G0 G H σ env ρ) (h : OutA W G H E ((fs env ρ).bind k) P)
    (hk : ∀ d ρ1 v G1 H1, Ext W G H G1 H1 → DenAll W G1 d v → Rel W H0 G0 G1 H1 σ env ρ1 → OutA W G1 H1 E (k d ρ1) P → Q' v H1) : tL W H0 G0 E fs σ H Q' := by
  refine ⟨G, env, ρ, R, ?_⟩
  cases e : fs env ρ with
  | ok d ρ1 =>
    rw [e] at h
    exact fun v G1 H1 x r dn => hk d ρ1 v G1 H1 x dn (R.extend x r) (OutA.trans h x)
  | exn c d ρ1 =>
    rw [e] at h
    exact h
  | bad =>
    rw [e] at h
    exact h
theorem tT_bind {α : Type} {g : Env → Row → R Bool} {k : Bool → Row → R α} {P : α → Row → Hp → Hp → Prop} {Q' : Bool → Hp → Prop} (R : Rel W H0 G0 G H σ env ρ) (h : OutA W G H E ((g env ρ).bind k) P)
    (hk : ∀ b ρ1 G1 H1, Ext W G H G1 H1 → Rel W H0 G0 G1 H1 σ env ρ1 → OutA W G1 H1 E (k b ρ1) P → Q' b H1) : tT W H0 G0 E g σ H Q' := by
  refine ⟨G, env, ρ, R, ?_⟩
  cases e : g env ρ with
  | ok d ρ1 =>
    rw [e] at h
    exact fun G1 H1 x r => hk d ρ1 G1 H1 x (R.extend x r) (OutA.trans h x)
  | exn c d ρ1 =>
    rw [e] at h
    exact h
  | bad =>
    rw [e] at h
    exact h
/-- the end of an evaluation: it is told -/
theorem OutA.end_ {α : Type} {a : α} {P : α → Row → Hp → Hp → Prop} (h : OutA W G H E (.ok a ρ) P) (R : Rel W H0 G0 G H σ env ρ) : P a ρ G H := h G H (Ext.refl R.sub) R.row
end
end SW

/-! SwPy: data D beside the library's PyData. Own work. -/
namespace SW
open PySem PySem.Spec PyProof.Rows L2

theorem pyAll_map : ∀ xs : List D, pyAll xs = xs.map D.py
  | [] => rfl
  | x :: xs => by rw [pyAll, pyAll_map xs, List.map_cons]

mutual
theorem plain_py : ∀ (n : Nat) (d : D), d.plainN n = true → d.py.plain = true
  | _, .non, _ => rfl
  | _, .bl _, _ => rfl
  | _, .int _, _ => rfl
  | _, .str _, _ => rfl
  | n + 1, .tup xs, h => by
    rw [D.py, PyData.plain]
    exact plainAll_py n xs (by simpa [D.plainN] using h)
  | n + 1, .lst xs, h => by
    rw [D.py, PyData.plain]
    exact plainAll_py n xs (by simpa [D.plainN] using h)
  | 0, .tup _, h => by simp [D.plainN] at h
  | 0, .lst _, h => by simp [D.plainN] at h
  | 0, .dic _ _, h => by simp [D.plainN] at h
  | _ + 1, .dic _ _, h => by simp [D.plainN] at h
  | 0, .ins _ _, h => by simp [D.plainN] at h
  | _ + 1, .ins _ _, h => by simp [D.plainN] at h
  | 0, .fn _, h => by simp [D.plainN] at h
  | _ + 1, .fn _, h => by simp [D.plainN] at h
  | 0, .row, h => by simp [D.plainN] at h
  | _ + 1, .row, h => by simp [D.plainN] at h
  | 0, .rep _, h => by simp [D.plainN] at h
  | _ + 1, .rep _, h => by simp [D.plainN] at h
theorem plainAll_py : ∀ (n : Nat) (xs : List D), (∀ x ∈ xs, x.plainN n = true) → PyData.plainAll (pyAll xs) = true
  | _, [], _ => rfl
  | n, x :: xs, h => by
    rw [pyAll, PyData.plainAll, Bool.and_eq_true]
    exact ⟨plain_py n x (h x (by simp)), plainAll_py n xs fun y hy => h y (by simp [hy])⟩
end
mutual
theorem depth_py : ∀ (n : Nat) (d : D), d.plainN n = true → d.py.depth ≤ n
  | _, .non, _ => Nat.zero_le _
  | _, .bl _, _ => Nat.zero_le _
  | _, .int _, _ => Nat.zero_le _
  | _, .str _, _ => Nat.zero_le _
  | n + 1, .tup xs, h => by
    have q := depthAll_py n xs (by simpa [D.plainN] using h)
    rw [D.py, PyData.depth]
    omega
  | n + 1, .lst xs, h => by
    have q := depthAll_py n xs (by simpa [D.plainN] using h)
    rw [D.py, PyData.depth]
    omega
  | 0, .tup _, h => by simp [D.plainN] at h
  | 0, .lst _, h => by simp [D.plainN] at h
  | 0, .dic _ _, h => by simp [D.plainN] at h
  | _ + 1, .dic _ _, h => by simp [D.plainN] at h
  | 0, .ins _ _, h => by simp [D.plainN] at h
  | _ + 1, .ins _ _, h => by simp [D.plainN] at h
  | 0, .fn _, h => by simp [D.plainN] at h
  | _ + 1, .fn _, h => by simp [D.plainN] at h
  | 0, .row, h => by simp [D.plainN] at h
  | _ + 1, .row, h => by simp [D.plainN] at h
  | 0, .rep _, h => by simp [D.plainN] at h
  | _ + 1, .rep _, h => by simp [D.plainN] at h
theorem depthAll_py : ∀ (n : Nat) (xs : List D), (∀ x ∈ xs, x.plainN n = true) → PyData.depthAll (pyAll xs) ≤ n
  | _, [], _ => Nat.zero_le _
  | n, x :: xs, h => by
    rw [pyAll, PyData.depthAll]
    exact Nat.max_le.mpr ⟨depth_py n x (h x (by simp)), depthAll_py n xs fun y hy => h y (by simp [hy])⟩
end
mutual
theorem eqv_py : ∀ (n m : Nat) (d e : D), d.plainN n = true → e.plainN m = true → PyData.eqv d.py e.py = d.eqv e
  | n + 1, m + 1, .tup xs, .tup ys, h, k => by
    have q := eqvAll_py n m xs ys (by simpa [D.plainN] using h) (by simpa [D.plainN] using k)
    simpa [D.py, PyData.eqv, D.eqv] using q
  | n + 1, m + 1, .lst xs, .lst ys, h, k => by
    have q := eqvAll_py n m xs ys (by simpa [D.plainN] using h) (by simpa [D.plainN] using k)
    simpa [D.py, PyData.eqv, D.eqv] using q
  | n, m, .non, e, h, k => by cases e <;> first | rfl | (cases m <;> simp [D.plainN] at k) | simp [D.py, PyData.eqv, D.eqv]
  | n, m, .bl a, e, h, k => by cases e <;> first | rfl | (cases m <;> simp [D.plainN] at k) | simp [D.py, PyData.eqv, D.eqv]
  | n, m, .int a, e, h, k => by cases e <;> first | rfl | (cases m <;> simp [D.plainN] at k) | simp [D.py, PyData.eqv, D.eqv]
  | n, m, .str a, e, h, k => by cases e <;> first | rfl | (cases m <;> simp [D.plainN] at k) | simp [D.py, PyData.eqv, D.eqv]
  | n + 1, m, .tup xs, .non, h, k => by simp [D.py, PyData.eqv, D.eqv]
  | n + 1, m, .tup xs, .bl _, h, k => by simp [D.py, PyData.eqv, D.eqv]
  | n + 1, m, .tup xs, .int _, h, k => by simp [D.py, PyData.eqv, D.eqv]
  | n + 1, m, .tup xs, .str _, h, k => by simp [D.py, PyData.eqv, D.eqv]
  | n + 1, m, .tup xs, .lst _, h, k => by simp [D.py, PyData.eqv, D.eqv]
  | n + 1, m, .lst xs, .non, h, k => by simp [D.py, PyData.eqv, D.eqv]
  | n + 1, m, .lst xs, .bl _, h, k => by simp [D.py, PyData.eqv, D.eqv]
  | n + 1, m, .lst xs, .int _, h, k => by simp [D.py, PyData.eqv, D.eqv]
  | n + 1, m, .lst xs, .str _, h, k => by simp [D.py, PyData.eqv, D.eqv]
  | n + 1, m, .lst xs, .tup _, h, k => by simp [D.py, PyData.eqv, D.eqv]
  | 0, _, .tup _, _, h, _ => by simp [D.plainN] at h
  | 0, _, .lst _, _, h, _ => by simp [D.plainN] at h
  | _, 0, _, .tup _, _, k => by simp [D.plainN] at k
  | _, 0, _, .lst _, _, k => by simp [D.plainN] at k
  | _, m, _, .dic _ _, _, k => by cases m <;> simp [D.plainN] at k
  | _, m, _, .ins _ _, _, k => by cases m <;> simp [D.plainN] at k
  | _, m, _, .fn _, _, k => by cases m <;> simp [D.plainN] at k
  | _, m, _, .row, _, k => by cases m <;> simp [D.plainN] at k
  | _, m, _, .rep _, _, k => by cases m <;> simp [D.plainN] at k
  | n, _, .dic _ _, _, h, _ => by cases n <;> simp [D.plainN] at h
  | n, _, .ins _ _, _, h, _ => by cases n <;> simp [D.plainN] at h
  | n, _, .fn _, _, h, _ => by cases n <;> simp [D.plainN] at h
  | n, _, .row, _, h, _ => by cases n <;> simp [D.plainN] at h
  | n, _, .rep _, _, h, _ => by cases n <;> simp [D.plainN] at h
theorem eqvAll_py : ∀ (n m : Nat) (xs ys : List D), (∀ x ∈ xs, x.plainN n = true) → (∀ y ∈ ys, y.plainN m = true) → PyData.eqvAll (pyAll xs) (pyAll ys) = eqvAll xs ys
  | _, _, [], [], _, _ => rfl
  | _, _, [], _ :: _, _, _ => rfl
  | _, _, _ :: _, [], _, _ => rfl
  | n, m, x :: xs, y :: ys, h, k => by
    rw [pyAll, pyAll, PyData.eqvAll, eqvAll, eqv_py n m x y (h x (by simp)) (k y (by simp)), eqvAll_py n m xs ys (fun z hz => h z (by simp [hz])) fun z hz => k z (by simp [hz])]
end
theorem alikeN_tup {n : Nat} {x y : D} {xs ys : List D} (h : D.alikeN (n + 1) (.tup (x :: xs)) (.tup (y :: ys)) = true) : x.alikeN n y = true ∧ D.alikeN (n + 1) (.tup xs) (.tup ys) = true := by
  simpa [D.alikeN] using h
mutual
theorem alike_py : ∀ (n : Nat) (d e : D), d.alikeN n e = true → PySem.W.alike d.py e.py = true
  | n + 1, .tup xs, .tup ys, h => by
    rw [D.py, D.py, PySem.W.alike]
    exact alikeAll_py n xs ys h
  | 0, .int _, .int _, _ => rfl
  | _ + 1, .int _, .int _, _ => rfl
  | 0, .str _, .str _, _ => rfl
  | _ + 1, .str _, .str _, _ => rfl
  | 0, .tup _, _, h => by simp [D.alikeN] at h
  | n, .int _, .non, h => by cases n <;> simp [D.alikeN] at h
  | n, .int _, .bl _, h => by cases n <;> simp [D.alikeN] at h
  | n, .int _, .str _, h => by cases n <;> simp [D.alikeN] at h
  | n, .int _, .tup _, h => by cases n <;> simp [D.alikeN] at h
  | n, .int _, .lst _, h => by cases n <;> simp [D.alikeN] at h
  | n, .int _, .dic _ _, h => by cases n <;> simp [D.alikeN] at h
  | n, .int _, .ins _ _, h => by cases n <;> simp [D.alikeN] at h
  | n, .int _, .fn _, h => by cases n <;> simp [D.alikeN] at h
  | n, .int _, .row, h => by cases n <;> simp [D.alikeN] at h
  | n, .int _, .rep _, h => by cases n <;> simp [D.alikeN] at h
  | n, .str _, .non, h => by cases n <;> simp [D.alikeN] at h
  | n, .str _, .bl _, h => by cases n <;> simp [D.alikeN] at h
  | n, .str _, .int _, h => by cases n <;> simp [D.alikeN] at h
  | n, .str _, .tup _, h => by cases n <;> simp [D.alikeN] at h
  | n, .str _, .lst _, h => by cases n <;> simp [D.alikeN] at h
  | n, .str _, .dic _ _, h => by cases n <;> simp [D.alikeN] at h
  | n, .str _, .ins _ _, h => by cases n <;> simp [D.alikeN] at h
  | n, .str _, .fn _, h => by cases n <;> simp [D.alikeN] at h
  | n, .str _, .row, h => by cases n <;> simp [D.alikeN] at h
  | n, .str _, .rep _, h => by cases n <;> simp [D.alikeN] at h
  | n + 1, .tup _, .non, h => by simp [D.alikeN] at h
  | n + 1, .tup _, .bl _, h => by simp [D.alikeN] at h
  | n + 1, .tup _, .int _, h => by simp [D.alikeN] at h
  | n + 1, .tup _, .str _, h => by simp [D.alikeN] at h
  | n + 1, .tup _, .lst _, h => by simp [D.alikeN] at h
  | n + 1, .tup _, .dic _ _, h => by simp [D.alikeN] at h
  | n + 1, .tup _, .ins _ _, h => by simp [D.alikeN] at h
  | n + 1, .tup _, .fn _, h => by simp [D.alikeN] at h
  | n + 1, .tup _, .row, h => by simp [D.alikeN] at h
  | n + 1, .tup _, .rep _, h => by simp [D.alikeN] at h
  | n, .non, _, h => by cases n <;> simp [D.alikeN] at h
  | n, .bl _, _, h => by cases n <;> simp [D.alikeN] at h
  | n, .lst _, _, h => by cases n <;> simp [D.alikeN] at h
  | n, .dic _ _, _, h => by cases n <;> simp [D.alikeN] at h
  | n, .ins _ _, _, h => by cases n <;> simp [D.alikeN] at h
  | n, .fn _, _, h => by cases n <;> simp [D.alikeN] at h
  | n, .row, _, h => by cases n <;> simp [D.alikeN] at h
  | n, .rep _, _, h => by cases n <;> simp [D.alikeN] at h
theorem alikeAll_py : ∀ (n : Nat) (xs ys : List D), D.alikeN (n + 1) (.tup xs) (.tup ys) = true → PySem.W.alikeAll (pyAll xs) (pyAll ys) = true
  | _, [], [], _ => rfl
  | _, [], _ :: _, _ => rfl
  | _, _ :: _, [], _ => rfl
  | n, x :: xs, y :: ys, h => by
    obtain ⟨h1, h2⟩ := alikeN_tup h
    rw [pyAll, pyAll, PySem.W.alikeAll, alike_py n x y h1, alikeAll_py n xs ys h2]
    rfl
end
theorem rowLt_nil_nil : PySem.W.rowLt [] [] = false := by decide
theorem plainN_tup {n : Nat} {x : D} {xs : List D} (h : D.plainN (n + 1) (.tup (x :: xs)) = true) : x.plainN n = true ∧ D.plainN (n + 1) (.tup xs) = true := by
  simpa [D.plainN] using h
mutual
theorem lt_py : ∀ (n k : Nat) (d e : D), d.alikeN n e = true → d.plainN k = true → e.plainN k = true → PySem.W.dataLt d.py e.py = d.lt e
  | n + 1, k + 1, .tup xs, .tup ys, h, p, q => by
    have z := ltAll_py n k xs ys h p q
    rw [D.py, D.py, D.lt, ← z]
    rfl
  | n, _, .int a, .int b, _, _, _ => by
    show PySem.W.dataLt (.int a) (.int b) = decide (a < b)
    have z := PySem.W.dataLe_int (fun i : Int => i)
    have z2 := congrFun (congrFun z b) a
    rw [PySem.W.dataLe_eq] at z2
    have z3 : (!PySem.W.dataLt (.int a) (.int b)) = decide (b ≤ a) := z2
    have z4 : PySem.W.dataLt (.int a) (.int b) = !decide (b ≤ a) := by rw [← z3, Bool.not_not]
    rw [z4]
    by_cases c : a < b
    · rw [decide_eq_true c, decide_eq_false (by omega)]
      rfl
    · rw [decide_eq_false c, decide_eq_true (by omega)]
      rfl
  | n, _, .str a, .str b, _, _, _ => by
    have z := PySem.W.dataLe_str (fun i : Str => i)
    have z2 := congrFun (congrFun z b) a
    rw [PySem.W.dataLe_eq] at z2
    have z3 : (!PySem.W.dataLt (.str a) (.str b)) = decide (b.cps.toList ≤ a.cps.toList) := z2
    have z4 : PySem.W.dataLt (.str a) (.str b) = !decide (b.cps.toList ≤ a.cps.toList) := by rw [← z3, Bool.not_not]
    show PySem.W.dataLt (.str a) (.str b) = decide (a.cps.toList < b.cps.toList)
    rw [z4]
    by_cases c : a.cps.toList < b.cps.toList
    · rw [decide_eq_true c, decide_eq_false (by exact fun h => h c)]
      rfl
    · rw [decide_eq_false c, decide_eq_true (by exact c)]
      rfl
  | 0, _, .tup _, _, h, _, _ => by simp [D.alikeN] at h
  | n + 1, 0, .tup _, .tup _, _, p, _ => by simp [D.plainN] at p
  | n, _, .int _, .non, h, _, _ => by cases n <;> simp [D.alikeN] at h
  | n, _, .int _, .bl _, h, _, _ => by cases n <;> simp [D.alikeN] at h
  | n, _, .int _, .str _, h, _, _ => by cases n <;> simp [D.alikeN] at h
  | n, _, .int _, .tup _, h, _, _ => by cases n <;> simp [D.alikeN] at h
  | n, _, .int _, .lst _, h, _, _ => by cases n <;> simp [D.alikeN] at h
  | n, _, .int _, .dic _ _, h, _, _ => by cases n <;> simp [D.alikeN] at h
  | n, _, .int _, .ins _ _, h, _, _ => by cases n <;> simp [D.alikeN] at h
  | n, _, .int _, .fn _, h, _, _ => by cases n <;> simp [D.alikeN] at h
  | n, _, .int _, .row, h, _, _ => by cases n <;> simp [D.alikeN] at h
  | n, _, .int _, .rep _, h, _, _ => by cases n <;> simp [D.alikeN] at h
  | n, _, .str _, .non, h, _, _ => by cases n <;> simp [D.alikeN] at h
  | n, _, .str _, .bl _, h, _, _ => by cases n <;> simp [D.alikeN] at h
  | n, _, .str _, .int _, h, _, _ => by cases n <;> simp [D.alikeN] at h
  | n, _, .str _, .tup _, h, _, _ => by cases n <;> simp [D.alikeN] at h
  | n, _, .str _, .lst _, h, _, _ => by cases n <;> simp [D.alikeN] at h
  | n, _, .str _, .dic _ _, h, _, _ => by cases n <;> simp [D.alikeN] at h
  | n, _, .str _, .ins _ _, h, _, _ => by cases n <;> simp [D.alikeN] at h
  | n, _, .str _, .fn _, h, _, _ => by cases n <;> simp [D.alikeN] at h
  | n, _, .str _, .row, h, _, _ => by cases n <;> simp [D.alikeN] at h
  | n, _, .str _, .rep _, h, _, _ => by cases n <;> simp [D.alikeN] at h
  | n + 1, _, .tup _, .non, h, _, _ => by simp [D.alikeN] at h
  | n + 1, _, .tup _, .bl _, h, _, _ => by simp [D.alikeN] at h
  | n + 1, _, .tup _, .int _, h, _, _ => by simp [D.alikeN] at h
  | n + 1, _, .tup _, .str _, h, _, _ => by simp [D.alikeN] at h
  | n + 1, _, .tup _, .lst _, h, _, _ => by simp [D.alikeN] at h
  | n + 1, _, .tup _, .dic _ _, h, _, _ => by simp [D.alikeN] at h
  | n + 1, _, .tup _, .ins _ _, h, _, _ => by simp [D.alikeN] at h
  | n + 1, _, .tup _, .fn _, h, _, _ => by simp [D.alikeN] at h
  | n + 1, _, .tup _, .row, h, _, _ => by simp [D.alikeN] at h
  | n + 1, _, .tup _, .rep _, h, _, _ => by simp [D.alikeN] at h
  | n, _, .non, _, h, _, _ => by cases n <;> simp [D.alikeN] at h
  | n, _, .bl _, _, h, _, _ => by cases n <;> simp [D.alikeN] at h
  | n, _, .lst _, _, h, _, _ => by cases n <;> simp [D.alikeN] at h
  | n, _, .dic _ _, _, h, _, _ => by cases n <;> simp [D.alikeN] at h
  | n, _, .ins _ _, _, h, _, _ => by cases n <;> simp [D.alikeN] at h
  | n, _, .fn _, _, h, _, _ => by cases n <;> simp [D.alikeN] at h
  | n, _, .row, _, h, _, _ => by cases n <;> simp [D.alikeN] at h
  | n, _, .rep _, _, h, _, _ => by cases n <;> simp [D.alikeN] at h
theorem ltAll_py : ∀ (n k : Nat) (xs ys : List D), D.alikeN (n + 1) (.tup xs) (.tup ys) = true → D.plainN (k + 1) (.tup xs) = true → D.plainN (k + 1) (.tup ys) = true → PySem.W.rowLt (pyAll xs) (pyAll ys) = ltAll xs ys
  | _, _, [], [], _, _, _ => by
    rw [pyAll, ltAll]
    decide
  | _, _, [], y :: ys, _, _, _ => by
    rw [pyAll, pyAll, ltAll]
    show PyProof.Rows.lexLt PyProof.Rows.itemOrd [.inl 0] (.inl 1 :: _) = true
    rw [PySem.W.lex_atom (by decide)]
    decide
  | _, _, x :: xs, [], _, _, _ => by
    rw [pyAll, pyAll, ltAll]
    show PyProof.Rows.lexLt PyProof.Rows.itemOrd (.inl 1 :: _) [.inl 0] = false
    rw [PySem.W.lex_atom (by decide)]
    decide
  | n, k, x :: xs, y :: ys, h, p, q => by
    obtain ⟨h1, h2⟩ := alikeN_tup h
    obtain ⟨p1, p2⟩ := plainN_tup p
    obtain ⟨q1, q2⟩ := plainN_tup q
    rw [pyAll, pyAll, ltAll]
    unfold PySem.W.rowLt
    rw [PySem.W.dataLt_cons (alike_py n x y h1), eqv_py k k x y p1 q1, lt_py n k x y h1 p1 q1]
    have z := ltAll_py n k xs ys h2 p2 q2
    unfold PySem.W.rowLt at z
    rw [z]
end
end SW

/-! SwOp: operations on values, by the data that they tell. Own work. -/
namespace SW
open PySem PySem.Spec PyProof.Rows L2

/-- what the written part says of the classes -/
structure Facts (W : Wd) : Prop where
  cls : ∀ c, c < W.nc → Cls W.K (W.clA c) ∧ PySem.W.findIn W.K (.ref (W.clA c)) "__class__" = some (some (.builtin "object.__class__")) ∧ PySem.W.specialIn W.K (.builtin "object.__class__") "__get__" = some (some (.builtin "getset_descriptor.__get__")) ∧
    PySem.W.takesIn W.K (.builtin "object.__class__") = some true ∧ PySem.W.mroIn W.K (W.clA c) (.type "object") = some true
  noat : ∀ c f, c < W.nc → f ∈ W.fld c → NoAttr W.K (W.clA c) f
  fnd : ∀ c, c < W.nc → (W.fld c).Nodup ∧ (W.fld c).length ≤ 100
  kit0 : ∀ c, c < W.nc → ∀ T ∈ ["NoneType", "bool", "int", "str", "list", "tuple", "dict"], PySem.W.kitOne W.K (.type T) (.ref (W.clA c)) = some false
  kitC : ∀ c d, c < W.nc → d < W.nc → PySem.W.kitOne W.K (.ref (W.clA c)) (.ref (W.clA d)) = some (c == d)
/-- what holds of every context of the text -/
structure Good (W : Wd) (X : Cx) (k : Nat) : Prop where
  fx : Facts W
  K : X.K = W.K
  calm : X.calm = true
  nd : X.N.Nodup
  room : Room k X.A

theorem plainN_all {n : Nat} {xs : List D} (h : (xs.all (D.plainN n)) = true) : ∀ x ∈ xs, x.plainN n = true := fun x hx => List.all_eq_true.mp h x hx
section
variable {W : Wd} {G H : Hp} {K : PySem.W.Frag}
mutual
theorem Den.dp (hK : K = W.K) (s : Sub G H) : ∀ (n : Nat) (d : D) (v : V), d.plainN n = true → Den W G d v → Dp K H v d.py := fun n d v p h => by
  cases h with
  | non => exact .non
  | bl b => exact .bl b
  | int b => exact .int b
  | str b => exact .str b
  | tup h a =>
    rename_i l xs vs
    cases n with
    | zero => simp [D.plainN] at p
    | succ n =>
      rw [D.py]
      refine .tup (xs := vs) ?_ (DenAll.dp hK s n xs _ (plainN_all (by simpa [D.plainN] using p)) a)
      exact SqT.of (s _ _ h)
  | lst h a =>
    rename_i l xs vs
    cases n with
    | zero => simp [D.plainN] at p
    | succ n =>
      rw [D.py]
      exact .lst (SqL.of (s _ _ h)) (DenAll.dp hK s n xs _ (plainN_all (by simpa [D.plainN] using p)) a)
  | dicT _ _ => cases n <;> simp [D.plainN] at p
  | dicK _ _ => cases n <;> simp [D.plainN] at p
  | ins _ _ _ => cases n <;> simp [D.plainN] at p
  | fn _ => cases n <;> simp [D.plainN] at p
  | row _ => cases n <;> simp [D.plainN] at p
  | rep _ => cases n <;> simp [D.plainN] at p
theorem DenAll.dp (hK : K = W.K) (s : Sub G H) : ∀ (n : Nat) (xs : List D) (vs : List V), (∀ x ∈ xs, x.plainN n = true) → DenAll W G xs vs → DpAll K H vs (pyAll xs) := fun n xs vs p h => by
  cases h with
  | nil => exact .nil
  | cons h a =>
    rename_i x v xs vs
    exact .cons (Den.dp hK s n x _ (p x (by simp)) h) (DenAll.dp hK s n xs _ (fun y hy => p y (by simp [hy])) a)
end
end
section
variable {W : Wd} {X : Cx} {k : Nat} {pins : List (Addr × Obj)} {σ : L2.St} {G H : Hp} {s : Shared}
theorem Good.reads (g : Good W X k) (I : Inv X pins σ H s) {n : Nat} {d : D} {v : V} {u : Value} (p : d.plainN n = true) (dn : Den W G d v) (sb : Sub G H) (r : RelV v u) : ∃ as, Reads s.heap u d.py as :=
  Dp.reads I _ _ _ (dn.dp g.K sb n d v p) r
theorem Good.readsAll (g : Good W X k) (I : Inv X pins σ H s) {n : Nat} {ds : List D} {vs : List V} {us : List Value} (p : ∀ x ∈ ds, x.plainN n = true) (dn : DenAll W G ds vs) (sb : Sub G H) (r : Vals vs us) : ∃ as, ReadsAll s.heap us (pyAll ds) as :=
  Dp.readsAll I _ _ _ (dn.dp g.K sb n ds vs p) r
theorem Good.units (g : Good W X k) : X.A.units + 64 < cLine := g.room.units
end

/-- everything that stood stands -/
def Kept (H H' : Hp) : Prop := ∀ a o, H a = some o → H' a = some o
theorem Kept.refl (H : Hp) : Kept H H := fun _ _ h => h
theorem kept_upd {H : Hp} {p : Addr} {o : HO} (hp : H p = none) : Kept H (upd H p o) := fun a u h => upd_some hp h

/-- what an operation on two values yields, by data -/
def rP2 (W : Wd) (g : D → D → Option D) : R2 := fun x y H Q => ∃ G d e z, Sub G H ∧ Den W G d x ∧ Den W G e y ∧ g d e = some z ∧ ∀ v G' H', Ext W G H G' H' → Kept H H' → Den W G' z v → Q v H'
def rP2N (W : Wd) (g : D → D → Option D) : R2 := fun x y H Q => ∃ G d e z, Sub G H ∧ Den W G d x ∧ Den W G e y ∧ g d e = some z ∧ ∀ p G' H', Ext W G H G' H' → Kept H H' → H p = none → G' p = none → OwnAt W G' H' z p → Q (.ref p) H'
def rP1 (W : Wd) (g : D → Option D) : List V → Hp → VK → Prop := fun xs H Q => ∃ x G d z, xs = [x] ∧ Sub G H ∧ Den W G d x ∧ g d = some z ∧ ∀ v G' H', Ext W G H G' H' → Kept H H' → Den W G' z v → Q v H'
def rP1N (W : Wd) (g : D → Option D) : List V → Hp → VK → Prop := fun xs H Q => ∃ x G d z, xs = [x] ∧ Sub G H ∧ Den W G d x ∧ g d = some z ∧ ∀ p G' H', Ext W G H G' H' → Kept H H' → H p = none → G' p = none → OwnAt W G' H' z p → Q (.ref p) H'

theorem OpR.imp {X : Cx} {f : Value → Value → Sem Value} {r r' : R2} (h : OpR X f r) (i : ∀ x y H Q, r' x y H Q → r x y H Q) : OpR X f r' := fun pins s σ H x y v u Q I rx ry q => h pins s σ H x y v u Q I rx ry (i x y H Q q)
theorem CallR.imp {X : Cx} {f : Value} {r r' : List V → Hp → VK → Prop} (h : CallR X f r) (i : ∀ x H Q, r' x H Q → r x H Q) : CallR X f r' := fun pins s σ H x v Q I rx q => h pins s σ H x v Q I rx (i x H Q q)

section
variable {W : Wd} {X : Cx} {k : Nat} {G H : Hp}
/-- a value that makes nothing new -/
theorem stay {W : Wd} {Q : VK} {G H : Hp} {z : D} {v : V} (sb : Sub G H) (kk : ∀ v G' H', Ext W G H G' H' → Kept H H' → Den W G' z v → Q v H') (d : Den W G z v) : Q v H := kk v G H (Ext.refl sb) (Kept.refl H) d

theorem ite_some {c : Prop} [Decidable c] {α : Type} {a b : α} (h : (if c then some a else none) = some b) : c ∧ a = b := by
  by_cases q : c
  · rw [if_pos q] at h
    exact ⟨q, Option.some.inj h⟩
  · rw [if_neg q] at h
    cases h

/-- two ints -/
theorem op_ints {f : Value → Value → Sem Value} {g : D → D → Option D} {C : Int → Int → Prop} {w : Int → Int → V} (h : OpR X f (rI C w)) (hg : ∀ d e z, g d e = some z → ∃ i j, d = .int i ∧ e = .int j ∧ C i j ∧ ∀ G, Den W G z (w i j)) : OpR X f (rP2 W g) :=
  OpR.imp h fun x y H Q ⟨G, d, e, z, sb, dx, dy, hz, kk⟩ => by
    obtain ⟨i, j, rfl, rfl, c, dn⟩ := hg d e z hz
    cases dx
    cases dy
    exact ⟨i, j, rfl, rfl, c, stay sb kk (dn G)⟩
theorem op_ints0 {f : Value → Value → Sem Value} {g : D → D → Option D} {w : Int → Int → V} (h : OpR X f (rI0 w)) (hg : ∀ d e z, g d e = some z → ∃ i j, d = .int i ∧ e = .int j ∧ ∀ G, Den W G z (w i j)) : OpR X f (rP2 W g) :=
  OpR.imp h fun x y H Q ⟨G, d, e, z, sb, dx, dy, hz, kk⟩ => by
    obtain ⟨i, j, rfl, rfl, dn⟩ := hg d e z hz
    cases dx
    cases dy
    exact ⟨i, j, rfl, rfl, stay sb kk (dn G)⟩

theorem o_sub : OpR X (binaryOp .Sub) (rP2 W (p2 .sub)) := op_ints0 op_sub fun d e z h => by
  cases d <;> cases e <;> simp [p2] at h
  subst h
  exact ⟨_, _, rfl, rfl, fun G => .int _⟩
theorem o_fdiv : OpR X (binaryOp .FloorDiv) (rP2 W (p2 .fdiv)) := op_ints op_fdivW fun d e z h => by
  cases d <;> cases e <;> simp only [p2] at h <;> try (cases h)
  rename_i i j
  obtain ⟨c, e⟩ := ite_some h
  subst e
  refine ⟨_, _, rfl, rfl, ⟨c.1, ?_⟩, fun G => .int _⟩
  have : j.natAbs < 2 ^ 30 := by omega
  exact Nat.lt_of_lt_of_le (PySem.Flt.log2_lt_of (by decide) this) (by decide)
theorem o_mod : OpR X (binaryOp .Mod) (rP2 W (p2 .mod)) := op_ints op_mod fun d e z h => by
  cases d <;> cases e <;> simp only [p2] at h <;> try (cases h)
  rename_i i j
  obtain ⟨c, e⟩ := ite_some h
  subst e
  exact ⟨_, _, rfl, rfl, c, fun G => .int _⟩
theorem o_pow : OpR X (binaryOp .Pow) (rP2 W (p2 .pow)) := op_ints op_pow fun d e z h => by
  cases d <;> cases e <;> simp only [p2] at h <;> try (cases h)
  obtain ⟨c, e⟩ := ite_some h
  subst e
  exact ⟨_, _, rfl, rfl, c, fun G => .int _⟩
open Classical in
theorem p2_eq {d e z : D} (h : p2 .eq d e = some z) : (∃ a, d = .rep a ∧ e = .rep a ∧ z = .bl true) ∨ (d.plain = true ∧ e.plain = true ∧ z = .bl (d.eqv e)) := by
  by_cases c : ∃ a b, d = .rep a ∧ e = .rep b
  · obtain ⟨a, b, rfl, rfl⟩ := c
    have h' : (if a = b then some (D.bl _) else none) = some z := h
    obtain ⟨q, r⟩ := ite_some h'
    subst q
    exact .inl ⟨a, rfl, rfl, r.symm⟩
  · right
    have q : (if d.plain && e.plain then some (D.bl (d.eqv e)) else none) = some z := by
      rw [← h]
      cases d <;> cases e <;> first | rfl | exact absurd ⟨_, _, rfl, rfl⟩ c
    obtain ⟨q, r⟩ := ite_some q
    simp only [Bool.and_eq_true] at q
    exact ⟨q.1, q.2, r.symm⟩
open Classical in
theorem p2_ne {d e z : D} (h : p2 .ne d e = some z) : (∃ a, d = .rep a ∧ e = .rep a ∧ z = .bl false) ∨ (d.plain = true ∧ e.plain = true ∧ z = .bl (!d.eqv e)) := by
  by_cases c : ∃ a b, d = .rep a ∧ e = .rep b
  · obtain ⟨a, b, rfl, rfl⟩ := c
    have h' : (if a = b then some (D.bl _) else none) = some z := h
    obtain ⟨q, r⟩ := ite_some h'
    subst q
    exact .inl ⟨a, rfl, rfl, r.symm⟩
  · right
    have q : (if d.plain && e.plain then some (D.bl (!d.eqv e)) else none) = some z := by
      rw [← h]
      cases d <;> cases e <;> first | rfl | exact absurd ⟨_, _, rfl, rfl⟩ c
    obtain ⟨q, r⟩ := ite_some q
    simp only [Bool.and_eq_true] at q
    exact ⟨q.1, q.2, r.symm⟩
theorem room_d (g : Good W X k) {d e : D} (h : d.plain = true) : X.A.units + min d.py.depth e.py.depth < cLine := by
  have q := depth_py 8 d h
  have r := g.units
  omega
theorem o_eq (g : Good W X k) : OpR X (compareOp .Eq) (rP2 W (p2 .eq)) := fun pins s σ H x y v u Q I rx ry ⟨G, d, e, z, sb, dx, dy, hz, kk⟩ => by
  rcases p2_eq hz with ⟨a, rfl, rfl, rfl⟩ | ⟨pd, pe, rfl⟩
  · cases dx
    cases dy
    exact op_eq pins s σ H _ _ v u Q I rx ry ⟨rfl, by rw [decide_eq_true rfl]; exact stay sb kk (.bl _)⟩
  · obtain ⟨as, r1⟩ := g.reads I pd dx sb rx
    obtain ⟨bs, r2⟩ := g.reads I pe dy sb ry
    refine SeqAt.eq_plain r1 r2 (plain_py 8 d pd) (plain_py 8 e pe) (room_d g pd) ⟨.bl _, H, I, rfl, ?_⟩
    rw [eqv_py 8 8 d e pd pe]
    exact stay sb kk (.bl _)
theorem o_ne (g : Good W X k) : OpR X (compareOp .NotEq) (rP2 W (p2 .ne)) := fun pins s σ H x y v u Q I rx ry ⟨G, d, e, z, sb, dx, dy, hz, kk⟩ => by
  rcases p2_ne hz with ⟨a, rfl, rfl, rfl⟩ | ⟨pd, pe, rfl⟩
  · cases dx
    cases dy
    exact op_ne pins s σ H _ _ v u Q I rx ry ⟨rfl, by rw [decide_eq_true rfl]; exact stay sb kk (.bl _)⟩
  · obtain ⟨as, r1⟩ := g.reads I pd dx sb rx
    obtain ⟨bs, r2⟩ := g.reads I pe dy sb ry
    refine SeqAt.ne_plain r1 r2 (plain_py 8 d pd) (plain_py 8 e pe) (room_d g pd) ⟨.bl _, H, I, rfl, ?_⟩
    rw [eqv_py 8 8 d e pd pe]
    exact stay sb kk (.bl _)
theorem alike_ne {n : Nat} {d e : D} (h : d.alikeN n e = true) : d.py ≠ .none := by
  cases d <;> cases n <;> simp [D.alikeN, D.py] at h ⊢
theorem alike_ne' {n : Nat} {d e : D} (h : d.alikeN n e = true) : e.py ≠ .none := by
  cases d <;> cases e <;> cases n <;> simp [D.alikeN, D.py] at h ⊢
theorem cmp_some {d e : D} {b : Bool} {z : D} (h : (if (d.alike e && d.plain && e.plain) = true then some (D.bl b) else none) = some z) : d.alike e = true ∧ d.plain = true ∧ e.plain = true ∧ z = .bl b := by
  obtain ⟨q, r⟩ := ite_some h
  simp only [Bool.and_eq_true] at q
  exact ⟨q.1.1, q.1.2, q.2, r.symm⟩
theorem o_lt (g : Good W X k) : OpR X (compareOp .Lt) (rP2 W (p2 .lt)) := fun pins s σ H x y v u Q I rx ry ⟨G, d, e, z, sb, dx, dy, hz, kk⟩ => by
  obtain ⟨al, pd, pe, rfl⟩ := cmp_some hz
  obtain ⟨as, r1⟩ := g.reads I pd dx sb rx
  obtain ⟨bs, r2⟩ := g.reads I pe dy sb ry
  refine PySem.W.lt_data r1 r2 (alike_py 8 d e al) (alike_ne al) (room_d g pd) ⟨.bl _, H, I, rfl, ?_⟩
  rw [lt_py 8 8 d e al pd pe]
  exact stay sb kk (.bl _)
theorem alikeN_comm : ∀ (n : Nat) (d e : D), d.alikeN n e = true → e.alikeN n d = true
  | 0, d, e, h => by cases d <;> cases e <;> simp [D.alikeN] at h ⊢
  | n + 1, d, e, h => by
    cases d <;> cases e <;> simp only [D.alikeN] at h ⊢ <;> try (cases h)
    rename_i xs ys
    rw [List.all_eq_true] at h ⊢
    intro p hp
    refine alikeN_comm n _ _ (h (p.2, p.1) ?_)
    have : ∀ (xs ys : List D) (p : D × D), p ∈ ys.zip xs → (p.2, p.1) ∈ xs.zip ys := by
      intro xs
      induction xs with
      | nil => intro ys p h; simp at h
      | cons x xs ih =>
        intro ys p h
        cases ys with
        | nil => simp at h
        | cons y ys =>
          simp only [List.zip_cons_cons, List.mem_cons] at h ⊢
          rcases h with h | h
          · subst h
            exact .inl rfl
          · exact .inr (ih ys p h)
    exact this xs ys p hp
theorem o_gt (g : Good W X k) : OpR X (compareOp .Gt) (rP2 W (p2 .gt)) := fun pins s σ H x y v u Q I rx ry ⟨G, d, e, z, sb, dx, dy, hz, kk⟩ => by
  obtain ⟨al, pd, pe, rfl⟩ := cmp_some hz
  obtain ⟨as, r1⟩ := g.reads I pd dx sb rx
  obtain ⟨bs, r2⟩ := g.reads I pe dy sb ry
  refine PySem.W.gt_data r1 r2 (alike_py 8 d e al) (alike_ne al) (room_d g pd) ⟨.bl _, H, I, rfl, ?_⟩
  rw [lt_py 8 8 e d (alikeN_comm 8 d e al) pe pd]
  exact stay sb kk (.bl _)
theorem o_le (g : Good W X k) : OpR X (compareOp .LtE) (rP2 W (p2 .le)) := fun pins s σ H x y v u Q I rx ry ⟨G, d, e, z, sb, dx, dy, hz, kk⟩ => by
  obtain ⟨al, pd, pe, rfl⟩ := cmp_some hz
  obtain ⟨as, r1⟩ := g.reads I pd dx sb rx
  obtain ⟨bs, r2⟩ := g.reads I pe dy sb ry
  refine PySem.W.le_data r1 r2 (alike_py 8 d e al) (alike_ne al) (room_d g pd) ⟨.bl _, H, I, rfl, ?_⟩
  rw [lt_py 8 8 e d (alikeN_comm 8 d e al) pe pd]
  exact stay sb kk (.bl _)
theorem o_ge (g : Good W X k) : OpR X (compareOp .GtE) (rP2 W (p2 .ge)) := fun pins s σ H x y v u Q I rx ry ⟨G, d, e, z, sb, dx, dy, hz, kk⟩ => by
  obtain ⟨al, pd, pe, rfl⟩ := cmp_some hz
  obtain ⟨as, r1⟩ := g.reads I pd dx sb rx
  obtain ⟨bs, r2⟩ := g.reads I pe dy sb ry
  refine PySem.W.ge_data r1 r2 (alike_py 8 d e al) (alike_ne al) (room_d g pd) ⟨.bl _, H, I, rfl, ?_⟩
  rw [lt_py 8 8 d e al pd pe]
  exact stay sb kk (.bl _)
end
end SW

/-! SwOp2: more operations on values. Own work. -/
namespace SW
open PySem PySem.Spec PyProof.Rows L2
section
variable {W : Wd} {X : Cx} {k : Nat} {G H : Hp}

theorem any_same {α : Type} {f g : α → Bool} : ∀ {l : List α}, (∀ x ∈ l, f x = g x) → l.any f = l.any g
  | [], _ => rfl
  | x :: l, h => by rw [List.any_cons, List.any_cons, h x (by simp), any_same fun y hy => h y (by simp [hy])]
theorem vals_of_den {xs : List D} {vs : List V} (h : DenAll W G xs vs) : xs.length = vs.length := h.length
theorem line_eq : LIM = sizeLine := by rw [sizeLine_eq]; rfl

/-- new tuples and lists -/
theorem new_tup {Q : VK} {ds : List D} {vs : List V} (sb : Sub G H) (a : DenAll W G ds vs) (kk : ∀ v G' H', Ext W G H G' H' → Kept H H' → Den W G' (.tup ds) v → Q v H') : ∀ p, H p = none → Q (.ref p) (upd H p (.tup vs)) := fun p hp =>
  kk _ (upd G p (.tup vs)) _ (Ext.alloc sb hp) (kept_upd hp) (.tup upd_same (a.mono (fun x o h => (Ext.alloc (W := W) sb hp).mono x o h)))
theorem new_lst {Q : VK} {ds : List D} {vs : List V} (sb : Sub G H) (a : DenAll W G ds vs) (kk : ∀ p G' H', Ext W G H G' H' → Kept H H' → H p = none → G' p = none → OwnAt W G' H' (.lst ds) p → Q (.ref p) H') : ∀ p, H p = none → Q (.ref p) (upd H p (.lst vs)) := fun p hp =>
  kk p G _ (Ext.scratch sb hp) (kept_upd hp) hp (by
    cases e : G p with
    | none => rfl
    | some o =>
      rw [sb p o e] at hp
      cases hp) ⟨vs, upd_same, a⟩
/-- a rule of a new list is one of a value -/
theorem rP2_of {f : Value → Value → Sem Value} {g : D → D → Option D} (h : OpR X f (rP2N W g)) : OpR X f (rP2 W g) :=
  OpR.imp h fun x y H Q ⟨G, d, e, z, sb, dx, dy, hz, kk⟩ => ⟨G, d, e, z, sb, dx, dy, hz, fun p G' H' ex kp hp hg o => by
    obtain ⟨u, hu, dn⟩ := o.den hg
    exact kk _ _ _ (ex.freeze (.inl hp) hu hg (o.nt hu)) kp dn⟩
theorem rP1_of {f : Value} {g : D → Option D} (h : CallR X f (rP1N W g)) : CallR X f (rP1 W g) :=
  CallR.imp h fun x H Q ⟨y, G, d, z, e, sb, dx, hz, kk⟩ => ⟨y, G, d, z, e, sb, dx, hz, fun p G' H' ex kp hp hg o => by
    obtain ⟨u, hu, dn⟩ := o.den hg
    exact kk _ _ _ (ex.freeze (.inl hp) hu hg (o.nt hu)) kp dn⟩
/-- two cases of data -/
theorem op_cases {f : Value → Value → Sem Value} {g : D → D → Option D} (h : ∀ d e, ∃ g' : D → D → Option D, OpR X f (rP2 W g') ∧ g d e = g' d e) : OpR X f (rP2 W g) := fun pins s σ H x y v u Q I rx ry ⟨G, d, e, z, sb, dx, dy, hz, kk⟩ => by
  obtain ⟨g', h', q⟩ := h d e
  exact h' pins s σ H x y v u Q I rx ry ⟨G, d, e, z, sb, dx, dy, by rw [← q]; exact hz, kk⟩
theorem o_none {f : Value → Value → Sem Value} : OpR X f (rP2 W fun _ _ => none) := fun pins s σ H x y v u Q I rx ry ⟨G, d, e, z, sb, dx, dy, hz, kk⟩ => by cases hz

/-! ### + -/
def addT (d e : D) : Option D := match d, e with
  | .tup a, .tup b => if a.length + b.length ≤ LIM then some (.tup (a ++ b)) else none
  | _, _ => none
def addI (d e : D) : Option D := match d, e with
  | .int a, .int b => some (.int (a + b))
  | _, _ => none
theorem o_addL : OpR X (binaryOp .Add) (rP2N W addL) := OpR.imp op_cat fun x y H Q ⟨G, d, e, z, sb, dx, dy, hz, kk⟩ => by
  cases d <;> cases e <;> simp only [addL] at hz <;> try (cases hz)
  obtain ⟨c, q⟩ := ite_some hz
  subst q
  cases dx with
  | lst h1 a1 =>
    cases dy with
    | lst h2 a2 =>
      refine ⟨_, _, _, _, rfl, rfl, sb _ _ h1, sb _ _ h2, ?_, new_lst sb (a1.append a2) kk⟩
      rw [← a1.length, ← a2.length, ← line_eq]
      exact c
theorem o_addT : OpR X (binaryOp .Add) (rP2 W addT) := fun pins s σ H x y v u Q I rx ry ⟨G, d, e, z, sb, dx, dy, hz, kk⟩ => by
  refine op_catA pins s σ H x y v u Q I rx ry ?_
  cases d <;> cases e <;> simp only [addT] at hz <;> try (cases hz)
  obtain ⟨c, q⟩ := ite_some hz
  subst q
  cases dx with
  | tup h1 a1 =>
    cases dy with
    | tup h2 a2 =>
      rename_i xs ys a vs b us
      refine ⟨_, _, _, _, rfl, rfl, SqT.of (sb _ _ h1), SqT.of (sb _ _ h2), ?_, fun e => ?_, fun _ e => ?_, fun _ _ => new_tup sb (a1.append a2) kk⟩
      · rw [← a1.length, ← a2.length, ← line_eq]
        exact c
      · subst e
        cases a1
        exact stay sb kk (.tup h2 a2)
      · subst e
        cases a2
        refine stay sb kk (.tup h1 ?_)
        rw [List.append_nil]
        exact a1
theorem o_addI : OpR X (binaryOp .Add) (rP2 W addI) := op_ints0 op_add fun d e z h => by
  cases d <;> cases e <;> simp [addI] at h
  subst h
  exact ⟨_, _, rfl, rfl, fun G => .int _⟩
theorem o_add : OpR X (binaryOp .Add) (rP2 W (p2 .add)) := op_cases fun d e => by
  by_cases c1 : (∃ a b, d = .lst a ∧ e = .lst b)
  · obtain ⟨a, b, rfl, rfl⟩ := c1
    exact ⟨addL, rP2_of o_addL, rfl⟩
  by_cases c2 : (∃ a b, d = .tup a ∧ e = .tup b)
  · obtain ⟨a, b, rfl, rfl⟩ := c2
    exact ⟨addT, o_addT, rfl⟩
  by_cases c3 : (∃ a b, d = .int a ∧ e = .int b)
  · obtain ⟨a, b, rfl, rfl⟩ := c3
    exact ⟨addI, o_addI, rfl⟩
  refine ⟨fun _ _ => none, o_none, ?_⟩
  cases d <;> cases e <;> first | rfl | exact absurd ⟨_, _, rfl, rfl⟩ c1 | exact absurd ⟨_, _, rfl, rfl⟩ c2 | exact absurd ⟨_, _, rfl, rfl⟩ c3

/-! ### * -/
def mulI (d e : D) : Option D := match d, e with
  | .int a, .int b => if (-(2 ^ 64) < a ∧ a < 2 ^ 64) ∨ (-(2 ^ 64) < b ∧ b < 2 ^ 64) then some (.int (a * b)) else none
  | _, _ => none
theorem DenAll.rep {xs : List D} {vs : List V} (h : DenAll W G xs vs) : ∀ n, DenAll W G (List.replicate n xs).flatten (List.replicate n vs).flatten
  | 0 => .nil
  | n + 1 => by
    rw [List.replicate_succ, List.replicate_succ, List.flatten_cons, List.flatten_cons]
    exact h.append (DenAll.rep h n)
theorem o_mulI : OpR X (binaryOp .Mult) (rP2 W mulI) := op_ints op_mul fun d e z h => by
  cases d <;> cases e <;> simp only [mulI] at h <;> try (cases h)
  obtain ⟨c, q⟩ := ite_some h
  subst q
  exact ⟨_, _, rfl, rfl, c, fun G => .int _⟩
theorem o_mulL : OpR X (binaryOp .Mult) (rP2N W mulL) := OpR.imp op_rep fun x y H Q ⟨G, d, e, z, sb, dx, dy, hz, kk⟩ => by
  cases d <;> cases e <;> simp only [mulL] at hz <;> try (cases hz)
  obtain ⟨⟨c1, c2, c3⟩, q⟩ := ite_some hz
  subst q
  cases dx with
  | lst h1 a1 =>
    cases dy
    refine ⟨_, _, _, rfl, rfl, sb _ _ h1, c2, c3, ?_, new_lst sb (a1.rep _) kk⟩
    rw [← a1.length, ← line_eq]
    exact c1

/-- t * 1 is t -/
theorem tup_one (l : Addr) (items : Array Value) (n : Nat) (dd : Option Addr) (sl : Array (Option Value)) (u : Tok) :
    Meets (Builtin.«tuple.__mul__» ⟨[.ref l, .int 1 u], []⟩) (fun _ R s => s.heap.get? l = some { cls := .type "tuple", dict := dd, data := .seq items n, slots := sl } ∧ R (.ok (.ret (.ref l))) s) :=
  .of_wp fun prog w A R s h => by
    obtain ⟨hp, g, d, tk, os⟩ := s
    obtain ⟨hl, h⟩ := h
    have f1 := AutoSeq1.idx_int
    have c1 : (items.isEmpty || (1 : Int) == 1) = true := by simp
    wp_walk using wpAny_loadPart' hl
    repeat (first
      | (refine wpAny_ite_false (decide_eq_false (by decide)) ?_; wp_walk using wpAny_loadPart' hl)
      | (refine wpAny_ite_true (decide_eq_true (by rw [c1])) ?_; wp_walk using wpAny_loadPart' hl))
    exact ⟨_, rfl, h⟩

open Classical in
noncomputable def mulT (d e : D) : Option D := match d, e with
  | .tup a, .int b => if a ≠ [] ∧ 1 ≤ b ∧ b ≤ 1000 ∧ a.length ≤ 1000 then some (.tup (List.replicate b.toNat a).flatten) else none
  | _, _ => none
theorem o_mulT : OpR X (binaryOp .Mult) (rP2 W mulT) := fun pins s σ H x y v u Q I rx ry ⟨G, d, e, z, sb, dx, dy, hz, kk⟩ => by
  cases d <;> cases e <;> simp only [mulT] at hz <;> try (cases hz)
  obtain ⟨⟨c1, c2, c3, c4⟩, q⟩ := ite_some hz
  subst q
  rename_i xs b
  obtain ⟨l, vs, rfl, h1, a1⟩ := dx.itup
  obtain rfl := dy.iint
  have nv : vs ≠ [] := fun e => c1 (List.eq_nil_of_length_eq_zero (by rw [a1.length, e] <;> rfl))
  by_cases one : b = 1
  · subst one
    cases rx
    obtain ⟨t, rfl⟩ := ry
    obtain ⟨its, r, ⟨⟨cls, dd, data, sl⟩, ho, hc, n, hd⟩, hs⟩ := I.tuple (SqT.of (sb _ _ h1))
    simp only at hc hd
    subst hc hd
    refine wpAny_binaryOp_repeat_ref (T := "tuple") (U := "int") (by decide) ⟨_, ho, rfl⟩ (fun s' => typeIs_int s' 1 t) noFill_tuple_mul F.fills_int_mul F.slot_int_rmul repeat_tuple F.slot_int_index.lookup ?_
    refine call_meets F.slot_int_rmul (typeIs_int s 1 t) F.entry_int_rmul (F.args_int_rmul_2 _ _) (int_rmul_tuple 1 t l its.toArray n dd sl) ⟨ho, rfl, ⟨_, ho, rfl⟩, ?_⟩
    refine call_meets F.slot_tuple_mul ⟨_, ho, rfl⟩ F.entry_tuple_mul (F.args_tuple_mul_2 _ _) (tup_one l its.toArray n dd sl t) ⟨ho, ?_⟩
    refine ⟨.ref l, H, I, rfl, stay sb kk (.tup h1 ?_)⟩
    have e1 : (List.replicate (1 : Int).toNat xs).flatten = xs := by simp
    rw [e1]
    exact a1
  · exact op_repT pins s σ H _ _ v u Q I rx ry ⟨l, b, vs, rfl, rfl, SqT.of (sb _ _ h1), nv, by omega, c3, by rw [← a1.length]; exact c4, new_tup sb (a1.rep _) kk⟩
theorem o_mul : OpR X (binaryOp .Mult) (rP2 W (p2 .mul)) := op_cases fun d e => by
  by_cases c1 : (∃ a b, d = .lst a ∧ e = .int b)
  · obtain ⟨a, b, rfl, rfl⟩ := c1
    exact ⟨mulL, rP2_of o_mulL, rfl⟩
  by_cases c2 : (∃ a b, d = .tup a ∧ e = .int b)
  · obtain ⟨a, b, rfl, rfl⟩ := c2
    exact ⟨mulT, o_mulT, rfl⟩
  by_cases c3 : (∃ a b, d = .int a ∧ e = .int b)
  · obtain ⟨a, b, rfl, rfl⟩ := c3
    exact ⟨mulI, o_mulI, rfl⟩
  refine ⟨fun _ _ => none, o_none, ?_⟩
  cases d <;> cases e <;> first | rfl | exact absurd ⟨_, _, rfl, rfl⟩ c1 | exact absurd ⟨_, _, rfl, rfl⟩ c2 | exact absurd ⟨_, _, rfl, rfl⟩ c3

/-! ### in -/
theorem key_of {d : D} {v : V} {kk : Key} (h : keyD d = some kk) (dn : Den W G d v) : v = kV kk := by
  cases dn <;> simp only [keyD] at h <;> cases h <;> rfl
theorem keys_of : ∀ {ds : List D} {vs : List V} {ks : List Key}, keysD ds = some ks → DenAll W G ds vs → vs = ks.map kV
  | [], _, _, h, a => by
    cases a
    simp only [keysD] at h
    cases h
    rfl
  | d :: ds, _, ks, h, a => by
    cases a with
    | cons x a =>
      simp only [keysD] at h
      split at h
      · rename_i k1 ks1 e1 e2
        cases h
        rw [key_of e1 x, keys_of e2 a, List.map_cons]
      · cases h
mutual
theorem eqv_refl : ∀ (n : Nat) (d : D), d.plainN n = true → d.eqv d = true
  | _, .non, _ => rfl
  | _, .bl b, _ => by simp [D.eqv]
  | _, .int i, _ => by simp [D.eqv]
  | _, .str x, _ => by simp [D.eqv]
  | n + 1, .tup xs, h => by
    rw [D.eqv]
    exact eqvAll_refl n xs (plainN_all (by simpa [D.plainN] using h))
  | n + 1, .lst xs, h => by
    rw [D.eqv]
    exact eqvAll_refl n xs (plainN_all (by simpa [D.plainN] using h))
  | 0, .tup _, h => by simp [D.plainN] at h
  | 0, .lst _, h => by simp [D.plainN] at h
  | n, .dic _ _, h => by cases n <;> simp [D.plainN] at h
  | n, .ins _ _, h => by cases n <;> simp [D.plainN] at h
  | n, .fn _, h => by cases n <;> simp [D.plainN] at h
  | n, .row, h => by cases n <;> simp [D.plainN] at h
  | n, .rep _, h => by cases n <;> simp [D.plainN] at h
theorem eqvAll_refl : ∀ (n : Nat) (xs : List D), (∀ x ∈ xs, x.plainN n = true) → eqvAll xs xs = true
  | _, [], _ => rfl
  | n, x :: xs, h => by
    rw [eqvAll, eqv_refl n x (h x (by simp)), eqvAll_refl n xs fun y hy => h y (by simp [hy])]
    rfl
end
theorem keyD_eqv {a b : D} {x y : Key} (ha : keyD a = some x) (hb : keyD b = some y) : a.eqv b = decide (x = y) := by
  cases a <;> simp only [keyD] at ha <;> cases ha <;> cases b <;> simp only [keyD] at hb <;> cases hb
  · rw [key_ll]
    rfl
  · rw [key_lr]
    rfl
  · rw [key_rl]
    rfl
  · rw [key_rr]
    simp only [D.eqv]
    rw [Bool.eq_iff_iff]
    simp
theorem keysD_eqv : ∀ {a b : List D} {x y : List Key}, keysD a = some x → keysD b = some y → eqvAll a b = decide (x = y)
  | [], [], _, _, ha, hb => by
    simp only [keysD] at ha hb
    cases ha
    cases hb
    rfl
  | [], b :: bs, _, _, ha, hb => by
    simp only [keysD] at ha hb
    cases ha
    split at hb
    · cases hb
      rfl
    · cases hb
  | a :: as, [], _, _, ha, hb => by
    simp only [keysD] at ha hb
    cases hb
    split at ha
    · cases ha
      rfl
    · cases ha
  | a :: as, b :: bs, _, _, ha, hb => by
    simp only [keysD] at ha hb
    split at ha
    · rename_i e1 e2
      cases ha
      split at hb
      · rename_i f1 f2
        cases hb
        rw [eqvAll, keyD_eqv e1 f1, keysD_eqv e2 f2]
        rename_i k1 k2 k3 k4
        rw [Bool.eq_iff_iff]
        simp
      · cases hb
    · cases ha

theorem atom_key : ∀ {d : D}, d.isAtom = true → ∃ kk, keyD d = some kk
  | .int i, _ => ⟨_, rfl⟩
  | .str i, _ => ⟨_, rfl⟩
  | .non, h => by cases h
  | .bl _, h => by cases h
  | .tup _, h => by cases h
  | .lst _, h => by cases h
  | .dic _ _, h => by cases h
  | .ins _ _, h => by cases h
  | .fn _, h => by cases h
  | .row, h => by cases h
  | .rep _, h => by cases h
theorem atoms_key : ∀ {ds : List D}, ds.all D.isAtom = true → ∃ ks, keysD ds = some ks
  | [], _ => ⟨_, rfl⟩
  | d :: ds, h => by
    rw [List.all_cons, Bool.and_eq_true] at h
    obtain ⟨a, ea⟩ := atom_key h.1
    obtain ⟨b, eb⟩ := atoms_key h.2
    exact ⟨a :: b, by rw [keysD, ea, eb]⟩
theorem getT : ∀ {ds : List (D × D)} {kvs : List (List Key × V)} {xs : List D} {ks : List Key}, DenT W G ds kvs → keysD xs = some ks →
    (getK ds (.tup xs)).isSome = (valV kvs ks).isSome ∧ ∀ d, getK ds (.tup xs) = some d → ∃ v, valV kvs ks = some v ∧ Den W G d v
  | _, _, _, _, .nil, _ => ⟨rfl, fun d h => by simp [getK] at h⟩
  | _, _, xs, ks, .cons (xs := ys) (ks := ls) (d := d) (v := v) (ds := ds) (kvs := kvs) e dn a, hx => by
    have q := keysD_eqv e hx
    obtain ⟨i1, i2⟩ := getT a hx
    by_cases c : ls = ks
    · have g1 : getK ((.tup ys, d) :: ds) (.tup xs) = some d := by
        unfold getK
        rw [List.find?_cons]
        have : (D.tup ys).eqv (.tup xs) = true := by
          rw [D.eqv, q]
          simp [c]
        simp only [this]
        rfl
      have g2 : valV ((ls, v) :: kvs) ks = some v := valV_pos c
      rw [g1, g2]
      refine ⟨rfl, fun z hz => ?_⟩
      cases hz
      exact ⟨v, rfl, dn⟩
    · have g1 : getK ((.tup ys, d) :: ds) (.tup xs) = getK ds (.tup xs) := by
        unfold getK
        rw [List.find?_cons]
        have : (D.tup ys).eqv (.tup xs) = false := by
          rw [D.eqv, q]
          simp [c]
        simp only [this]
      have g2 : valV ((ls, v) :: kvs) ks = valV kvs ks := valV_neg c
      rw [g1, g2]
      exact ⟨i1, i2⟩
theorem getKK : ∀ {ds : List (D × D)} {kvs : List (Key × V)} {x : D} {kk : Key}, DenK W G ds kvs → keyD x = some kk →
    (getK ds x).isSome = (valV kvs kk).isSome ∧ ∀ d, getK ds x = some d → ∃ v, valV kvs kk = some v ∧ Den W G d v
  | _, _, _, _, .nil, _ => ⟨rfl, fun d h => by simp [getK] at h⟩
  | _, _, x, kk, .cons (x := y) (k := l) (d := d) (v := v) (ds := ds) (kvs := kvs) e dn a, hx => by
    have q := keyD_eqv e hx
    obtain ⟨i1, i2⟩ := getKK a hx
    by_cases c : l = kk
    · have g1 : getK ((y, d) :: ds) x = some d := by
        unfold getK
        rw [List.find?_cons]
        have : y.eqv x = true := by
          rw [q]
          simp [c]
        simp only [this]
        rfl
      have g2 : valV ((l, v) :: kvs) kk = some v := valV_pos c
      rw [g1, g2]
      refine ⟨rfl, fun z hz => ?_⟩
      cases hz
      exact ⟨v, rfl, dn⟩
    · have g1 : getK ((y, d) :: ds) x = getK ds x := by
        unfold getK
        rw [List.find?_cons]
        have : y.eqv x = false := by
          rw [q]
          simp [c]
        simp only [this]
      have g2 : valV ((l, v) :: kvs) kk = valV kvs kk := valV_neg c
      rw [g1, g2]
      exact ⟨i1, i2⟩
/-- a dict asked for a key -/
theorem dget_of {t : Bool} {ds : List (D × D)} {x y : V} {kd : D} (dx : Den W G (.dic t ds) x) (dy : Den W G kd y) (hk : kd.isKey t = true) (sb : Sub G H) :
    ∃ a o, x = .ref a ∧ DGet H a y o ∧ (getK ds kd).isSome = o.isSome ∧ ∀ d, getK ds kd = some d → ∃ v, o = some v ∧ Den W G d v := by
  cases t with
  | true =>
    cases kd <;> simp only [D.isKey] at hk <;> try (cases hk)
    rename_i xs
    obtain ⟨ks, e⟩ := atoms_key hk
    obtain ⟨b, vs, rfl, hb, ab⟩ := dy.itup
    obtain ⟨a, kvs, rfl, ra, da⟩ := dx.idicT
    have ev := keys_of e ab
    subst ev
    obtain ⟨g1, g2⟩ := getT da e
    exact ⟨a, _, rfl, .inr ⟨kvs, ks, b, sb.rd ra, rfl, sb _ _ hb, rfl⟩, g1, g2⟩
  | false =>
    have hk : kd.isAtom = true := by
      cases kd <;> exact hk
    obtain ⟨kk, e⟩ := atom_key hk
    obtain ⟨a, kvs, rfl, ra, da⟩ := dx.idicK
    have ev := key_of e dy
    subst ev
    obtain ⟨g1, g2⟩ := getKK da e
    exact ⟨a, _, rfl, .inl ⟨kvs, kk, sb.rd ra, rfl, rfl⟩, g1, g2⟩
theorem o_isIn (g : Good W X k) : OpR X (compareOp .In) (rP2 W (p2 .isIn)) := fun pins s σ H x y v u Q I rx ry ⟨G, d, e, z, sb, dx, dy, hz, kk⟩ => by
  have hr := g.units
  cases e <;> simp only [p2] at hz <;> try (cases hz)
  · obtain ⟨c, q⟩ := ite_some hz
    subst q
    rename_i xs
    simp only [Bool.and_eq_true] at c
    obtain ⟨as, r1⟩ := g.reads I c.1 dx sb rx
    have pl : (D.tup xs).plainN 8 = true := by simpa [D.plainN, plainAll] using c.2
    obtain ⟨bs, r2⟩ := g.reads I pl dy sb ry
    rw [D.py] at r2
    refine SeqAt.in_tuple_data r2 r1 (plainAll_py 7 xs (plainN_all c.2)) (plain_py 8 d c.1) (by have := depth_py 8 d c.1; omega) ⟨.bl _, H, I, rfl, ?_⟩
    have e1 : ((pyAll xs).any fun y => PyData.eqv y d.py) = xs.any fun z => z.eqv d := by
      rw [pyAll_map, List.any_map]
      exact any_same fun z hz => eqv_py 7 8 z d (plainN_all c.2 z hz) c.1
    rw [e1]
    exact stay sb kk (.bl _)
  · obtain ⟨c, q⟩ := ite_some hz
    subst q
    rename_i xs
    simp only [Bool.and_eq_true] at c
    obtain ⟨as, r1⟩ := g.reads I c.1 dx sb rx
    have pl : (D.lst xs).plainN 8 = true := by simpa [D.plainN, plainAll] using c.2
    obtain ⟨bs, r2⟩ := g.reads I pl dy sb ry
    rw [D.py] at r2
    refine SeqAt.in_list_data r2 r1 (plainAll_py 7 xs (plainN_all c.2)) (plain_py 8 d c.1) (by have := depth_py 8 d c.1; omega) ⟨.bl _, H, I, rfl, ?_⟩
    have e1 : ((pyAll xs).any fun y => PyData.eqv y d.py) = xs.any fun z => z.eqv d := by
      rw [pyAll_map, List.any_map]
      exact any_same fun z hz => eqv_py 7 8 z d (plainN_all c.2 z hz) c.1
    rw [e1]
    exact stay sb kk (.bl _)
  · obtain ⟨c, q⟩ := ite_some hz
    subst q
    obtain ⟨a, o, rfl, dg, e1, _⟩ := dget_of dy dx c sb
    cases ry
    refine d_in (hu_of g.room) I dg rx fun s' I' => ⟨.bl _, H, I', rfl, ?_⟩
    rw [← e1]
    exact stay sb kk (.bl _)
end
end SW

/-! SwOp3: subscripts, built-ins. Own work. -/
namespace SW
open PySem PySem.Spec PyProof.Rows L2
section
variable {W : Wd} {X : Cx} {k : Nat} {G H : Hp}

theorem o_notIn (g : Good W X k) : OpR X (compareOp .NotIn) (rP2 W (p2 .notIn)) := fun pins s σ H x y v u Q I rx ry ⟨G, d, e, z, sb, dx, dy, hz, kk⟩ => by
  have hr := g.units
  cases e <;> simp only [p2] at hz <;> try (cases hz)
  · obtain ⟨c, q⟩ := ite_some hz
    subst q
    rename_i xs
    simp only [Bool.and_eq_true] at c
    obtain ⟨as, r1⟩ := g.reads I c.1 dx sb rx
    have pl : (D.tup xs).plainN 8 = true := by simpa [D.plainN, plainAll] using c.2
    obtain ⟨bs, r2⟩ := g.reads I pl dy sb ry
    rw [D.py] at r2
    refine SeqAt.notIn_tuple_data r2 r1 (plainAll_py 7 xs (plainN_all c.2)) (plain_py 8 d c.1) (by have := depth_py 8 d c.1; omega) ⟨.bl _, H, I, rfl, ?_⟩
    have e1 : ((pyAll xs).any fun y => PyData.eqv y d.py) = xs.any fun z => z.eqv d := by
      rw [pyAll_map, List.any_map]
      exact any_same fun z hz => eqv_py 7 8 z d (plainN_all c.2 z hz) c.1
    rw [e1]
    exact stay sb kk (.bl _)
  · obtain ⟨c, q⟩ := ite_some hz
    subst q
    rename_i xs
    simp only [Bool.and_eq_true] at c
    obtain ⟨as, r1⟩ := g.reads I c.1 dx sb rx
    have pl : (D.lst xs).plainN 8 = true := by simpa [D.plainN, plainAll] using c.2
    obtain ⟨bs, r2⟩ := g.reads I pl dy sb ry
    rw [D.py] at r2
    refine SeqAt.notIn_list_data r2 r1 (plainAll_py 7 xs (plainN_all c.2)) (plain_py 8 d c.1) (by have := depth_py 8 d c.1; omega) ⟨.bl _, H, I, rfl, ?_⟩
    have e1 : ((pyAll xs).any fun y => PyData.eqv y d.py) = xs.any fun z => z.eqv d := by
      rw [pyAll_map, List.any_map]
      exact any_same fun z hz => eqv_py 7 8 z d (plainN_all c.2 z hz) c.1
    rw [e1]
    exact stay sb kk (.bl _)
  · obtain ⟨c, q⟩ := ite_some hz
    subst q
    obtain ⟨a, o, rfl, dg, e1, _⟩ := dget_of dy dx c sb
    cases ry
    refine d_notIn (hu_of g.room) I dg rx fun s' I' => ⟨.bl _, H, I', rfl, ?_⟩
    rw [← e1]
    exact stay sb kk (.bl _)
theorem o_isB : OpR X (compareOp .Is) (rP2 W (p2 .isB)) := OpR.imp op_isBl fun x y H Q ⟨G, d, e, z, sb, dx, dy, hz, kk⟩ => by
  cases d <;> cases e <;> simp only [p2] at hz <;> try (cases hz)
  rename_i a b
  obtain rfl := dx.ibl
  obtain rfl := dy.ibl
  refine ⟨_, _, rfl, rfl, stay sb kk ?_⟩
  have : (a == b) = decide (a = b) := by cases a <;> cases b <;> rfl
  rw [← this]
  exact .bl _
theorem o_isNotB : OpR X (compareOp .IsNot) (rP2 W (p2 .isNotB)) := OpR.imp op_notBl fun x y H Q ⟨G, d, e, z, sb, dx, dy, hz, kk⟩ => by
  cases d <;> cases e <;> simp only [p2] at hz <;> try (cases hz)
  rename_i a b
  obtain rfl := dx.ibl
  obtain rfl := dy.ibl
  refine ⟨_, _, rfl, rfl, stay sb kk ?_⟩
  have : (!(a == b)) = !decide (a = b) := by cases a <;> cases b <;> rfl
  rw [← this]
  exact .bl _

/-! ### subscripts -/
theorem atI_some {α : Type} {xs : List α} {i : Int} {z : α} (h : atI xs i = some z) : ∃ j, ixN xs.length i = some j ∧ xs[j]? = some z := by
  unfold atI at h
  cases e : ixN xs.length i with
  | none =>
    rw [e] at h
    cases h
  | some j =>
    rw [e] at h
    exact ⟨j, rfl, h⟩
theorem DenAll.atI {xs : List D} {vs : List V} {i : Int} {z : D} (a : DenAll W G xs vs) (h : L2.atI xs i = some z) : ∃ v, L2.atI vs i = some v ∧ Den W G z v := by
  obtain ⟨j, e, hj⟩ := atI_some h
  obtain ⟨v, hv, dn⟩ := a.get hj
  refine ⟨v, ?_, dn⟩
  unfold L2.atI
  rw [← a.length, e]
  exact hv
theorem x_idx (g : Good W X k) : IxR X (rP2 W (p2 .idx)) := fun value slice pins s σ H x y v u Q I rx ry ⟨G, d, e, z, sb, dx, dy, hz, kk⟩ hs => by
  cases d <;> try (simp only [p2] at hz; cases hz)
  · cases e <;> simp only [p2] at hz <;> try (cases hz)
    obtain ⟨a, vs, rfl, ha, aa⟩ := dx.itup
    obtain rfl := dy.iint
    obtain ⟨w, hw, dw⟩ := aa.atI hz
    exact ix_tup value slice pins s σ H _ _ v u Q I rx ry ⟨a, vs, _, w, rfl, rfl, SqT.of (sb _ _ ha), hw, stay sb kk dw⟩ hs
  · cases e <;> simp only [p2] at hz <;> try (cases hz)
    obtain ⟨a, vs, rfl, ha, aa⟩ := dx.ilst
    obtain rfl := dy.iint
    obtain ⟨w, hw, dw⟩ := aa.atI hz
    exact ix_list value slice pins s σ H _ _ v u Q I rx ry ⟨a, vs, _, w, rfl, rfl, SqL.of (sb _ _ ha), hw, stay sb kk dw⟩ hs
  · simp only [p2] at hz
    rename_i t kvs
    have hz' : (if e.isKey t = true then getK kvs e else none) = some z := by cases e <;> exact hz
    by_cases c : e.isKey t = true
    · rw [if_pos c] at hz'
      obtain ⟨a, o, rfl, dg, e1, e2⟩ := dget_of dx dy c sb
      obtain ⟨w, rfl, dw⟩ := e2 z hz'
      cases rx
      exact tail_any (dict_typeIs I dg) PySem.F.slot_dict_getitem.lookup (d_getItem (hu_of g.room) I dg ry fun w' s' I' rw' => ⟨w, H, I', rw', stay sb kk dw⟩) hs
    · rw [if_neg c] at hz'
      cases hz'

/-! ### built-ins of one value -/
theorem call1 {f : Value} {r : List V → Hp → VK → Prop} {gg : D → Option D} (h : CallR X f r) (i : ∀ x H Q G d z, Sub G H → Den W G d x → gg d = some z → (∀ v G' H', Ext W G H G' H' → Kept H H' → Den W G' z v → Q v H') → r [x] H Q) : CallR X f (rP1 W gg) :=
  CallR.imp h fun xs H Q ⟨x, G, d, z, e, sb, dx, hz, kk⟩ => by
    subst e
    exact i x H Q G d z sb dx hz kk
theorem call_cases {f : Value} {g : D → Option D} (h : ∀ d, ∃ g' : D → Option D, CallR X f (rP1 W g') ∧ g d = g' d) : CallR X f (rP1 W g) := fun pins s σ H xs us Q I r ⟨x, G, d, z, e, sb, dx, hz, kk⟩ => by
  obtain ⟨g', h', q⟩ := h d
  exact h' pins s σ H xs us Q I r ⟨x, G, d, z, e, sb, dx, by rw [← q]; exact hz, kk⟩
def lenS (d : D) : Option D := match d with
  | .dic _ _ => none
  | d => p1 .len d
def lenK (d : D) : Option D := match d with
  | .dic false kvs => some (.int kvs.length)
  | _ => none
theorem DenK.length : ∀ {ds : List (D × D)} {vs : List (Key × V)}, DenK W G ds vs → ds.length = vs.length
  | _, _, .nil => rfl
  | _, _, .cons _ _ a => by rw [List.length_cons, List.length_cons, DenK.length a]
theorem b_lenS : CallR X (.builtin "len") (rP1 W lenS) := call1 call_len fun x H Q G d z sb dx hz kk => by
  cases d <;> simp only [lenS, p1] at hz <;> try (cases hz)
  · obtain ⟨c, e⟩ := ite_some hz
    subst e
    obtain rfl := dx.istr
    exact ⟨_, _, rfl, ⟨by rw [← line_eq]; exact c, rfl⟩, stay sb kk (.int _)⟩
  · obtain ⟨a, vs, rfl, ha, aa⟩ := dx.itup
    refine ⟨_, vs.length, rfl, .inr ⟨vs, SqT.of (sb _ _ ha), rfl⟩, ?_⟩
    rw [← aa.length]
    exact stay sb kk (.int _)
  · obtain ⟨a, vs, rfl, ha, aa⟩ := dx.ilst
    refine ⟨_, vs.length, rfl, .inl ⟨vs, SqL.of (sb _ _ ha), rfl⟩, ?_⟩
    rw [← aa.length]
    exact stay sb kk (.int _)
theorem b_lenK : CallR X (.builtin "len") (rP1 W lenK) := fun pins s σ H xs us Q I r ⟨x, G, d, z, e, sb, dx, hz, kk⟩ => by
  subst e
  cases d <;> simp only [lenK] at hz <;> try (cases hz)
  rename_i t kvs
  cases t <;> simp only at hz <;> cases hz
  obtain ⟨a, vs, rfl, ra, aa⟩ := dx.idicK
  rw [Vals.ref1 r]
  refine d_len I (sb.rd ra) fun t s' I' => ⟨.int vs.length, H, I', ⟨t, rfl⟩, ?_⟩
  rw [← aa.length]
  exact stay sb kk (.int _)
theorem b_len : CallR X (.builtin "len") (rP1 W (p1 .len)) := call_cases fun d => by
  by_cases c : ∃ t kvs, d = .dic t kvs
  · obtain ⟨t, kvs, rfl⟩ := c
    cases t
    · exact ⟨lenK, b_lenK, rfl⟩
    · exact ⟨lenK, b_lenK, rfl⟩
  · refine ⟨lenS, b_lenS, ?_⟩
    cases d <;> first | rfl | exact absurd ⟨_, _, rfl⟩ c
theorem blsOf_den : ∀ {xs : List D} {vs : List V} {bs : List Bool}, blsOf xs = some bs → DenAll W G xs vs → vs = bs.map V.bl
  | [], _, _, h, a => by
    cases a
    cases h
    rfl
  | x :: xs, _, bs, h, a => by
    obtain ⟨v, us, rfl, dx, ax⟩ := a.inv_cons
    cases x <;> simp only [blsOf] at h <;> try (cases h)
    obtain ⟨cs, e1, e2⟩ := Option.map_eq_some_iff.mp h
    subst e2
    rw [dx.ibl, blsOf_den e1 ax]
    rfl
theorem intsOf_den : ∀ {xs : List D} {vs : List V} {bs : List Int}, intsOf xs = some bs → DenAll W G xs vs → vs = bs.map V.int
  | [], _, _, h, a => by
    cases a
    cases h
    rfl
  | x :: xs, _, bs, h, a => by
    obtain ⟨v, us, rfl, dx, ax⟩ := a.inv_cons
    cases x <;> simp only [intsOf] at h <;> try (cases h)
    obtain ⟨cs, e1, e2⟩ := Option.map_eq_some_iff.mp h
    subst e2
    rw [dx.iint, intsOf_den e1 ax]
    rfl
theorem b_all (g : Good W X k) : CallR X (.builtin "all") (rP1 W (p1 .all)) := call1 (cr_all g.calm) fun x H Q G d z sb dx hz kk => by
  cases d <;> simp only [p1] at hz <;> try (cases hz)
  obtain ⟨bs, e1, e2⟩ := Option.map_eq_some_iff.mp hz
  subst e2
  obtain ⟨a, vs, rfl, ha, aa⟩ := dx.ilst
  have e3 := blsOf_den e1 aa
  subst e3
  exact ⟨a, bs, rfl, SqL.of (sb _ _ ha), stay sb kk (.bl _)⟩
theorem b_any (g : Good W X k) : CallR X (.builtin "any") (rP1 W (p1 .any)) := call1 (cr_any g.calm) fun x H Q G d z sb dx hz kk => by
  cases d <;> simp only [p1] at hz <;> try (cases hz)
  obtain ⟨bs, e1, e2⟩ := Option.map_eq_some_iff.mp hz
  subst e2
  obtain ⟨a, vs, rfl, ha, aa⟩ := dx.ilst
  have e3 := blsOf_den e1 aa
  subst e3
  exact ⟨a, bs, rfl, SqL.of (sb _ _ ha), stay sb kk (.bl _)⟩
theorem b_sum (g : Good W X k) : CallR X (.builtin "sum") (rP1 W (p1 .sum)) := call1 (cr_sum g.calm) fun x H Q G d z sb dx hz kk => by
  cases d <;> simp only [p1] at hz <;> try (cases hz)
  obtain ⟨bs, e1, e2⟩ := Option.map_eq_some_iff.mp hz
  subst e2
  obtain ⟨a, vs, rfl, ha, aa⟩ := dx.ilst
  have e3 := intsOf_den e1 aa
  subst e3
  exact ⟨a, bs, rfl, SqL.of (sb _ _ ha), stay sb kk (.int _)⟩
theorem b_int : CallR X (.type "int") (rP1 W (p1 .int1)) := call1 call_int1 fun x H Q G d z sb dx hz kk => by
  cases d <;> simp only [p1] at hz <;> cases hz
  exact .inl ⟨_, by rw [dx.iint], stay sb kk (.int _)⟩
theorem b_tuple : CallR X (.type "tuple") (rP1 W (p1 .tupleOf)) := call1 call_tuple_of fun x H Q G d z sb dx hz kk => by
  cases d <;> simp only [p1] at hz <;> cases hz
  · obtain ⟨a, vs, rfl, ha, aa⟩ := dx.itup
    exact ⟨a, vs, rfl, .inr ⟨SqT.of (sb _ _ ha), stay sb kk (.tup ha aa)⟩⟩
  · obtain ⟨a, vs, rfl, ha, aa⟩ := dx.ilst
    exact ⟨a, vs, rfl, .inl ⟨SqL.of (sb _ _ ha), new_tup sb aa kk⟩⟩
theorem b_list : CallR X (.type "list") (rP1N W (p1 .listOf)) := CallR.imp call_list_of fun xs H Q ⟨x, G, d, z, e, sb, dx, hz, kk⟩ => by
  subst e
  cases d <;> simp only [p1] at hz <;> cases hz
  · obtain ⟨a, vs, rfl, ha, aa⟩ := dx.itup
    exact ⟨a, vs, rfl, .inr (SqT.of (sb _ _ ha)), new_lst sb aa kk⟩
  · obtain ⟨a, vs, rfl, ha, aa⟩ := dx.ilst
    exact ⟨a, vs, rfl, .inl (SqL.of (sb _ _ ha)), new_lst sb aa kk⟩

/-! ### sorted -/
theorem each_get {α β : Type} {R : α → β → Prop} : ∀ {as : List α} {bs : List β}, PySem.W.EachIs R as bs → as.length = bs.length
  | _, _, .nil => rfl
  | _, _, .cons _ a => by rw [List.length_cons, List.length_cons, each_get a]
/-- values, what they tell, and the model's values, side by side -/
theorem each_of {P : Value → D × V → Prop} : ∀ {xs : List D} {vs : List V} {us : List Value}, DenAll W G xs vs → Vals vs us → (∀ d v u, d ∈ xs → Den W G d v → RelV v u → P u (d, v)) → PySem.W.EachIs P us (xs.zip vs)
  | _, _, _, .nil, .nil, _ => .nil
  | _, _, _, .cons d a, .cons r1 r2, h => .cons (h _ _ _ (by simp) d r1) (each_of a r2 fun d v u hd dn q => h d v u (by simp [hd]) dn q)
theorem zip_fst : ∀ {xs : List D} {vs : List V}, xs.length = vs.length → (xs.zip vs).map (·.1) = xs
  | [], _, _ => by simp
  | x :: xs, [], h => by simp at h
  | x :: xs, v :: vs, h => by
    rw [List.zip_cons_cons, List.map_cons, zip_fst (by simpa using h)]
theorem each_vals {P : Value → D × V → Prop} (hP : ∀ u p, P u p → Den W G p.1 p.2 ∧ RelV p.2 u) : ∀ {us : List Value} {bs : List (D × V)}, PySem.W.EachIs P us bs → Vals (bs.map (·.2)) us ∧ DenAll W G (bs.map (·.1)) (bs.map (·.2))
  | _, _, .nil => ⟨.nil, .nil⟩
  | _, _, .cons h a => by
    obtain ⟨i1, i2⟩ := each_vals hP a
    obtain ⟨j1, j2⟩ := hP _ _ h
    exact ⟨.cons j2 i1, .cons j1 i2⟩
theorem zip_mem {xs : List D} {vs : List V} {p : D × V} (h : p ∈ xs.zip vs) : p.1 ∈ xs := (List.of_mem_zip h).1
theorem b_sorted (g : Good W X k) : CallR X (.builtin "sorted") (rP1N W (p1 .sortedL)) := fun pins s σ H vs us Q I r ⟨x, G, d, z, e, sb, dx, hz, kk⟩ => by
  subst e
  cases d <;> simp only [p1] at hz <;> try (cases hz)
  rename_i xs
  obtain ⟨c, q⟩ := ite_some hz
  subst q
  simp only [Bool.and_eq_true] at c
  obtain ⟨al, so⟩ := c
  obtain ⟨a, vs, rfl, ha, aa⟩ := dx.ilst
  obtain ⟨u, rfl, ru⟩ := vals1 r
  cases ru
  obtain ⟨its, rv, hl, hn⟩ := I.list (SqL.of (sb _ _ ha))
  have plain : ∀ d ∈ xs, d.plain = true := fun d hd => by
    have := List.all_eq_true.mp al d hd
    simp only [Bool.and_eq_true] at this
    exact this.1
  have alk : ∀ d ∈ xs, ∀ e ∈ xs, d.alike e = true := fun d hd e he => by
    have := List.all_eq_true.mp al d hd
    simp only [Bool.and_eq_true] at this
    exact List.all_eq_true.mp this.2 e he
  have len := aa.length
  have hr := g.units
  have ezf := zip_fst len
  have memE : ∀ d', d' ∈ (xs.zip vs).map (fun p => p.1.py) → ∃ d ∈ xs, d' = d.py := fun d' hd => by
    obtain ⟨p, hp, e⟩ := List.mem_map.mp hd
    exact ⟨p.1, zip_mem hp, e.symm⟩
  refine PySem.W.sorted_data (enc := fun p : D × V => p.1.py) (R := fun u p => Den W G p.1 p.2 ∧ RelV p.2 u) hl.isList (each_of aa rv fun d v u hd dn q => ⟨dn, q⟩)
    (each_of aa rv fun d v u hd dn q => g.reads I (plain d hd) dn sb q) ?_ ?_ ?_ ?_ ?_
  · intro d' h1 e' h2
    obtain ⟨d1, m1, rfl⟩ := memE d' h1
    obtain ⟨e1, m2, rfl⟩ := memE e' h2
    exact alike_py 8 d1 e1 (alk d1 m1 e1 m2)
  · unfold sortable at so
    rw [Bool.or_eq_true] at so
    rcases so with so | so
    · left
      intro d' h1
      obtain ⟨d1, m1, rfl⟩ := memE d' h1
      have := List.all_eq_true.mp so d1 m1
      cases d1 with
      | tup ys =>
        cases ys with
        | nil => simp at this
        | cons y ys => exact ⟨y.py, pyAll ys, by rw [D.py, pyAll]⟩
      | _ => simp at this
    · right
      intro d' h1
      obtain ⟨d1, m1, rfl⟩ := memE d' h1
      have h2 := List.all_eq_true.mp so d1 m1
      have h3 := alk d1 m1 d1 m1
      refine ⟨alike_ne h3, fun ys e => ?_⟩
      cases d1 <;> simp [D.py] at e h2
  · rw [List.length_zip, len, Nat.min_self]
    exact hn
  · intro p hp
    have := depth_py 8 p.1 (plain p.1 (zip_mem hp))
    omega
  · intro out ho eo
    obtain ⟨r2, a2⟩ := each_vals (fun _ _ h => h) eo
    have e1 : ((xs.zip vs).mergeSort (PySem.W.dataLe false fun p : D × V => p.1.py)).map (·.1) = D.sort xs := by
      unfold D.sort
      rw [PySem.W.sort_maps (s := fun a b => !D.lt b a) (fun p : D × V => p.1) (fun p hp q hq => ?_), ezf]
      rw [PySem.W.dataLe_eq]
      show (!PySem.W.dataLt q.1.py p.1.py) = !D.lt q.1 p.1
      rw [lt_py 8 8 q.1 p.1 (alk _ (zip_mem hq) _ (zip_mem hp)) (plain _ (zip_mem hq)) (plain _ (zip_mem hp))]
    rw [e1] at a2
    obtain ⟨ep, he'⟩ := PyProof.Rows.sortedAll_at s.heap its out.toArray
    have hf := I.hok.fresh (Nat.le_succ s.heap.objs.size)
    have hlen : (((xs.zip vs).mergeSort (PySem.W.dataLe false fun p : D × V => p.1.py)).map (·.2)).length ≤ sizeLine := by
      rw [List.length_map, List.length_mergeSort, List.length_zip, len, Nat.min_self]
      exact hn
    exact ⟨.ref _, _, I.laid (t' := s.toks) (o := .lst _) (fun _ _ => PyProof.Rows.sortedAll_old) (Nat.le_succ _) ⟨hlen, out, ep, r2, he'⟩, rfl, new_lst sb a2 kk _ hf⟩
end
end SW

/-! SwOp4: repr, isinstance. Own work. -/
namespace SW
open PySem PySem.Spec PyProof.Rows L2
section
variable {W : Wd} {X : Cx} {k : Nat} {G H : Hp}

theorem showableAll_mem : ∀ {xs : List PyData}, (∀ x ∈ xs, PyData.showable x = true) → PyData.showableAll xs = true
  | [], _ => rfl
  | x :: xs, h => by
    rw [PyData.showableAll, h x (by simp), showableAll_mem fun y hy => h y (by simp [hy])]
    rfl
theorem showable_py : ∀ (n : Nat) (d : D), d.plainN n = true → d.smallN n = true → PyData.showable d.py = true := by
  intro n
  induction n with
  | zero =>
    intro d p s
    cases d <;> simp [D.plainN] at p <;> simp [D.smallN] at s <;> simp only [D.py, PyData.showable]
    rw [decide_eq_true_eq]
    exact Nat.lt_of_lt_of_le (PySem.Flt.log2_lt_of (k := 64) (by decide) (by omega)) (by decide)
  | succ n ih =>
    intro d p s
    cases d <;> simp [D.plainN] at p <;> simp [D.smallN] at s <;> simp only [D.py, PyData.showable]
    · rw [decide_eq_true_eq]
      exact Nat.lt_of_lt_of_le (PySem.Flt.log2_lt_of (k := 64) (by decide) (by omega)) (by decide)
    all_goals
      rw [pyAll_map]
      refine showableAll_mem fun x hx => ?_
      obtain ⟨y, hy, rfl⟩ := List.mem_map.mp hx
      exact ih y (p y hy) (s y hy)
theorem noDict_py : ∀ (n : Nat) (d : D), d.plainN n = true → PyData.hasDict d.py = false := by
  have all : ∀ (xs : List D), (∀ x ∈ xs, PyData.hasDict x.py = false) → PyData.hasDictAll (pyAll xs) = false := by
    intro xs
    induction xs with
    | nil => intro _; rfl
    | cons x xs ih =>
      intro h
      rw [pyAll, PyData.hasDictAll, h x (by simp), ih fun y hy => h y (by simp [hy])]
      rfl
  intro n
  induction n with
  | zero => intro d p; cases d <;> simp [D.plainN] at p <;> simp only [D.py, PyData.hasDict]
  | succ n ih =>
    intro d p
    cases d <;> simp [D.plainN] at p <;> simp only [D.py, PyData.hasDict]
    all_goals exact all _ fun x hx => ih x (p x hx)
theorem sum_le {xs : List D} {f : D → Nat} {g : D → Nat} (h : ∀ x ∈ xs, f x ≤ g x) : (xs.map f).sum + 2 * xs.length ≤ (xs.map fun x => g x + 2).sum := by
  induction xs with
  | nil => simp
  | cons x xs ih =>
    have h1 := h x (by simp)
    have h2 := ih fun y hy => h y (by simp [hy])
    simp only [List.map_cons, List.sum_cons, List.length_cons]
    omega
theorem shownAll_map' : ∀ xs : List D, PyData.shownAll (pyAll xs) = xs.map fun x => x.py.shown
  | [] => by rw [pyAll, PyData.shownAll_nil]; rfl
  | x :: xs => by rw [pyAll, PyData.shownAll_cons, shownAll_map' xs]; rfl
theorem shown_wt : ∀ (n : Nat) (d : D), d.plainN n = true → d.smallN n = true → d.py.shown.length ≤ d.wt n := by
  have str : ∀ x : Str, (x.cps.toList.all fun c => decide (c < 1114112)) = true → (PyData.str x).shown.length ≤ 12 * x.length + 2 := by
    intro x h
    rw [PyData.shown_str]
    have q := StrLaws.reprText_len x fun c hc => by
      have := List.all_eq_true.mp h c hc
      simp only [decide_eq_true_eq] at this
      omega
    omega
  have int : ∀ i : Int, i.natAbs < 10 ^ 12 → (PyData.int i).shown.length ≤ 22 := by
    intro i h
    exact Nat.le_trans (PyData.shown_int_le h) (by decide)
  have non : (PyData.none).shown.length ≤ 4 := by
    rw [PyData.shown_none]
    decide +kernel
  have bl : ∀ b, (PyData.bool b).shown.length ≤ 5 := by
    intro b
    rw [PyData.shown_bool]
    cases b <;> decide +kernel
  intro n
  induction n with
  | zero =>
    intro d p s
    cases d with
    | non => exact non
    | bl b => exact bl b
    | int i => exact int i (by simpa [D.smallN] using s)
    | str x => exact str x (by simpa [D.smallN] using s)
    | _ => simp [D.plainN] at p
  | succ n ih =>
    intro d p s
    cases d with
    | non => exact non
    | bl b => exact bl b
    | int i => exact int i (by simpa [D.smallN] using s)
    | str x => exact str x (by simpa [D.smallN] using s)
    | tup xs =>
      simp [D.plainN] at p
      simp [D.smallN] at s
      have q := tupleText_len_le (PyData.shownAll (pyAll xs))
      have e : (D.tup xs).py.shown = tupleText (PyData.shownAll (pyAll xs)) := by simp only [D.py, PyData.shown]
      rw [e]
      rw [shownAll_map'] at q ⊢
      rw [List.map_map, List.length_map] at q
      have z := sum_le (xs := xs) (f := fun x => x.py.shown.length) (g := D.wt n) fun x hx => ih x (p x hx) (s x hx)
      refine Nat.le_trans q ?_
      show _ ≤ (xs.map fun x => D.wt n x + 2).sum + 3
      have e2 : xs.map ((fun x => x.length) ∘ fun x => x.py.shown) = xs.map fun x => x.py.shown.length := rfl
      rw [e2]
      omega
    | lst xs =>
      simp [D.plainN] at p
      simp [D.smallN] at s
      have q := listText_len_le (PyData.shownAll (pyAll xs))
      have e : (D.lst xs).py.shown = listText (PyData.shownAll (pyAll xs)) := by simp only [D.py, PyData.shown]
      rw [e]
      rw [shownAll_map'] at q ⊢
      rw [List.map_map, List.length_map] at q
      have z := sum_le (xs := xs) (f := fun x => x.py.shown.length) (g := D.wt n) fun x hx => ih x (p x hx) (s x hx)
      refine Nat.le_trans q ?_
      show _ ≤ (xs.map fun x => D.wt n x + 2).sum + 3
      have e2 : xs.map ((fun x => x.length) ∘ fun x => x.py.shown) = xs.map fun x => x.py.shown.length := rfl
      rw [e2]
      omega
    | _ => simp [D.plainN] at p

/-- reading, where an empty dict stands within -/
theorem reads_pair (g : Good W X k) {pins : List (Addr × Obj)} {σ : L2.St} {s : Shared} (I : Inv X pins σ H s) {a : Addr} {vs : List V} {w : Str} {u : Value} (ha : G a = some (.tup vs)) (sb : Sub G H) (r : RelV (.ref a) u) (aa : DenAll W G [.str w, .dic false []] vs) :
    ∃ as, Reads s.heap u (.tuple [.str w, .dict []]) as ∧ sysModules ∉ as := by
  cases r
  obtain ⟨its, rv, ⟨o, ho, hc, n, hd⟩, _⟩ := I.tuple (SqT.of (sb _ _ ha))
  obtain ⟨v1, us1, rfl, d1, a1⟩ := aa.inv_cons
  obtain ⟨v2, us2, rfl, d2, a2⟩ := a1.inv_cons
  cases a2
  obtain rfl := d1.istr
  obtain ⟨b, kvs, rfl, rb, ab⟩ := d2.idicK
  cases ab
  cases rv with
  | cons r1 rv =>
    cases rv with
    | cons r2 rv =>
      cases rv
      obtain ⟨t, rfl⟩ := r1
      cases r2
      obtain ⟨z, hm, ws, rel, ⟨ob, es, ep, hob, hex, hdd, hkk⟩⟩ := dk_rd I.hok (sb.rd rb)
      cases rel
      have e0 : es.toList = [] := by
        cases hes : es.toList with
        | nil => rfl
        | cons e r =>
          rw [hes] at hkk
          exact nomatch hkk.2
      have rd : Reads s.heap (.ref b) (.dict []) (b :: [] ++ []) := .dict hob hex.1 hdd (by rw [e0]; exact .nil) (by rw [e0]; exact .nil)
      refine ⟨_, .tuple ho hc hd (.cons (.str w t) (.cons rd .nil)), ?_⟩
      simp only [List.nil_append, List.append_nil, List.mem_singleton, List.cons_append]
      intro q
      rw [← q] at hm
      simp at hm

theorem reprOk_cases {d : D} (h : d.reprOk = true) : (∃ w, d = .tup [.str w, .dic false []] ∧ w.length ≤ 1000 ∧ (w.cps.toList.all fun c => decide (c < 1114112)) = true) ∨
    ∃ xs, d = .tup xs ∧ (D.tup xs).plain = true ∧ (D.tup xs).smallN 8 = true ∧ (D.tup xs).wt 8 ≤ 1000000 := by
  unfold D.reprOk at h
  split at h
  · rw [Bool.and_eq_true] at h
    exact .inl ⟨_, rfl, of_decide_eq_true h.1, h.2⟩
  · simp only [Bool.and_eq_true, decide_eq_true_eq] at h
    exact .inr ⟨_, rfl, h.1.1, h.1.2, h.2⟩
  · cases h
theorem b_repr (g : Good W X k) (hg : X.A.guards = some []) : CallR X (.builtin "repr") (rP1 W (p1 .repr)) := fun pins s σ H vs us Q I r ⟨x, G, d, z, e, sb, dx, hz, kk⟩ => by
  subst e
  have hz' : (if d.reprOk = true then some (D.rep d) else none) = some z := hz
  obtain ⟨c, q⟩ := ite_some hz'
  subst q
  obtain ⟨u, rfl, ru⟩ := vals1 r
  have hr := g.units
  rcases reprOk_cases c with ⟨w, rfl, hw, hc⟩ | ⟨xs, rfl, pl, sm, hw⟩
  · obtain ⟨a, ws, rfl, ha, aa⟩ := dx.itup
    obtain ⟨as, rd, hs⟩ := reads_pair g I ha sb ru aa
    cases ru
    refine repr_of_reads' rd ?_ (fun _ => hs) hg ?_ (fun _ _ e => e) (fun h' u' tk hk => ⟨.str _, H, I.kept hk, ⟨_, rfl⟩, ?_⟩) ?_
    · simp only [PyData.showable, PyData.showableAll, PyData.showableKv]
      rfl
    · have : (PyData.tuple [.str w, .dict []]).depth ≤ 2 := by simp [PyData.depth, PyData.depthAll, PyData.depthKv]
      omega
    · have e1 : (PyData.tuple [.str w, .dict []]) = (D.tup [.str w, .dic false []]).py := by simp only [D.py, pyAll]
      rw [e1]
      exact stay sb kk (.rep _)
    · have e1 : (PyData.tuple [.str w, .dict []]).shown = tupleText (PyData.shownAll [.str w, .dict []]) := by simp only [PyData.shown]
      have e2 := tupleText_len_le (PyData.shownAll [.str w, .dict []])
      rw [e1]
      refine Nat.le_trans e2 ?_
      have e3 := StrLaws.reprText_len w fun c hcc => by
        have := List.all_eq_true.mp hc c hcc
        simp only [decide_eq_true_eq] at this
        omega
      have e4 : (PyData.dict []).shown.length = 2 := by
        rw [PyData.shown_dict, PyData.shownKv_nil]
        decide +kernel
      rw [PyData.shownAll_cons, PyData.shownAll_cons, PyData.shownAll_nil, PyData.shown_str]
      simp only [List.map_cons, List.map_nil, List.sum_cons, List.sum_nil, List.length_cons, List.length_nil, e4]
      rw [sizeLine_eq]
      omega
  · obtain ⟨as, rd⟩ := g.reads I pl dx sb ru
    obtain ⟨a, ws, rfl, ha, aa⟩ := dx.itup
    cases ru
    refine repr_of_reads' rd (showable_py 8 _ pl sm) (PyData.noDict_hsm (noDict_py 8 _ pl)) hg ?_ (fun _ _ e => e) (fun h' u' tk hk => ⟨.str _, H, I.kept hk, ⟨_, rfl⟩, ?_⟩) ?_
    · have := depth_py 8 _ pl
      omega
    · exact stay sb kk (.rep _)
    · refine Nat.le_trans (shown_wt 8 _ pl sm) (Nat.le_trans hw ?_)
      rw [sizeLine_eq]
      decide

/-! ### isinstance -/
/-- the class that a value of this data has -/
theorem den_ty (g : Good W X k) {d : D} {v : V} (dn : Den W G d v) (sb : Sub G H) : match d with
    | .non => TyX X.K H v (.type "NoneType")
    | .bl _ => TyX X.K H v (.type "bool")
    | .int _ => TyX X.K H v (.type "int")
    | .str _ => TyX X.K H v (.type "str")
    | .tup _ => TyX X.K H v (.type "tuple")
    | .lst _ => TyX X.K H v (.type "list")
    | .ins c _ => c < W.nc ∧ TyX X.K H v (.ref (W.clA c))
    | _ => True := by
  cases dn with
  | non => exact .base .non
  | bl b => exact .base (.bl b)
  | int b => exact .base (.int b)
  | str b => exact .base (.str b)
  | tup h a => exact .base (.tup (sb _ _ h))
  | lst h a => exact .base (.lst (sb _ _ h))
  | ins c h a =>
    refine ⟨c, ?_⟩
    rw [g.K]
    obtain ⟨q1, q2, q3, q4, q5⟩ := g.fx.cls _ c
    exact .base (.ins (sb _ _ h) q1 q2 q3 q4 q5)
  | _ => trivial
theorem dicK_ty {kvs : List (D × D)} {v : V} (dn : Den W G (.dic false kvs) v) (sb : Sub G H) : TyX X.K H v (.type "dict") := by
  obtain ⟨a, ws, rfl, ra, aa⟩ := dn.idicK
  rcases sb.rd ra with h | ⟨o, h⟩
  · exact .base (.dK h)
  · exact .fDict h
def Isk.ty : Isk → Option String
  | .int => some "int"
  | .bool => some "bool"
  | .str => some "str"
  | .tuple => some "tuple"
  | .list => some "list"
  | .dict => some "dict"
  | _ => none
/-- isinstance(x, T), T a built-in class -/
theorem c_isi (g : Good W X k) {q : Isk} {T : String} (hT : q.ty = some T) : CallR X (.builtin "isinstance") (fun xs H Q => ∃ x, xs = [x, .ty T] ∧ rP1 W (p1 (.isI q)) [x] H Q) := CallR.imp call_isi fun xs H Q ⟨x, e, y, G, d, z, e2, sb, dx, hz, kk⟩ => by
  subst e
  cases e2
  obtain ⟨b, hb, rfl⟩ := Option.map_eq_some_iff.mp (show (d.isK q).map D.bl = some z from hz)
  have ty := den_ty g dx sb
  have fin : ∀ t : String, TyX X.K H x (.type t) → kitB t T = some b → rIsi X.K [x, .ty T] H Q := fun t h1 h2 => ⟨x, .ty T, .type t, .type T, b, rfl, .ty T, h1, kit_ty h2, stay sb kk (.bl b)⟩
  cases d with
  | non => exact fin _ ty (by cases q <;> simp only [Isk.ty, D.isK] at hT hb <;> cases hT <;> cases hb <;> decide +kernel)
  | bl _ => exact fin _ ty (by cases q <;> simp only [Isk.ty, D.isK] at hT hb <;> cases hT <;> cases hb <;> decide +kernel)
  | int _ => exact fin _ ty (by cases q <;> simp only [Isk.ty, D.isK] at hT hb <;> cases hT <;> cases hb <;> decide +kernel)
  | str _ => exact fin _ ty (by cases q <;> simp only [Isk.ty, D.isK] at hT hb <;> cases hT <;> cases hb <;> decide +kernel)
  | tup _ => exact fin _ ty (by cases q <;> simp only [Isk.ty, D.isK] at hT hb <;> cases hT <;> cases hb <;> decide +kernel)
  | lst _ => exact fin _ ty (by cases q <;> simp only [Isk.ty, D.isK] at hT hb <;> cases hT <;> cases hb <;> decide +kernel)
  | dic t kvs =>
    cases t with
    | false => exact fin _ (dicK_ty dx sb) (by cases q <;> simp only [Isk.ty, D.isK] at hT hb <;> cases hT <;> cases hb <;> decide +kernel)
    | true => cases q <;> simp only [Isk.ty, D.isK] at hT hb <;> cases hb
  | ins c fs => cases q <;> simp only [Isk.ty, D.isK] at hT hb <;> first | (cases hb; done) | (cases hT; done)
  | fn f => cases q <;> simp [D.isK] at hb
  | row => cases q <;> simp [D.isK] at hb
  | rep f => cases q <;> simp [D.isK] at hb

/-- isinstance(x, C), C an own class -/
theorem c_isiC (g : Good W X k) {c : Nat} (hc : c < W.nc) : CallR X (.builtin "isinstance") (fun xs H Q => ∃ x, xs = [x, .ref (W.clA c)] ∧ rP1 W (p1 (.isI (.cls c))) [x] H Q) := CallR.imp call_isi fun xs H Q ⟨x, e, y, G, d, z, e2, sb, dx, hz, kk⟩ => by
  subst e
  cases e2
  obtain ⟨b, hb, rfl⟩ := Option.map_eq_some_iff.mp (show (d.isK (.cls c)).map D.bl = some z from hz)
  have ty := den_ty g dx sb
  have fin : ∀ t : Value, TyX X.K H x t → PySem.W.kitOne W.K t (.ref (W.clA c)) = some b → rIsi X.K [x, .ref (W.clA c)] H Q := fun t h1 h2 => ⟨x, _, t, _, b, rfl, .own _, h1, by rw [g.K]; exact h2, stay sb kk (.bl b)⟩
  have k0 := g.fx.kit0 c hc
  cases d with
  | non =>
    cases hb
    exact fin _ ty (k0 _ (by simp))
  | bl _ =>
    cases hb
    exact fin _ ty (k0 _ (by simp))
  | int _ =>
    cases hb
    exact fin _ ty (k0 _ (by simp))
  | str _ =>
    cases hb
    exact fin _ ty (k0 _ (by simp))
  | tup _ =>
    cases hb
    exact fin _ ty (k0 _ (by simp))
  | lst _ =>
    cases hb
    exact fin _ ty (k0 _ (by simp))
  | dic t kvs =>
    cases t with
    | false =>
      cases hb
      exact fin _ (dicK_ty dx sb) (k0 _ (by simp))
    | true => cases hb
  | ins d fs =>
    cases hb
    exact fin _ ty.2 (g.fx.kitC _ _ ty.1 hc)
  | fn f => cases hb
  | row => cases hb
  | rep f => cases hb
/-- isinstance(x, (tuple, list)) and (list, tuple) -/
theorem c_isiT (g : Good W X k) {T1 T2 : String} (hT : (T1 = "tuple" ∧ T2 = "list") ∨ (T1 = "list" ∧ T2 = "tuple")) : CallR X (.builtin "isinstance") (fun xs H Q => ∃ x p, xs = [x, .ref p] ∧ H p = some (.tup [.ty T1, .ty T2]) ∧ rP1 W (p1 (.isI .rowT)) [x] H Q) := CallR.imp call_isiT fun xs H Q ⟨x, p, e, hp, y, G, d, z, e2, sb, dx, hz, kk⟩ => by
  subst e
  cases e2
  obtain ⟨b, hb, rfl⟩ := Option.map_eq_some_iff.mp (show (d.isK .rowT).map D.bl = some z from hz)
  have ty := den_ty g dx sb
  have fin : ∀ t : String, TyX X.K H x (.type t) → (∃ b1 b2, kitB t T1 = some b1 ∧ kitB t T2 = some b2 ∧ (b1 || b2) = b) → rIsiT X.K [x, .ref p] H Q := fun t h1 ⟨b1, b2, e1, e2, e3⟩ => by
    refine ⟨x, p, _, .type t, [.type T1, .type T2], b, rfl, hp, .cons (.ty _) (.cons (.ty _) .nil), h1, ?_, stay sb kk (.bl b)⟩
    refine kitAny_cons (b := b1) (kit_ty e1) (fun h => ?_) (fun h => ?_)
    · refine kitAny_cons (b := b2) (kit_ty e2) (fun h2 => ?_) (fun h2 => ?_)
      · rw [h, h2] at e3
        rw [← e3]
        exact kitAny_nil
      · rw [h2] at e3
        rw [← e3]
        exact Bool.or_true _
    · rw [h] at e3
      rw [← e3]
      rfl
  have dec : ∀ t : String, t ∈ ["NoneType", "bool", "int", "str", "dict"] → ∃ b1 b2, kitB t T1 = some b1 ∧ kitB t T2 = some b2 ∧ (b1 || b2) = false := by
    intro t ht
    simp only [List.mem_cons, List.mem_nil_iff, or_false] at ht
    rcases hT with ⟨rfl, rfl⟩ | ⟨rfl, rfl⟩ <;> rcases ht with rfl | rfl | rfl | rfl | rfl <;> exact ⟨false, false, by decide +kernel, by decide +kernel, rfl⟩
  cases d with
  | non =>
    cases hb
    exact fin _ ty (dec _ (by simp))
  | bl _ =>
    cases hb
    exact fin _ ty (dec _ (by simp))
  | int _ =>
    cases hb
    exact fin _ ty (dec _ (by simp))
  | str _ =>
    cases hb
    exact fin _ ty (dec _ (by simp))
  | tup _ =>
    cases hb
    refine fin _ ty ?_
    rcases hT with ⟨rfl, rfl⟩ | ⟨rfl, rfl⟩
    · exact ⟨true, false, by decide +kernel, by decide +kernel, rfl⟩
    · exact ⟨false, true, by decide +kernel, by decide +kernel, rfl⟩
  | lst _ =>
    cases hb
    refine fin _ ty ?_
    rcases hT with ⟨rfl, rfl⟩ | ⟨rfl, rfl⟩
    · exact ⟨false, true, by decide +kernel, by decide +kernel, rfl⟩
    · exact ⟨true, false, by decide +kernel, by decide +kernel, rfl⟩
  | dic t kvs =>
    cases t with
    | false =>
      cases hb
      exact fin _ (dicK_ty dx sb) (dec _ (by simp))
    | true => cases hb
  | ins d fs => cases hb
  | fn f => cases hb
  | row => cases hb
  | rep f => cases hb
end
end SW

/-! SwExp: expressions, by what they evaluate to. Own work. -/
namespace SW
open PySem PySem.Spec PyProof.Rows L2
section
variable {W : Wd} {X : Cx} {k : Nat} {H0 : Hp} {G0 : Bs} {G H : Hp} {E : XK} {σ : L2.St} {env : Env} {ρ : Row} {a b c : Expr} {f f1 f2 f3 : Env → Row → R D} {pos : Pos}

theorem lift_end {α : Type} {o : Option α} {P : α → Row → Hp → Hp → Prop} (h : OutA W G H E (liftO o ρ) P) : ∃ z, o = some z ∧ OutA W G H E (.ok z ρ) P := by
  cases o with
  | none => exact h.elim
  | some z => exact ⟨z, rfl, h⟩

theorem asc {α β γ : Type} {m : R α} {f : α → Row → R β} {g : β → Row → R γ} {P : γ → Row → Hp → Hp → Prop} (h : OutA W G H E ((m.bind f).bind g) P) : OutA W G H E (m.bind fun a r => (f a r).bind g) P := by
  cases m <;> exact h
/-! ### names, constants -/
theorem de_var {i : Nat} {x : Str} (hN : X.N[i]? = some x) (hv : Vis X.env.scope x) (h1 : (x == ("__debug__" : Str)) = false) (h2 : (x == ("__classdict__" : Str)) = false) :
    PE X (.Name x pos) (tF W H0 G0 E fun env r => liftO (env.getD i .no).get r) := PE.imp (pe_var hN hv h1 h2) fun σ H Q ⟨G, env, ρ, R, h⟩ => by
  dsimp only at h
  cases e : env.getD i .no with
  | no =>
    rw [e] at h
    exact h.elim
  | sh d =>
    rw [e] at h
    obtain ⟨v, hv, dn⟩ := R.var e
    exact ⟨v, hv, h v G H (Ext.refl R.sub) R.row dn⟩
  | ow d =>
    rw [e] at h
    exact h.elim
theorem de_cst {e : Expr} {d : D} {v : V} (h : PE X e (tC v)) (dn : ∀ G, Den W G d v) : PE X e (tF W H0 G0 E fun _ r => .ok d r) := PE.imp h fun σ H Q ⟨G, env, ρ, R, h⟩ => h v G H (Ext.refl R.sub) R.row (dn G)

/-! ### operations -/
theorem de_op2 {op : Operator} {p : P2} (hop : OpR X (binaryOp op) (rP2 W (p2 p))) (ha : PE X a (tF W H0 G0 E f1)) (hb : PE X b (tF W H0 G0 E f2)) :
    PE X (.BinOp a op b pos) (tF W H0 G0 E fun env r => (f1 env r).bind fun d r1 => (f2 env r1).bind fun e r2 => liftO (p2 p d e) r2) :=
  PE.imp (pe_op hop ha hb) fun σ H Q ⟨G, env, ρ, R, h⟩ => tF_bind R (out_A h) fun d ρ1 v G1 H1 x dv R1 h1 => tF_bind R1 h1 fun e ρ2 u G2 H2 x2 du R2 h2 => by
    obtain ⟨z, hz, h3⟩ := lift_end h2
    exact ⟨G2, d, e, z, R2.sub, dv.mono x2.mono, du, hz, fun w G' H' ex kp dw => h3 G' H' ex (R2.row.ext kp) w dw⟩
theorem de_cmp2 {op : CmpOp} {p : P2} (hop : OpR X (compareOp op) (rP2 W (p2 p))) (ha : PE X a (tF W H0 G0 E f1)) (hb : PE X b (tF W H0 G0 E f2)) (hm : behindInMarks op b = false) :
    PE X (.Compare a [op] [b] pos) (tF W H0 G0 E fun env r => (f1 env r).bind fun d r1 => (f2 env r1).bind fun e r2 => liftO (p2 p d e) r2) :=
  PE.imp (pe_cmpR hop ha hb hm) fun σ H Q ⟨G, env, ρ, R, h⟩ => tF_bind R (out_A h) fun d ρ1 v G1 H1 x dv R1 h1 => tF_bind R1 h1 fun e ρ2 u G2 H2 x2 du R2 h2 => by
    obtain ⟨z, hz, h3⟩ := lift_end h2
    exact ⟨G2, d, e, z, R2.sub, dv.mono x2.mono, du, hz, fun w G' H' ex kp dw => h3 G' H' ex (R2.row.ext kp) w dw⟩
/-- what a comparison yields is a truth value -/
def boolish (p : P2) : Prop := ∀ d e z, p2 p d e = some z → ∃ b, z = .bl b
theorem bl_eq : boolish .eq := fun d e z h => by
  rcases p2_eq h with ⟨_, _, _, rfl⟩ | ⟨_, _, rfl⟩ <;> exact ⟨_, rfl⟩
theorem bl_ne : boolish .ne := fun d e z h => by
  rcases p2_ne h with ⟨_, _, _, rfl⟩ | ⟨_, _, rfl⟩ <;> exact ⟨_, rfl⟩
theorem bl_lt : boolish .lt := fun d e z h => by
  obtain ⟨_, _, _, rfl⟩ := cmp_some h
  exact ⟨_, rfl⟩
theorem bl_le : boolish .le := fun d e z h => by
  obtain ⟨_, _, _, rfl⟩ := cmp_some h
  exact ⟨_, rfl⟩
theorem bl_gt : boolish .gt := fun d e z h => by
  obtain ⟨_, _, _, rfl⟩ := cmp_some h
  exact ⟨_, rfl⟩
theorem bl_ge : boolish .ge := fun d e z h => by
  obtain ⟨_, _, _, rfl⟩ := cmp_some h
  exact ⟨_, rfl⟩
theorem bl_in : boolish .isIn := fun d e z h => by
  cases e <;> simp only [p2] at h <;> first | (cases h; done) | (obtain ⟨_, rfl⟩ := ite_some h; exact ⟨_, rfl⟩)
theorem bl_notIn : boolish .notIn := fun d e z h => by
  cases e <;> simp only [p2] at h <;> first | (cases h; done) | (obtain ⟨_, rfl⟩ := ite_some h; exact ⟨_, rfl⟩)
theorem bl_isB : boolish .isB := fun d e z h => by
  cases d <;> cases e <;> simp only [p2] at h <;> cases h <;> exact ⟨_, rfl⟩
theorem bl_isNotB : boolish .isNotB := fun d e z h => by
  cases d <;> cases e <;> simp only [p2] at h <;> cases h <;> exact ⟨_, rfl⟩
theorem dt_cmp2 {op : CmpOp} {p : P2} (hop : OpR X (compareOp op) (rP2 W (p2 p))) (hp : boolish p) (ha : PE X a (tF W H0 G0 E f1)) (hb : PE X b (tF W H0 G0 E f2)) (hm : behindInMarks op b = false) :
    PT X (.Compare a [op] [b] pos) (tT W H0 G0 E fun env r => ((f1 env r).bind fun d r1 => (f2 env r1).bind fun e r2 => liftO (p2 p d e) r2).bind fun d r1 => liftO d.truth r1) :=
  PT.imp (pt_cmpR hop ha hb hm) fun σ H Q ⟨G, env, ρ, R, h⟩ => by
    refine tF_bind R (asc h) fun d ρ1 v G1 H1 x dv R1 h1 => ?_
    refine tF_bind R1 (asc h1) fun e ρ2 u G2 H2 x2 du R2 h2 => ?_
    cases hz : p2 p d e with
    | none =>
      rw [hz] at h2
      exact h2.elim
    | some z =>
      rw [hz] at h2
      obtain ⟨bb, rfl⟩ := hp d e z hz
      refine ⟨G2, d, e, _, R2.sub, dv.mono x2.mono, du, hz, fun w G' H' ex kp dw => ?_⟩
      obtain rfl := dw.ibl
      exact ⟨bb, rfl, h2 G' H' ex (R2.row.ext kp)⟩
theorem de_un {p : P1} {op : UnaryOp} {g : Int → Int} (hu : UnR X (unaryOp op) (rU fun i => .int (g i))) (hp : ∀ d z, p1 p d = some z → ∃ i, d = .int i ∧ z = .int (g i)) (ha : PE X a (tF W H0 G0 E f1)) :
    PE X (.UnaryOp op a pos) (tF W H0 G0 E fun env r => (f1 env r).bind fun d r1 => liftO (p1 p d) r1) :=
  PE.imp (pe_un hu ha) fun σ H Q ⟨G, env, ρ, R, h⟩ => tF_bind R (out_A h) fun d ρ1 v G1 H1 x dv R1 h1 => by
    obtain ⟨z, hz, h3⟩ := lift_end h1
    obtain ⟨i, rfl, rfl⟩ := hp d z hz
    obtain rfl := dv.iint
    exact ⟨i, rfl, h3.end_ R1 _ (.int _)⟩
theorem de_isN {j : Nat} {pos' : Pos} (ha : PE X a (tF W H0 G0 E f1)) : PE X (.Compare a [.Is] [.Constant .none j pos'] pos) (tF W H0 G0 E fun env r => (f1 env r).bind fun d r1 => liftO (p1 .isNone d) r1) :=
  PE.imp (pe_cmp (pc_isN ha) (nobehind _ (by decide) (by decide))) fun σ H Q ⟨G, env, ρ, R, h⟩ => tF_bind R (out_A h) fun d ρ1 v G1 H1 x dv R1 h1 => by
    obtain ⟨z, hz, h3⟩ := lift_end h1
    have q := h3.end_ R1
    cases dv <;> simp only [p1] at hz <;> cases hz <;> exact q _ (.bl _)
theorem de_notN {j : Nat} {pos' : Pos} (ha : PE X a (tF W H0 G0 E f1)) : PE X (.Compare a [.IsNot] [.Constant .none j pos'] pos) (tF W H0 G0 E fun env r => (f1 env r).bind fun d r1 => liftO (p1 .notNone d) r1) :=
  PE.imp (pe_cmp (pc_notN ha) (nobehind _ (by decide) (by decide))) fun σ H Q ⟨G, env, ρ, R, h⟩ => tF_bind R (out_A h) fun d ρ1 v G1 H1 x dv R1 h1 => by
    obtain ⟨z, hz, h3⟩ := lift_end h1
    have q := h3.end_ R1
    cases dv <;> simp only [p1] at hz <;> cases hz <;> exact q _ (.bl _)
theorem dt_isN {j : Nat} {pos' : Pos} (ha : PE X a (tF W H0 G0 E f1)) : PT X (.Compare a [.Is] [.Constant .none j pos'] pos) (tT W H0 G0 E fun env r => ((f1 env r).bind fun d r1 => liftO (p1 .isNone d) r1).bind fun d r1 => liftO d.truth r1) :=
  PT.imp (pt_cmp (pc_isN ha) (nobehind _ (by decide) (by decide))) fun σ H Q ⟨G, env, ρ, R, h⟩ => by
    refine tF_bind R (asc h) fun d ρ1 v G1 H1 x dv R1 h1 => ?_
    cases dv <;> exact ⟨_, rfl, h1.end_ R1⟩
theorem dt_notN {j : Nat} {pos' : Pos} (ha : PE X a (tF W H0 G0 E f1)) : PT X (.Compare a [.IsNot] [.Constant .none j pos'] pos) (tT W H0 G0 E fun env r => ((f1 env r).bind fun d r1 => liftO (p1 .notNone d) r1).bind fun d r1 => liftO d.truth r1) :=
  PT.imp (pt_cmp (pc_notN ha) (nobehind _ (by decide) (by decide))) fun σ H Q ⟨G, env, ρ, R, h⟩ => by
    refine tF_bind R (asc h) fun d ρ1 v G1 H1 x dv R1 h1 => ?_
    cases dv <;> exact ⟨_, rfl, h1.end_ R1⟩
theorem de_idx (g : Good W X k) (ha : PE X a (tF W H0 G0 E f1)) (hb : PE X b (tF W H0 G0 E f2)) (hs : PlainIx b) :
    PE X (.Subscript a b pos) (tF W H0 G0 E fun env r => (f1 env r).bind fun d r1 => (f2 env r1).bind fun e r2 => liftO (p2 .idx d e) r2) :=
  PE.imp (pe_ix (x_idx g) ha hb hs) fun σ H Q ⟨G, env, ρ, R, h⟩ => tF_bind R (out_A h) fun d ρ1 v G1 H1 x dv R1 h1 => tF_bind R1 h1 fun e ρ2 u G2 H2 x2 du R2 h2 => by
    obtain ⟨z, hz, h3⟩ := lift_end h2
    exact ⟨G2, d, e, z, R2.sub, dv.mono x2.mono, du, hz, fun w G' H' ex kp dw => h3 G' H' ex (R2.row.ext kp) w dw⟩

/-! ### arguments, displays -/
theorem da_nil : PA X [] (tL W H0 G0 E fun _ r => .ok [] r) := PA.imp pa_nil fun σ H Q ⟨G, env, ρ, R, h⟩ => h [] G H (Ext.refl R.sub) R.row .nil
theorem da_cons {es : List Expr} {fs : Env → Row → R (List D)} (ha : PE X a (tF W H0 G0 E f)) (hr : PA X es (tL W H0 G0 E fs)) (hs : starEach (a :: es) X.env = (false, eval a X.env) :: starEach es X.env) :
    PA X (a :: es) (tL W H0 G0 E fun env r => (f env r).bind fun d r1 => (fs env r1).bind fun ds r2 => .ok (d :: ds) r2) :=
  PA.imp (pa_cons ha hr hs) fun σ H Q ⟨G, env, ρ, R, h⟩ => tF_bind R (outL_A h) fun d ρ1 v G1 H1 x dv R1 h1 => tL_bind R1 h1 fun ds ρ2 vs G2 H2 x2 dvs R2 h2 => h2.end_ R2 _ (.cons (dv.mono x2.mono) dvs)
theorem de_tup {es : List Expr} {fs : Env → Row → R (List D)} {x1 : Nat} (ha : PA X es (tL W H0 G0 E fs)) (hl : ∀ env r ds r1, fs env r = .ok ds r1 → ds.length ≤ LIM) :
    PE X (.Tuple es x1 pos) (tF W H0 G0 E fun env r => (fs env r).bind fun ds r1 => .ok (.tup ds) r1) :=
  PE.imp (pe_tup ha) fun σ H Q ⟨G, env, ρ, R, h⟩ => by
    dsimp only at h
    have q : OutA W G H E ((fs env ρ).bind fun ds r1 => (match decide (ds.length ≤ LIM) with | true => SW.R.ok (D.tup ds) r1 | false => SW.R.bad)) fun d _ G' H' => ∀ v, Den W G' d v → Q v H' := by
      have h' := out_A h
      cases e : fs env ρ with
      | ok ds r1 =>
        rw [e] at h'
        have := hl _ _ _ _ e
        show OutA W G H E (match decide (ds.length ≤ LIM) with | true => SW.R.ok (D.tup ds) r1 | false => SW.R.bad) _
        rw [decide_eq_true this]
        exact h'
      | exn c d r1 =>
        rw [e] at h'
        exact h'
      | bad =>
        rw [e] at h'
        exact h'
    refine tL_bind R q fun ds ρ2 vs G2 H2 x2 dvs R2 h2 => ?_
    by_cases c : ds.length ≤ LIM
    · rw [decide_eq_true c] at h2
      refine ⟨by rw [← dvs.length, ← line_eq]; exact c, new_tup R2.sub dvs fun w G' H' ex kp dw => h2 G' H' ex (R2.row.ext kp) w dw⟩
    · rw [decide_eq_false c] at h2
      exact h2.elim
/-- a new list -/
theorem dn_lst {es : List Expr} {fs : Env → Row → R (List D)} (ha : PA X es (tL W H0 G0 E fs)) (hl : ∀ env r ds r1, fs env r = .ok ds r1 → ds.length ≤ LIM) :
    PE X (.List es pos) (tN W H0 G0 E fun env r => (fs env r).bind fun ds r1 => .ok (.lst ds) r1) :=
  PE.imp (pe_lst ha) fun σ H Q ⟨G, env, ρ, R, h⟩ => by
    dsimp only at h
    refine ⟨G, env, ρ, R, ?_⟩
    cases e : fs env ρ with
    | ok ds r1 =>
      rw [e] at h
      have hc := hl _ _ _ _ e
      intro vs G' H' ex rw' dvs
      refine ⟨by rw [← dvs.length, ← line_eq]; exact hc, fun p hp => ?_⟩
      have ex2 := ex.trans (Ext.scratch (o := .lst vs) ex.sub hp)
      refine h p G' _ ex2 (rw'.ext (kept_upd hp)) (ex.free (.inl hp)) ?_ ⟨vs, upd_same, dvs⟩
      cases q : G' p with
      | none => rfl
      | some o =>
        rw [ex.sub p o q] at hp
        cases hp
    | exn c d r1 =>
      rw [e] at h
      exact h
    | bad =>
      rw [e] at h
      exact h
theorem dn_dnewT : PE X (.Dict [] [] pos) (tN W H0 G0 E fun _ r => .ok (.dic true []) r) :=
  PE.imp pe_dnewT fun σ H Q ⟨G, env, ρ, R, h⟩ p hp => by
    refine h p G _ (Ext.scratch R.sub hp) (R.row.ext (kept_upd hp)) (.inl hp) ?_ ⟨[], upd_same, .nil⟩
    cases q : G p with
    | none => rfl
    | some o =>
      rw [R.sub p o q] at hp
      cases hp
theorem dn_dnewK : PE X (.Dict [] [] pos) (tN W H0 G0 E fun _ r => .ok (.dic false []) r) :=
  PE.imp pe_dnewK fun σ H Q ⟨G, env, ρ, R, h⟩ p hp => by
    refine h p G _ (Ext.scratch R.sub hp) (R.row.ext (kept_upd hp)) (.inl hp) ?_ ⟨[], upd_same, .nil⟩
    cases q : G p with
    | none => rfl
    | some o =>
      rw [R.sub p o q] at hp
      cases hp
/-- a new thing as a value -/
theorem de_new {e : Expr} (h : PE X e (tN W H0 G0 E f)) : PE X e (tF W H0 G0 E f) := PE.imp h fun σ H Q ⟨G, env, ρ, R, q⟩ => ⟨G, env, ρ, R, q.toN⟩

/-! ### truth -/
theorem truV {d : D} {v : V} {t : Bool} (dn : Den W G d v) (sb : Sub G H) (h : d.truth = some t) : TruV X.K v H t := by
  cases d with
  | non =>
    obtain rfl := dn.inon
    cases h
    rfl
  | bl b =>
    obtain rfl := dn.ibl
    cases h
    rfl
  | int i =>
    obtain rfl := dn.iint
    cases h
    rfl
  | str x =>
    obtain rfl := dn.istr
    obtain ⟨c, e⟩ := ite_some h
    subst e
    refine ⟨by rw [← line_eq]; exact c, ?_⟩
    rw [Bool.eq_iff_iff]
    simp
  | tup xs =>
    obtain ⟨l, vs, rfl, ha, aa⟩ := dn.itup
    cases h
    refine .inr (.inl ⟨vs, SqT.of (sb _ _ ha), ?_⟩)
    cases aa <;> rfl
  | lst xs =>
    obtain ⟨l, vs, rfl, ha, aa⟩ := dn.ilst
    cases h
    refine .inl ⟨vs, SqL.of (sb _ _ ha), ?_⟩
    cases aa <;> rfl
  | dic t kvs => cases h
  | ins c fs => cases h
  | fn f => cases h
  | row => cases h
  | rep d => cases h
/-- a test by truth -/
theorem dt_truth (ha : PE X a (tF W H0 G0 E f)) (he : ∀ whole, PySem.isTrue a X.env whole = (do let v ← whole; standAt a.pos; holding [v] (truthy v))) :
    PT X a (tT W H0 G0 E fun env r => (f env r).bind fun d r1 => liftO d.truth r1) :=
  PT.imp (pt_truth ha he) fun σ H Q ⟨G, env, ρ, R, h⟩ => tF_bind R h fun d ρ1 v G1 H1 x dv R1 h1 => by
    obtain ⟨t, ht, h2⟩ := lift_end h1
    exact ⟨t, truV dv R1.sub ht, h2.end_ R1⟩
end
end SW

/-! SwExp2: and, or, not, chains, conditionals, slices, fields, built-in calls, borrowing. Own work. -/
namespace SW
open PySem PySem.Spec PyProof.Rows L2
@[reducible] def tru (f : Env → Row → R D) : Env → Row → R Bool := fun env r => (f env r).bind fun d r1 => liftO d.truth r1
@[reducible] def andF (f g : Env → Row → R D) : Env → Row → R D := fun env r => (f env r).bind fun d r1 => match d.truth with
  | some true => g env r1
  | some false => .ok d r1
  | none => .bad
@[reducible] def orF (f g : Env → Row → R D) : Env → Row → R D := fun env r => (f env r).bind fun d r1 => match d.truth with
  | some true => .ok d r1
  | some false => g env r1
  | none => .bad
@[reducible] def notF (f : Env → Row → R D) : Env → Row → R D := fun env r => (f env r).bind fun d r1 => match d.truth with
  | some t => .ok (.bl (!t)) r1
  | none => .bad
@[reducible] def iteF (f g h : Env → Row → R D) : Env → Row → R D := fun env r => (f env r).bind fun d r1 => match d.truth with
  | some true => g env r1
  | some false => h env r1
  | none => .bad
@[reducible] noncomputable def chainF (p q : P2) (f g h : Env → Row → R D) : Env → Row → R D := fun env r => (f env r).bind fun x r1 => (g env r1).bind fun y r2 => match p2 p x y with
  | some (.bl true) => (h env r2).bind fun z r3 => liftO (p2 q y z) r3
  | some (.bl false) => .ok (.bl false) r2
  | _ => .bad
section
variable {W : Wd} {X : Cx} {k : Nat} {H0 : Hp} {G0 : Bs} {G H : Hp} {E : XK} {σ : L2.St} {env : Env} {ρ : Row} {a b c : Expr} {rest : List Expr} {f f1 f2 f3 : Env → Row → R D} {pos : Pos}

theorem de_and (ha : PE X a (tF W H0 G0 E f1)) (hb : PE X (.BoolOp .And (b :: rest) pos) (tF W H0 G0 E f2)) : PE X (.BoolOp .And (a :: b :: rest) pos) (tF W H0 G0 E (andF f1 f2)) :=
  PE.imp (pe_andT ha hb) fun σ H Q ⟨G, env, ρ, R, h⟩ => tF_bind R (out_A h) fun d ρ1 v G1 H1 x dv R1 h1 => by
    cases ht : d.truth with
    | none => simp only [ht] at h1; exact h1.elim
    | some t =>
      refine ⟨t, truV dv R1.sub ht, ?_⟩
      cases t with
      | true =>
        simp only [ht] at h1
        exact ⟨G1, env, ρ1, R1, of_outA h1⟩
      | false =>
        simp only [ht] at h1
        exact h1.end_ R1 v dv
theorem de_or (ha : PE X a (tF W H0 G0 E f1)) (hb : PE X (.BoolOp .Or (b :: rest) pos) (tF W H0 G0 E f2)) : PE X (.BoolOp .Or (a :: b :: rest) pos) (tF W H0 G0 E (orF f1 f2)) :=
  PE.imp (pe_orT ha hb) fun σ H Q ⟨G, env, ρ, R, h⟩ => tF_bind R (out_A h) fun d ρ1 v G1 H1 x dv R1 h1 => by
    cases ht : d.truth with
    | none => simp only [ht] at h1; exact h1.elim
    | some t =>
      refine ⟨t, truV dv R1.sub ht, ?_⟩
      cases t with
      | false =>
        simp only [ht] at h1
        exact ⟨G1, env, ρ1, R1, of_outA h1⟩
      | true =>
        simp only [ht] at h1
        exact h1.end_ R1 v dv
theorem de_not (ha : PE X a (tF W H0 G0 E f1)) : PE X (.UnaryOp .Not a pos) (tF W H0 G0 E (notF f1)) :=
  PE.imp (pe_notT ha) fun σ H Q ⟨G, env, ρ, R, h⟩ => tF_bind R (out_A h) fun d ρ1 v G1 H1 x dv R1 h1 => by
    cases ht : d.truth with
    | none => simp only [ht] at h1; exact h1.elim
    | some t =>
      simp only [ht] at h1
      exact ⟨t, truV dv R1.sub ht, h1.end_ R1 _ (.bl _)⟩
theorem de_ite (hc : PT X c (tT W H0 G0 E (tru f1))) (ha : PE X a (tF W H0 G0 E f2)) (hb : PE X b (tF W H0 G0 E f3)) : PE X (.IfExp c a b pos) (tF W H0 G0 E (iteF f1 f2 f3)) :=
  PE.imp (pe_ifExp hc ha hb) fun σ H Q ⟨G, env, ρ, R, h⟩ => by
    refine tT_bind (k := fun t r1 => if t = true then f2 env r1 else f3 env r1) (P := fun d _ G' H' => ∀ v, Den W G' d v → Q v H') R ?_ fun t ρ1 G1 H1 x R1 h1 => ?_
    · have h' := out_A h
      unfold iteF at h'
      cases e : f1 env ρ with
      | ok d r1 =>
        rw [e] at h'
        cases ht : d.truth with
        | none => simp only [SW.R.bind, ht] at h'; exact h'.elim
        | some t => cases t <;> simpa [tru, e, SW.R.bind, ht, liftO] using h'
      | exn c d r1 =>
        rw [e] at h'
        simpa [tru, e, SW.R.bind] using h'
      | bad =>
        rw [e] at h'
        exact h'.elim
    · cases t with
      | true => exact ⟨G1, env, ρ1, R1, of_outA h1⟩
      | false => exact ⟨G1, env, ρ1, R1, of_outA h1⟩
/-! ### tests -/
theorem tru_and {P : Bool → Row → Hp → Hp → Prop} (h : OutA W G H E (tru (andF f1 f2) env ρ) P) : OutA W G H E ((tru f1 env ρ).bind fun t r1 => if t = true then tru f2 env r1 else .ok false r1) P := by
  unfold tru andF at h
  unfold tru
  cases e : f1 env ρ with
  | ok d r1 =>
    rw [e] at h
    cases ht : d.truth with
    | none => simp only [R.bind, ht] at h; exact h.elim
    | some t => cases t <;> simpa [R.bind, ht, liftO] using h
  | exn c d r1 =>
    rw [e] at h
    exact h
  | bad =>
    rw [e] at h
    exact h
theorem tru_or {P : Bool → Row → Hp → Hp → Prop} (h : OutA W G H E (tru (orF f1 f2) env ρ) P) : OutA W G H E ((tru f1 env ρ).bind fun t r1 => if t = true then .ok true r1 else tru f2 env r1) P := by
  unfold tru orF at h
  unfold tru
  cases e : f1 env ρ with
  | ok d r1 =>
    rw [e] at h
    cases ht : d.truth with
    | none => simp only [R.bind, ht] at h; exact h.elim
    | some t => cases t <;> simpa [R.bind, ht, liftO] using h
  | exn c d r1 =>
    rw [e] at h
    exact h
  | bad =>
    rw [e] at h
    exact h
theorem tru_ite {P : Bool → Row → Hp → Hp → Prop} (h : OutA W G H E (tru (iteF f1 f2 f3) env ρ) P) : OutA W G H E ((tru f1 env ρ).bind fun t r1 => if t = true then tru f2 env r1 else tru f3 env r1) P := by
  unfold tru iteF at h
  unfold tru
  cases e : f1 env ρ with
  | ok d r1 =>
    rw [e] at h
    cases ht : d.truth with
    | none => simp only [R.bind, ht] at h; exact h.elim
    | some t => cases t <;> simpa [R.bind, ht, liftO] using h
  | exn c d r1 =>
    rw [e] at h
    exact h
  | bad =>
    rw [e] at h
    exact h
theorem tru_not {P : Bool → Row → Hp → Hp → Prop} (h : OutA W G H E (tru (notF f1) env ρ) P) : OutA W G H E ((tru f1 env ρ).bind fun t r1 => .ok (!t) r1) P := by
  unfold tru notF at h
  unfold tru
  cases e : f1 env ρ with
  | ok d r1 =>
    rw [e] at h
    cases ht : d.truth with
    | none => simp only [R.bind, ht] at h; exact h.elim
    | some t =>
      have z : (D.bl (!t)).truth = some (!t) := rfl
      simpa [R.bind, ht, liftO, z] using h
  | exn c d r1 =>
    rw [e] at h
    exact h
  | bad =>
    rw [e] at h
    exact h
theorem dw_and (ha : PT X a (tT W H0 G0 E (tru f1))) (hb : PW X (.BoolOp .And (b :: rest) pos) (tT W H0 G0 E (tru f2))) : PW X (.BoolOp .And (a :: b :: rest) pos) (tT W H0 G0 E (tru (andF f1 f2))) :=
  ⟨fun wh pins s σ H Q I ⟨G, env, ρ, R, h⟩ => (pw_and ha hb).run wh pins s σ H Q I (tT_bind R (tru_and h) fun t ρ1 G1 H1 x R1 h1 => by
    cases t with
    | true => exact ⟨G1, env, ρ1, R1, h1⟩
    | false => exact h1.end_ R1)⟩
theorem dw_or (ha : PT X a (tT W H0 G0 E (tru f1))) (hb : PW X (.BoolOp .Or (b :: rest) pos) (tT W H0 G0 E (tru f2))) : PW X (.BoolOp .Or (a :: b :: rest) pos) (tT W H0 G0 E (tru (orF f1 f2))) :=
  ⟨fun wh pins s σ H Q I ⟨G, env, ρ, R, h⟩ => (pw_or ha hb).run wh pins s σ H Q I (tT_bind R (tru_or h) fun t ρ1 G1 H1 x R1 h1 => by
    cases t with
    | false => exact ⟨G1, env, ρ1, R1, h1⟩
    | true => exact h1.end_ R1)⟩
theorem dt_not (ha : PT X a (tT W H0 G0 E (tru f1))) : PT X (.UnaryOp .Not a pos) (tT W H0 G0 E (tru (notF f1))) :=
  PT.imp (pt_not ha) fun σ H Q ⟨G, env, ρ, R, h⟩ => tT_bind R (tru_not h) fun t ρ1 G1 H1 x R1 h1 => h1.end_ R1
theorem dt_ite (hc : PT X c (tT W H0 G0 E (tru f1))) (ha : PT X a (tT W H0 G0 E (tru f2))) (hb : PT X b (tT W H0 G0 E (tru f3))) : PT X (.IfExp c a b pos) (tT W H0 G0 E (tru (iteF f1 f2 f3))) :=
  ⟨fun pins s σ H Q I ⟨G, env, ρ, R, h⟩ => isTrue_IfExp (thn (hc.run pins s σ H (fun t H1 => (if t = true then tT W H0 G0 E (tru f2) else tT W H0 G0 E (tru f3)) σ H1 Q) I (tT_bind R (tru_ite h) fun t ρ1 G1 H1 x R1 h1 => by
    cases t with
    | true => exact ⟨G1, env, ρ1, R1, h1⟩
    | false => exact ⟨G1, env, ρ1, R1, h1⟩)) fun t s1 ⟨H1, I1, q1⟩ => by
      cases t with
      | true => exact ha.run pins s1 σ H1 Q I1 q1
      | false => exact hb.run pins s1 σ H1 Q I1 q1)⟩
/-! ### chains -/
theorem de_chain {op op' : CmpOp} {p q : P2} (hop : OpR X (compareOp op) (rP2 W (p2 p))) (hop' : OpR X (compareOp op') (rP2 W (p2 q))) (hp : boolish p) (ha : PE X a (tF W H0 G0 E f1)) (hb : PE X b (tF W H0 G0 E f2)) (hc : PE X c (tF W H0 G0 E f3)) (hm : lastMarks [op, op'] [b, c] = false) :
    PE X (.Compare a [op, op'] [b, c] pos) (tF W H0 G0 E (chainF p q f1 f2 f3)) :=
  PE.imp (pe_chain hop hop' ha hb hc hm) fun σ H Q ⟨G, env, ρ, R, h⟩ => tF_bind R (out_A h) fun x ρ1 v G1 H1 ex dv R1 h1 => tF_bind R1 h1 fun y ρ2 u G2 H2 x2 du R2 h2 => by
    cases hz : p2 p x y with
    | none => simp only [hz] at h2; exact h2.elim
    | some z =>
      obtain ⟨t, rfl⟩ := hp x y z hz
      simp only [hz] at h2
      refine ⟨G2, x, y, _, R2.sub, dv.mono x2.mono, du, hz, fun w G' H' ex' kp dw => ?_⟩
      obtain rfl := dw.ibl
      have R3 := R2.extend ex' (R2.row.ext kp)
      have h3 := OutA.trans h2 ex'
      refine ⟨t, rfl, ?_⟩
      cases t with
      | true =>
        refine tF_bind R3 h3 fun z ρ3 w G4 H4 x4 dw4 R4 h4 => ?_
        obtain ⟨zz, hzz, h5⟩ := lift_end h4
        exact ⟨G4, y, z, zz, R4.sub, du.mono (ex'.mono.trans x4.mono), dw4, hzz, fun w G' H' ex kp dw => h5 G' H' ex (R4.row.ext kp) w dw⟩
      | false => exact h3.end_ R3 _ (.bl _)
theorem dt_chain {op op' : CmpOp} {p q : P2} (hop : OpR X (compareOp op) (rP2 W (p2 p))) (hop' : OpR X (compareOp op') (rP2 W (p2 q))) (hp : boolish p) (hq : boolish q) (ha : PE X a (tF W H0 G0 E f1)) (hb : PE X b (tF W H0 G0 E f2)) (hc : PE X c (tF W H0 G0 E f3)) (hm : lastMarks [op, op'] [b, c] = false) :
    PT X (.Compare a [op, op'] [b, c] pos) (tT W H0 G0 E (tru (chainF p q f1 f2 f3))) :=
  PT.imp (pt_chain hop hop' ha hb hc hm) fun σ H Q ⟨G, env, ρ, R, h⟩ => by
    have h : OutA W G H E (((f1 env ρ).bind _).bind _) _ := h
    refine tF_bind R (asc h) fun x ρ1 v G1 H1 ex dv R1 h1 => ?_
    refine tF_bind R1 (asc h1) fun y ρ2 u G2 H2 x2 du R2 h2 => ?_
    cases hz : p2 p x y with
    | none => simp only [hz] at h2; exact h2.elim
    | some z =>
      obtain ⟨t, rfl⟩ := hp x y z hz
      simp only [hz] at h2
      refine ⟨G2, x, y, _, R2.sub, dv.mono x2.mono, du, hz, fun w G' H' ex' kp dw => ?_⟩
      obtain rfl := dw.ibl
      have R3 := R2.extend ex' (R2.row.ext kp)
      have h3 := OutA.trans h2 ex'
      refine ⟨t, rfl, ?_⟩
      cases t with
      | true =>
        refine tF_bind R3 (asc h3) fun z ρ3 w G4 H4 x4 dw4 R4 h4 => ?_
        cases hzz : p2 q y z with
        | none => simp only [hzz] at h4; exact h4.elim
        | some zz =>
          obtain ⟨t2, rfl⟩ := hq y z zz hzz
          simp only [hzz] at h4
          refine ⟨G4, y, z, _, R4.sub, du.mono (ex'.mono.trans x4.mono), dw4, hzz, fun w G' H' ex kp dw => ?_⟩
          obtain rfl := dw.ibl
          exact ⟨t2, rfl, h4 G' H' ex (R4.row.ext kp)⟩
      | false => exact ⟨false, rfl, h3.end_ R3⟩
end
end SW

/-! SwExp3: slices, fields, built-in calls, borrowing, globals. Own work. -/
namespace SW
open PySem PySem.Spec PyProof.Rows L2
section
variable {W : Wd} {X : Cx} {k : Nat} {H0 : Hp} {G0 : Bs} {G H : Hp} {E : XK} {σ : L2.St} {env : Env} {ρ : Row} {a b c : Expr} {rest : List Expr} {f f1 f2 f3 : Env → Row → R D} {pos : Pos}
/-! ### slices -/
def tO (W : Wd) (H0 : Hp) (G0 : Bs) (E : XK) (f : Env → Row → R (Option Int)) : TO := fun σ H Q => ∃ G env ρ, Rel W H0 G0 G H σ env ρ ∧ OutA W G H E (f env ρ) fun o _ _ H' => Q o H'
theorem tO_bind {α : Type} {g : Env → Row → R (Option Int)} {k : Option Int → Row → R α} {P : α → Row → Hp → Hp → Prop} {Q' : Option Int → Hp → Prop} (R : Rel W H0 G0 G H σ env ρ) (h : OutA W G H E ((g env ρ).bind k) P)
    (hk : ∀ b ρ1 G1 H1, Ext W G H G1 H1 → Rel W H0 G0 G1 H1 σ env ρ1 → OutA W G1 H1 E (k b ρ1) P → Q' b H1) : tO W H0 G0 E g σ H Q' := by
  refine ⟨G, env, ρ, R, ?_⟩
  cases e : g env ρ with
  | ok d ρ1 =>
    rw [e] at h
    exact fun G1 H1 x r => hk d ρ1 G1 H1 x (R.extend x r) (OutA.trans h x)
  | exn c d ρ1 =>
    rw [e] at h
    exact h
  | bad =>
    rw [e] at h
    exact h
theorem do_none : PO X none (tO W H0 G0 E fun _ r => .ok none r) := ⟨fun pins s σ H Q I ⟨G, env, ρ, R, h⟩ => po_none.run pins s σ H Q I (h.end_ R)⟩
@[reducible] def partF (f : Env → Row → R D) : Env → Row → R (Option Int) := fun env r => (f env r).bind fun d r1 => match d with
  | .int i => .ok (some i) r1
  | _ => .bad
theorem do_some (ha : PE X a (tF W H0 G0 E f)) : PO X (some a) (tO W H0 G0 E (partF f)) := ⟨fun pins s σ H Q I ⟨G, env, ρ, R, h⟩ => (po_some ha).run pins s σ H Q I (tF_bind R h fun d ρ1 v G1 H1 x dv R1 h1 => by
  cases d with
  | int i =>
    obtain rfl := dv.iint
    exact ⟨i, rfl, h1.end_ R1⟩
  | _ => exact h1.elim)⟩
@[reducible] def sliceF (f : Env → Row → R D) (g h : Env → Row → R (Option Int)) : Env → Row → R D := fun env r => (f env r).bind fun d r1 => (g env r1).bind fun l r2 => (h env r2).bind fun u r3 => liftO (slice d l u) r3
theorem DenAll.cut {xs : List D} {vs : List V} (a : DenAll W G xs vs) (lo hi : Option Int) : DenAll W G (sliceL xs lo hi) (cutV vs lo hi) := by
  unfold sliceL cutV
  rw [a.length]
  exact (a.drop _).take _
theorem sl_id {α : Type} (xs : List α) (lo hi : Option Int) (h : HT.sIx xs.length 0 lo = 0 ∧ HT.sIx xs.length xs.length hi = xs.length) : sliceL xs lo hi = xs := by
  unfold sliceL
  rw [h.1, h.2]
  simp
theorem de_slice {lo hi : Option Expr} {g h : Env → Row → R (Option Int)} {p2 : Pos} (g0 : Good W X k) (ha : PE X a (tF W H0 G0 E f)) (hl : PO X lo (tO W H0 G0 E g)) (hh : PO X hi (tO W H0 G0 E h)) :
    PE X (.Subscript a (.Slice lo hi none p2) pos) (tF W H0 G0 E (sliceF f g h)) :=
  PE.imp (pe_slice (sl_list.or sl_tupA) ha hl hh) fun σ H Q ⟨G, env, ρ, R, q⟩ => tF_bind R (out_A q) fun d ρ1 v G1 H1 x dv R1 h1 => tO_bind R1 h1 fun l ρ2 G2 H2 x2 R2 h2 => tO_bind R2 h2 fun u ρ3 G3 H3 x3 R3 h3 => by
    obtain ⟨z, hz, h4⟩ := lift_end h3
    have dv := dv.mono (x2.mono.trans x3.mono)
    cases d with
    | lst xs =>
      cases hz
      obtain ⟨p, vs, rfl, hp, aa⟩ := dv.ilst
      refine .inl ⟨p, vs, rfl, SqL.of (R3.sub _ _ hp), fun q hq => ?_⟩
      exact h4 _ _ (Ext.alloc R3.sub hq) (R3.row.ext (kept_upd hq)) _ (.lst upd_same ((aa.cut l u).mono (sub_upd (by
        cases e : G3 q with
        | none => rfl
        | some o => rw [R3.sub q o e] at hq; cases hq))))
    | tup xs =>
      cases hz
      obtain ⟨p, vs, rfl, hp, aa⟩ := dv.itup
      refine .inr ⟨p, vs, rfl, SqT.of (R3.sub _ _ hp), fun c => ?_, fun c q hq => ?_⟩
      · have e : sliceL xs l u = xs := sl_id xs l u (by rw [aa.length]; exact c)
        rw [e] at h4
        exact h4.end_ R3 _ dv
      · exact h4 _ _ (Ext.alloc R3.sub hq) (R3.row.ext (kept_upd hq)) _ (.tup upd_same ((aa.cut l u).mono (sub_upd (by
        cases e : G3 q with
        | none => rfl
        | some o => rw [R3.sub q o e] at hq; cases hq))))
    | _ => cases hz
/-! ### fields -/
theorem DenF.get : ∀ {ns : List Str} {ds : List D} {fs : List (Str × V)} {i : Nat} {d : D} {n : Str}, ns.Nodup → DenF W G ns ds fs → ds[i]? = some d → ns[i]? = some n → ∃ v, fs.lookup n = some v ∧ Den W G d v := by
  intro ns
  induction ns with
  | nil => intro ds fs i d n nd h e e2; simp at e2
  | cons m ns ih =>
    intro ds fs i d n nd h e e2
    cases h with
    | nil => simp at e
    | cons h a =>
      cases i with
      | zero =>
        simp at e e2
        subst e
        subst e2
        exact ⟨_, by simp [List.lookup], h⟩
      | succ i =>
        simp only [List.getElem?_cons_succ] at e e2
        rw [List.nodup_cons] at nd
        obtain ⟨v, h1, h2⟩ := ih nd.2 a e e2
        refine ⟨v, ?_, h2⟩
        have : (n == m) = false := by
          rw [beq_eq_false_iff_ne]
          rintro rfl
          exact nd.1 (List.mem_of_getElem? e2)
        rw [List.lookup_cons, this]
        exact h1
@[reducible] def fldF (c i : Nat) (f : Env → Row → R D) : Env → Row → R D := fun env r => (f env r).bind fun d r1 => liftO (fldOf c i d) r1
theorem de_fld {c i : Nat} {n : Str} (g : Good W X k) (ha : PE X a (tF W H0 G0 E f)) (hn : (W.fld c)[i]? = some n) (hb : attributeBase a n X.env (eval a X.env) = eval a X.env) : PE X (.Attribute a n pos) (tF W H0 G0 E (fldF c i f)) :=
  PE.imp (pe_fld ha hb) fun σ H Q ⟨G, env, ρ, R, q⟩ => tF_bind R (out_A q) fun d ρ1 v G1 H1 x dv R1 h1 => by
    obtain ⟨z, hz, h4⟩ := lift_end h1
    cases d with
    | ins e fs =>
      have hzz : e = c ∧ fs[i]? = some z := by
        unfold fldOf at hz
        by_cases q : e = c
        · exact ⟨q, by simpa [q] using hz⟩
        · simp [q] at hz
      obtain ⟨ec, hzz⟩ := hzz
      subst ec
      obtain ⟨p, dx, vs, rfl, lc, hp, aa⟩ := dv.iins
      obtain ⟨w, hw, dw⟩ := aa.get (g.fx.fnd e lc).1 hzz hn
      refine ⟨p, W.clA e, dx, vs, w, rfl, R1.sub _ _ hp, ?_, ?_, hw, h4.end_ R1 _ dw⟩
      · rw [g.K]
        exact (g.fx.cls e lc).1
      · rw [g.K]
        exact g.fx.noat e n lc (List.mem_of_getElem? hn)
    | _ => cases hz
/-! ### a call of a built-in -/
theorem de_call1 {es : List Expr} {fs : Env → Row → R (List D)} {x : Str} {nm : Pos} {id : String} {p : D → Option D} (hc : CallR X (.builtin id) (rP1 W p)) (hg : Gl X x) (hm : X.mg x = none) (hv : bootBuiltins x = some (.builtin id)) (ha : PE X a (tF W H0 G0 E f))
    (hn : x ≠ "__name__") (hdb : (x == ("__debug__" : Str)) = false) (he : starEach [a] X.env = (false, eval a X.env) :: starEach [] X.env) (hpl : (backTo pos (starEach [] X.env)).any (·.1) = false) :
    PE X (.Call (.Name x nm) [a] [] pos) (tF W H0 G0 E fun env r => (f env r).bind fun d r1 => liftO (p d) r1) :=
  PE.imp (pe_callB hc hg hm hv (pa_cons ha pa_nil he) hn hdb he hpl) fun σ H Q ⟨G, env, ρ, R, q⟩ => tF_bind R (out_A q) fun d ρ1 v G1 H1 x dv R1 h1 => by
    obtain ⟨z, hz, h4⟩ := lift_end h1
    exact ⟨v, G1, d, z, rfl, R1.sub, dv, hz, fun w G' H' ex kp dw => h4 G' H' ex (R1.row.ext kp) w dw⟩
theorem de_callT {x : Str} {nm : Pos} {id : String} {p : D → Option D} (hc : CallR X (.type id) (rP1 W p)) (hg : Gl X x) (hm : X.mg x = none) (hv : bootBuiltins x = some (.type id)) (ha : PE X a (tF W H0 G0 E f))
    (hn : x ≠ "__name__") (hdb : (x == ("__debug__" : Str)) = false) (he : starEach [a] X.env = (false, eval a X.env) :: starEach [] X.env) (hpl : (backTo pos (starEach [] X.env)).any (·.1) = false) :
    PE X (.Call (.Name x nm) [a] [] pos) (tF W H0 G0 E fun env r => (f env r).bind fun d r1 => liftO (p d) r1) :=
  PE.imp (pe_callTy hc hg hm hv (pa_cons ha pa_nil he) hn hdb he hpl) fun σ H Q ⟨G, env, ρ, R, q⟩ => tF_bind R (out_A q) fun d ρ1 v G1 H1 x dv R1 h1 => by
    obtain ⟨z, hz, h4⟩ := lift_end h1
    exact ⟨v, G1, d, z, rfl, R1.sub, dv, hz, fun w G' H' ex kp dw => h4 G' H' ex (R1.row.ext kp) w dw⟩
/-- .. that makes a new thing -/
theorem dn_call1 {x : Str} {nm : Pos} {id : String} {p : D → Option D} (hc : CallR X (.builtin id) (rP1N W p)) (hg : Gl X x) (hm : X.mg x = none) (hv : bootBuiltins x = some (.builtin id)) (ha : PE X a (tF W H0 G0 E f))
    (hn : x ≠ "__name__") (hdb : (x == ("__debug__" : Str)) = false) (he : starEach [a] X.env = (false, eval a X.env) :: starEach [] X.env) (hpl : (backTo pos (starEach [] X.env)).any (·.1) = false) :
    PE X (.Call (.Name x nm) [a] [] pos) (tN W H0 G0 E fun env r => (f env r).bind fun d r1 => liftO (p d) r1) :=
  PE.imp (pe_callB hc hg hm hv (pa_cons ha pa_nil he) hn hdb he hpl) fun σ H Q ⟨G, env, ρ, R, q⟩ => tF_bind R (outN_A q) fun d ρ1 v G1 H1 x dv R1 h1 => by
    obtain ⟨z, hz, h4⟩ := lift_end h1
    exact ⟨v, G1, d, z, rfl, R1.sub, dv, hz, fun p G' H' ex kp hp hg o => h4 G' H' ex (R1.row.ext kp) p (x.free (.inl hp)) hg o⟩
theorem dn_callT {x : Str} {nm : Pos} {id : String} {p : D → Option D} (hc : CallR X (.type id) (rP1N W p)) (hg : Gl X x) (hm : X.mg x = none) (hv : bootBuiltins x = some (.type id)) (ha : PE X a (tF W H0 G0 E f))
    (hn : x ≠ "__name__") (hdb : (x == ("__debug__" : Str)) = false) (he : starEach [a] X.env = (false, eval a X.env) :: starEach [] X.env) (hpl : (backTo pos (starEach [] X.env)).any (·.1) = false) :
    PE X (.Call (.Name x nm) [a] [] pos) (tN W H0 G0 E fun env r => (f env r).bind fun d r1 => liftO (p d) r1) :=
  PE.imp (pe_callTy hc hg hm hv (pa_cons ha pa_nil he) hn hdb he hpl) fun σ H Q ⟨G, env, ρ, R, q⟩ => tF_bind R (outN_A q) fun d ρ1 v G1 H1 x dv R1 h1 => by
    obtain ⟨z, hz, h4⟩ := lift_end h1
    exact ⟨v, G1, d, z, rfl, R1.sub, dv, hz, fun p G' H' ex kp hp hg o => h4 G' H' ex (R1.row.ext kp) p (x.free (.inl hp)) hg o⟩
end
end SW

/-! SwExp4: freezing, borrowing, list.index, two-argument built-ins. Own work. -/
namespace SW
open PySem PySem.Spec PyProof.Rows L2
theorem getD_set {α : Type} (xs : List α) (i j : Nat) (a b : α) : (xs.set i a).getD j b = if i = j ∧ i < xs.length then a else xs.getD j b := by
  simp only [List.getD_eq_getElem?_getD, List.getElem?_set]
  by_cases e : i = j
  · subst e
    by_cases l : i < xs.length
    · simp [l]
    · simp [l]
  · simp [e]
theorem getD_lt {env : Env} {i : Nat} {s : Sl} (h : env.getD i .no = s) (hs : s ≠ .no) : i < env.length := by
  by_cases l : i < env.length
  · exact l
  · rw [List.getD_eq_getElem?_getD, List.getElem?_eq_none (Nat.le_of_not_lt l)] at h
    exact absurd h.symm hs
theorem ow_inj {d e : D} (h : Sl.ow d = Sl.ow e) : d = e := by
  cases h
  rfl
section
variable {W : Wd} {H0 : Hp} {G0 : Bs} {G H : Hp} {σ : L2.St} {env : Env} {ρ : Row} {E : XK}
/-- an owned name's object is frozen -/
theorem Rel.frz (R : Rel W H0 G0 G H σ env ρ) {i : Nat} {d : D} {p : Addr} (h : env.getD i .no = .ow d) (hs : σ[i]? = some (some (.ref p))) : ∃ o, H p = some o ∧ G p = none ∧ Fr H0 p ∧ W.r ≠ some p ∧ OwnAt W G H d p ∧ Rel W H0 G0 (upd G p o) H σ (env.set i (.sh d)) ρ := by
  obtain ⟨p', hp', o, h0, hg, hr⟩ := R.own h
  rw [hs] at hp'
  cases hp'
  obtain ⟨u, hu, dn⟩ := o.den hg
  refine ⟨u, hu, hg, h0, hr, o, ?_⟩
  have il := getD_lt h (by simp)
  have sb : Sub G (upd G p u) := sub_upd hg
  exact {
    ext := R.ext.freeze h0 hu hg (o.nt hu)
    base := R.base.trans sb
    floor := R.floor.trans sb
    len := by rw [List.length_set]; exact R.len
    slot := fun j => by
      rw [getD_set]
      by_cases e : i = j ∧ i < env.length
      · rw [if_pos e, ← e.1, hs]
        exact .sh dn
      · rw [if_neg e]
        have q := R.slot j
        generalize e1 : env.getD j .no = sl at q ⊢
        generalize e2 : σ[j]? = x at q ⊢
        cases q with
        | no => exact .no
        | sh a => exact .sh (a.mono sb)
        | ow a b c r =>
          rename_i d' p'
          refine .ow (a.mono sb fun o h _ => h) b ?_ r
          rw [upd_ne]
          · exact c
          · rintro rfl
            exact e ⟨(R.apart j i _ _ _ e1 h e2 hs).symm, il⟩
    apart := fun j l p' d' e' h1 h2 h3 h4 => by
      rw [getD_set] at h1 h2
      by_cases e1 : i = j ∧ i < env.length
      · rw [if_pos e1] at h1
        cases h1
      · rw [if_neg e1] at h1
        by_cases e2 : i = l ∧ i < env.length
        · rw [if_pos e2] at h2
          cases h2
        · rw [if_neg e2] at h2
          exact R.apart j l p' d' e' h1 h2 h3 h4
    row := R.row
    nrow := fun a ha => by
      rw [upd_ne]
      · exact R.nrow a ha
      · rintro rfl
        exact hr ha
    tabs := R.tabs
    gnt := fun a ps q => by
      by_cases e : a = p
      · subst e
        rw [upd_same] at q
        exact o.nt hu ps (Option.some.inj q)
      · rw [upd_ne e] at q
        exact R.gnt a ps q
    self := R.self }
theorem set_same {env : Env} {i : Nat} {s : Sl} (h : env.getD i .no = s) : env.set i s = env := by
  by_cases l : i < env.length
  · rw [List.getD_eq_getElem?_getD, List.getElem?_eq_getElem l, Option.getD_some] at h
    subst h
    exact List.set_getElem_self l
  · rw [List.set_eq_of_length_le (Nat.le_of_not_lt l)]
theorem Rel.no (R : Rel W H0 G0 G H σ env ρ) (i : Nat) : Rel W H0 G0 G H σ (env.set i .no) ρ where
  ext := R.ext
  base := R.base
  floor := R.floor
  len := by rw [List.length_set]; exact R.len
  slot := fun j => by
    rw [getD_set]
    by_cases e : i = j ∧ i < env.length
    · rw [if_pos e]
      exact .no
    · rw [if_neg e]
      exact R.slot j
  apart := fun j l p' d' e' h1 h2 h3 h4 => by
    rw [getD_set] at h1 h2
    by_cases e1 : i = j ∧ i < env.length
    · rw [if_pos e1] at h1
      cases h1
    · rw [if_neg e1] at h1
      by_cases e2 : i = l ∧ i < env.length
      · rw [if_pos e2] at h2
        cases h2
      · rw [if_neg e2] at h2
        exact R.apart j l p' d' e' h1 h2 h3 h4
  row := R.row
  nrow := R.nrow
  tabs := R.tabs
  gnt := R.gnt
  self := R.self
theorem Rel.kill : ∀ (is : List Nat) {env : Env}, Rel W H0 G0 G H σ env ρ → Rel W H0 G0 G H σ (killE is env) ρ
  | [], _, R => R
  | i :: is, _, R => Rel.kill is (R.no i)
/-- names frozen for good -/
theorem Rel.frzs : ∀ (is : List Nat) {G : Hp} {env : Env}, Rel W H0 G0 G H σ env ρ → ∃ G', Rel W H0 G0 G' H σ (frzE is env) ρ
  | [], G, _, R => ⟨G, R⟩
  | i :: is, G, env, R => by
    unfold frzE
    cases h : env.getD i .no with
    | ow d =>
      obtain ⟨p, hp, _⟩ := R.own h
      obtain ⟨o, _, _, _, _, _, R'⟩ := R.frz h hp
      exact Rel.frzs is R'
    | no =>
      have e : env.set i (Sl.no).frz = env := set_same h
      rw [e]
      exact Rel.frzs is R
    | sh d =>
      have e : env.set i (Sl.sh d).frz = env := set_same h
      rw [e]
      exact Rel.frzs is R
/-- one object given back: the rest is still told -/
theorem Ext.back {G' H' : Hp} {p : Addr} {o : HO} (no : ∀ ps, o ≠ .tbl ps) (hp : H p = some o) (hg : G p = none) (e : Ext W (upd G p o) H G' H') : Ext W G H (del G' p) H' where
  keep := e.keep
  there := e.there
  sub := fun a u h => e.sub a u (del_sub _ _ a u h)
  mono := fun a u h => by
    have q := e.mono a u (upd_some hg h)
    rw [del_ne]
    · exact q
    · rintro rfl
      rw [hg] at h
      cases h
  new := fun a h => by
    by_cases q : a = p
    · subst q
      rw [del_same] at h
      exact absurd rfl h
    · rw [del_ne q] at h
      rcases e.new a h with z | z
      · rw [upd_ne q] at z
        exact .inl z
      · exact .inr z
  tabs := e.tabs
  ntb := fun h a ps q => by
    unfold del at q
    split at q
    · cases q
    · exact e.ntb (fun b qs z => by
        by_cases c : b = p
        · subst c
          rw [upd_same] at z
          exact no qs (Option.some.inj z)
        · rw [upd_ne c] at z
          exact h b qs z) a ps q
theorem den_back {G' : Hp} {p : Addr} {o : HO} {d e : D} {v : V} (hp : G' p = some o) (c : d.clear (.ow e) = true) (ho : OwnAt W G H e p) (hH : H p = some o) (dn : Den W G' d v) : Den W (del G' p) d v := by
  have hx : ∀ x, G' p = some x → x = o := fun x h => by
    rw [hp] at h
    exact (Option.some.inj h).symm
  cases e with
  | lst ds =>
    obtain ⟨vs, h, _⟩ := ho
    rw [hH] at h
    cases h
    exact Den.noLst (fun x h => by rw [hx x h]; trivial) c dn
  | dic t ds =>
    refine Den.noDic (fun x h => ?_) c dn
    rw [hx x h]
    cases t with
    | true =>
      obtain ⟨vs, h, _⟩ := ho
      rw [hH] at h
      cases h
      trivial
    | false =>
      obtain ⟨vs, h, _⟩ := ho
      rw [hH] at h
      cases h
      trivial
  | ins t ds =>
    obtain ⟨_, dx, vs, h, _⟩ := ho
    rw [hH] at h
    cases h
    exact Den.noIns (fun x h => by rw [hx x h]; trivial) c dn
  | _ => exact ho.elim
theorem clear_set {is : List Nat} {env : Env} {i : Nat} {d e : D} (h : clearAll is env d = true) : clearAll is (env.set i (.sh e)) d = true := by
  unfold clearAll at h ⊢
  rw [List.all_eq_true] at h ⊢
  intro j hj
  rw [getD_set]
  by_cases c : i = j ∧ i < env.length
  · rw [if_pos c]
    rfl
  · rw [if_neg c]
    exact h j hj
theorem Rel.borrow : ∀ (is : List Nat) {G : Hp} {env : Env}, Rel W H0 G0 G H σ env ρ → ∃ G1, Rel W H0 G0 G1 H σ (frzE is env) ρ ∧
    ∀ d v G' H', clearAll is env d = true → Ext W G1 H G' H' → Den W G' d v → ∃ G2, Ext W G H G2 H' ∧ Den W G2 d v
  | [], G, env, R => ⟨G, R, fun d v G' H' _ e dn => ⟨G', e, dn⟩⟩
  | i :: is, G, env, R => by
    unfold frzE
    cases h : env.getD i .no with
    | ow d0 =>
      obtain ⟨p, hp, _⟩ := R.own h
      obtain ⟨o, ho, hg, h0, hr, ow, R'⟩ := R.frz h hp
      obtain ⟨G1, R1, back⟩ := Rel.borrow is R'
      refine ⟨G1, R1, fun d v G' H' c e dn => ?_⟩
      have c1 : d.clear (.ow d0) = true := by
        unfold clearAll at c
        rw [List.all_cons, Bool.and_eq_true, h] at c
        exact c.1
      have c2 : clearAll is (env.set i (.sh d0)) d = true := clear_set (by
        unfold clearAll at c ⊢
        rw [List.all_cons, Bool.and_eq_true] at c
        exact c.2)
      obtain ⟨G2, e2, dn2⟩ := back d v G' H' c2 e dn
      exact ⟨del G2 p, Ext.back (ow.nt ho) ho hg e2, den_back (e2.mono _ _ upd_same) c1 ow ho dn2⟩
    | no =>
      have e : env.set i (Sl.no).frz = env := set_same h
      rw [e]
      obtain ⟨G1, R1, back⟩ := Rel.borrow is R
      refine ⟨G1, R1, fun d v G' H' c => back d v G' H' ?_⟩
      unfold clearAll at c ⊢
      rw [List.all_cons, Bool.and_eq_true] at c
      exact c.2
    | sh d =>
      have e : env.set i (Sl.sh d).frz = env := set_same h
      rw [e]
      obtain ⟨G1, R1, back⟩ := Rel.borrow is R
      refine ⟨G1, R1, fun d v G' H' c => back d v G' H' ?_⟩
      unfold clearAll at c ⊢
      rw [List.all_cons, Bool.and_eq_true] at c
      exact c.2
theorem unborrow_ok (is : List Nat) (env : Env) (d : D) (r : Row) : unborrow false is env (.ok d r) = if clearAll is env d = true then .ok d r else .bad := rfl
theorem unborrow_okN (is : List Nat) (env : Env) (d : D) (r : Row) : unborrow true is env (.ok d r) = if clearB true is env d = true then .ok d r else .bad := rfl
theorem unborrow_exn (nw : Bool) (is : List Nat) (env : Env) (c : Nat) (d : D) (r : Row) : unborrow nw is env (.exn c d r) = if clearAll is env d = true then .exn c d r else .bad := rfl
@[reducible] def borrowF (nw : Bool) (is : List Nat) (f : Env → Row → R D) : Env → Row → R D := fun env r => unborrow nw is env (f (frzE is env) r)
theorem de_borrow {X : Cx} {a : Expr} {f : Env → Row → R D} (is : List Nat) (ha : PE X a (tF W H0 G0 E f)) : PE X a (tF W H0 G0 E (borrowF false is f)) :=
  PE.imp ha fun σ H Q ⟨G, env, ρ, R, h⟩ => by
    obtain ⟨G1, R1, back⟩ := R.borrow is
    refine ⟨G1, frzE is env, ρ, R1, ?_⟩
    unfold borrowF at h
    cases e : f (frzE is env) ρ with
    | ok d r1 =>
      rw [e, unborrow_ok] at h
      by_cases c : clearAll is env d = true
      · rw [if_pos c] at h
        intro v G' H' ex rw' dn
        obtain ⟨G2, e2, dn2⟩ := back d v G' H' c ex dn
        exact h v G2 H' e2 rw' dn2
      · rw [if_neg c] at h
        exact h.elim
    | exn cc d r1 =>
      rw [e, unborrow_exn] at h
      by_cases c : clearAll is env d = true
      · rw [if_pos c] at h
        intro v G' H' x ex rw' dn hx hx'
        obtain ⟨G2, e2, dn2⟩ := back d v G' H' c ex dn
        exact h v G2 H' x e2 rw' dn2 hx hx'
      · rw [if_neg c] at h
        exact h.elim
    | bad =>
      rw [e] at h
      exact h.elim
/-- .. as a test: its value is a truth value -/
theorem dt_borrow {X : Cx} {a : Expr} {f : Env → Row → R D} (is : List Nat) (ha : PT X a (tT W H0 G0 E (tru f))) : PT X a (tT W H0 G0 E (tru (borrowF false is f))) :=
  PT.imp ha fun σ H Q ⟨G, env, ρ, R, h⟩ => by
    obtain ⟨G1, R1, back⟩ := R.borrow is
    refine ⟨G1, frzE is env, ρ, R1, ?_⟩
    have h : OutA W G H E ((borrowF false is f env ρ).bind fun d r1 => liftO d.truth r1) _ := h
    show OutA W G1 H E ((f (frzE is env) ρ).bind fun d r1 => liftO d.truth r1) _
    unfold borrowF at h
    cases e : f (frzE is env) ρ with
    | ok d r1 =>
      rw [e, unborrow_ok] at h
      by_cases c : clearAll is env d = true
      · rw [if_pos c] at h
        have h : OutA W G H E (liftO d.truth r1) _ := h
        show OutA W G1 H E (liftO d.truth r1) _
        cases ht : d.truth with
        | none =>
          rw [ht] at h
          exact h.elim
        | some t =>
          rw [ht] at h
          intro G' H' ex rw'
          have cb : clearAll is env (.bl t) = true := by
            unfold clearAll
            rw [List.all_eq_true]
            intro j hj
            have hc : clearAll is env d = true := c
            unfold clearAll at hc
            rw [List.all_eq_true] at hc
            have hcj := hc j hj
            generalize env.getD j .no = sl at hcj
            cases sl with
            | ow e0 => cases e0 <;> first | rfl | cases hcj
            | _ => rfl
          obtain ⟨G2, e2, _⟩ := back (.bl t) (.bl t) G' H' cb ex (.bl t)
          exact h G2 H' e2 rw'
      · rw [if_neg c] at h
        exact h.elim
    | exn cc d r1 =>
      rw [e, unborrow_exn] at h
      by_cases c : clearAll is env d = true
      · rw [if_pos c] at h
        intro v G' H' x ex rw' dn hx hx'
        obtain ⟨G2, e2, dn2⟩ := back d v G' H' c ex dn
        exact h v G2 H' x e2 rw' dn2 hx hx'
      · rw [if_neg c] at h
        exact h.elim
    | bad =>
      rw [e] at h
      exact h.elim
/-- what is within a new list is still told -/
theorem Rel.borrowN : ∀ (is : List Nat) {G : Hp} {env : Env}, Rel W H0 G0 G H σ env ρ → ∃ G1, Rel W H0 G0 G1 H σ (frzE is env) ρ ∧
    (∀ d v G' H', clearAll is env d = true → Ext W G1 H G' H' → Den W G' d v → ∃ G2, Ext W G H G2 H' ∧ Den W G2 d v) ∧
    ∀ ds vs p G' H', (is.all fun i => clearNew (env.getD i .no) (.lst ds)) = true → Ext W G1 H G' H' → G' p = none → DenAll W G' ds vs → ∃ G2, Ext W G H G2 H' ∧ DenAll W G2 ds vs ∧ G2 p = none
  | [], G, env, R => ⟨G, R, fun d v G' H' _ e dn => ⟨G', e, dn⟩, fun ds vs p G' H' _ e hp dn => ⟨G', e, dn, hp⟩⟩
  | i :: is, G, env, R => by
    unfold frzE
    have tail : ∀ {env' : Env}, (∀ j, env'.getD j .no = env.getD j .no ∨ ∃ e, env'.getD j .no = .sh e) → ∀ ds, ((i :: is).all fun i => clearNew (env.getD i .no) (.lst ds)) = true → (is.all fun i => clearNew (env'.getD i .no) (.lst ds)) = true := by
      intro env' he ds c
      rw [List.all_cons, Bool.and_eq_true] at c
      have c2 := c.2
      rw [List.all_eq_true] at c2 ⊢
      intro j hj
      rcases he j with q | ⟨e, q⟩
      · rw [q]
        exact c2 j hj
      · rw [q]
        rfl
    have tailA : ∀ {env' : Env}, (∀ j, env'.getD j .no = env.getD j .no ∨ ∃ e, env'.getD j .no = .sh e) → ∀ d, clearAll (i :: is) env d = true → clearAll is env' d = true := by
      intro env' he d c
      unfold clearAll at c ⊢
      rw [List.all_cons, Bool.and_eq_true] at c
      have c2 := c.2
      rw [List.all_eq_true] at c2 ⊢
      intro j hj
      rcases he j with q | ⟨e, q⟩
      · rw [q]
        exact c2 j hj
      · rw [q]
        rfl
    cases h : env.getD i .no with
    | ow d0 =>
      obtain ⟨p, hp, _⟩ := R.own h
      obtain ⟨o, ho, hg, h0, hr, ow, R'⟩ := R.frz h hp
      obtain ⟨G1, R1, back, backN⟩ := Rel.borrowN is R'
      have he : ∀ j, (env.set i (.sh d0)).getD j .no = env.getD j .no ∨ ∃ e, (env.set i (.sh d0)).getD j .no = .sh e := fun j => by
        rw [getD_set]
        by_cases c : i = j ∧ i < env.length
        · rw [if_pos c]
          exact .inr ⟨_, rfl⟩
        · rw [if_neg c]
          exact .inl rfl
      refine ⟨G1, R1, fun d v G' H' c e dn => ?_, fun ds vs p' G' H' c e hp' dn => ?_⟩
      · have c1 : d.clear (.ow d0) = true := by
          unfold clearAll at c
          rw [List.all_cons, Bool.and_eq_true, h] at c
          exact c.1
        obtain ⟨G2, e2, dn2⟩ := back d v G' H' (tailA he d c) e dn
        exact ⟨del G2 p, Ext.back (ow.nt ho) ho hg e2, den_back (e2.mono _ _ upd_same) c1 ow ho dn2⟩
      · have c1 : clearNew (.ow d0) (.lst ds) = true := by
          rw [List.all_cons, Bool.and_eq_true, h] at c
          exact c.1
        obtain ⟨G2, e2, dn2, hp2⟩ := backN ds vs p' G' H' (tail he ds c) e hp' dn
        refine ⟨del G2 p, Ext.back (ow.nt ho) ho hg e2, ?_, ?_⟩
        · have hx : ∀ x, G2 p = some x → x = o := fun x q => by
            rw [e2.mono _ _ upd_same] at q
            exact (Option.some.inj q).symm
          cases d0 with
          | lst es =>
            obtain ⟨us, q, _⟩ := ow
            rw [ho] at q
            cases q
            exact DenAll.noLst (fun x h => by rw [hx x h]; trivial) c1 dn2
          | dic t es =>
            have c1 : D.noDic (.lst ds) = true := c1
            refine DenAll.noDic (fun x h => ?_) (by simpa [D.noDic] using c1) dn2
            rw [hx x h]
            cases t with
            | true =>
              obtain ⟨us, q, _⟩ := ow
              rw [ho] at q
              cases q
              trivial
            | false =>
              obtain ⟨us, q, _⟩ := ow
              rw [ho] at q
              cases q
              trivial
          | ins t es =>
            have c1 : D.noIns (.lst ds) = true := c1
            obtain ⟨_, dx, us, q, _⟩ := ow
            rw [ho] at q
            cases q
            exact DenAll.noIns (fun x h => by rw [hx x h]; trivial) (by simpa [D.noIns] using c1) dn2
          | _ => exact ow.elim
        · unfold del
          split
          · rfl
          · exact hp2
    | no =>
      have e : env.set i (Sl.no).frz = env := set_same h
      rw [e]
      obtain ⟨G1, R1, back, backN⟩ := Rel.borrowN is R
      exact ⟨G1, R1, fun d v G' H' c => back d v G' H' (tailA (fun j => .inl rfl) d c), fun ds vs p G' H' c => backN ds vs p G' H' (tail (fun j => .inl rfl) ds c)⟩
    | sh d =>
      have e : env.set i (Sl.sh d).frz = env := set_same h
      rw [e]
      obtain ⟨G1, R1, back, backN⟩ := Rel.borrowN is R
      exact ⟨G1, R1, fun d v G' H' c => back d v G' H' (tailA (fun j => .inl rfl) d c), fun ds vs p G' H' c => backN ds vs p G' H' (tail (fun j => .inl rfl) ds c)⟩
/-- what is wanted of a new list is wanted of it when it was made with borrowed names -/
theorem bn_imp {f : Env → Row → R D} {is : List Nat} (hf : ∀ env r d r1, f env r = .ok d r1 → ∃ ds, d = .lst ds) {Q : VK} (q : tN W H0 G0 E (borrowF true is f) σ H Q) : tN W H0 G0 E f σ H Q := by
  obtain ⟨G, env, ρ, R, h⟩ := q
  obtain ⟨G1, R1, back, backN⟩ := R.borrowN is
  refine ⟨G1, frzE is env, ρ, R1, ?_⟩
  unfold borrowF at h
  cases e : f (frzE is env) ρ with
  | ok d r1 =>
    rw [e, unborrow_okN] at h
    obtain ⟨ds, rfl⟩ := hf _ _ _ _ e
    by_cases c : clearB true is env (.lst ds) = true
    · rw [if_pos c] at h
      intro p G' H' ex rw' hp hg o
      obtain ⟨vs, hv, dn⟩ := o
      obtain ⟨G2, e2, dn2, hp2⟩ := backN ds vs p G' H' c ex hg dn
      exact h p G2 H' e2 rw' hp hp2 ⟨vs, hv, dn2⟩
    · rw [if_neg c] at h
      exact h.elim
  | exn cc d r1 =>
    rw [e, unborrow_exn] at h
    by_cases c : clearAll is env d = true
    · rw [if_pos c] at h
      intro v G' H' x ex rw' dn hx hx'
      obtain ⟨G2, e2, dn2⟩ := back d v G' H' c ex dn
      exact h v G2 H' x e2 rw' dn2 hx hx'
    · rw [if_neg c] at h
      exact h.elim
  | bad =>
    rw [e] at h
    exact h.elim
theorem dn_borrow {X : Cx} {a : Expr} {f : Env → Row → R D} (is : List Nat) (hf : ∀ env r d r1, f env r = .ok d r1 → ∃ ds, d = .lst ds) (ha : PE X a (tN W H0 G0 E f)) : PE X a (tN W H0 G0 E (borrowF true is f)) := PE.imp ha fun σ H Q q => bn_imp hf q
end
end SW

/-! SwIt: what a for and a comprehension go over: enumerate and zip of lists and tuples. Own work. -/
namespace SW
open PySem PySem.Spec PyProof.Rows L2

/-! ### enumerate(v), v a list or a tuple -/
theorem meets_enum1 {v : Value} {o : Obj} {H : Heap → Prop} (B : Begins v o H) :
    Meets (Builtin.«enumerate.__new__» ⟨[.type "enumerate", v], []⟩) (fun _ R s => H s.heap ∧
      R (.ok (.ret (.ref (s.heap.push o).objs.size))) { s with heap := (s.heap.push o).push { cls := .type "enumerate", data := .fields #[.none, .bool false, .ref s.heap.objs.size, rawInt 0, .none, .none] } }) :=
  .of_wp fun prog w A R s h => by
    obtain ⟨hp, g, d, tk, os⟩ := s; obtain ⟨h1, h⟩ := h
    have hsub := sub_enumerate
    have q1 : ∀ {A' : Around} {E : Value → Shared → Prop} {Q : Value → Shared → Prop}, Q (.ref hp.objs.size) ⟨hp.push o, g, d, tk, os⟩ → wpAny (model prog w) A' (pyIter v) Q E ⟨hp, g, d, tk, os⟩ :=
      fun q => B.iter prog w _ _ ⟨hp, g, d, tk, os⟩ _ h1 q
    wp_walk using q1
    refine wpAny_stack_any fun st => wpAny_pure ?_
    split
    · rename_i c _ _ _ _ _
      cases (c == Value.type "enumerate")
      · wp_walk using q1
        exact ⟨_, rfl, h⟩
      · wp_walk using q1
        exact ⟨_, rfl, h⟩
    · wp_walk using q1
      exact ⟨_, rfl, h⟩
theorem enum1 {prog : Program} {w : World} {A : Around} {E : Value → Shared → Prop} {s : Shared} {v : Value} {o : Obj} {H : Heap → Prop} {Q : Value → Shared → Prop} (B : Begins v o H) (h1 : H s.heap)
    (h : ∀ h', IsEnum h' (s.heap.objs.size + 1) s.heap.objs.size 0 .none → h'.get? s.heap.objs.size = some o → h'.objs.size = s.heap.objs.size + 2 →
      (∀ b o, s.heap.get? b = some o → h'.get? b = some o) → Q (.ref (s.heap.objs.size + 1)) { s with heap := h' }) :
    wpAny (model prog w) A (call (.type "enumerate") [v]) Q E s := by
  refine callType_new F.called_enumerate (by decide) (F.typeCall_enumerate_1 _) (F.newCall_enumerate_1 _) (fun obj => F.args_object_init_2 obj _) F.entry_enumerate_new (meets_enum1 B) ⟨h1, ?_⟩
  have hz : (s.heap.push o).objs.size = s.heap.objs.size + 1 := Heap.size_push ..
  show _ ∧ _
  rw [hz]
  have he : IsEnum ((s.heap.push o).push { cls := .type "enumerate", data := .fields #[.none, .bool false, .ref s.heap.objs.size, rawInt 0, .none, .none] }) (s.heap.objs.size + 1) s.heap.objs.size 0 .none := by
    have := Heap.get?_push_size (s.heap.push o) (o := { cls := .type "enumerate", data := .fields #[.none, .bool false, .ref s.heap.objs.size, rawInt 0, .none, .none] }) rfl
    rw [hz] at this; exact this
  exact ⟨⟨_, he, rfl⟩, h _ he (Heap.get?_push_of_some _ (Heap.get?_push_size _ B.free)) (by rw [Heap.size_push, hz]) fun b u x => Heap.get?_push_of_some _ (Heap.get?_push_of_some _ x)⟩

/-! ### an iterator that hands out new tuples, over what stays -/
def ItN (B : Hp → Prop) (n : Nat) (Y : Nat → List V) : It := ⟨fun i H => i < n ∧ B H, fun i H v H' => ∃ T, v = .ref T ∧ H T = none ∧ H' = upd H T (.tup (Y i)), fun i H => n ≤ i ∧ B H⟩
theorem turn_new {P : Program} {w : World} {K : PySem.W.Frag} {elts : List Expr} {kk : Nat} {tpos : Pos} {B : Hp → Prop} {n : Nat} {Y : Nat → List V} {fp : List Addr} {it : Addr} {tn : Nat → Heap → Prop}
    (mem : it ∈ fp) (obj : ∀ i h, tn i h → ∀ b ∈ fp, ∃ o, h.get? b = some o ∧ ∀ v, o.data ≠ .cell v) (keep : ∀ i h h', tn i h → (∀ b ∈ fp, ∀ o, h.get? b = some o → h'.get? b = some o) → tn i h') (hz : ∀ i, (Y i).length ≤ sizeLine)
    (hn : ∀ i h, tn i h → i ≤ n) (self : ∀ (A : Around) (i : Nat) (s : Shared) (Q : Value → Shared → Prop) (E : Value → Shared → Prop), tn i s.heap → Q (.ref it) s → wpAny (model P w) A (pyIter (.ref it)) Q E s)
    (walk : ∀ (X : Cx), X.prog = P → X.w = w → X.K = K → X.calm = true → ∀ (i : Nat) (pins : List (Addr × Obj)) (s : Shared) (σ : L2.St) (H : Hp), Inv X pins σ H s → (∀ b ∈ fp, FpOk X pins H b) → tn i s.heap → B H →
      ∃ (fpK wr : List Addr) (Pt : Nat → Array Value → Prop) (St : Nat → Heap → Prop) (Mid : Nat → Addr → Heap → Prop), WalksT P w X.A it fpK wr n Pt St Mid ∧ St i s.heap ∧ (∀ b ∈ wr, b ∈ fp) ∧ (∀ j vals, j < n → Pt j vals → Vals (Y j) vals.toList) ∧ ∀ j h, j ≤ n → St j h → tn j h) :
    Turn P w K (.Tuple elts kk tpos) (ItN B n Y) fp it tn where
  mem := mem
  obj := obj
  keep := keep
  item := by
    intro X hP hw hK hc i pins s σ H E I hf st hg
    obtain ⟨fpK, wr, Pt, St, Mid, W, st0, sub, vals_of, back⟩ := walk X hP hw hK hc i pins s σ H I hf st hg.2
    subst hP hw hK
    refine W.item i s _ E hg.1 st0 fun T vals h' tk hp hT isT mid hk => ⟨_, rfl, ?_⟩
    refine W.go elts kk tpos i T { s with heap := h', toks := tk } _ E mid fun h'' st1 hk2 => ?_
    obtain ⟨o, ho, oc, nn, od⟩ := isT
    have ho2 : h''.get? T = some o := hk2 T o (W.apart i T h' mid) ho
    have rv := vals_of i vals hg.1 hp
    have new : ObjOk X.prog X.w (upd H T (.tup (Y i))) h'' T (.tup (Y i)) := ⟨hz i, vals.toList, rv, ⟨o, ho2, oc, nn, od⟩⟩
    have I1 : Inv X pins σ (upd H T (.tup (Y i))) { s with heap := h'', toks := tk } :=
      I.turnedNew (ch := fp) (fun b u hb q => hk2 b u (fun z => hb (sub b z)) (hk b u (fun z => hb (sub b z)) q)) hf hT new
    have hn : H T = none := I.hok.fresh hT
    refine ⟨.ref T, _, I1, rfl, ⟨T, rfl, hn, rfl⟩, back _ _ hg.1 st1, fun b hb => ?_⟩
    have hlt : b < s.heap.objs.size := by
      obtain ⟨u, hu, _⟩ := obj i _ st b hb
      exact Heap.lt_size hu
    rw [upd_ne (Nat.ne_of_lt (Nat.lt_of_lt_of_le hlt hT))]
    exact (hf b hb).1
  done := by
    intro X hP hw hK hc i pins s σ H E I hf st hg
    obtain ⟨fpK, wr, Pt, St, Mid, W, st0, sub, vals_of, back⟩ := walk X hP hw hK hc i pins s σ H I hf st hg.2
    subst hP hw hK
    have e : i = n := Nat.le_antisymm (hn i _ st) hg.1
    subst e
    exact W.done s _ E st0 fun h' tk hk => ⟨rfl, I.turnedL (t' := tk) (ch := fp) (fun b u hb q => hk b u (fun z => hb (sub b z)) q) hf⟩
  self := self

/-! ### a list or a tuple -/
/-- the value told by d (its items ds) is the list or the tuple at a with items vs -/
inductive SqAt (K : PySem.W.Frag) (a : Addr) (vs : List V) : Bool → Hp → Prop
  | l {H : Hp} : SqL K H a vs → SqAt K a vs false H
  | t {H : Hp} : SqT K H a vs → SqAt K a vs true H
def ItAt (h : Heap) (k : Bool) (it a : Addr) (i : Nat) : Prop := match k with
  | false => h.IsListIter it a i
  | true => h.IsTupleIter it a i
def ObAt (h : Heap) (k : Bool) (a : Addr) (its : Array Value) : Prop := match k with
  | false => h.IsList a its
  | true => h.IsTuple a its
theorem ItAt.keep {h h' : Heap} {k : Bool} {it a : Addr} {i : Nat} (x : ItAt h k it a i) (hk : ∀ o, h.get? it = some o → h'.get? it = some o) : ItAt h' k it a i := by
  cases k with
  | false => exact Heap.IsListIter.at x hk
  | true => exact Heap.IsTupleIter.at x hk
theorem ItAt.obj {h : Heap} {k : Bool} {it a : Addr} {i : Nat} (x : ItAt h k it a i) : ∃ o, h.get? it = some o ∧ ∀ v, o.data ≠ .cell v := by
  cases k with
  | false =>
    obtain ⟨o, ho, hc, hd⟩ := x
    exact ⟨o, ho, fun v q => by rw [hd] at q; cases q⟩
  | true =>
    obtain ⟨o, ho, hc, hd⟩ := x
    exact ⟨o, ho, fun v q => by rw [hd] at q; cases q⟩
def itObj (k : Bool) (a : Addr) : Obj := match k with
  | false => { cls := .type "list_iterator", data := .fields #[.ref a, .int 0 0] }
  | true => { cls := .type "tuple_iterator", data := .fields #[.ref a, .int 0 0] }
theorem begins (k : Bool) (a : Addr) (its : Array Value) : Begins (.ref a) (itObj k a) fun h => ObAt h k a its := by
  cases k with
  | false => exact begins_list a its
  | true => exact begins_tuple a its
theorem itAt_new {h : Heap} {k : Bool} {it a : Addr} (e : h.get? it = some (itObj k a)) : ItAt h k it a 0 := by
  cases k with
  | false => exact ⟨_, e, rfl, rfl⟩
  | true => exact ⟨_, e, rfl, rfl⟩
theorem draws {prog : Program} {w : World} {A : Around} (hh : A.handled = none) (k : Bool) (it a : Addr) (hne : a ≠ it) (items : Array Value) :
    Draws prog w A it [it, a] items.size (fun i v => items[i]? = some v) (fun i h => ItAt h k it a i ∧ ObAt h k a items) := by
  cases k with
  | false => exact Draws.list hh it a hne items
  | true => exact Draws.tuple hh it a hne items
theorem SqAt.obAt {K : PySem.W.Frag} {X : Cx} {pins : List (Addr × Obj)} {σ : L2.St} {H : Hp} {s : Shared} {a : Addr} {vs : List V} {k : Bool} (hK : X.K = K) (I : Inv X pins σ H s) (q : SqAt K a vs k H) : ∃ its : List Value, Vals vs its ∧ ObAt s.heap k a its.toArray ∧ a < s.heap.objs.size := by
  subst hK
  cases q with
  | l h =>
    obtain ⟨its, rv, p, _⟩ := I.list h
    exact ⟨its, rv, p.isList, p.lt⟩
  | t h =>
    obtain ⟨its, rv, p, _⟩ := I.tuple h
    obtain ⟨o, ho, _⟩ := id p
    exact ⟨its, rv, p, Heap.lt_size ho⟩
theorem vals_get {vs : List V} {its : List Value} {i : Nat} {x : Value} (rv : Vals vs its) (h : its[i]? = some x) : ∃ v, vs[i]? = some v ∧ RelV v x := by
  induction rv generalizing i with
  | nil => simp at h
  | cons r _ ih =>
    cases i with
    | zero =>
      simp at h
      subst h
      exact ⟨_, rfl, r⟩
    | succ i => exact ih (by simpa using h)
end SW

/-! SwIt2: enumerate, zip of two and of three: their turns and beginnings. Own work. -/
namespace SW
open PySem PySem.Spec PyProof.Rows L2
theorem tup_obj {h : Heap} {T : Addr} {vs : Array Value} (e : h.get? T = some { cls := .type "tuple", data := .seq vs }) : ∃ o, h.get? T = some o ∧ ∀ v, o.data ≠ .cell v := ⟨_, e, fun v q => nomatch q⟩
theorem zip_obj {h : Heap} {z TI TO : Addr} {x : Value} (e : IsZip h z TI TO x) : ∃ o, h.get? z = some o ∧ ∀ v, o.data ≠ .cell v := ⟨_, e, fun v q => nomatch q⟩
theorem two_line {n : Nat} (h : n ≤ 3) : n ≤ sizeLine := by rw [sizeLine_eq]; omega
def enY (vs : List V) (i : Nat) : List V := [.int (i : Nat), vs[i]?.getD .non]
def z2Y (xs ys : List V) (i : Nat) : List V := [xs[i]?.getD .non, ys[i]?.getD .non]
def z3Y (xs ys zs : List V) (i : Nat) : List V := [xs[i]?.getD .non, ys[i]?.getD .non, zs[i]?.getD .non]
section
variable {P : Program} {w : World} {K : PySem.W.Frag} {elts : List Expr} {kk : Nat} {tpos : Pos}
theorem arr_vals {vs : List V} {its : List Value} (rv : Vals vs its) {i : Nat} {x : Value} (h : its.toArray[i]? = some x) : RelV (vs[i]?.getD .non) x := by
  obtain ⟨v, hv, r⟩ := vals_get rv (show its[i]? = some x by simpa using h)
  rw [hv]
  exact r
theorem turn_enumA {k : Bool} {a e it : Addr} {vs : List V} (hei : e ≠ it) (hea : e ≠ a) (hia : a ≠ it) :
    Turn P w K (.Tuple elts kk tpos) (ItN (SqAt K a vs k) vs.length (enY vs)) [e, it] e (fun i h => (∃ old, IsEnum h e it ((i : Nat) : Int) old) ∧ ItAt h k it a i ∧ i ≤ vs.length) := by
  refine turn_new (by simp) ?_ ?_ (fun i => two_line (by simp [enY])) (fun i h st => st.2.2) ?_ ?_
  · intro i h st b hb
    obtain ⟨⟨old, he⟩, hi, _⟩ := st
    have e' : b = e ∨ b = it := by simpa using hb
    rcases e' with z | z
    · rw [z]; exact ⟨_, he, fun v q => nomatch q⟩
    · rw [z]; exact hi.obj
  · intro i h h' st hk
    obtain ⟨⟨old, he⟩, hi, hn⟩ := st
    exact ⟨⟨old, hk e (by simp) _ he⟩, hi.keep fun o q => hk it (by simp) o q, hn⟩
  · intro A i s Q E st h
    obtain ⟨⟨_, he⟩, _⟩ := st
    exact wpAny_pyIter_enum he h
  · intro X hP hw hK hc i pins s σ H I hf st hB
    subst hP hw
    obtain ⟨its, rv, ob, _⟩ := hB.obAt hK I
    have hl : its.toArray.size = vs.length := by rw [List.size_toArray]; exact rv.length.symm
    have W := WalksT.enumFrom 0 (draws (prog := X.prog) (w := X.w) (A := X.A.in1) (show X.A.in1.handled = none from I.ok.hd hc) k it a hia its.toArray) e hei (by simp [hei, hea]) (by simp)
    rw [hl] at W
    refine ⟨_, _, _, _, _, W, ⟨?_, st.2.1, ob⟩, fun b hb => hb, ?_, ?_⟩
    · simpa using st.1
    · rintro j vals hj ⟨t, x, hx, rfl⟩
      refine .cons ⟨t, ?_⟩ (.cons (arr_vals rv hx) .nil)
      simp
    · rintro j h hj ⟨h1, h2, h3⟩
      exact ⟨by simpa using h1, h2, hj⟩
theorem turn_zip2A {k1 k2 : Bool} {N a b : Addr} {xs ys : List V} (ha : a < N) (hb : b < N) :
    Turn P w K (.Tuple elts kk tpos) (ItN (fun H => SqAt K a xs k1 H ∧ SqAt K b ys k2 H) (min xs.length ys.length) (z2Y xs ys)) [N + 4, N + 2, N + 3, N, N + 1] (N + 4)
      (fun i h => IsZip h (N + 4) (N + 2) (N + 3) .none ∧ IsTupOf2 h (N + 2) (.ref N) (.ref (N + 1)) ∧ (∃ a1 a2, IsTupOf2 h (N + 3) a1 a2) ∧ ItAt h k1 N a i ∧ ItAt h k2 (N + 1) b i ∧ i ≤ min xs.length ys.length) := by
  refine turn_new (by simp) ?_ ?_ (fun i => two_line (by simp [z2Y])) (fun i h st => st.2.2.2.2.2) ?_ ?_
  · intro i h st c hc
    obtain ⟨hz, hTI, ⟨_, _, hTO⟩, h1, h2, _⟩ := st
    have e' : c = N + 4 ∨ c = N + 2 ∨ c = N + 3 ∨ c = N ∨ c = N + 1 := by simpa using hc
    rcases e' with z | z | z | z | z
    · rw [z]; exact zip_obj hz
    · rw [z]; exact tup_obj hTI
    · rw [z]; exact tup_obj hTO
    · rw [z]; exact h1.obj
    · rw [z]; exact h2.obj
  · intro i h h' st hk
    obtain ⟨hz, hTI, ⟨a1, a2, hTO⟩, h1, h2, hn⟩ := st
    exact ⟨hk _ (by simp) _ hz, hk _ (by simp) _ hTI, ⟨a1, a2, hk _ (by simp) _ hTO⟩, h1.keep fun o q => hk N (by simp) o q, h2.keep fun o q => hk (N + 1) (by simp) o q, hn⟩
  · intro A i s Q E st h
    exact wpAny_pyIter_zip st.1 h
  · intro X hP hw hK hc i pins s σ H I hf st hB
    subst hP hw
    obtain ⟨its, rv, ob, _⟩ := hB.1.obAt hK I
    obtain ⟨its2, rv2, ob2, _⟩ := hB.2.obAt hK I
    have hl : its.toArray.size = xs.length := by rw [List.size_toArray]; exact rv.length.symm
    have hl2 : its2.toArray.size = ys.length := by rw [List.size_toArray]; exact rv2.length.symm
    have hh : X.A.in1.handled = none := I.ok.hd hc
    have S := zip_sep2 (N := N) (fp1 := [a]) (fp2 := [b]) (by simpa using ha) (by simpa using hb)
    have W := WalksT.zipD2 S (draws (prog := X.prog) (w := X.w) hh k1 N a (Nat.ne_of_lt ha) its.toArray) (draws (prog := X.prog) (w := X.w) hh k2 (N + 1) b (Nat.ne_of_lt (Nat.lt_succ_of_lt hb)) its2.toArray)
    rw [hl, hl2] at W
    obtain ⟨hz, hTI, hTO, h1, h2, hn⟩ := st
    refine ⟨_, _, _, _, _, W, ⟨hz, hTI, hTO, ⟨h1, ob⟩, h2, ob2⟩, fun b hb => ?_, ?_, ?_⟩
    · simp only [List.mem_cons] at hb ⊢
      rcases hb with h | h | h | h | h
      · exact .inl h
      · exact .inr (.inr (.inl h))
      · exact .inr (.inr (.inr (.inl h)))
      · exact .inr (.inr (.inr (.inr (.inl h))))
      · cases h
    · rintro j vals hj ⟨x, y, hx, hy, rfl⟩
      exact .cons (arr_vals rv hx) (.cons (arr_vals rv2 hy) .nil)
    · rintro j h hj ⟨h1, h2, h3, h4, h5⟩
      exact ⟨h1, h2, h3, h4.1, h5.1, hj⟩
theorem turn_zip3A {k1 k2 k3 : Bool} {N a b c : Addr} {xs ys zs : List V} (ha : a < N) (hb : b < N) (hc' : c < N) :
    Turn P w K (.Tuple elts kk tpos) (ItN (fun H => SqAt K a xs k1 H ∧ SqAt K b ys k2 H ∧ SqAt K c zs k3 H) (min (min xs.length ys.length) zs.length) (z3Y xs ys zs)) [N + 5, N + 3, N + 4, N, N + 1, N + 2] (N + 5)
      (fun i h => IsZip h (N + 5) (N + 3) (N + 4) .none ∧ IsTupOf3 h (N + 3) (.ref N) (.ref (N + 1)) (.ref (N + 2)) ∧ (∃ a1 a2 a3, IsTupOf3 h (N + 4) a1 a2 a3) ∧ ItAt h k1 N a i ∧ ItAt h k2 (N + 1) b i ∧ ItAt h k3 (N + 2) c i ∧ i ≤ min (min xs.length ys.length) zs.length) := by
  refine turn_new (by simp) ?_ ?_ (fun i => two_line (by simp [z3Y])) (fun i h st => st.2.2.2.2.2.2) ?_ ?_
  · intro i h st c hc
    obtain ⟨hz, hTI, ⟨_, _, _, hTO⟩, h1, h2, h3, _⟩ := st
    have e' : c = N + 5 ∨ c = N + 3 ∨ c = N + 4 ∨ c = N ∨ c = N + 1 ∨ c = N + 2 := by simpa using hc
    rcases e' with z | z | z | z | z | z
    · rw [z]; exact zip_obj hz
    · rw [z]; exact tup_obj hTI
    · rw [z]; exact tup_obj hTO
    · rw [z]; exact h1.obj
    · rw [z]; exact h2.obj
    · rw [z]; exact h3.obj
  · intro i h h' st hk
    obtain ⟨hz, hTI, ⟨a1, a2, a3, hTO⟩, h1, h2, h3, hn⟩ := st
    exact ⟨hk _ (by simp) _ hz, hk _ (by simp) _ hTI, ⟨a1, a2, a3, hk _ (by simp) _ hTO⟩, h1.keep fun o q => hk N (by simp) o q, h2.keep fun o q => hk (N + 1) (by simp) o q, h3.keep fun o q => hk (N + 2) (by simp) o q, hn⟩
  · intro A i s Q E st h
    exact wpAny_pyIter_zip st.1 h
  · intro X hP hw hK hc i pins s σ H I hf st hB
    subst hP hw
    obtain ⟨its, rv, ob, _⟩ := hB.1.obAt hK I
    obtain ⟨its2, rv2, ob2, _⟩ := hB.2.1.obAt hK I
    obtain ⟨its3, rv3, ob3, _⟩ := hB.2.2.obAt hK I
    have hl : its.toArray.size = xs.length := by rw [List.size_toArray]; exact rv.length.symm
    have hl2 : its2.toArray.size = ys.length := by rw [List.size_toArray]; exact rv2.length.symm
    have hl3 : its3.toArray.size = zs.length := by rw [List.size_toArray]; exact rv3.length.symm
    have hh : X.A.in1.handled = none := I.ok.hd hc
    have S := zip_sep3 (N := N) (fp1 := [a]) (fp2 := [b]) (fp3 := [c]) (by simpa using ha) (by simpa using hb) (by simpa using hc')
    have W := WalksT.zipD3 S (draws (prog := X.prog) (w := X.w) hh k1 N a (Nat.ne_of_lt ha) its.toArray) (draws (prog := X.prog) (w := X.w) hh k2 (N + 1) b (Nat.ne_of_lt (Nat.lt_succ_of_lt hb)) its2.toArray)
      (draws (prog := X.prog) (w := X.w) hh k3 (N + 2) c (Nat.ne_of_lt (Nat.lt_succ_of_lt (Nat.lt_succ_of_lt hc'))) its3.toArray)
    rw [hl, hl2, hl3] at W
    obtain ⟨hz, hTI, hTO, h1, h2, h3, hn⟩ := st
    refine ⟨_, _, _, _, _, W, ⟨hz, hTI, hTO, ⟨h1, ob⟩, ⟨h2, ob2⟩, h3, ob3⟩, fun b hb => ?_, ?_, ?_⟩
    · simp only [List.mem_cons] at hb ⊢
      rcases hb with h | h | h | h | h | h
      · exact .inl h
      · exact .inr (.inr (.inl h))
      · exact .inr (.inr (.inr (.inl h)))
      · exact .inr (.inr (.inr (.inr (.inl h))))
      · exact .inr (.inr (.inr (.inr (.inr (.inl h)))))
      · cases h
    · rintro j vals hj ⟨x, y, u, hx, hy, hu, rfl⟩
      exact .cons (arr_vals rv hx) (.cons (arr_vals rv2 hy) (.cons (arr_vals rv3 hu) .nil))
    · rintro j h hj ⟨h1, h2, h3, h4, h5, h6⟩
      exact ⟨h1, h2, h3, h4.1, h5.1, h6.1, hj⟩
end
/-! ### the calls that make them -/
section
variable {X : Cx} {a b c : Expr} {ta : TA} {p pos tpos : Pos} {elts : List Expr} {kk : Nat}
def iEnumA (K : PySem.W.Frag) (ta : TA) : TI := fun σ H R => ta σ H fun vs H1 => ∃ l k xs, vs = [.ref l] ∧ SqAt K l xs k H1 ∧ R (ItN (SqAt K l xs k) xs.length (enY xs)) H1
theorem pi_enumA (hg : Gl X "enumerate") (hm : X.mg "enumerate" = none) (ha : PA X [a] ta) (hs : starEach [a] X.env = [(false, eval a X.env)]) : PI X (.Tuple elts kk tpos) (.Call (.Name "enumerate" p) [a] [] pos) (iEnumA X.K ta) := by
  refine ⟨fun pins s σ H R I h => ?_⟩
  refine Call_ (ld_blt I hg hm boot_enumerate (PyProof.Rows.callWith_type1 (thn (ha.run pos pins s σ H _ I h) fun us s1 ⟨vs, H1, I1, r1, q1⟩ => ?_) hs rfl))
  obtain ⟨l, k, xs, ex, hq, q⟩ := q1
  subst ex
  cases r1 with
  | cons r rr =>
    cases rr
    cases r
    obtain ⟨its, rv, ob, lt⟩ := hq.obAt rfl I1
    refine enum1 (begins k l its.toArray) ob fun h' he hit hsz hk => wpAny_pyIter_enum he ?_
    have I2 : Inv X pins σ H1 { s1 with heap := h' } := I1.kept (t' := s1.toks) hk
    refine ⟨s1.heap.objs.size + 1, [s1.heap.objs.size + 1, s1.heap.objs.size], _, _, H1, rfl, I2, turn_enumA (Nat.succ_ne_self _) (Nat.ne_of_gt (Nat.lt_succ_of_lt lt)) (Nat.ne_of_lt lt), ⟨⟨.none, he⟩, itAt_new hit, Nat.zero_le _⟩, fun b hb => ?_, q⟩
    have e' : b = s1.heap.objs.size + 1 ∨ b = s1.heap.objs.size := by simpa using hb
    have hle : s1.heap.objs.size ≤ b := by
      rcases e' with z | z
      · rw [z]; exact Nat.le_add_right _ _
      · rw [z]; exact Nat.le_refl _
    exact I1.fpOk hle (I1.hok.fresh hle)
def iZip2A (K : PySem.W.Frag) (ta : TA) : TI := fun σ H R => ta σ H fun vs H1 => ∃ l1 k1 xs l2 k2 ys, vs = [.ref l1, .ref l2] ∧ SqAt K l1 xs k1 H1 ∧ SqAt K l2 ys k2 H1 ∧ R (ItN (fun H => SqAt K l1 xs k1 H ∧ SqAt K l2 ys k2 H) (min xs.length ys.length) (z2Y xs ys)) H1
theorem pi_zip2A (hg : Gl X "zip") (hm : X.mg "zip" = none) (ha : PA X [a, b] ta) (hs : starEach [a, b] X.env = (false, eval a X.env) :: starEach [b] X.env) (hpl : (backTo pos (starEach [b] X.env)).any (·.1) = false) : PI X (.Tuple elts kk tpos) (.Call (.Name "zip" p) [a, b] [] pos) (iZip2A X.K ta) := by
  refine ⟨fun pins s σ H R I h => ?_⟩
  refine Call_ (ld_blt I hg hm PyProof.Rows.boot_zip (PyProof.Rows.callWith_type1 (thn (ha.run pos pins s σ H _ I h) fun us s1 ⟨vs, H1, I1, r1, q1⟩ => ?_) hs hpl))
  obtain ⟨l1, k1, xs, l2, k2, ys, ex, hq1, hq2, q⟩ := q1
  subst ex
  cases r1 with
  | cons r rr =>
    cases rr with
    | cons r' rr =>
      cases rr
      cases r
      cases r'
      obtain ⟨its, rv, ob, lt⟩ := hq1.obAt rfl I1
      obtain ⟨its2, rv2, ob2, lt2⟩ := hq2.obAt rfl I1
      refine zip_begins2 (begins k1 l1 its.toArray) (begins k2 l2 its2.toArray) ob ob2 fun h' hz hTI hTO h1 h2 hsz hk => wpAny_pyIter_zip hz ?_
      have I2 : Inv X pins σ H1 { s1 with heap := h' } := I1.kept (t' := s1.toks) hk
      refine ⟨_, _, _, _, H1, rfl, I2, turn_zip2A lt lt2, ⟨hz, hTI, ⟨_, _, hTO⟩, itAt_new h1, itAt_new h2, Nat.zero_le _⟩, fun c hcm => ?_, q⟩
      have e' : c = s1.heap.objs.size + 4 ∨ c = s1.heap.objs.size + 2 ∨ c = s1.heap.objs.size + 3 ∨ c = s1.heap.objs.size ∨ c = s1.heap.objs.size + 1 := by simpa using hcm
      have hle : s1.heap.objs.size ≤ c := by
        rcases e' with z | z | z | z | z <;> rw [z] <;> first | exact Nat.le_add_right _ _ | exact Nat.le_refl _
      exact I1.fpOk hle (I1.hok.fresh hle)
def iZip3A (K : PySem.W.Frag) (ta : TA) : TI := fun σ H R => ta σ H fun vs H1 => ∃ l1 k1 xs l2 k2 ys l3 k3 zs, vs = [.ref l1, .ref l2, .ref l3] ∧ SqAt K l1 xs k1 H1 ∧ SqAt K l2 ys k2 H1 ∧ SqAt K l3 zs k3 H1 ∧
  R (ItN (fun H => SqAt K l1 xs k1 H ∧ SqAt K l2 ys k2 H ∧ SqAt K l3 zs k3 H) (min (min xs.length ys.length) zs.length) (z3Y xs ys zs)) H1
theorem pi_zip3A (hg : Gl X "zip") (hm : X.mg "zip" = none) (ha : PA X [a, b, c] ta) (hs : starEach [a, b, c] X.env = (false, eval a X.env) :: starEach [b, c] X.env) (hpl : (backTo pos (starEach [b, c] X.env)).any (·.1) = false) : PI X (.Tuple elts kk tpos) (.Call (.Name "zip" p) [a, b, c] [] pos) (iZip3A X.K ta) := by
  refine ⟨fun pins s σ H R I h => ?_⟩
  refine Call_ (ld_blt I hg hm PyProof.Rows.boot_zip (PyProof.Rows.callWith_type1 (thn (ha.run pos pins s σ H _ I h) fun us s1 ⟨vs, H1, I1, r1, q1⟩ => ?_) hs hpl))
  obtain ⟨l1, k1, xs, l2, k2, ys, l3, k3, zs, ex, hq1, hq2, hq3, q⟩ := q1
  subst ex
  cases r1 with
  | cons r rr =>
    cases rr with
    | cons r' rr =>
      cases rr with
      | cons r'' rr =>
        cases rr
        cases r
        cases r'
        cases r''
        obtain ⟨its, rv, ob, lt⟩ := hq1.obAt rfl I1
        obtain ⟨its2, rv2, ob2, lt2⟩ := hq2.obAt rfl I1
        obtain ⟨its3, rv3, ob3, lt3⟩ := hq3.obAt rfl I1
        refine zip_begins3 (begins k1 l1 its.toArray) (begins k2 l2 its2.toArray) (begins k3 l3 its3.toArray) ob ob2 ob3 fun h' hz hTI hTO h1 h2 h3 hsz hk => wpAny_pyIter_zip hz ?_
        have I2 : Inv X pins σ H1 { s1 with heap := h' } := I1.kept (t' := s1.toks) hk
        refine ⟨_, _, _, _, H1, rfl, I2, turn_zip3A lt lt2 lt3, ⟨hz, hTI, ⟨_, _, _, hTO⟩, itAt_new h1, itAt_new h2, itAt_new h3, Nat.zero_le _⟩, fun c hcm => ?_, q⟩
        have e' : c = s1.heap.objs.size + 5 ∨ c = s1.heap.objs.size + 3 ∨ c = s1.heap.objs.size + 4 ∨ c = s1.heap.objs.size ∨ c = s1.heap.objs.size + 1 ∨ c = s1.heap.objs.size + 2 := by simpa using hcm
        have hle : s1.heap.objs.size ≤ c := by
          rcases e' with z | z | z | z | z | z <;> rw [z] <;> first | exact Nat.le_add_right _ _ | exact Nat.le_refl _
        exact I1.fpOk hle (I1.hok.fresh hle)
end
end SW

/-! SwIt3: what is gone over, by data. Own work. -/
namespace SW
open PySem PySem.Spec PyProof.Rows L2
/-- the iterator hands out what ds tells, over the frozen part G -/
structure Yields (W : Wd) (G : Hp) (J : It) (ds : List D) : Prop where
  go : ∀ i H, Sub G H → i < ds.length → J.go i H
  stop : ∀ i H, Sub G H → ds.length ≤ i → J.stop i H
  yld : ∀ i H G1 v H', Sub G G1 → Sub G1 H → J.yld i H v H' → i < ds.length → ∃ G2 d, ds[i]? = some d ∧ Den W G2 d v ∧ Ext W G1 H G2 H' ∧ Kept H H'
def tI (W : Wd) (H0 : Hp) (G0 : Bs) (E : XK) (f : Env → Row → R (List D)) : TI := fun σ H Rr => ∃ G env ρ, Rel W H0 G0 G H σ env ρ ∧ OutA W G H E (f env ρ) fun ds _ G' H' => ∀ J, Yields W G' J ds → ds.length ≤ LIM → Rr J H'
section
variable {W : Wd} {G : Hp}
theorem DenAll.getD {xs : List D} {vs : List V} (a : DenAll W G xs vs) {i : Nat} (h : i < xs.length) : ∃ d, xs[i]? = some d ∧ Den W G d (vs[i]?.getD .non) := by
  obtain ⟨v, hv, dn⟩ := a.get (List.getElem?_eq_getElem h)
  rw [hv]
  exact ⟨_, List.getElem?_eq_getElem h, dn⟩
theorem y_list {K : PySem.W.Frag} {a : Addr} {xs : List D} {vs : List V} (h : G a = some (.lst vs)) (aa : DenAll W G xs vs) : Yields W G (Itl K a) xs where
  go := fun i H s hi => by
    obtain ⟨d, _, dn⟩ := aa.getD hi
    exact ⟨vs, vs[i]'(by rw [← aa.length]; exact hi), SqL.of (s _ _ h), List.getElem?_eq_getElem _⟩
  stop := fun i H s hi => ⟨vs, SqL.of (s _ _ h), by rw [← aa.length]; exact hi⟩
  yld := fun i H G1 v H' s1 s2 q hi => by
    obtain ⟨rfl, q⟩ := q
    have hv := q vs (SqL.of (s2 _ _ (s1 _ _ h)))
    obtain ⟨d, hd, dn⟩ := aa.getV hv
    exact ⟨G1, d, hd, dn.mono s1, Ext.refl s2, Kept.refl _⟩
theorem y_tup {K : PySem.W.Frag} {a : Addr} {xs : List D} {vs : List V} (h : G a = some (.tup vs)) (aa : DenAll W G xs vs) : Yields W G (Itt K a) xs where
  go := fun i H s hi => by
    obtain ⟨d, _, dn⟩ := aa.getD hi
    exact ⟨vs, vs[i]'(by rw [← aa.length]; exact hi), SqT.of (s _ _ h), List.getElem?_eq_getElem _⟩
  stop := fun i H s hi => ⟨vs, SqT.of (s _ _ h), by rw [← aa.length]; exact hi⟩
  yld := fun i H G1 v H' s1 s2 q hi => by
    obtain ⟨rfl, q⟩ := q
    have hv := q vs (SqT.of (s2 _ _ (s1 _ _ h)))
    obtain ⟨d, hd, dn⟩ := aa.getV hv
    exact ⟨G1, d, hd, dn.mono s1, Ext.refl s2, Kept.refl _⟩
theorem y_rng {lo : Int} {n : Nat} {ds : List D} (e : ds = (List.range n).map fun (i : Nat) => D.int (lo + (i : Int))) : Yields W G (Itr lo n) ds := by
  have hl : ds.length = n := by rw [e]; simp
  refine ⟨fun i H s hi => by rw [hl] at hi; exact hi, fun i H s hi => by rw [hl] at hi; exact hi, fun i H G1 v H' s1 s2 q hi => ?_⟩
  obtain ⟨rfl, rfl⟩ := q
  rw [hl] at hi
  exact ⟨G1, .int (lo + i), by rw [e]; simp [hi], .int _, Ext.refl s2, Kept.refl _⟩
theorem y_rngC {lo c : Int} {n : Nat} {ds : List D} (e : ds = (List.range n).map fun (i : Nat) => D.int (lo + (i : Int) * c)) : Yields W G (Itc lo c n) ds := by
  have hl : ds.length = n := by rw [e]; simp
  refine ⟨fun i H s hi => by rw [hl] at hi; exact hi, fun i H s hi => by rw [hl] at hi; exact hi, fun i H G1 v H' s1 s2 q hi => ?_⟩
  obtain ⟨rfl, rfl⟩ := q
  rw [hl] at hi
  exact ⟨G1, .int (lo + i * c), by rw [e]; simp [hi], .int _, Ext.refl s2, Kept.refl _⟩
theorem y_new {B : Hp → Prop} {n : Nat} {Y : Nat → List V} {ds : List D} (hl : ds.length = n) (hB : ∀ H, Sub G H → B H) (hY : ∀ i, i < n → ∃ xs, ds[i]? = some (.tup xs) ∧ DenAll W G xs (Y i)) : Yields W G (ItN B n Y) ds := by
  refine ⟨fun i H s hi => ⟨by rw [← hl]; exact hi, hB H s⟩, fun i H s hi => ⟨by rw [← hl]; exact hi, hB H s⟩, fun i H G1 v H' s1 s2 q hi => ?_⟩
  obtain ⟨T, rfl, hT, rfl⟩ := q
  obtain ⟨xs, hx, dn⟩ := hY i (by rw [← hl]; exact hi)
  have hg : G1 T = none := by
    cases e : G1 T with
    | none => rfl
    | some o => rw [s2 T o e] at hT; cases hT
  exact ⟨upd G1 T (.tup (Y i)), .tup xs, hx, .tup upd_same (dn.mono (s1.trans (sub_upd hg))), Ext.alloc s2 hT, kept_upd hT⟩
/-- a list or a tuple, by its items -/
theorem seq_at {K : PySem.W.Frag} {d : D} {xs : List D} {v : V} (dn : Den W G d v) (h : seqOf d = some xs) : ∃ a k vs, v = .ref a ∧ DenAll W G xs vs ∧ ∀ H, Sub G H → SqAt K a vs k H := by
  cases d with
  | lst ys =>
    cases h
    obtain ⟨a, vs, rfl, ha, aa⟩ := dn.ilst
    exact ⟨a, false, vs, rfl, aa, fun H s => .l (SqL.of (s _ _ ha))⟩
  | tup ys =>
    cases h
    obtain ⟨a, vs, rfl, ha, aa⟩ := dn.itup
    exact ⟨a, true, vs, rfl, aa, fun H s => .t (SqT.of (s _ _ ha))⟩
  | _ => cases h
theorem enum_get : ∀ {xs : List D} {i : Nat} {j : Int}, (enumD j xs).length = xs.length ∧ (enumD j xs)[i]? = xs[i]?.map fun d => .tup [.int (j + i), d]
  | [], i, j => by simp [enumD]
  | x :: xs, 0, j => by simp [enumD, (enum_get (xs := xs) (i := 0) (j := j + 1)).1]
  | x :: xs, i + 1, j => by
    have q := enum_get (xs := xs) (i := i) (j := j + 1)
    refine ⟨by simp [enumD, q.1], ?_⟩
    simp only [enumD, List.getElem?_cons_succ, q.2]
    have e : j + 1 + (i : Int) = j + ((i + 1 : Nat) : Int) := by omega
    rw [e]
theorem zip2_get : ∀ {xs ys : List D} {i : Nat}, (zipD2 xs ys).length = min xs.length ys.length ∧ (zipD2 xs ys)[i]? = xs[i]?.bind fun d => ys[i]?.map fun e => .tup [d, e]
  | [], ys, i => by simp [zipD2]
  | x :: xs, [], i => by cases i <;> simp [zipD2]
  | x :: xs, y :: ys, 0 => by simp [zipD2, (zip2_get (xs := xs) (ys := ys) (i := 0)).1, Nat.add_min_add_right]
  | x :: xs, y :: ys, i + 1 => by
    have q := zip2_get (xs := xs) (ys := ys) (i := i)
    refine ⟨by simp [zipD2, q.1, Nat.add_min_add_right], ?_⟩
    simp only [zipD2, List.getElem?_cons_succ, q.2]
theorem zip3_get : ∀ {xs ys zs : List D} {i : Nat}, (zipD3 xs ys zs).length = min (min xs.length ys.length) zs.length ∧ (zipD3 xs ys zs)[i]? = xs[i]?.bind fun d => ys[i]?.bind fun e => zs[i]?.map fun f => .tup [d, e, f]
  | [], ys, zs, i => by simp [zipD3]
  | x :: xs, [], zs, i => by cases i <;> simp [zipD3]
  | x :: xs, y :: ys, [], i => by cases i <;> simp [zipD3]
  | x :: xs, y :: ys, z :: zs, 0 => by simp [zipD3, (zip3_get (xs := xs) (ys := ys) (zs := zs) (i := 0)).1, Nat.add_min_add_right]
  | x :: xs, y :: ys, z :: zs, i + 1 => by
    have q := zip3_get (xs := xs) (ys := ys) (zs := zs) (i := i)
    refine ⟨by simp [zipD3, q.1, Nat.add_min_add_right], ?_⟩
    simp only [zipD3, List.getElem?_cons_succ, q.2]
end
section
variable {W : Wd} {X : Cx} {H0 : Hp} {G0 : Bs} {E : XK} {a b c : Expr} {es : List Expr} {f : Env → Row → R D} {fs : Env → Row → R (List D)} {p pos tpos : Pos} {elts : List Expr} {kk : Nat} {tg : Expr}
theorem PI.imp {X : Cx} {tg e : Expr} {t t' : TI} (h : PI X tg e t) (i : ∀ σ H Q, t' σ H Q → t σ H Q) : PI X tg e t' := ⟨fun pins s σ H Q I q => h.run pins s σ H Q I (i σ H Q q)⟩
/-- lists and tuples of the heap are within the size line -/
def Sized (K : PySem.W.Frag) (H : Hp) (v : V) : Prop := ∀ a xs, v = .ref a → (SqL K H a xs ∨ SqT K H a xs) → xs.length ≤ LIM
theorem sized {pins : List (Addr × Obj)} {σ : L2.St} {H : Hp} {s : Shared} (I : Inv X pins σ H s) (v : V) : Sized X.K H v := fun a xs _ h => by
  rcases h with h | h
  · obtain ⟨_, _, _, q⟩ := I.list h
    rw [line_eq]
    exact q
  · obtain ⟨_, _, _, q⟩ := I.tuple h
    rw [line_eq]
    exact q
theorem pe_sized {t : TE} (ha : PE X a t) : PE X a fun σ H Q => t σ H fun v H1 => Sized X.K H1 v → Q v H1 :=
  ⟨fun pins s σ H Q I h => thn (ha.run pins s σ H _ I h) fun u s1 ⟨v, H1, I1, r1, q1⟩ => ⟨v, H1, I1, r1, q1 (sized I1 v)⟩⟩
theorem pa_sized {t : TA} (ha : PA X es t) : PA X es fun σ H Q => t σ H fun vs H1 => (∀ v, Sized X.K H1 v) → Q vs H1 :=
  ⟨fun pos pins s σ H Q I h => thn (ha.run pos pins s σ H _ I h) fun u s1 ⟨v, H1, I1, r1, q1⟩ => ⟨v, H1, I1, r1, q1 fun v => sized I1 v⟩⟩
theorem SqAt.size {K : PySem.W.Frag} {H : Hp} {l : Addr} {k : Bool} {vs : List V} (h : SqAt K l vs k H) (z : Sized K H (.ref l)) : vs.length ≤ LIM := by
  cases h with
  | l h => exact z l vs rfl (.inl h)
  | t h => exact z l vs rfl (.inr h)
@[reducible] def seqF (f : Env → Row → R D) : Env → Row → R (List D) := fun env r => (f env r).bind fun d r1 => liftO (seqOf d) r1
@[reducible] def overF (o : List D → Option (List D)) (fs : Env → Row → R (List D)) : Env → Row → R (List D) := fun env r => (fs env r).bind fun ds r1 => liftO (o ds) r1
theorem di_seq (ha : PE X a (tF W H0 G0 E f)) : PI X tg a (tI W H0 G0 E (seqF f)) := ⟨fun pins s σ H Q I ⟨G, env, ρ, rel, h⟩ => by
  unfold seqF at h
  cases e : f env ρ with
  | ok d r1 =>
    rw [e] at h
    obtain ⟨xs, hx, h⟩ := lift_end (o := seqOf d) h
    cases d with
    | lst ys =>
      cases hx
      refine (pi_list (pe_sized ha)).run pins s σ H Q I ⟨G, env, ρ, rel, ?_⟩
      rw [e]
      intro v G' H' ex rr dn z
      obtain ⟨l, vs, rfl, hl, aa⟩ := dn.ilst
      exact ⟨l, rfl, ⟨vs, SqL.of (ex.sub _ _ hl)⟩, h G' H' ex rr _ (y_list hl aa) (by rw [aa.length]; exact z l vs rfl (.inl (SqL.of (ex.sub _ _ hl))))⟩
    | tup ys =>
      cases hx
      refine (pi_tup (pe_sized ha)).run pins s σ H Q I ⟨G, env, ρ, rel, ?_⟩
      rw [e]
      intro v G' H' ex rr dn z
      obtain ⟨l, vs, rfl, hl, aa⟩ := dn.itup
      exact ⟨l, rfl, ⟨vs, SqT.of (ex.sub _ _ hl)⟩, h G' H' ex rr _ (y_tup hl aa) (by rw [aa.length]; exact z l vs rfl (.inr (SqT.of (ex.sub _ _ hl))))⟩
    | _ => cases hx
  | exn c d r1 =>
    rw [e] at h
    refine (pi_list (pe_sized ha)).run pins s σ H Q I ⟨G, env, ρ, rel, ?_⟩
    rw [e]
    exact h
  | bad =>
    rw [e] at h
    exact h.elim⟩
theorem DenAll.inv1 {G : Hp} {d : D} {vs : List V} (h : DenAll W G [d] vs) : ∃ v, vs = [v] ∧ Den W G d v := by
  obtain ⟨v, us, rfl, a, b⟩ := h.inv_cons
  cases b
  exact ⟨v, rfl, a⟩
theorem DenAll.inv2 {G : Hp} {d e : D} {vs : List V} (h : DenAll W G [d, e] vs) : ∃ v u, vs = [v, u] ∧ Den W G d v ∧ Den W G e u := by
  obtain ⟨v, us, rfl, a, b⟩ := h.inv_cons
  obtain ⟨u, rfl, c⟩ := b.inv1
  exact ⟨v, u, rfl, a, c⟩
theorem DenAll.inv3 {G : Hp} {d e f : D} {vs : List V} (h : DenAll W G [d, e, f] vs) : ∃ v u w, vs = [v, u, w] ∧ Den W G d v ∧ Den W G e u ∧ Den W G f w := by
  obtain ⟨v, us, rfl, a, b⟩ := h.inv_cons
  obtain ⟨u, w, rfl, c, d⟩ := b.inv2
  exact ⟨v, u, w, rfl, a, c, d⟩
theorem rng1_some {lo hi : Int} {ds : List D} (h : rngD lo hi 1 = some ds) : -(2 ^ 62) ≤ lo ∧ lo < 2 ^ 62 ∧ -(2 ^ 62) ≤ hi ∧ hi < 2 ^ 62 ∧ (hi - lo).toNat ≤ LIM ∧ ds = (List.range (hi - lo).toNat).map fun (i : Nat) => D.int (lo + (i : Int)) := by
  unfold rngD at h
  rw [if_pos rfl] at h
  obtain ⟨c, e⟩ := ite_some h
  exact ⟨c.1, c.2.1, c.2.2.1, c.2.2.2.1, c.2.2.2.2, e.symm⟩
theorem rng3_some {lo hi st : Int} {ds : List D} (h : rngD lo hi st = some ds) : ∃ n, RgC lo hi st n ∧ n ≤ LIM ∧ ds = (List.range n).map fun (i : Nat) => D.int (lo + (i : Int) * st) := by
  by_cases e1 : st = 1
  · subst e1
    obtain ⟨a1, a2, a3, a4, a5, rfl⟩ := rng1_some h
    refine ⟨(hi - lo).toNat, ⟨by decide, by decide, small_one a1 a2 a3 a4, ?_⟩, a5, by simp⟩
    unfold Builtin.Range.rangeSize
    simp only [show (1 : Int) > 0 by decide, if_true]
    split <;> omega
  · unfold rngD at h
    rw [if_neg e1] at h
    by_cases e2 : st = -1
    · rw [if_pos e2] at h
      subst e2
      obtain ⟨c, e⟩ := ite_some h
      refine ⟨(lo - hi).toNat, RgC.neg c.1 c.2.1 c.2.2.1 c.2.2.2.1, c.2.2.2.2, ?_⟩
      rw [← e]
      apply List.map_congr_left
      intro i hi
      show D.int (lo - (i : Int)) = D.int (lo + (i : Int) * -1)
      congr 1
      omega
    · rw [if_neg e2] at h
      cases h
theorem di_rng1 (hg : Gl X "range") (hm : X.mg "range" = none) (ha : PA X [a] (tL W H0 G0 E fs)) (hs : starEach [a] X.env = [(false, eval a X.env)]) (h1 : ∀ env r ds r1, fs env r = .ok ds r1 → ds.length = 1) : PI X tg (.Call (.Name "range" p) [a] [] pos) (tI W H0 G0 E (overF rgO fs)) :=
  PI.imp (pi_range1 hg hm ha hs) fun σ H Q ⟨G, env, ρ, R, h⟩ => by
    refine ⟨G, env, ρ, R, ?_⟩
    unfold overF at h
    cases e : fs env ρ with
    | ok ds r1 =>
      rw [e] at h
      obtain ⟨xs, hx, h⟩ := lift_end (o := rgO ds) h
      have hl := h1 _ _ _ _ e
      intro vs G' H' ex rr dn
      match ds, hl with
      | [d], _ =>
        cases d with
        | int hi =>
          obtain ⟨v, rfl, dv⟩ := dn.inv1
          obtain rfl := dv.iint
          obtain ⟨_, _, a3, a4, a5, rfl⟩ := rng1_some (show rngD 0 hi 1 = some xs from hx)
          exact ⟨hi, rfl, a3, a4, h G' H' ex rr _ (y_rng (by simp)) (by simpa using a5)⟩
        | _ => cases hx
    | exn c d r1 =>
      rw [e] at h
      exact h
    | bad =>
      rw [e] at h
      exact h
theorem di_rng2 (hg : Gl X "range") (hm : X.mg "range" = none) (ha : PA X [a, b] (tL W H0 G0 E fs)) (hs : starEach [a, b] X.env = [(false, eval a X.env), (false, eval b X.env)]) (hs2 : starEach [b] X.env = [(false, eval b X.env)])
    (h1 : ∀ env r ds r1, fs env r = .ok ds r1 → ds.length = 2) : PI X tg (.Call (.Name "range" p) [a, b] [] pos) (tI W H0 G0 E (overF rgO fs)) :=
  PI.imp (pi_range2 hg hm ha hs hs2) fun σ H Q ⟨G, env, ρ, R, h⟩ => by
    refine ⟨G, env, ρ, R, ?_⟩
    unfold overF at h
    cases e : fs env ρ with
    | ok ds r1 =>
      rw [e] at h
      obtain ⟨xs, hx, h⟩ := lift_end (o := rgO ds) h
      have hl := h1 _ _ _ _ e
      intro vs G' H' ex rr dn
      match ds, hl with
      | [d, d'], _ =>
        cases d with
        | int lo =>
          cases d' with
          | int hi =>
            obtain ⟨v, u, rfl, dv, du⟩ := dn.inv2
            obtain rfl := dv.iint
            obtain rfl := du.iint
            obtain ⟨a1, a2, a3, a4, a5, rfl⟩ := rng1_some (show rngD lo hi 1 = some xs from hx)
            exact ⟨lo, hi, rfl, ⟨a1, a2, a3, a4⟩, h G' H' ex rr _ (y_rng rfl) (by simpa using a5)⟩
          | _ => cases hx
        | _ => cases hx
    | exn c d r1 =>
      rw [e] at h
      exact h
    | bad =>
      rw [e] at h
      exact h
theorem di_rng3 (hg : Gl X "range") (hm : X.mg "range" = none) (ha : PA X [a, b, c] (tL W H0 G0 E fs)) (hs : starEach [a, b, c] X.env = (false, eval a X.env) :: starEach [b, c] X.env) (hpl : (backTo pos (starEach [b, c] X.env)).any (·.1) = false)
    (h1 : ∀ env r ds r1, fs env r = .ok ds r1 → ds.length = 3) : PI X tg (.Call (.Name "range" p) [a, b, c] [] pos) (tI W H0 G0 E (overF rgO fs)) :=
  PI.imp (pi_range3 hg hm ha hs hpl) fun σ H Q ⟨G, env, ρ, R, h⟩ => by
    refine ⟨G, env, ρ, R, ?_⟩
    unfold overF at h
    cases e : fs env ρ with
    | ok ds r1 =>
      rw [e] at h
      obtain ⟨xs, hx, h⟩ := lift_end (o := rgO ds) h
      have hl := h1 _ _ _ _ e
      intro vs G' H' ex rr dn
      match ds, hl with
      | [d, d', d''], _ =>
        cases d with
        | int lo =>
          cases d' with
          | int hi =>
            cases d'' with
            | int st =>
              obtain ⟨v, u, w, rfl, dv, du, dw⟩ := dn.inv3
              obtain rfl := dv.iint
              obtain rfl := du.iint
              obtain rfl := dw.iint
              obtain ⟨n, c, c5, rfl⟩ := rng3_some (show rngD lo hi st = some xs from hx)
              exact ⟨lo, hi, st, n, rfl, c, h G' H' ex rr _ (y_rngC rfl) (by simpa using c5)⟩
            | _ => cases hx
          | _ => cases hx
        | _ => cases hx
    | exn c d r1 =>
      rw [e] at h
      exact h
    | bad =>
      rw [e] at h
      exact h
theorem di_enum (hg : Gl X "enumerate") (hm : X.mg "enumerate" = none) (ha : PA X [a] (tL W H0 G0 E fs)) (hs : starEach [a] X.env = [(false, eval a X.env)]) (h1 : ∀ env r ds r1, fs env r = .ok ds r1 → ds.length = 1) :
    PI X (.Tuple elts kk tpos) (.Call (.Name "enumerate" p) [a] [] pos) (tI W H0 G0 E (overF enO fs)) :=
  PI.imp (pi_enumA hg hm (pa_sized ha) hs) fun σ H Q ⟨G, env, ρ, R, h⟩ => by
    refine ⟨G, env, ρ, R, ?_⟩
    unfold overF at h
    cases e : fs env ρ with
    | ok ds r1 =>
      rw [e] at h
      obtain ⟨xs, hx, h⟩ := lift_end (o := enO ds) h
      have hl := h1 _ _ _ _ e
      intro vs G' H' ex rr dn sz
      match ds, hl with
      | [d], _ =>
        obtain ⟨v, rfl, dv⟩ := dn.inv1
        have hx : (seqOf d).map (enumD 0) = some xs := hx
        cases hd : seqOf d with
        | none =>
          rw [hd] at hx
          cases hx
        | some ys =>
          rw [hd] at hx
          cases hx
          obtain ⟨l, k, us, rfl, aa, sq⟩ := seq_at (K := X.K) dv hd
          refine ⟨l, k, us, rfl, sq H' ex.sub, h G' H' ex rr _ (y_new ?_ sq fun i hi => ?_) ?_⟩
          · rw [(enum_get (i := 0)).1]
            exact aa.length
          · obtain ⟨d0, h0, dn0⟩ := aa.getD (i := i) (by rw [aa.length]; exact hi)
            refine ⟨[.int (i : Nat), d0], ?_, .cons (.int _) (.cons dn0 .nil)⟩
            rw [enum_get.2, h0]
            simp
          · rw [(enum_get (i := 0)).1, aa.length]
            exact (sq H' ex.sub).size (sz _)
    | exn c d r1 =>
      rw [e] at h
      exact h
    | bad =>
      rw [e] at h
      exact h
theorem di_zip2 (hg : Gl X "zip") (hm : X.mg "zip" = none) (ha : PA X [a, b] (tL W H0 G0 E fs)) (hs : starEach [a, b] X.env = (false, eval a X.env) :: starEach [b] X.env) (hpl : (backTo pos (starEach [b] X.env)).any (·.1) = false) (h1 : ∀ env r ds r1, fs env r = .ok ds r1 → ds.length = 2) :
    PI X (.Tuple elts kk tpos) (.Call (.Name "zip" p) [a, b] [] pos) (tI W H0 G0 E (overF zpO fs)) :=
  PI.imp (pi_zip2A hg hm (pa_sized ha) hs hpl) fun σ H Q ⟨G, env, ρ, R, h⟩ => by
    refine ⟨G, env, ρ, R, ?_⟩
    unfold overF at h
    cases e : fs env ρ with
    | ok ds r1 =>
      rw [e] at h
      obtain ⟨xs, hx, h⟩ := lift_end (o := zpO ds) h
      have hl := h1 _ _ _ _ e
      intro vs G' H' ex rr dn sz
      match ds, hl with
      | [d, d'], _ =>
        obtain ⟨v, u, rfl, dv, du⟩ := dn.inv2
        have hx : ((seqOf d).bind fun xs => (seqOf d').map fun ys => zipD2 xs ys) = some xs := hx
        cases hd : seqOf d with
        | none =>
          rw [hd] at hx
          cases hx
        | some ys =>
          rw [hd] at hx
          cases hd' : seqOf d' with
          | none =>
            rw [hd'] at hx
            cases hx
          | some zs =>
            rw [hd'] at hx
            cases hx
            obtain ⟨l, k, us, rfl, aa, sq⟩ := seq_at (K := X.K) dv hd
            obtain ⟨l', k', us', rfl, aa', sq'⟩ := seq_at (K := X.K) du hd'
            refine ⟨l, k, us, l', k', us', rfl, sq H' ex.sub, sq' H' ex.sub, h G' H' ex rr _ (y_new ?_ (fun H s => ⟨sq H s, sq' H s⟩) fun i hi => ?_) ?_⟩
            · rw [(zip2_get (i := 0)).1, aa.length, aa'.length]
            · obtain ⟨d0, h0, dn0⟩ := aa.getD (i := i) (by rw [aa.length]; omega)
              obtain ⟨d1, h1, dn1⟩ := aa'.getD (i := i) (by rw [aa'.length]; omega)
              refine ⟨[d0, d1], ?_, .cons dn0 (.cons dn1 .nil)⟩
              rw [zip2_get.2, h0, h1]
              rfl
            · rw [(zip2_get (i := 0)).1, aa.length]
              exact Nat.le_trans (Nat.min_le_left _ _) ((sq H' ex.sub).size (sz _))
    | exn c d r1 =>
      rw [e] at h
      exact h
    | bad =>
      rw [e] at h
      exact h
theorem di_zip3 (hg : Gl X "zip") (hm : X.mg "zip" = none) (ha : PA X [a, b, c] (tL W H0 G0 E fs)) (hs : starEach [a, b, c] X.env = (false, eval a X.env) :: starEach [b, c] X.env) (hpl : (backTo pos (starEach [b, c] X.env)).any (·.1) = false) (h1 : ∀ env r ds r1, fs env r = .ok ds r1 → ds.length = 3) :
    PI X (.Tuple elts kk tpos) (.Call (.Name "zip" p) [a, b, c] [] pos) (tI W H0 G0 E (overF zpO fs)) :=
  PI.imp (pi_zip3A hg hm (pa_sized ha) hs hpl) fun σ H Q ⟨G, env, ρ, R, h⟩ => by
    refine ⟨G, env, ρ, R, ?_⟩
    unfold overF at h
    cases e : fs env ρ with
    | ok ds r1 =>
      rw [e] at h
      obtain ⟨xs, hx, h⟩ := lift_end (o := zpO ds) h
      have hl := h1 _ _ _ _ e
      intro vs G' H' ex rr dn sz
      match ds, hl with
      | [d, d', d''], _ =>
        obtain ⟨v, u, w, rfl, dv, du, dw⟩ := dn.inv3
        have hx : ((seqOf d).bind fun xs => (seqOf d').bind fun ys => (seqOf d'').map fun zs => zipD3 xs ys zs) = some xs := hx
        cases hd : seqOf d with
        | none =>
          rw [hd] at hx
          cases hx
        | some ys =>
          rw [hd] at hx
          cases hd' : seqOf d' with
          | none =>
            rw [hd'] at hx
            cases hx
          | some zs =>
            rw [hd'] at hx
            cases hd2 : seqOf d'' with
            | none =>
              rw [hd2] at hx
              cases hx
            | some ws =>
              rw [hd2] at hx
              cases hx
              obtain ⟨l, k, us, rfl, aa, sq⟩ := seq_at (K := X.K) dv hd
              obtain ⟨l', k', us', rfl, aa', sq'⟩ := seq_at (K := X.K) du hd'
              obtain ⟨l2, k2, us2, rfl, aa2, sq2⟩ := seq_at (K := X.K) dw hd2
              refine ⟨l, k, us, l', k', us', l2, k2, us2, rfl, sq H' ex.sub, sq' H' ex.sub, sq2 H' ex.sub, h G' H' ex rr _ (y_new ?_ (fun H s => ⟨sq H s, sq' H s, sq2 H s⟩) fun i hi => ?_) ?_⟩
              · rw [(zip3_get (i := 0)).1, aa.length, aa'.length, aa2.length]
              · obtain ⟨d0, h0, dn0⟩ := aa.getD (i := i) (by rw [aa.length]; omega)
                obtain ⟨d1, h1, dn1⟩ := aa'.getD (i := i) (by rw [aa'.length]; omega)
                obtain ⟨d2, h2, dn2⟩ := aa2.getD (i := i) (by rw [aa2.length]; omega)
                refine ⟨[d0, d1, d2], ?_, .cons dn0 (.cons dn1 (.cons dn2 .nil))⟩
                rw [zip3_get.2, h0, h1, h2]
                rfl
              · rw [(zip3_get (i := 0)).1, aa.length]
                exact Nat.le_trans (Nat.min_le_left _ _) (Nat.le_trans (Nat.min_le_left _ _) ((sq H' ex.sub).size (sz _)))
    | exn c d r1 =>
      rw [e] at h
      exact h
    | bad =>
      rw [e] at h
      exact h
end
end SW

/-! SwLc: targets and list comprehensions. Own work. -/
namespace SW
open PySem PySem.Spec PyProof.Rows L2
theorem kill_get : ∀ (vs : List Nat) (env : Env) (j : Nat), (killE vs env).getD j .no = if j ∈ vs then .no else env.getD j .no
  | [], env, j => by simp [killE]
  | i :: is, env, j => by
    unfold killE
    rw [kill_get is, getD_set]
    by_cases h : j ∈ is
    · simp [h]
    · by_cases e : i = j
      · subst e
        by_cases l : i < env.length
        · simp [l]
        · simp only [h, List.mem_cons, true_or, if_true, if_false, l, and_false]
          rw [List.getD_eq_getElem?_getD, List.getElem?_eq_none (Nat.le_of_not_lt l)]
          rfl
      · have e' : ¬ j = i := fun q => e q.symm
        simp [h, e, e']
theorem kill_length : ∀ (vs : List Nat) (env : Env), (killE vs env).length = env.length
  | [], env => rfl
  | i :: is, env => by
    unfold killE
    rw [kill_length is, List.length_set]
theorem wipe_get : ∀ (vs : List Nat) (σ : L2.St) (j : Nat), j ∉ vs → (wipe σ vs)[j]? = σ[j]?
  | [], σ, j, _ => rfl
  | i :: is, σ, j, h => by
    simp only [List.mem_cons, not_or] at h
    unfold wipe
    rw [List.getElem?_set_ne (fun e => h.1 e.symm), wipe_get is σ j h.2]
theorem wipe_in : ∀ (vs : List Nat) (σ : L2.St) (j : Nat), j ∈ vs → (wipe σ vs)[j]? = if j < σ.length then some none else none
  | i :: is, σ, j, h => by
    unfold wipe
    rw [List.getElem?_set]
    by_cases e : i = j
    · subst e
      simp only [if_true, wipe_length]
    · have h' : j ∈ is := by
        rcases List.mem_cons.mp h with q | q
        · exact absurd q.symm e
        · exact q
      rw [if_neg e, wipe_in is σ j h']
theorem wipe_same {vs : List Nat} {σ σ' : L2.St} (hl : σ'.length = σ.length) (h : ∀ j, j ∉ vs → σ'[j]? = σ[j]?) : wipe σ' vs = wipe σ vs := by
  apply List.ext_getElem?
  intro j
  by_cases q : j ∈ vs
  · rw [wipe_in vs σ' j q, wipe_in vs σ j q, hl]
  · rw [wipe_get vs σ' j q, wipe_get vs σ j q, h j q]
section
variable {W : Wd} {H0 : Hp} {G0 : Bs} {G H : Hp} {σ σ' : L2.St} {env env' : Env} {ρ : Row}
/-- less is told of the names -/
theorem Rel.cut (R : Rel W H0 G0 G H σ env ρ) (l1 : σ'.length = σ.length) (l2 : env'.length = env.length) (h : ∀ j, env'.getD j .no = .no ∨ (env'.getD j .no = env.getD j .no ∧ σ'[j]? = σ[j]?)) (h0 : G0.s = none ∨ σ'[0]? = σ[0]?) : Rel W H0 G0 G H σ' env' ρ where
  ext := R.ext
  base := R.base
  floor := R.floor
  len := by rw [l1, l2]; exact R.len
  slot := fun j => by
    rcases h j with q | ⟨q1, q2⟩
    · rw [q]
      exact .no
    · rw [q1, q2]
      exact R.slot j
  apart := fun i j p d e h1 h2 h3 h4 => by
    rcases h i with q | ⟨q1, q2⟩
    · rw [q] at h1
      cases h1
    · rcases h j with z | ⟨z1, z2⟩
      · rw [z] at h2
        cases h2
      · rw [q1] at h1
        rw [z1] at h2
        rw [q2] at h3
        rw [z2] at h4
        exact R.apart i j p d e h1 h2 h3 h4
  row := R.row
  nrow := R.nrow
  tabs := R.tabs
  gnt := R.gnt
  self := fun x hx => by
    rcases h0 with q | q
    · rw [q] at hx
      cases hx
    · rw [q]
      exact R.self x hx
theorem Rel.wipe (R : Rel W H0 G0 G H σ env ρ) (vs : List Nat) (h0 : G0.s = none ∨ 0 ∉ vs) : Rel W H0 G0 G H (L2.wipe σ vs) (killE vs env) ρ := R.cut (wipe_length σ vs) (kill_length vs env) (fun j => by
  rw [kill_get]
  by_cases q : j ∈ vs
  · rw [if_pos q]
    exact .inl rfl
  · rw [if_neg q]
    exact .inr ⟨rfl, wipe_get vs σ j q⟩) (h0.imp id fun n => wipe_get vs σ 0 n)
theorem Rel.set (R : Rel W H0 G0 G H σ env ρ) {i : Nat} {d : D} {v : V} (h0 : G0.s = none ∨ i ≠ 0) (hi : i < env.length) (dn : Den W G d v) : Rel W H0 G0 G H (σ.set i (some v)) (env.set i (.sh d)) ρ where
  ext := R.ext
  base := R.base
  floor := R.floor
  len := by rw [List.length_set, List.length_set]; exact R.len
  slot := fun j => by
    rw [getD_set, List.getElem?_set]
    by_cases e : i = j
    · subst e
      rw [if_pos ⟨rfl, hi⟩, if_pos rfl, if_pos (by rw [R.len]; exact hi)]
      exact .sh dn
    · rw [if_neg (fun q => e q.1), if_neg e]
      exact R.slot j
  apart := fun a b p d e h1 h2 h3 h4 => by
    rw [getD_set] at h1 h2
    by_cases q1 : i = a ∧ i < env.length
    · rw [if_pos q1] at h1
      cases h1
    · rw [if_neg q1] at h1
      by_cases q2 : i = b ∧ i < env.length
      · rw [if_pos q2] at h2
        cases h2
      · rw [if_neg q2] at h2
        have n1 : i ≠ a := fun z => q1 ⟨z, hi⟩
        have n2 : i ≠ b := fun z => q2 ⟨z, hi⟩
        rw [List.getElem?_set_ne n1] at h3
        rw [List.getElem?_set_ne n2] at h4
        exact R.apart a b p d e h1 h2 h3 h4
  row := R.row
  nrow := R.nrow
  tabs := R.tabs
  gnt := R.gnt
  self := fun x hx => by
    rcases h0 with q | q
    · rw [q] at hx
      cases hx
    · rw [List.getElem?_set_ne q]
      exact R.self x hx
end
/-- a target, by data -/
def tG (W : Wd) (H0 : Hp) (G0 : Bs) (tg : Tg) : TG := fun v σ H Q => ∃ G env ρ d env', Rel W H0 G0 G H σ env ρ ∧ Den W G d v ∧ bindT tg d env = some env' ∧ ∀ σ', Rel W H0 G0 G H σ' env' ρ → (∀ i, i ∉ tgSlots tg → σ'[i]? = σ[i]?) → Q σ' H
def tGs (W : Wd) (H0 : Hp) (G0 : Bs) (tgs : List Tg) : TGs := fun vs σ H Q => ∃ G env ρ ds env', Rel W H0 G0 G H σ env ρ ∧ DenAll W G ds vs ∧ bindTs tgs ds env = some env' ∧ ∀ σ', Rel W H0 G0 G H σ' env' ρ → (∀ i, i ∉ tgsSlots tgs → σ'[i]? = σ[i]?) → Q σ' H
theorem PG.imp {X : Cx} {e : Expr} {t t' : TG} (h : PG X e t) (i : ∀ v σ H Q, t' v σ H Q → t v σ H Q) : PG X e t' := ⟨fun pins s σ H v u Q I r q => h.run pins s σ H v u Q I r (i v σ H Q q)⟩
theorem PGs.imp {X : Cx} {e : List Expr} {t t' : TGs} (h : PGs X e t) (i : ∀ v σ H Q, t' v σ H Q → t v σ H Q) : PGs X e t' := ⟨fun pins s σ H v u Q I r q => h.run pins s σ H v u Q I r (i v σ H Q q)⟩
section
variable {W : Wd} {X : Cx} {H0 : Hp} {G0 : Bs} {pos : Pos}
theorem dg_name {i : Nat} {x : Str} (hN : X.N.Nodup) (hi : X.N[i]? = some x) (hx : Loc X.env.scope x) (hf : X.fn x = true ∨ X.env.scope.names.lookup x = some .local) (h0 : G0.s = none ∨ i ≠ 0) : PG X (.Name x pos) (tG W H0 G0 (.nm i)) :=
  PG.imp (pg_name hN hi hx hf) fun v σ H Q ⟨G, env, ρ, d, env', R, dn, hb, k⟩ => by
    unfold bindT at hb
    obtain ⟨c, rfl⟩ := ite_some hb
    refine k _ (R.set h0 c dn) fun j hj => ?_
    rw [List.getElem?_set_ne]
    rintro rfl
    exact hj (by simp [tgSlots])
theorem dgs_nil : PGs X [] (tGs W H0 G0 []) := PGs.imp pgs_nil fun v σ H Q ⟨G, env, ρ, ds, env', R, dn, hb, k⟩ => by
  cases dn with
  | nil =>
    cases hb
    exact ⟨rfl, k σ R fun _ _ => rfl⟩
  | cons _ _ => simp [bindTs] at hb
theorem dgs_cons {e : Expr} {es : List Expr} {t : Tg} {ts : List Tg} (h : PGs X (e :: es) (gCons (tG W H0 G0 t) (tGs W H0 G0 ts))) : PGs X (e :: es) (tGs W H0 G0 (t :: ts)) := PGs.imp h fun v σ H Q ⟨G, env, ρ, ds, env', R, dn, hb, k⟩ => by
  cases ds with
  | nil => simp [bindTs] at hb
  | cons d ds =>
    obtain ⟨v, vs, rfl, a, b⟩ := dn.inv_cons
    unfold bindTs at hb
    cases e1 : bindT t d env with
    | none =>
      rw [e1] at hb
      cases hb
    | some env1 =>
      rw [e1] at hb
      refine ⟨v, vs, rfl, G, env, ρ, d, env1, R, a, e1, fun σ1 R1 s1 => ⟨G, env1, ρ, ds, env', R1, b, hb, fun σ2 R2 s2 => k σ2 R2 fun i hi => ?_⟩⟩
      unfold tgsSlots at hi
      rw [List.mem_append, not_or] at hi
      rw [s2 i hi.2, s1 i hi.1]
theorem bindTs_len : ∀ {ts : List Tg} {ds : List D} {env env' : Env}, bindTs ts ds env = some env' → ds.length = ts.length
  | [], [], _, _, _ => rfl
  | [], _ :: _, _, _, h => by simp [bindTs] at h
  | _ :: _, [], _, _, h => by simp [bindTs] at h
  | t :: ts, d :: ds, env, env', h => by
    unfold bindTs at h
    cases e1 : bindT t d env with
    | none =>
      rw [e1] at h
      cases h
    | some env1 =>
      rw [e1] at h
      rw [List.length_cons, List.length_cons, bindTs_len h]
theorem dg_tup {es : List Expr} {k : Nat} {ts : List Tg} (hc : X.calm = true) (h : PGs X es (tGs W H0 G0 ts)) (hn : (assignEach es X.env).length = ts.length) (hst : (assignEach es X.env).findIdx? (·.1) = none) : PG X (.Tuple es k pos) (tG W H0 G0 (.tp ts)) :=
  PG.imp (pg_tup hc h hn hst) fun v σ H Q ⟨G, env, ρ, d, env', R, dn, hb, kk⟩ => by
    cases d with
    | tup ds =>
      obtain ⟨a, vs, rfl, ha, aa⟩ := dn.itup
      have hb : bindTs ts ds env = some env' := by simpa [bindT] using hb
      exact ⟨a, vs, rfl, SqT.of (R.sub _ _ ha), by rw [← aa.length, bindTs_len hb], G, env, ρ, ds, env', R, aa, hb, fun σ' R' s' => kk σ' R' (by simpa [tgSlots] using s')⟩
    | _ => simp [bindT] at hb
end
/-! ### list comprehensions -/
def noExn (f : Env → Row → R D) : Env → Row → R D := fun env r => match f env r with
  | .exn _ _ _ => .bad
  | x => x
@[reducible] def lcF (vs : List Nat) (tg : Tg) (fi : Env → Row → R (List D)) (ft : Env → Row → R Bool) (fe : Env → Row → R D) : Env → Row → R D := fun env r => (fi env r).bind fun ds r1 =>
  (lcLoop (fun d => bindT tg d (killE vs env)) ft (noExn fe) ds r1).bind fun xs r2 => .ok (.lst xs) r2
abbrev EF : XK := fun _ _ _ => False
theorem bind_lst {r : R (List D)} {d : D} {as : List D} {W : Wd} {G H : Hp} {E : XK} {Q : VK}
    (h : OutN W G H E ((r.bind fun ds r3 => .ok (d :: ds) r3).bind fun xs r2 => .ok (.lst (as ++ xs)) r2) Q) : OutN W G H E (r.bind fun xs r2 => .ok (.lst ((as ++ [d]) ++ xs)) r2) Q := by
  cases r with
  | ok ds r3 =>
    have e : (as ++ [d]) ++ ds = as ++ d :: ds := by simp
    show OutN W G H E (.ok (.lst ((as ++ [d]) ++ ds)) r3) Q
    rw [e]
    exact h
  | exn c d r3 => exact h
  | bad => exact h
theorem lc_imp {W : Wd} {H0 : Hp} {G0 : Bs} {E : XK} {vs : List Nat} {tg : Tg} {fi : Env → Row → R (List D)} {ft : Env → Row → R Bool} {fe : Env → Row → R D} {σ : L2.St} {H : Hp} {Q : VK} (sub : ∀ i, i ∈ tgSlots tg → i ∈ vs)
    (htb : ∀ env r c d r1, ft env r ≠ .exn c d r1) (h0 : G0.s = none ∨ 0 ∉ vs) (q : tN W H0 G0 E (lcF vs tg fi ft fe) σ H Q) : tLc (tI W H0 G0 E fi) (tG W H0 G0 tg) (tT W H0 G0 EF ft) (tF W H0 G0 EF fe) vs σ H Q := by
    obtain ⟨G, env, ρ, R, h⟩ := q
    refine ⟨G, env, ρ, R, ?_⟩
    unfold lcF at h
    cases e : fi env ρ with
    | exn c d r1 =>
      rw [e] at h
      exact h
    | bad =>
      rw [e] at h
      exact h
    | ok ds r1 =>
      rw [e] at h
      intro G1 H1 ex rr J y len Dd hD
      have R1 := R.extend ex rr
      have h : OutN W G1 H1 E ((lcLoop (fun d => bindT tg d (killE vs env)) ft (noExn fe) ds r1).bind fun xs r2 => .ok (.lst xs) r2) Q := OutN.trans h ex
      have nr : W.r ≠ some Dd := fun q => rr.here q hD
      have g1D : G1 Dd = none := by
        cases q : G1 Dd with
        | none => rfl
        | some o => rw [ex.sub _ _ q] at hD; cases hD
      refine ⟨fun i m Hc => m = ds.length - i ∧ i ≤ ds.length ∧ ∃ Gc ρc acc as, Ext W G1 H1 Gc Hc ∧ Gc Dd = none ∧ Hc Dd = some (.lst acc) ∧ DenAll W Gc as acc ∧ acc.length ≤ i ∧ RowAt W Hc ρc ∧
        OutN W G1 H1 E ((lcLoop (fun d => bindT tg d (killE vs env)) ft (noExn fe) (ds.drop i) ρc).bind fun xs r2 => .ok (.lst (as ++ xs)) r2) Q, ⟨ds.length, by simp, Nat.zero_le _, G1, r1, [], [], Ext.scratch ex.sub hD, g1D, upd_same, .nil, Nat.zero_le _, rr.ext (kept_upd hD), h⟩, ?_⟩
      rintro i m Hc ⟨rfl, hi, Gc, ρc, acc, as, ex1, gD, hcD, da, la, rw1, out⟩
      have sG : Sub G1 Hc := ex1.mono.trans ex1.sub
      by_cases lt : i < ds.length
      · right
        refine ⟨y.go i Hc sG lt, fun H' => ∃ Gc ρc acc as, Ext W G1 H1 Gc H' ∧ Gc Dd = none ∧ H' Dd = some (.lst acc) ∧ DenAll W Gc as acc ∧ acc.length ≤ i + 1 ∧ RowAt W H' ρc ∧
          OutN W G1 H1 E ((lcLoop (fun d => bindT tg d (killE vs env)) ft (noExn fe) (ds.drop (i + 1)) ρc).bind fun xs r2 => .ok (.lst (as ++ xs)) r2) Q, fun H' hx => ⟨ds.length - (i + 1), by omega, rfl, lt, hx⟩, ?_⟩
        intro v H' yl
        obtain ⟨G2, d, hd, dn, ex2, kp⟩ := y.yld i Hc Gc v H' ex1.mono ex1.sub yl lt
        have ed : ds.drop i = d :: ds.drop (i + 1) := by
          rw [List.drop_eq_getElem_cons lt]
          rw [List.getElem?_eq_getElem lt] at hd
          rw [Option.some.inj hd]
        rw [ed] at out
        unfold lcLoop at out
        cases eb : bindT tg d (killE vs env) with
        | none =>
          simp only [eb] at out
          exact out.elim
        | some env2 =>
          simp only [eb] at out
          have Rw := ((R1.extend (ex1.trans ex2) (rw1.ext kp)).wipe vs h0)
          refine ⟨G2, killE vs env, ρc, d, env2, Rw, dn, eb, fun σ2 R2 same => ⟨?_, ?_⟩⟩
          · have l2 : σ2.length = σ.length := by
              have q1 := R2.len
              have q2 := R.len
              have q3 : env2.length = (killE vs env).length := by
                have z := Rw.len
                have : ∀ (t : Tg) (d : D) (e e' : Env), bindT t d e = some e' → e'.length = e.length := by
                  intro t
                  refine Tg.rec (motive_1 := fun t => ∀ (d : D) (e e' : Env), bindT t d e = some e' → e'.length = e.length) (motive_2 := fun ts => ∀ (ds : List D) (e e' : Env), bindTs ts ds e = some e' → e'.length = e.length) ?_ ?_ ?_ ?_ t
                  · intro i d e e' h
                    unfold bindT at h
                    obtain ⟨_, rfl⟩ := ite_some h
                    exact List.length_set ..
                  · intro ts ih d e e' h
                    cases d with
                    | tup ds => exact ih ds e e' (by simpa [bindT] using h)
                    | _ => simp [bindT] at h
                  · intro ds e e' h
                    cases ds with
                    | nil => cases h; rfl
                    | cons _ _ => simp [bindTs] at h
                  · intro t ts ih ihs ds e e' h
                    cases ds with
                    | nil => simp [bindTs] at h
                    | cons d ds =>
                      unfold bindTs at h
                      cases e1 : bindT t d e with
                      | none =>
                        rw [e1] at h
                        cases h
                      | some env1 =>
                        rw [e1] at h
                        rw [ihs _ _ _ h, ih _ _ _ e1]
                exact this tg d _ _ eb
              rw [q1, q3, kill_length, q2]
            refine wipe_same l2 fun j hj => ?_
            have hj' : j ∉ tgSlots tg := fun z => hj (sub j z)
            rw [same j hj', wipe_get vs σ j hj]
          · refine ⟨G2, env2, ρc, R2, ?_⟩
            cases et : ft env2 ρc with
            | exn c d r3 => exact absurd et (htb _ _ _ _ _)
            | bad =>
              simp only [et] at out
              exact out.elim
            | ok b ρ3 =>
              simp only [et] at out
              intro G3 H3 ex3 rw3
              have R3 := R2.extend ex3 rw3
              have hH1D : ∀ {G H}, Ext W Gc Hc G H → H Dd = some (.lst acc) := fun x => x.keep _ _ hcD (fun _ z => nomatch z) nr
              cases b with
              | false =>
                show ∃ Gc ρc acc as, _
                refine ⟨G3, ρ3, acc, as, (ex1.trans ex2).trans ex3, ?_, hH1D (ex2.trans ex3), da.mono (ex2.trans ex3).mono, by omega, rw3, out⟩
                exact (ex2.trans ex3).out gD hcD (.inl trivial)
              | true =>
                have out : OutN W G1 H1 E (((noExn fe env2 ρ3).bind fun d r2 => (lcLoop (fun d => bindT tg d (killE vs env)) ft (noExn fe) (ds.drop (i + 1)) r2).bind fun ds r3 => .ok (d :: ds) r3).bind fun xs r2 => .ok (.lst (as ++ xs)) r2) Q := out
                refine ⟨G3, env2, ρ3, R3, ?_⟩
                cases ee : fe env2 ρ3 with
                | exn c d r3 =>
                  have z : noExn fe env2 ρ3 = .bad := by unfold noExn; rw [ee]
                  rw [z] at out
                  exact out.elim
                | bad =>
                  have z : noExn fe env2 ρ3 = .bad := by unfold noExn; rw [ee]
                  rw [z] at out
                  exact out.elim
                | ok dd ρ4 =>
                  have z : noExn fe env2 ρ3 = .ok dd ρ4 := by unfold noExn; rw [ee]
                  simp only [z] at out
                  intro u G4 H4 ex4 rw4 du
                  have ex5 := (ex2.trans ex3).trans ex4
                  have h4D := hH1D ex5
                  have g4D : G4 Dd = none := ex5.out gD hcD (.inl trivial)
                  refine ⟨acc, h4D, by rw [← line_eq]; omega, G4, ρ4, acc ++ [u], as ++ [dd], (ex1.trans ex5).poke (.inl hD) g4D (fun o q => ?_) (.inl trivial), g4D, upd_same, (da.mono ex5.mono).append (.cons du .nil), by simp; omega, rw4.poke nr, bind_lst out⟩
                  rw [h4D] at q
                  cases q
                  exact .inl trivial
      · left
        have e0 : ds.drop i = [] := List.drop_eq_nil_of_le (Nat.le_of_not_lt lt)
        rw [e0] at out
        refine ⟨y.stop i Hc sG (Nat.le_of_not_lt lt), ?_⟩
        have out : OutN W G1 H1 E (.ok (.lst (as ++ [])) ρc) Q := out
        rw [List.append_nil] at out
        exact out Dd Gc Hc ex1 rw1 (.inl hD) gD ⟨acc, hcD, da⟩
theorem dn_lc {W : Wd} {X : Cx} {k : Nat} {H0 : Hp} {G0 : Bs} {E : XK} {elt tgE iterE : Expr} {ifs : List Expr} {scope : Scope} {own : List (Str × Nat)} {pos : Pos} {tg : Tg} {fi : Env → Row → R (List D)} {ft : Env → Row → R Bool} {fe : Env → Row → R D}
    (g : Good W X k) (hi : PI X tgE iterE (tI W H0 G0 E fi)) (ok : BlkOk X.N X.env.scope scope own)
    (hg : ∀ (s : Shared) (H : Hp) (C : Addr) (cl : List (Str × Addr)) (fp : List Addr), PG (X.blk s H scope (compEnvC scope cl C X.env) fp) tgE (tG W H0 G0 tg)) (ht : ∀ (s : Shared) (H : Hp) (C : Addr) (cl : List (Str × Addr)) (fp : List Addr), PTs (X.blk s H scope (compEnvC scope cl C X.env) fp) ifs (tT W H0 G0 EF ft))
    (he : ∀ (s : Shared) (H : Hp) (C : Addr) (cl : List (Str × Addr)) (fp : List Addr), PE (X.blk s H scope (compEnvC scope cl C X.env) fp) elt (tF W H0 G0 EF fe)) (hs : ∀ x, foldedSetIterable iterE X.env x = pure x) (sub : ∀ i, i ∈ tgSlots tg → i ∈ own.map (·.2))
    (htb : ∀ env r c d r1, ft env r ≠ .exn c d r1) (h0 : G0.s = none ∨ 0 ∉ own.map (·.2)) :
    PE X (.ListComp elt [⟨tgE, iterE, ifs, 0⟩] scope pos) (tN W H0 G0 E (lcF (own.map (·.2)) tg fi ft fe)) :=
  PE.imp (pe_lc g.calm g.nd hi ok hg ht he hs) fun σ H Q q => lc_imp sub htb h0 q
end SW

/-! SwSt: statements (first part): storing. Own work. -/
namespace SW
open PySem PySem.Spec PyProof.Rows L2
/-- what holds of a context in which statements run -/
structure GoodS (W : Wd) (X : Cx) (k : Nat) (E : XK) extends Good W X k where
  own : PassesOwn (model X.prog X.w) X.A X.env X.xe
  tk : Takes X (fun cls d _ H => E cls d H)
section
variable {W : Wd} {X : Cx} {k : Nat} {H0 : Hp} {G0 : Bs} {G H : Hp} {E : XK} {σ : L2.St} {env : Env} {ρ : Row} {Dn : Ends} {f f1 f2 : Env → Row → R D} {a b e : Expr} {pos : Pos}
theorem tS_bind {kk : D → Row → RS} {Q : VK} (R : Rel W H0 G0 G H σ env ρ) (h : OutS W H0 G0 E ((f env ρ).then kk) Dn)
    (hk : ∀ d ρ1 v G1 H1, Ext W G H G1 H1 → Den W G1 d v → Rel W H0 G0 G1 H1 σ env ρ1 → OutS W H0 G0 E (kk d ρ1) Dn → Q v H1) : tF W H0 G0 E f σ H Q := by
  refine ⟨G, env, ρ, R, ?_⟩
  cases e : f env ρ with
  | ok d ρ1 =>
    rw [e] at h
    exact fun v G1 H1 x r dn => hk d ρ1 v G1 H1 x dn (R.extend x r) h
  | exn c d ρ1 =>
    rw [e] at h
    exact fun v G' H' x ex rr dn hx hx' => h v G' H' x (R.ext.trans ex) rr dn (R.ext.free hx) hx'
  | bad =>
    rw [e] at h
    exact h
theorem tS_bindN {kk : D → Row → RS} {Q : VK} (R : Rel W H0 G0 G H σ env ρ) (h : OutS W H0 G0 E ((f env ρ).then kk) Dn)
    (hk : ∀ d ρ1 p G1 H1, Ext W G H G1 H1 → Fr H p → G1 p = none → OwnAt W G1 H1 d p → Rel W H0 G0 G1 H1 σ env ρ1 → OutS W H0 G0 E (kk d ρ1) Dn → Q (.ref p) H1) : tN W H0 G0 E f σ H Q := by
  refine ⟨G, env, ρ, R, ?_⟩
  cases e : f env ρ with
  | ok d ρ1 =>
    rw [e] at h
    exact fun p G1 H1 x r hp hg o => hk d ρ1 p G1 H1 x hp hg o (R.extend x r) h
  | exn c d ρ1 =>
    rw [e] at h
    exact fun v G' H' x ex rr dn hx hx' => h v G' H' x (R.ext.trans ex) rr dn (R.ext.free hx) hx'
  | bad =>
    rw [e] at h
    exact h
theorem tS_bindL {fs : Env → Row → R (List D)} {kk : List D → Row → RS} {Q : List V → Hp → Prop} (R : Rel W H0 G0 G H σ env ρ) (h : OutS W H0 G0 E ((fs env ρ).then kk) Dn)
    (hk : ∀ d ρ1 v G1 H1, Ext W G H G1 H1 → DenAll W G1 d v → Rel W H0 G0 G1 H1 σ env ρ1 → OutS W H0 G0 E (kk d ρ1) Dn → Q v H1) : tL W H0 G0 E fs σ H Q := by
  refine ⟨G, env, ρ, R, ?_⟩
  cases e : fs env ρ with
  | ok d ρ1 =>
    rw [e] at h
    exact fun v G1 H1 x r dn => hk d ρ1 v G1 H1 x dn (R.extend x r) h
  | exn c d ρ1 =>
    rw [e] at h
    exact fun v G' H' x ex rr dn hx hx' => h v G' H' x (R.ext.trans ex) rr dn (R.ext.free hx) hx'
  | bad =>
    rw [e] at h
    exact h
theorem tS_bindT {g : Env → Row → R Bool} {kk : Bool → Row → RS} {Q : Bool → Hp → Prop} (R : Rel W H0 G0 G H σ env ρ) (h : OutS W H0 G0 E ((g env ρ).then kk) Dn)
    (hk : ∀ d ρ1 G1 H1, Ext W G H G1 H1 → Rel W H0 G0 G1 H1 σ env ρ1 → OutS W H0 G0 E (kk d ρ1) Dn → Q d H1) : tT W H0 G0 E g σ H Q := by
  refine ⟨G, env, ρ, R, ?_⟩
  cases e : g env ρ with
  | ok d ρ1 =>
    rw [e] at h
    exact fun G1 H1 x r => hk d ρ1 G1 H1 x (R.extend x r) h
  | exn c d ρ1 =>
    rw [e] at h
    exact fun v G' H' x ex rr dn hx hx' => h v G' H' x (R.ext.trans ex) rr dn (R.ext.free hx) hx'
  | bad =>
    rw [e] at h
    exact h
theorem next_some {o : Option Env} (h : OutS W H0 G0 E (nextO o ρ) Dn) : ∃ env', o = some env' ∧ ∀ G H σ, Rel W H0 G0 G H σ env' ρ → Dn.nx σ H := by
  cases o with
  | none => exact h.elim
  | some env' => exact ⟨env', rfl, h⟩
/-! ### targets -/
@[reducible] def asgF (tg : Tg) (f : Env → Row → R D) : Env → Row → RS := fun env r => (f env r).then fun d r1 => nextO (bindT tg d env) r1
theorem asg_imp {tg : Tg} (q : tSt W H0 G0 E (asgF tg f) Dn σ H) : tAsg (tF W H0 G0 E f) (tG W H0 G0 tg) Dn σ H := by
  obtain ⟨G, env, ρ, R, h⟩ := q
  refine tS_bind R h fun d ρ1 v G1 H1 x dv R1 h1 => ?_
  obtain ⟨env', hb, hn⟩ := next_some h1
  exact ⟨G1, env, ρ1, d, env', R1, dv, hb, fun σ' R' _ => hn _ _ _ R'⟩
theorem ds_asg {tg : Tg} {tgE : Expr} (he : PE X e (tF W H0 G0 E f)) (hg : PG X tgE (tG W H0 G0 tg)) (hs : swapsWithSole [tgE] e pos.line X.env = pure false) (hw : swappedStores [tgE] e X.env = pure none) (h1 : (assignEach [tgE] X.env).map (·.2) = [assign tgE X.env]) :
    PS X (.Assign [tgE] e pos) (tSt W H0 G0 E (asgF tg f)) := PS.imp (ps_asg he hg hs hw h1) fun Dn σ H q => asg_imp q
/-! ### an owned name -/
theorem Rel.setO (R : Rel W H0 G0 G H σ env ρ) {i : Nat} {d : D} {p : Addr} (h0 : G0.s = none ∨ i ≠ 0) (hi : i < env.length) (o : OwnAt W G H d p) (hp : Fr H0 p) (hg : G p = none) (hr : W.r ≠ some p)
    (ha : ∀ j e, env.getD j .no = .ow e → σ[j]? ≠ some (some (.ref p))) : Rel W H0 G0 G H (σ.set i (some (.ref p))) (env.set i (.ow d)) ρ where
  ext := R.ext
  base := R.base
  floor := R.floor
  len := by rw [List.length_set, List.length_set]; exact R.len
  slot := fun j => by
    rw [getD_set, List.getElem?_set]
    by_cases e : i = j
    · subst e
      rw [if_pos ⟨rfl, hi⟩, if_pos rfl, if_pos (by rw [R.len]; exact hi)]
      exact .ow o hp hg hr
    · rw [if_neg (fun q => e q.1), if_neg e]
      exact R.slot j
  apart := fun a b p' d' e' h1 h2 h3 h4 => by
    rw [getD_set] at h1 h2
    by_cases q1 : i = a
    · by_cases q2 : i = b
      · rw [← q1, ← q2]
      · rw [if_neg (fun q => q2 q.1)] at h2
        subst q1
        rw [List.getElem?_set_self (by rw [R.len]; exact hi)] at h3
        rw [List.getElem?_set_ne q2] at h4
        cases h3
        exact absurd h4 (ha b e' h2)
    · rw [if_neg (fun q => q1 q.1)] at h1
      rw [List.getElem?_set_ne q1] at h3
      by_cases q2 : i = b
      · subst q2
        rw [List.getElem?_set_self (by rw [R.len]; exact hi)] at h4
        cases h4
        exact absurd h3 (ha a d' h1)
      · rw [if_neg (fun q => q2 q.1)] at h2
        rw [List.getElem?_set_ne q2] at h4
        exact R.apart a b p' d' e' h1 h2 h3 h4
  row := R.row
  nrow := R.nrow
  tabs := R.tabs
  gnt := R.gnt
  self := fun x hx => by
    rcases h0 with q | q
    · rw [q] at hx
      cases hx
    · rw [List.getElem?_set_ne q]
      exact R.self x hx
theorem own_ne (R : Rel W H0 G0 G H σ env ρ) {p : Addr} (hp : Fr H p) {j : Nat} {e : D} (h : env.getD j .no = .ow e) : σ[j]? ≠ some (some (.ref p)) := fun q => by
  obtain ⟨p', h1, o, _⟩ := R.own h
  rw [q] at h1
  cases h1
  obtain ⟨u, hu, n⟩ := o.obj
  exact hp.not hu n
@[reducible] def asgOF (i : Nat) (f : Env → Row → R D) : Env → Row → RS := fun env r => (f env r).then fun d r1 => nextO (setO env i d) r1
theorem setO_some {env' : Env} {i : Nat} {d : D} (h : setO env i d = some env') : i < env.length ∧ env' = env.set i (.ow d) := by
  cases d <;> simp only [setO] at h <;> first | (cases h; done) | (obtain ⟨c, rfl⟩ := ite_some h; exact ⟨c, rfl⟩)
theorem asgO_imp {i : Nat} (h0 : G0.s = none ∨ i ≠ 0) (q : tSt W H0 G0 E (asgOF i f) Dn σ H) : tAsg (tN W H0 G0 E f) (gName i) Dn σ H := by
  obtain ⟨G, env, ρ, R, h⟩ := q
  refine tS_bindN R h fun d ρ1 p G1 H1 x hp hg o R1 h1 => ?_
  obtain ⟨env', hb, hn⟩ := next_some h1
  obtain ⟨hi, rfl⟩ := setO_some hb
  refine hn _ _ _ (R1.setO h0 hi o (R.ext.free hp) hg (fun z => ?_) fun j e he => own_ne R hp he)
  exact hp.not (R.row.2 p z).2.1 (.inl trivial)
theorem ds_asgO {i : Nat} {x : Str} {pos' : Pos} (g : Good W X k) (h0 : G0.s = none ∨ i ≠ 0) (hi : X.N[i]? = some x) (hx : Loc X.env.scope x) (he : PE X e (tN W H0 G0 E f)) (hs : swapsWith e (some (.Name x pos')) pos.line X.env = pure false) (hf : X.fn x = true ∨ X.env.scope.names.lookup x = some .local) :
    PS X (.Assign [.Name x pos'] e pos) (tSt W H0 G0 E (asgOF i f)) := PS.imp (ps_set g.nd hi hx he hs hf) fun Dn σ H q => asgO_imp h0 q
/-- name = value, the value a new list, as a value -/
theorem asgN_imp {i : Nat} (h0 : G0.s = none ∨ i ≠ 0) (q : tSt W H0 G0 E (asgF (.nm i) f) Dn σ H) : tAsg (tN W H0 G0 E f) (gName i) Dn σ H := by
  obtain ⟨G, env, ρ, R, h⟩ := q
  refine tS_bindN R h fun d ρ1 p G1 H1 x hp hg o R1 h1 => ?_
  obtain ⟨env', hb, hn⟩ := next_some h1
  unfold bindT at hb
  obtain ⟨hi, rfl⟩ := ite_some hb
  obtain ⟨u, hu, dn⟩ := o.den hg
  have ex2 := x.freeze hp hu hg (o.nt hu)
  exact hn _ _ _ ((R.extend ex2 R1.row).set h0 hi dn)
/-! ### a, b = x, y -/
@[reducible] def parF (is : List Nat) (fs : Env → Row → R (List D)) : Env → Row → RS := fun env r => (fs env r).then fun ds r1 => nextO (parE is ds env) r1
theorem ds_par2 {i j : Nat} {x y : Str} {px py pt : Pos} {kt k2 : Nat} {pt2 : Pos} {fs : Env → Row → R (List D)} (g : Good W X k) (h0 : G0.s = none ∨ (i ≠ 0 ∧ j ≠ 0)) (hi : X.N[i]? = some x) (hj : X.N[j]? = some y) (hij : i ≠ j)
    (hx : X.env.scope.names.lookup x = some .local) (hy : X.env.scope.names.lookup y = some .local) (ha : PA X [a, b] (tL W H0 G0 E fs))
    (hw : swappedStores [.Tuple [.Name x px, .Name y py] kt pt] (.Tuple [a, b] k2 pt2) X.env = pure (some [x, y])) (hs : swapsWithSole [.Tuple [.Name x px, .Name y py] kt pt] (.Tuple [a, b] k2 pt2) pos.line X.env = pure false) (hl : ∀ env r ds r1, fs env r = .ok ds r1 → ds.length = 2) :
    PS X (.Assign [.Tuple [.Name x px, .Name y py] kt pt] (.Tuple [a, b] k2 pt2) pos) (tSt W H0 G0 E (parF [i, j] fs)) :=
  PS.imp (ps_par g.calm g.nd hi hj hij hx hy ha hw hs) fun Dn σ H q => by
    obtain ⟨G, env, ρ, R, h⟩ := q
    refine tS_bindL R h fun ds ρ1 vs G1 H1 ex dvs R1 h1 => ?_
    obtain ⟨env', hb, hn⟩ := next_some h1
    match ds, dvs with
    | [], _ => cases hb
    | [_], _ => simp [parE] at hb
    | [d, d'], dvs =>
      obtain ⟨v, u, rfl, dv, du⟩ := dvs.inv2
      simp only [parE] at hb
      by_cases c1 : i < env.length
      · rw [if_pos c1] at hb
        by_cases c2 : j < (env.set i (.sh d)).length
        · rw [if_pos c2] at hb
          cases hb
          exact ⟨v, u, rfl, hn _ _ _ ((R1.set (h0.imp id And.left) c1 dv).set (h0.imp id And.right) c2 du)⟩
        · rw [if_neg c2] at hb
          cases hb
      · rw [if_neg c1] at hb
        cases hb
    | _ :: _ :: _ :: _, _ =>
      simp only [parE] at hb
      by_cases c1 : i < env.length
      · rw [if_pos c1] at hb
        split at hb <;> cases hb
      · rw [if_neg c1] at hb
        cases hb
theorem ds_par3 {i j l : Nat} {x y z : Str} {c : Expr} {px py pz pt : Pos} {kt k2 : Nat} {pt2 : Pos} {fs : Env → Row → R (List D)} (g : Good W X k) (h0 : G0.s = none ∨ (i ≠ 0 ∧ j ≠ 0 ∧ l ≠ 0)) (hi : X.N[i]? = some x) (hj : X.N[j]? = some y) (hl' : X.N[l]? = some z) (hij : i ≠ j) (hil : i ≠ l) (hjl : j ≠ l)
    (hx : X.env.scope.names.lookup x = some .local) (hy : X.env.scope.names.lookup y = some .local) (hz : X.env.scope.names.lookup z = some .local) (ha : PA X [a, b, c] (tL W H0 G0 E fs))
    (hw : swappedStores [.Tuple [.Name x px, .Name y py, .Name z pz] kt pt] (.Tuple [a, b, c] k2 pt2) X.env = pure (some [x, y, z])) (hs : swapsWithSole [.Tuple [.Name x px, .Name y py, .Name z pz] kt pt] (.Tuple [a, b, c] k2 pt2) pos.line X.env = pure false) (hl : ∀ env r ds r1, fs env r = .ok ds r1 → ds.length = 3) :
    PS X (.Assign [.Tuple [.Name x px, .Name y py, .Name z pz] kt pt] (.Tuple [a, b, c] k2 pt2) pos) (tSt W H0 G0 E (parF [i, j, l] fs)) :=
  PS.imp (ps_par3 g.calm g.nd hi hj hl' hij hil hjl hx hy hz ha hw hs) fun Dn σ H q => by
    obtain ⟨G, env, ρ, R, h⟩ := q
    have hlen := hl env ρ
    refine tS_bindL (fs := fs) (Q := fun vs H1 => ∃ u v w, vs = [u, v, w] ∧ Dn.nx (((σ.set i (some u)).set j (some v)).set l (some w)) H1) R h fun ds ρ1 vs G1 H1 ex dvs R1 h1 => ?_
    obtain ⟨env', hb, hn⟩ := next_some h1
    match ds, dvs with
    | [], _ => cases hb
    | [_], _ => simp [parE] at hb
    | [_, _], _ =>
      simp only [parE] at hb
      by_cases c1 : i < env.length
      · rw [if_pos c1] at hb
        split at hb <;> cases hb
      · rw [if_neg c1] at hb
        cases hb
    | [d, d', d''], dvs =>
      obtain ⟨v, u, w, rfl, dv, du, dw⟩ := dvs.inv3
      simp only [parE] at hb
      by_cases c1 : i < env.length
      · rw [if_pos c1] at hb
        by_cases c2 : j < (env.set i (.sh d)).length
        · rw [if_pos c2] at hb
          by_cases c3 : l < ((env.set i (.sh d)).set j (.sh d')).length
          · rw [if_pos c3] at hb
            cases hb
            exact ⟨v, u, w, rfl, hn _ _ _ (((R1.set (h0.imp id And.left) c1 dv).set (h0.imp id fun z => z.2.1) c2 du).set (h0.imp id fun z => z.2.2) c3 dw)⟩
          · rw [if_neg c3] at hb
            cases hb
        · rw [if_neg c2] at hb
          cases hb
      · rw [if_neg c1] at hb
        cases hb
    | _ :: _ :: _ :: _ :: _, _ =>
      simp only [parE] at hb
      by_cases c1 : i < env.length
      · rw [if_pos c1] at hb
        split at hb
        · split at hb <;> cases hb
        · cases hb
      · rw [if_neg c1] at hb
        cases hb
end
end SW

/-! SwSt2: statements (second part): changing what is owned. Own work. -/
namespace SW
open PySem PySem.Spec PyProof.Rows L2
section
variable {W : Wd} {X : Cx} {k : Nat} {H0 : Hp} {G0 : Bs} {G H : Hp} {E : XK} {σ : L2.St} {env : Env} {ρ : Row} {Dn : Ends} {f f1 f2 : Env → Row → R D} {a b e : Expr} {pos : Pos}
/-- the object of an owned name is changed -/
theorem Rel.poke (R : Rel W H0 G0 G H σ env ρ) {i : Nat} {d d' : D} {p : Addr} {o : HO} (h : env.getD i .no = .ow d) (hs : σ[i]? = some (some (.ref p))) (no : isLst o ∨ isDic o ∨ isIns o) (ho : OwnAt W G (upd H p o) d' p) : Rel W H0 G0 G (upd H p o) σ (env.set i (.ow d')) ρ := by
  obtain ⟨p', hp', ow, h0, hg, hr⟩ := R.own h
  rw [hs] at hp'
  cases hp'
  obtain ⟨u, hu, n⟩ := ow.obj
  have il := getD_lt h (by simp)
  exact {
    ext := R.ext.poke h0 hg (fun w q => by
      rw [hu] at q
      cases q
      exact n) no
    base := R.base
    floor := R.floor
    len := by rw [List.length_set]; exact R.len
    slot := fun j => by
      rw [getD_set]
      by_cases q : i = j ∧ i < env.length
      · rw [if_pos q, ← q.1, hs]
        exact .ow ho h0 hg hr
      · rw [if_neg q]
        have z := R.slot j
        generalize e1 : env.getD j .no = sl at z ⊢
        generalize e2 : σ[j]? = x at z ⊢
        cases z with
        | no => exact .no
        | sh a => exact .sh a
        | ow a b c r =>
          rename_i d2 p2
          have ne : p2 ≠ p := by
            rintro rfl
            exact q ⟨(R.apart j i _ _ _ e1 h e2 hs).symm, il⟩
          refine .ow (a.mono (Sub.refl _) fun o h _ => ?_) b c r
          rw [upd_ne ne]
          exact h
    apart := fun j l p' d' e' h1 h2 h3 h4 => by
      rw [getD_set] at h1 h2
      have key : ∀ {j d'}, (if i = j ∧ i < env.length then Sl.ow d' else env.getD j .no) = .ow d' → ∃ dd, env.getD j .no = .ow dd := by
        intro j d' q
        by_cases c : i = j ∧ i < env.length
        · rw [← c.1]
          exact ⟨_, h⟩
        · rw [if_neg c] at q
          exact ⟨_, q⟩
      have k1 : ∃ dd, env.getD j .no = .ow dd := by
        by_cases c : i = j ∧ i < env.length
        · rw [← c.1]
          exact ⟨_, h⟩
        · rw [if_neg c] at h1
          exact ⟨_, h1⟩
      have k2 : ∃ dd, env.getD l .no = .ow dd := by
        by_cases c : i = l ∧ i < env.length
        · rw [← c.1]
          exact ⟨_, h⟩
        · rw [if_neg c] at h2
          exact ⟨_, h2⟩
      obtain ⟨d1, k1⟩ := k1
      obtain ⟨d2, k2⟩ := k2
      exact R.apart j l p' d1 d2 k1 k2 h3 h4
    row := R.row.poke hr
    nrow := R.nrow
    tabs := by
      intro x hx
      obtain ⟨ps, q, r, c⟩ := R.tabs x hx
      refine ⟨ps, ?_, r, fun pos cv hc => ?_⟩
      · rw [upd_ne]
        · exact q
        · intro z
          rw [z, hu] at q
          cases q
          rcases n with y | y | y <;> exact y
      · obtain ⟨cc, e1, e2⟩ := c pos cv hc
        refine ⟨cc, e1, ?_⟩
        rw [upd_ne]
        · exact e2
        · intro z
          rw [z, hu] at e2
          cases e2
          rcases n with y | y | y <;> exact y
    gnt := R.gnt
    self := R.self }
/-! ### x op= e -/
@[reducible] def augF (i : Nat) (p : P2) (f : Env → Row → R D) : Env → Row → RS := fun env r => (liftO (env.getD i .no).get r).then fun x r1 => (f env r1).then fun d r2 => (liftO (augI p x d) r2).then fun z r3 => nextO (bindT (.nm i) z env) r3
theorem get_some {i : Nat} {kk : D → Row → RS} (h : OutS W H0 G0 E ((liftO (env.getD i .no).get ρ).then kk) Dn) : ∃ d, env.getD i .no = .sh d ∧ OutS W H0 G0 E (kk d ρ) Dn := by
  cases e : env.getD i .no with
  | sh d =>
    rw [e] at h
    exact ⟨d, rfl, h⟩
  | no =>
    rw [e] at h
    exact h.elim
  | ow d =>
    rw [e] at h
    exact h.elim
theorem then_some {α : Type} {o : Option α} {kk : α → Row → RS} (h : OutS W H0 G0 E ((liftO o ρ).then kk) Dn) : ∃ d, o = some d ∧ OutS W H0 G0 E (kk d ρ) Dn := by
  cases o with
  | none => exact h.elim
  | some d => exact ⟨d, rfl, h⟩
/-- the operators that stand before = -/
def augW : P2 → Int → Int → Int
  | .sub, a, b => a - b
  | _, a, b => a + b
theorem augI_some {p : P2} {x d z : D} (h : augI p x d = some z) : ∃ a b, x = .int a ∧ d = .int b ∧ z = .int (augW p a b) := by
  cases p <;> cases x <;> cases d <;> simp only [augI] at h <;> cases h <;> exact ⟨_, _, rfl, rfl, rfl⟩
theorem ds_aug {i : Nat} {x : Str} {op : Operator} {p : P2} {pos' : Pos} (g : Good W X k) (h0 : G0.s = none ∨ i ≠ 0) (hi : X.N[i]? = some x) (hx : Loc X.env.scope x) (he : PE X e (tF W H0 G0 E f)) (ho : PIp X op (ipI (augW p))) (hf : X.fn x = true ∨ X.env.scope.names.lookup x = some .local) :
    PS X (.AugAssign (.Name x pos') op e pos) (tSt W H0 G0 E (augF i p f)) :=
  PS.imp (ps_aug g.nd hi hx he ho hf) fun Dn σ H q => by
    obtain ⟨G, env, ρ, R, h⟩ := q
    obtain ⟨d0, e1, h⟩ := get_some h
    obtain ⟨v, hv, dv⟩ := R.var e1
    refine ⟨_, hv, tS_bind R h fun d ρ1 u G1 H1 ex du R1 h1 => ?_⟩
    obtain ⟨z, hz, h2⟩ := then_some h1
    obtain ⟨a, b, rfl, rfl, rfl⟩ := augI_some hz
    obtain rfl := dv.iint
    obtain rfl := du.iint
    obtain ⟨env', hb, hn⟩ := next_some h2
    unfold bindT at hb
    obtain ⟨c, rfl⟩ := ite_some hb
    exact ⟨a, b, rfl, rfl, hn _ _ _ (R1.set h0 c (.int _))⟩
/-! ### x.append(e), x.extend(e) -/
@[reducible] def appF (i : Nat) (f : Env → Row → R D) : Env → Row → RS := fun env r => if (env.getD i .no).isOwL = true then (f env r).then fun d r1 => nextO (appO env i [d]) r1 else .bad
@[reducible] def extF (i : Nat) (f : Env → Row → R D) : Env → Row → RS := fun env r => if (env.getD i .no).isOwL = true then (f env r).then fun d r1 => nextO ((seqL d).bind fun ds => appO env i ds) r1 else .bad
theorem appO_some {env' : Env} {i : Nat} {ds : List D} (h : appO env i ds = some env') : ∃ xs, env.getD i .no = .ow (.lst xs) ∧ xs.length + ds.length ≤ LIM ∧ env' = env.set i (.ow (.lst (xs ++ ds))) := by
  unfold appO at h
  split at h
  · rename_i xs hx
    obtain ⟨c, rfl⟩ := ite_some h
    exact ⟨xs, hx, c, rfl⟩
  · cases h
theorem owL_some {i : Nat} {r : RS} (h : OutS W H0 G0 E (if (env.getD i .no).isOwL = true then r else .bad) Dn) : ∃ xs, env.getD i .no = .ow (.lst xs) ∧ OutS W H0 G0 E r Dn := by
  cases e : env.getD i .no with
  | ow d =>
    cases d with
    | lst xs =>
      rw [e] at h
      exact ⟨xs, rfl, h⟩
    | _ =>
      rw [e] at h
      exact h.elim
  | _ =>
    rw [e] at h
    exact h.elim
theorem ow_some {i : Nat} {r : RS} (h : OutS W H0 G0 E (if (env.getD i .no).isOw = true then r else .bad) Dn) : ∃ d, env.getD i .no = .ow d ∧ OutS W H0 G0 E r Dn := by
  cases e : env.getD i .no with
  | ow d =>
    rw [e] at h
    exact ⟨d, rfl, h⟩
  | _ =>
    rw [e] at h
    exact h.elim
theorem ds_app {i : Nat} {x : Str} {p1 p2 p3 : Pos} (hx : PE X (.Name x p1) (tVar i)) (he : PE X e (tF W H0 G0 E f)) (hbase : attributeBase (.Name x p1) "append" X.env (eval (.Name x p1) X.env) = eval (.Name x p1) X.env)
    (hfew : ((backTo p3 (starEach (e :: []) X.env)).all (fun x => !x.1) && (backToKw p3 (keywordEach [] X.env)).all (fun x => x.1.isSome) && decide ((e :: []).length + ([] : List Keyword).length + (if ([] : List Keyword).isEmpty then 0 else 1) < 30)) = true)
    (hline : (p2.endLine == p3.line) = true) (hs : starEach (e :: []) X.env = (false, eval e X.env) :: starEach [] X.env) (hplain : (backTo p3 (starEach [] X.env)).any (·.1) = false) :
    PS X (.Expr (.Call (.Attribute (.Name x p1) "append" p2) [e] [] p3) pos) (tSt W H0 G0 E (appF i f)) :=
  PS.imp (ps_expr (pe_bm PySem.F.plainAttrs_list PySem.F.slot_list_append PySem.F.type_list_append mt_append hx (pa_cons he pa_nil hs) hbase hfew hline hs hplain) rfl) fun Dn σ H q => by
    obtain ⟨G, env, ρ, R, h⟩ := q
    obtain ⟨xs, e1, h⟩ := owL_some h
    obtain ⟨p, hp, ow, h0, hg, hr⟩ := R.own e1
    refine ⟨.ref p, hp, ?_, tS_bind R h fun d ρ1 v G1 H1 ex dv R1 h1 => ?_⟩
    · obtain ⟨vs, hv, _⟩ := ow
      exact .inl ⟨rfl, vs, SqL.of hv⟩
    · obtain ⟨env', hb, hn⟩ := next_some h1
      obtain ⟨xs', hx', hl, rfl⟩ := appO_some hb
      rw [e1] at hx'
      cases hx'
      obtain ⟨p', hp', ow1, _⟩ := R1.own e1
      rw [hp] at hp'
      cases hp'
      obtain ⟨vs, hv, dvs⟩ := ow1
      refine ⟨p, vs, v, rfl, rfl, hv, ?_, hn _ _ _ (R1.poke e1 hp (.inl trivial) ⟨_, upd_same, dvs.append (.cons dv .nil)⟩)⟩
      rw [← line_eq, ← dvs.length]
      simp at hl
      omega
theorem ds_ext {i : Nat} {x : Str} {p1 p2 p3 : Pos} (hx : PE X (.Name x p1) (tVar i)) (he : PE X e (tF W H0 G0 E f)) (hbase : attributeBase (.Name x p1) "extend" X.env (eval (.Name x p1) X.env) = eval (.Name x p1) X.env)
    (hfew : ((backTo p3 (starEach (e :: []) X.env)).all (fun x => !x.1) && (backToKw p3 (keywordEach [] X.env)).all (fun x => x.1.isSome) && decide ((e :: []).length + ([] : List Keyword).length + (if ([] : List Keyword).isEmpty then 0 else 1) < 30)) = true)
    (hline : (p2.endLine == p3.line) = true) (hs : starEach (e :: []) X.env = (false, eval e X.env) :: starEach [] X.env) (hplain : (backTo p3 (starEach [] X.env)).any (·.1) = false) :
    PS X (.Expr (.Call (.Attribute (.Name x p1) "extend" p2) [e] [] p3) pos) (tSt W H0 G0 E (extF i f)) :=
  PS.imp (ps_expr (pe_bm PySem.F.plainAttrs_list PySem.F.slot_list_extend PySem.F.type_list_extend mt_extend hx (pa_cons he pa_nil hs) hbase hfew hline hs hplain) rfl) fun Dn σ H q => by
    obtain ⟨G, env, ρ, R, h⟩ := q
    obtain ⟨xs, e1, h⟩ := owL_some h
    obtain ⟨p, hp, ow, h0, hg, hr⟩ := R.own e1
    refine ⟨.ref p, hp, ?_, tS_bind R h fun d ρ1 v G1 H1 ex dv R1 h1 => ?_⟩
    · obtain ⟨vs, hv, _⟩ := ow
      exact .inl ⟨rfl, vs, SqL.of hv⟩
    · obtain ⟨env', hb, hn⟩ := next_some h1
      cases d with
      | lst ys =>
        have hb : appO env i ys = some env' := hb
        obtain ⟨xs', hx', hl, rfl⟩ := appO_some hb
        rw [e1] at hx'
        cases hx'
        obtain ⟨p', hp', ow1, _⟩ := R1.own e1
        rw [hp] at hp'
        cases hp'
        obtain ⟨vs, hv, dvs⟩ := ow1
        obtain ⟨b, us, rfl, hb', dus⟩ := dv.ilst
        refine ⟨p, b, vs, us, rfl, rfl, hv, R1.sub _ _ hb', ?_, hn _ _ _ (R1.poke e1 hp (.inl trivial) ⟨_, upd_same, dvs.append dus⟩)⟩
        rw [← line_eq, ← dvs.length, ← dus.length]
        exact hl
      | _ => cases hb
/-! ### self.f = e -/
@[reducible] def setFF (c i n : Nat) (f : Env → Row → R D) : Env → Row → RS := fun env r => match env.getD i .no with
  | .ow (.ins b _) => if b = c then (f env r).then fun d r1 => nextO (fldO env i n d) r1 else .bad
  | _ => .bad
theorem DenF.snoc : ∀ {ns : List Str} {ds : List D} {fs : List (Str × V)} {d : D} {v : V} {n : Str}, ns.Nodup → DenF W G ns ds fs → ns[ds.length]? = some n → Den W G d v → DenF W G ns (ds ++ [d]) (putF n v fs) ∧ fs.length = ds.length
  | [], _, _, _, _, _, _, .nil, e, _ => by simp at e
  | m :: ns, _, _, d, v, n, nd, .nil, e, dn => by
    simp at e
    subst e
    exact ⟨.cons dn .nil, rfl⟩
  | m :: ns, _ :: ds, _ :: fs, d, v, n, nd, .cons h a, e, dn => by
    rw [List.nodup_cons] at nd
    have e' : ns[ds.length]? = some n := by simpa using e
    obtain ⟨q1, q2⟩ := DenF.snoc nd.2 a e' dn
    have ne : m ≠ n := by
      rintro rfl
      exact nd.1 (List.mem_of_getElem? e')
    refine ⟨?_, by simp [q2]⟩
    unfold putF
    rw [if_neg ne]
    exact .cons h q1
theorem ds_setF {c i n : Nat} {x nm : Str} {p1 p2 : Pos} (g : Good W X k) (hx : PE X (.Name x p1) (tVar i)) (he : PE X e (tF W H0 G0 E f)) (hn : (W.fld c)[n]? = some nm) (hs : swapsWith e (some (.Attribute (.Name x p1) nm p2)) pos.line X.env = pure false) :
    PS X (.Assign [.Attribute (.Name x p1) nm p2] e pos) (tSt W H0 G0 E (setFF c i n f)) :=
  PS.imp (ps_fld hx he hs) fun Dn σ H q => by
    obtain ⟨G, env, ρ, R, h⟩ := q
    cases e1 : env.getD i .no with
    | ow dd =>
      cases dd with
      | ins b fs =>
        simp only [setFF, e1] at h
        by_cases ec : b = c
        · subst ec
          rw [if_pos rfl] at h
          refine tS_bind R h fun d ρ1 v G1 H1 ex dv R1 h1 => ?_
          obtain ⟨env', hb, hnx⟩ := next_some h1
          unfold fldO at hb
          simp only [setFF, e1] at hb
          obtain ⟨hl, rfl⟩ := ite_some hb
          obtain ⟨p, hp, ow, _⟩ := R1.own e1
          obtain ⟨lc, dx, ws, hw, df⟩ := ow
          obtain ⟨q1, q2⟩ := df.snoc (g.fx.fnd b lc).1 (by rw [hl]; exact hn) dv
          have nl : n < (W.fld b).length := by
            rw [List.getElem?_eq_some_iff] at hn
            exact hn.1
          have n100 := (g.fx.fnd b lc).2
          refine ⟨.ref p, hp, p, W.clA b, dx, ws, rfl, hw, ?_, ?_, by omega, hnx _ _ _ (R1.poke e1 hp (.inr (.inr trivial)) ⟨lc, dx, _, upd_same, q1⟩)⟩
          · rw [g.K]
            exact (g.fx.cls b lc).1
          · rw [g.K]
            exact g.fx.noat b nm lc (List.mem_of_getElem? hn)
        · rw [if_neg ec] at h
          exact h.elim
      | _ =>
        simp only [setFF, e1] at h
        exact h.elim
    | _ =>
      simp only [setFF, e1] at h
      exact h.elim
end
end SW

/-! SwSt3: statements (third part): x[k] = e, x[k] op= e; tests, loops. Own work. -/
namespace SW
open PySem PySem.Spec PyProof.Rows L2
section
variable {W : Wd} {X : Cx} {k : Nat} {H0 : Hp} {G0 : Bs} {G H : Hp} {E : XK} {σ : L2.St} {env : Env} {ρ : Row} {Dn : Ends} {f f1 f2 : Env → Row → R D} {a b e : Expr} {pos : Pos}
/-! ### dicts -/
theorem DenK.any : ∀ {ds : List (D × D)} {kvs : List (Key × V)} {x : D} {kk : Key}, DenK W G ds kvs → keyD x = some kk → (ds.any fun p => p.1.eqv x) = (kvs.any fun p => decide (p.1 = kk))
  | _, _, _, _, .nil, _ => rfl
  | _, _, x, kk, .cons e _ a, h => by
    rw [List.any_cons, List.any_cons, DenK.any a h, keyD_eqv e h]
theorem DenK.map : ∀ {ds : List (D × D)} {kvs : List (Key × V)} {x d : D} {kk : Key} {v : V}, DenK W G ds kvs → keyD x = some kk → Den W G d v → DenK W G (ds.map fun p => if p.1.eqv x = true then (p.1, d) else p) (kvs.map fun kv => if kv.1 = kk then (kv.1, v) else kv)
  | _, _, _, _, _, _, .nil, _, _ => .nil
  | _, _, x, d, kk, v, .cons (x := y) (k := ky) e dn a, h, dv => by
    rw [List.map_cons, List.map_cons]
    simp only [keyD_eqv e h, decide_eq_true_eq]
    by_cases c : ky = kk
    · rw [if_pos c, if_pos c]
      exact .cons e dv (DenK.map a h dv)
    · rw [if_neg c, if_neg c]
      exact .cons e dn (DenK.map a h dv)
theorem DenK.app : ∀ {ds es : List (D × D)} {kvs jvs : List (Key × V)}, DenK W G ds kvs → DenK W G es jvs → DenK W G (ds ++ es) (kvs ++ jvs)
  | _, _, _, _, .nil, b => b
  | _, _, _, _, .cons e h a, b => .cons e h (DenK.app a b)
theorem DenK.put {ds : List (D × D)} {kvs : List (Key × V)} {x d : D} {kk : Key} {v : V} (a : DenK W G ds kvs) (h : keyD x = some kk) (dv : Den W G d v) : DenK W G (putK ds x d) (L2.putK kvs kk v) := by
  unfold SW.putK L2.putK
  rw [a.any h]
  split
  · exact a.map h dv
  · exact a.app (.cons h dv .nil)
theorem DenT.any : ∀ {ds : List (D × D)} {kvs : List (List Key × V)} {x : List D} {kk : List Key}, DenT W G ds kvs → keysD x = some kk → (ds.any fun p => p.1.eqv (.tup x)) = (kvs.any fun p => decide (p.1 = kk))
  | _, _, _, _, .nil, _ => rfl
  | _, _, x, kk, .cons e _ a, h => by
    rw [List.any_cons, List.any_cons, DenT.any a h]
    show (eqvAll _ _ || _) = _
    rw [keysD_eqv e h]
theorem DenT.map : ∀ {ds : List (D × D)} {kvs : List (List Key × V)} {x : List D} {d : D} {kk : List Key} {v : V}, DenT W G ds kvs → keysD x = some kk → Den W G d v → DenT W G (ds.map fun p => if p.1.eqv (.tup x) = true then (p.1, d) else p) (kvs.map fun kv => if kv.1 = kk then (kv.1, v) else kv)
  | _, _, _, _, _, _, .nil, _, _ => .nil
  | _, _, x, d, kk, v, .cons (xs := y) (ks := ky) e dn a, h, dv => by
    rw [List.map_cons, List.map_cons]
    have q : (D.tup y).eqv (.tup x) = decide (ky = kk) := keysD_eqv e h
    simp only [q, decide_eq_true_eq]
    by_cases c : ky = kk
    · rw [if_pos c, if_pos c]
      exact .cons e dv (DenT.map a h dv)
    · rw [if_neg c, if_neg c]
      exact .cons e dn (DenT.map a h dv)
theorem DenT.app : ∀ {ds es : List (D × D)} {kvs jvs : List (List Key × V)}, DenT W G ds kvs → DenT W G es jvs → DenT W G (ds ++ es) (kvs ++ jvs)
  | _, _, _, _, .nil, b => b
  | _, _, _, _, .cons e h a, b => .cons e h (DenT.app a b)
theorem DenT.put {ds : List (D × D)} {kvs : List (List Key × V)} {x : List D} {d : D} {kk : List Key} {v : V} (a : DenT W G ds kvs) (h : keysD x = some kk) (dv : Den W G d v) : DenT W G (putK ds (.tup x) d) (L2.putK kvs kk v) := by
  unfold SW.putK L2.putK
  rw [a.any h]
  split
  · exact a.map h dv
  · exact a.app (.cons h dv .nil)
theorem DenK.len : ∀ {ds : List (D × D)} {kvs : List (Key × V)}, DenK W G ds kvs → ds.length = kvs.length
  | _, _, .nil => rfl
  | _, _, .cons _ _ a => by simp [DenK.len a]
theorem DenT.len : ∀ {ds : List (D × D)} {kvs : List (List Key × V)}, DenT W G ds kvs → ds.length = kvs.length
  | _, _, .nil => rfl
  | _, _, .cons _ _ a => by simp [DenT.len a]
/-- an owned dict gets an item -/
theorem dput_own {p : Addr} {t : Bool} {kvs : List (D × D)} {kd d : D} {y v : V} (sb : Sub G H) (o : OwnAt W G H (.dic t kvs) p) (dk : Den W G kd y) (dv : Den W G d v) (hk : kd.isKey t = true) (hl : kvs.length < LIM) :
    ∃ o', DPut H p y v (upd H p o') ∧ isDic o' ∧ OwnAt W G (upd H p o') (.dic t (putK kvs kd d)) p := by
  cases t with
  | true =>
    obtain ⟨ws, hw, aa⟩ := o
    cases kd with
    | tup xs =>
      obtain ⟨ks, hks⟩ := atoms_key (show xs.all D.isAtom = true from hk)
      obtain ⟨b, us, rfl, hb, du⟩ := dk.itup
      have e := keys_of hks du
      refine ⟨.dT (L2.putK ws ks v), ?_, trivial, ⟨_, upd_same, aa.put hks dv⟩⟩
      refine DPut.t hw ?_ ?_
      · rw [sb _ _ hb, e]
      · rw [← line_eq, ← aa.len]
        exact hl
    | _ => cases hk
  | false =>
    obtain ⟨ws, hw, aa⟩ := o
    obtain ⟨kk, hkk⟩ := atom_key (show kd.isAtom = true by cases kd <;> first | exact hk | cases hk)
    have e := key_of hkk dk
    subst e
    refine ⟨.dK (L2.putK ws kk v), DPut.k hw ?_, trivial, ⟨_, upd_same, aa.put hkk dv⟩⟩
    rw [← line_eq, ← aa.len]
    exact hl
/-! ### x[k] = e -/
@[reducible] def setSF (i : Nat) (fk f : Env → Row → R D) : Env → Row → RS := fun env r => if (env.getD i .no).isOw = true then (f env r).then fun d r1 => (fk env r1).then fun kd r2 => nextO (putO env i kd d) r2 else .bad
theorem ixN_pos {n : Nat} {j : Int} (h : 0 ≤ j ∧ j < n) : ixN n j = some j.toNat := by
  unfold ixN
  simp [h.1, h.2]
theorem ixN_neg {n : Nat} {j : Int} (h : 0 ≤ j + n ∧ j < 0) : ixN n j = some (j + n).toNat := by
  unfold ixN
  have h1 : ¬ (0 ≤ j) := by omega
  first
  | (simp [h1, h.1, h.2]; done)
  | (split
     · omega
     · rw [if_pos (by omega)])
theorem ds_setS {i : Nat} {x : Str} {ke : Expr} {fk : Env → Row → R D} {p1 p2 : Pos} (g : Good W X k) (hx : PE X (.Name x p1) (tVar i)) (hk : PE X ke (tF W H0 G0 E fk)) (he : PE X e (tF W H0 G0 E f)) (hs : swapsWith e (some (.Subscript (.Name x p1) ke p2)) pos.line X.env = pure false)
    (hsw : swapsWithSole [.Subscript (.Name x p1) ke p2] e pos.line X.env = pure false) (hw : swappedStores [.Subscript (.Name x p1) ke p2] e X.env = pure none) (h1 : (assignEach [.Subscript (.Name x p1) ke p2] X.env).map (·.2) = [assign (.Subscript (.Name x p1) ke p2) X.env])
    (ha : ∀ v, assign (.Subscript (.Name x p1) ke p2) X.env v = (do
      let ov ← holding [v] (eval (.Name x p1) X.env)
      let iv ← holding [v, ov] (eval ke X.env)
      standAt p2
      holding [v, ov, iv] (setItem ov iv v)
      release [v, ov, iv] [])) :
    PS X (.Assign [.Subscript (.Name x p1) ke p2] e pos) (tSt W H0 G0 E (setSF i fk f)) := ⟨fun pins s σ H Dn I q => by
  obtain ⟨G, env, ρ, R, h⟩ := q
  obtain ⟨dd, e1, h⟩ := ow_some h
  obtain ⟨p, hp, _⟩ := R.own e1
  by_cases il : ∃ xs, dd = .lst xs
  · obtain ⟨xs, rfl⟩ := il
    refine (ps_asg he (pg_sub hx hk set_list ha) hsw hw h1).run pins s σ H Dn I (tS_bind R h fun d ρ1 v G1 H1 ex dv R1 h1 => ⟨.ref p, hp, tS_bind R1 h1 fun kd ρ2 y G2 H2 ex2 dk R2 h2 => ?_⟩)
    obtain ⟨env', hb, hn⟩ := next_some h2
    unfold putO at hb
    simp only [e1] at hb
    cases kd with
    | int j =>
      obtain rfl := dk.iint
      obtain ⟨p', hp', ow, _⟩ := R2.own e1
      rw [hp] at hp'
      cases hp'
      obtain ⟨vs, hv, dvs⟩ := ow
      simp only at hb
      by_cases c : 0 ≤ j ∧ j < (xs.length : Int)
      · rw [if_pos c] at hb
        cases hb
        refine ⟨p, vs, j, j.toNat, rfl, rfl, hv, ?_, hn _ _ _ (R2.poke e1 hp (.inl trivial) ⟨_, upd_same, dvs.set _ (dv.mono ex2.mono)⟩)⟩
        rw [← dvs.length]
        exact ixN_pos c
      · rw [if_neg c] at hb
        obtain ⟨c2, rfl⟩ := ite_some hb
        refine ⟨p, vs, j, (j + xs.length).toNat, rfl, rfl, hv, ?_, hn _ _ _ (R2.poke e1 hp (.inl trivial) ⟨_, upd_same, dvs.set _ (dv.mono ex2.mono)⟩)⟩
        rw [← dvs.length]
        exact ixN_neg c2
    | _ => cases hb
  · refine (ps_dput (by have := g.units; omega) hx hk he hs).run pins s σ H Dn I (tS_bind R h fun d ρ1 v G1 H1 ex dv R1 h1 => ⟨.ref p, hp, tS_bind R1 h1 fun kd ρ2 y G2 H2 ex2 dk R2 h2 => ?_⟩)
    obtain ⟨env', hb, hn⟩ := next_some h2
    unfold putO at hb
    simp only [e1] at hb
    cases dd with
    | dic t kvs =>
      simp only at hb
      obtain ⟨⟨c1, c2⟩, rfl⟩ := ite_some hb
      obtain ⟨p', hp', ow, _⟩ := R2.own e1
      rw [hp] at hp'
      cases hp'
      obtain ⟨o', dp, io, ow'⟩ := dput_own R2.sub ow dk (dv.mono ex2.mono) c1 c2
      exact ⟨p, _, rfl, dp, hn _ _ _ (R2.poke e1 hp (.inr (.inl io)) ow')⟩
    | lst xs => exact absurd ⟨xs, rfl⟩ il
    | _ => cases hb⟩
/-! ### x[k] op= e, x a dict -/
@[reducible] def augSF (i : Nat) (fk : Env → Row → R D) (p : P2) (f : Env → Row → R D) : Env → Row → RS := fun env r => match env.getD i .no with
  | .ow (.dic t kvs) => (fk env r).then fun kd r1 => (liftO (if kd.isKey t then getK kvs kd else none) r1).then fun x r2 => (f env r2).then fun d r3 => (liftO (augI p x d) r3).then fun z r4 => nextO (putO env i kd z) r4
  | _ => .bad
theorem dget_own {a : Addr} {t : Bool} {kvs : List (D × D)} {kd x0 : D} {y : V} (sb : Sub G H) (o : OwnAt W G H (.dic t kvs) a) (dk : Den W G kd y) (hk : kd.isKey t = true) (hx : getK kvs kd = some x0) : ∃ v, DGet H a y (some v) ∧ Den W G x0 v := by
  cases t with
  | true =>
    cases kd with
    | tup xs =>
      obtain ⟨ks, e⟩ := atoms_key (show xs.all D.isAtom = true from hk)
      obtain ⟨b, vs, rfl, hb, ab⟩ := dk.itup
      obtain ⟨ws, hw, da⟩ := o
      have ev := keys_of e ab
      subst ev
      obtain ⟨g1, g2⟩ := getT da e
      obtain ⟨v, hv, dv⟩ := g2 x0 hx
      exact ⟨v, by rw [← hv]; exact DGet.t hw (sb _ _ hb), dv⟩
    | _ => cases hk
  | false =>
    have hk : kd.isAtom = true := by
      cases kd <;> exact hk
    obtain ⟨kk, e⟩ := atom_key hk
    obtain ⟨ws, hw, da⟩ := o
    have ev := key_of e dk
    subst ev
    obtain ⟨g1, g2⟩ := getKK da e
    obtain ⟨v, hv, dv⟩ := g2 x0 hx
    exact ⟨v, by rw [← hv]; exact DGet.k hw, dv⟩
theorem ds_augS {i : Nat} {x : Str} {ke : Expr} {fk : Env → Row → R D} {p1 p2 : Pos} {op : Operator} {p : P2} (g : Good W X k) (hx : PE X (.Name x p1) (tVar i)) (hk : PE X ke (tF W H0 G0 E fk)) (he : PE X e (tF W H0 G0 E f)) (hop : InOp X op fun x y H Q => ∃ i j, x = .int i ∧ y = .int j ∧ Q (.int (augW p i j)) H)
    (ha : ∀ ov iv new, augStore ke ov iv new = (do holding [new, ov, iv] (setItem ov iv new); release [new, ov, iv] []; pure .next)) :
    PS X (.AugAssign (.Subscript (.Name x p1) ke p2) op e pos) (tSt W H0 G0 E (augSF i fk p f)) :=
  PS.imp (ps_daug (by have := g.units; omega) hx hk he hop ha) fun Dn σ H q => by
    obtain ⟨G, env, ρ, R, h⟩ := q
    cases e1 : env.getD i .no with
    | ow dd =>
      cases dd with
      | dic t kvs =>
        simp only [augSF, e1] at h
        obtain ⟨a, hp, ow, h0, hg, hr⟩ := R.own e1
        refine ⟨.ref a, hp, tS_bind R h fun kd ρ1 y G1 H1 ex dk R1 h1 => ?_⟩
        obtain ⟨x0, hx0, h2⟩ := then_some h1
        obtain ⟨hk1, hx0⟩ : kd.isKey t = true ∧ getK kvs kd = some x0 := by
          by_cases c : kd.isKey t = true
          · rw [if_pos c] at hx0
            exact ⟨c, hx0⟩
          · rw [if_neg c] at hx0
            cases hx0
        obtain ⟨a', ha', ow1, _, hg1, _⟩ := R1.own e1
        rw [hp] at ha'
        cases ha'
        obtain ⟨v0, hget, dv0⟩ := dget_own R1.sub ow1 dk hk1 hx0
        refine ⟨a, v0, rfl, hget, tS_bind R1 h2 fun d ρ2 u G2 H2 ex2 du R2 h3 => ?_⟩
        obtain ⟨z, hz, h4⟩ := then_some h3
        obtain ⟨ia, ib, rfl, rfl, rfl⟩ := augI_some hz
        obtain rfl := dv0.iint
        obtain rfl := du.iint
        obtain ⟨env', hb, hn⟩ := next_some h4
        unfold putO at hb
        simp only [e1] at hb
        obtain ⟨⟨c1, c2⟩, rfl⟩ := ite_some hb
        obtain ⟨a', ha', ow2, _⟩ := R2.own e1
        rw [hp] at ha'
        cases ha'
        obtain ⟨o', dp, io, ow'⟩ := dput_own R2.sub ow2 (dk.mono ex2.mono) (.int _) c1 c2
        exact ⟨ia, ib, rfl, rfl, _, dp, hn _ _ _ (R2.poke e1 hp (.inr (.inl io)) ow')⟩
      | _ =>
        simp only [augSF, e1] at h
        exact h.elim
    | _ =>
      simp only [augSF, e1] at h
      exact h.elim
end
end SW

/-! SwSt4: statements (fourth part): sequences, tests, loops, raise, return. Own work. -/
namespace SW
open PySem PySem.Spec PyProof.Rows L2
section
variable {W : Wd} {X : Cx} {k : Nat} {H0 : Hp} {G0 : Bs} {G H : Hp} {E : XK} {σ : L2.St} {env : Env} {ρ : Row} {Dn : Ends} {f f1 f2 : Env → Row → R D} {a b e : Expr} {pos : Pos} {fs gs : Env → Row → RS}
theorem ds_nil : PSs X [] (tSt W H0 G0 E fun env r => .next env r) := PSs.imp pss_nil fun Dn σ H ⟨G, env, ρ, R, h⟩ => h G H σ R
theorem seq_out {Q : L2.St → Hp → Prop} {r : RS} (h : OutS W H0 G0 E (r.then gs) Dn) (hQ : ∀ env ρ, OutS W H0 G0 E (gs env ρ) Dn → ∀ G H σ, Rel W H0 G0 G H σ env ρ → Q σ H) : OutS W H0 G0 E r { Dn with nx := Q } := by
  cases r with
  | next env ρ => exact fun G H σ R => hQ env ρ h G H σ R
  | ret d ρ => exact h
  | brk env ρ => exact h
  | cont env ρ => exact h
  | exn c d ρ => exact h
  | bad => exact h
theorem ds_cons {st : Stmt} {rest : List Stmt} (h1 : PS X st (tSt W H0 G0 E fs)) (h2 : PSs X rest (tSt W H0 G0 E gs)) : PSs X (st :: rest) (tSt W H0 G0 E fun env r => (fs env r).then gs) :=
  PSs.imp (pss_cons h1 h2) fun Dn σ H ⟨G, env, ρ, R, h⟩ => ⟨G, env, ρ, R, seq_out h fun env' ρ' h' G' H' σ' R' => ⟨G', env', ρ', R', h'⟩⟩
theorem ds_ex (he : PE X e (tF W H0 G0 E f)) (hs : swapsWith e none pos.line X.env = pure false) : PS X (.Expr e pos) (tSt W H0 G0 E fun env r => (f env r).then fun _ r1 => .next env r1) :=
  PS.imp (ps_expr he hs) fun Dn σ H ⟨G, env, ρ, R, h⟩ => tS_bind R h fun d ρ1 v G1 H1 ex dv R1 h1 => h1 G1 H1 σ R1
theorem ds_doc {x : Str} {j : Nat} {pos' : Pos} : PS X (.Expr (.Constant (.str x) j pos) pos') (tSt W H0 G0 E fun env r => .next env r) := PS.imp ps_doc fun Dn σ H ⟨G, env, ρ, R, h⟩ => h G H σ R
theorem ds_ret (he : PE X e (tF W H0 G0 E f)) : PS X (.Return (some e) pos) (tSt W H0 G0 E fun env r => (f env r).then fun d r1 => .ret d r1) :=
  PS.imp (ps_ret he) fun Dn σ H ⟨G, env, ρ, R, h⟩ => tS_bind R h fun d ρ1 v G1 H1 ex dv R1 h1 => h1 v G1 H1 R1.ext R1.row dv
theorem ds_retN : PS X (.Return none pos) (tSt W H0 G0 E fun _ r => .ret .non r) := PS.imp ps_retN fun Dn σ H ⟨G, env, ρ, R, h⟩ => h .non G H R.ext R.row .non
theorem ds_brk : PS X (.Break pos) (tSt W H0 G0 E fun env r => .brk env r) := PS.imp ps_break fun Dn σ H ⟨G, env, ρ, R, h⟩ => h G H σ R
theorem ds_cont : PS X (.Continue pos) (tSt W H0 G0 E fun env r => .cont env r) := PS.imp ps_continue fun Dn σ H ⟨G, env, ρ, R, h⟩ => h G H σ R
theorem ds_pass : PS X (.Pass pos) (tSt W H0 G0 E fun env r => .next env r) := PS.imp ps_pass fun Dn σ H ⟨G, env, ρ, R, h⟩ => h G H σ R
@[reducible] def ifF (t : Env → Row → R Bool) (fs gs : Env → Row → RS) : Env → Row → RS := fun env r => (t env r).then fun t r1 => match t with
  | true => fs env r1
  | false => gs env r1
theorem ds_if {c : Expr} {p q : List Stmt} {t : Env → Row → R Bool} (hc : PT X c (tT W H0 G0 E t)) (ha : PSs X p (tSt W H0 G0 E fs)) (hb : PSs X q (tSt W H0 G0 E gs)) : PS X (.If c p q pos) (tSt W H0 G0 E (ifF t fs gs)) :=
  PS.imp (ps_if hc ha hb) fun Dn σ H ⟨G, env, ρ, R, h⟩ => tS_bindT R h fun d ρ1 G1 H1 ex R1 h1 => by
    cases d with
    | true => exact ⟨G1, env, ρ1, R1, h1⟩
    | false => exact ⟨G1, env, ρ1, R1, h1⟩
/-- names made less of, in the proof alone -/
theorem ds_frz {rest : List Stmt} (is : List Nat) (h : PSs X rest (tSt W H0 G0 E gs)) : PSs X rest (tSt W H0 G0 E fun env r => gs (frzE is env) r) := PSs.imp h fun Dn σ H ⟨G, env, ρ, R, q⟩ => by
  obtain ⟨G', R'⟩ := R.frzs is
  exact ⟨G', _, ρ, R', q⟩
theorem ds_kill {rest : List Stmt} (is : List Nat) (h : PSs X rest (tSt W H0 G0 E gs)) : PSs X rest (tSt W H0 G0 E fun env r => gs (killE is env) r) := PSs.imp h fun Dn σ H ⟨G, env, ρ, R, q⟩ => ⟨G, _, ρ, R.kill is, q⟩
/-! ### while -/
theorem ds_while {c : Expr} {body : List Stmt} {t : Env → Row → R Bool} {kl : List Nat} {n : Nat} (g : GoodS W X k E) (hc : PT X c (tT W H0 G0 E t)) (hb : PSs X body (tSt W H0 G0 E fs)) : PS X (.While c body [] pos) (tSt W H0 G0 E fun env r => whileLoop t fs (killE kl) n env r) :=
  PS.imp (ps_while g.own hc hb) fun Dn σ H ⟨G, env, ρ, R, h⟩ => by
    refine ⟨fun m σ H => ∃ G env ρ, Rel W H0 G0 G H σ env ρ ∧ OutS W H0 G0 E (whileLoop t fs (killE kl) m env ρ) Dn, ⟨n, G, env, ρ, R, h⟩, ?_⟩
    rintro m σ H ⟨G, env, ρ, R, h⟩
    cases m with
    | zero => exact h.elim
    | succ m =>
      unfold whileLoop at h
      refine ⟨G, env, ρ, R, ?_⟩
      cases et : t env ρ with
      | exn c d r1 =>
        simp only [et] at h
        exact fun v G' H' x ex rr dn hx hx' => h v G' H' x (R.ext.trans ex) rr dn (R.ext.free hx) hx'
      | bad =>
        simp only [et] at h
        exact h
      | ok b r1 =>
        intro G1 H1 ex rr
        have R1 := R.extend ex rr
        cases b with
        | false =>
          simp only [et] at h
          exact h G1 H1 σ R1
        | true =>
          simp only [et] at h
          refine ⟨fun σ H => ∃ G env ρ, Rel W H0 G0 G H σ env ρ ∧ OutS W H0 G0 E (whileLoop t fs (killE kl) m env ρ) Dn, fun σ' H' hx => ⟨m, Nat.lt_succ_self m, hx⟩, G1, env, r1, R1, ?_⟩
          cases eb : fs env r1 with
          | next e2 r2 =>
            simp only [eb] at h
            exact fun G H σ R' => ⟨G, _, r2, R'.kill kl, h⟩
          | cont e2 r2 =>
            simp only [eb] at h
            exact fun G H σ R' => ⟨G, _, r2, R'.kill kl, h⟩
          | brk e2 r2 =>
            simp only [eb] at h
            exact h
          | ret d r2 =>
            simp only [eb] at h
            exact h
          | exn c d r2 =>
            simp only [eb] at h
            exact h
          | bad =>
            simp only [eb] at h
            exact h
/-! ### for -/
/-- the frozen floor raised -/
def Bs.up (G0 : Bs) (F : Hp) : Bs := { G0 with F := F }
theorem Rel.up (R : Rel W H0 G0 G H σ env ρ) {F : Hp} (s : Sub F G) : Rel W H0 (G0.up F) G H σ env ρ := ⟨R.ext, R.base, s, R.len, R.slot, R.apart, R.row, R.nrow, R.tabs, R.gnt, R.self⟩
theorem Rel.down {F : Hp} (R : Rel W H0 (G0.up F) G H σ env ρ) (s : Sub G0.F G) : Rel W H0 G0 G H σ env ρ := ⟨R.ext, R.base, s, R.len, R.slot, R.apart, R.row, R.nrow, R.tabs, R.gnt, R.self⟩
theorem PSs.ex {ι : Type} {body : List Stmt} {t : ι → TS} (h : ∀ i, PSs X body (t i)) : PSs X body fun Dn σ H => ∃ i, t i Dn σ H := ⟨fun pins s σ H D I ⟨i, q⟩ => (h i).run pins s σ H D I q⟩
theorem PG.ex {ι : Type} {tg : Expr} {t : ι → TG} (h : ∀ i, PG X tg (t i)) : PG X tg fun v σ H Q => ∃ i, t i v σ H Q := ⟨fun pins s σ H v u Q I r ⟨i, q⟩ => (h i).run pins s σ H v u Q I r q⟩
@[reducible] def forF (tg : Tg) (fi : Env → Row → R (List D)) (fs : Env → Row → RS) (kl : List Nat) : Env → Row → RS := fun env r => (fi env r).then fun ds r1 => forLoop (bindT tg) fs (killE kl) ds env r1
theorem ds_for {tgE iter : Expr} {body : List Stmt} {tg : Tg} {fi : Env → Row → R (List D)} {kl : List Nat} (g : GoodS W X k E) (hi : PI X tgE iter (tI W H0 G0 E fi)) (hg : ∀ F, PG X tgE (tG W H0 (G0.up F) tg)) (hb : ∀ F, PSs X body (tSt W H0 (G0.up F) E fs))
    (hs : ∀ x, foldedSetIterable iter X.env x = pure x) : PS X (.For tgE iter body [] pos) (tSt W H0 G0 E (forF tg fi fs kl)) :=
  PS.imp (ps_for g.own g.calm hi (PG.ex hg) (PSs.ex hb) hs) fun Dn σ H ⟨G, env, ρ, R, h⟩ => by
    refine ⟨G, env, ρ, R, ?_⟩
    unfold forF at h
    cases e : fi env ρ with
    | exn c d r1 =>
      rw [e] at h
      exact fun v G' H' x ex rr dn hx hx' => h v G' H' x (R.ext.trans ex) rr dn (R.ext.free hx) hx'
    | bad =>
      rw [e] at h
      exact h
    | ok ds r1 =>
      rw [e] at h
      intro G1 H1 ex rr J y len
      have R1 := R.extend ex rr
      refine ⟨fun i m σ H => m = ds.length - i ∧ i ≤ ds.length ∧ ∃ Gc envc ρc, Rel W H0 (G0.up G1) Gc H σ envc ρc ∧ OutS W H0 G0 E (forLoop (bindT tg) fs (killE kl) (ds.drop i) envc ρc) Dn, ⟨ds.length, by simp, Nat.zero_le _, G1, env, r1, R1.up (Sub.refl _), h⟩, ?_⟩
      rintro i m σ H ⟨rfl, hi, Gc, envc, ρc, Rc, out⟩
      have fl : Sub G0.F G1 := R1.floor
      have sG : Sub G1 H := Rc.floor.trans Rc.sub
      by_cases lt : i < ds.length
      · right
        refine ⟨y.go i H sG lt, fun σ H => ∃ Gc envc ρc, Rel W H0 (G0.up G1) Gc H σ envc ρc ∧ OutS W H0 G0 E (forLoop (bindT tg) fs (killE kl) (ds.drop (i + 1)) envc ρc) Dn, fun σ' H' hx => ⟨ds.length - (i + 1), by omega, rfl, lt, hx⟩, ?_⟩
        intro v H' yl
        obtain ⟨G2, d, hd, dn, ex2, kp⟩ := y.yld i H Gc v H' Rc.floor Rc.sub yl lt
        have ed : ds.drop i = d :: ds.drop (i + 1) := by
          rw [List.drop_eq_getElem_cons lt]
          rw [List.getElem?_eq_getElem lt] at hd
          rw [Option.some.inj hd]
        rw [ed] at out
        unfold forLoop at out
        cases eb : bindT tg d envc with
        | none =>
          simp only [eb] at out
          exact out.elim
        | some env2 =>
          simp only [eb] at out
          refine ⟨G1, G2, envc, ρc, d, env2, Rc.extend ex2 (Rc.row.ext kp), dn, eb, fun σ2 R2 _ => ⟨G1, G2, env2, ρc, R2, ?_⟩⟩
          cases es : fs env2 ρc with
          | next e2 r2 =>
            simp only [es] at out
            exact fun G H σ R' => ⟨G, _, r2, R'.kill kl, out⟩
          | cont e2 r2 =>
            simp only [es] at out
            exact fun G H σ R' => ⟨G, _, r2, R'.kill kl, out⟩
          | brk e2 r2 =>
            simp only [es] at out
            exact fun G H σ R' => out G H σ (R'.down (fl.trans R'.floor))
          | ret d r2 =>
            simp only [es] at out
            exact out
          | exn c d r2 =>
            simp only [es] at out
            exact out
          | bad =>
            simp only [es] at out
            exact out
      · left
        have e0 : ds.drop i = [] := List.drop_eq_nil_of_le (Nat.le_of_not_lt lt)
        rw [e0] at out
        exact ⟨y.stop i H sG (Nat.le_of_not_lt lt), out Gc H σ (Rc.down (fl.trans Rc.floor))⟩
/-! ### raise -/
theorem ds_raise {c : Nat} (g : GoodS W X k E) (hm : PMk X e fun σ H Q => tF W H0 G0 E f σ H fun v H1 => ∀ x H2, (∀ a o, H1 a = some o → H2 a = some o) → H1 x = none → H2 x = some (.xd [("value", v)]) → Q (.ref (W.exA c)) (some x) H2) :
    PS X (.Raise (some e) none pos) (tSt W H0 G0 E fun env r => (f env r).then fun d r1 => .exn c d r1) :=
  PS.imp (ps_raise g.calm g.tk hm) fun Dn σ H ⟨G, env, ρ, R, h⟩ => tS_bind R h fun d ρ1 v G1 H1 ex dv R1 h1 => fun x H2 kp hx hx2 => by
    refine h1 v G1 H2 x (R1.ext.trans ?_) (R1.row.ext kp) dv (R1.ext.free (.inl hx)) hx2
    refine ⟨fun a o q _ _ => kp a o q, fun a q => ?_, fun a o q => kp a o (R1.sub a o q), Sub.refl _, fun a q => .inl q, fun t => t.ext kp, fun h => h⟩
    rcases q with q | ⟨ps, q⟩
    · cases e : H1 a with
      | none => exact .inl e
      | some o =>
        rw [kp a o e] at q
        cases q
    · cases e : H1 a with
      | none => exact .inl e
      | some o =>
        rw [kp a o e] at q
        cases q
        exact .inr ⟨ps, e⟩
end
end SW

/-! SwFn: defs: what they promise, their bodies, calls. Own work. -/
namespace SW
open PySem PySem.Spec PyProof.Rows L2
/-- a def keeps its promise; gd: where nothing guards repr -/
structure FnX (P : Program) (w : World) (K : PySem.W.Frag) (mg : Str → Option Value) (base : Heap) (gd : Bool) (k : Nat) (f : Addr) (fd : FuncData) (ps : List Str) (sp : Sp) : Prop where
  len : ∀ vs H Q E, sp vs H Q E → vs.length = ps.length
  run : ∀ (A : Around) (outer : List PySem.Env) (s : Shared) (H : Hp) (args : Args) (us : List Value) (vs : List V) (Q : VK) (E : XK), Room k A → (gd = true → A.guards = some []) → Env0 P w K mg base A outer s H → BindsTo s fd args (ps.zip us) → Vals vs us → sp vs H Q E →
    codeAny (model P w) A (.call (.ref f) args) (CR (CX P w) outer P w H s Q E) s
theorem FnX.ok {P : Program} {w : World} {K : PySem.W.Frag} {mg : Str → Option Value} {base : Heap} {k : Nat} {f : Addr} {fd : FuncData} {ps : List Str} {sp : Sp} (F : FnX P w K mg base false k f fd ps sp) : FnOk P w K mg base (CX P w) k f fd ps sp :=
  ⟨F.len, fun A outer s H args us vs Q E r e b v h => F.run A outer s H args us vs Q E r (fun z => by cases z) e b v h⟩
theorem FnX.mono {P : Program} {w : World} {K : PySem.W.Frag} {mg : Str → Option Value} {base : Heap} {gd : Bool} {j k : Nat} {f : Addr} {fd : FuncData} {ps : List Str} {sp : Sp} (F : FnX P w K mg base gd j f fd ps sp) (h : j ≤ k) : FnX P w K mg base gd k f fd ps sp :=
  ⟨F.len, fun A outer s H args us vs Q E r => F.run A outer s H args us vs Q E (r.mono h)⟩
theorem FnX.gd {P : Program} {w : World} {K : PySem.W.Frag} {mg : Str → Option Value} {base : Heap} {k : Nat} {f : Addr} {fd : FuncData} {ps : List Str} {sp : Sp} (F : FnX P w K mg base false k f fd ps sp) : FnX P w K mg base true k f fd ps sp :=
  ⟨F.len, fun A outer s H args us vs Q E r _ => F.run A outer s H args us vs Q E r (fun z => by cases z)⟩
/-- what a def of the text promises -/
def spF (W : Wd) (np : Nat) (run : List D → Row → R D) : Sp := fun vs H Q E => ∃ G ρ ds, Sub W.B G ∧ Sub G H ∧ RowAt W H ρ ∧ (∀ a, W.r = some a → G a = none) ∧ LamX.Tabs W.T H ∧ (∀ a ps, G a ≠ some (.tbl ps)) ∧ DenAll W G ds vs ∧ ds.length = np ∧ Out W G H E (run ds ρ) Q
/-- what an __init__ promises: the first argument is the new object -/
def spI (W : Wd) (np c : Nat) (run : List D → Row → R D) : Sp := fun vs H Q E => ∃ x dx us Hb G ρ ds, vs = .ref x :: us ∧ H = upd (upd Hb dx (.own x)) x (.ins (W.clA c) dx []) ∧ Hb x = none ∧ Hb dx = none ∧ dx ≠ x ∧ c < W.nc ∧
  Sub W.B G ∧ Sub G Hb ∧ RowAt W Hb ρ ∧ (∀ a, W.r = some a → G a = none) ∧ LamX.Tabs W.T Hb ∧ (∀ a ps, G a ≠ some (.tbl ps)) ∧ DenAll W G ds us ∧ ds.length + 1 = np ∧
  match run ds ρ with
  | .ok d ρ' => ∀ G' H', Ext W G Hb G' H' → RowAt W H' ρ' → G' x = none → OwnAt W G' H' d x → Q .non H'
  | .exn c d ρ' => ∀ v G' H' y, Ext W G Hb G' H' → RowAt W H' ρ' → Den W G' d v → Fr Hb y → H' y = some (.xd [("value", v)]) → E (.ref (W.exA c)) (some y) H'
  | .bad => False
theorem start_get {N : List Str} {vs : List V} (hl : vs.length ≤ N.length) (i : Nat) : (L2.start N vs)[i]? = if i < vs.length then (vs[i]?).map some else if i < N.length then some none else none := by
  unfold L2.start
  by_cases h : i < vs.length
  · rw [if_pos h, List.getElem?_append_left (by simpa using h), List.getElem?_map]
  · rw [if_neg h, List.getElem?_append_right (by simpa using h), List.getElem?_replicate]
    simp only [List.length_map]
    by_cases q : i < N.length
    · rw [if_pos q, if_pos (by omega)]
    · rw [if_neg q, if_neg (by omega)]
theorem env0_get {ds : List D} {n : Nat} (i : Nat) : (ds.map Sl.sh ++ List.replicate n Sl.no).getD i .no = if i < ds.length then .sh (ds[i]?.getD .non) else .no := by
  rw [List.getD_eq_getElem?_getD]
  by_cases h : i < ds.length
  · rw [if_pos h, List.getElem?_append_left (by simpa using h), List.getElem?_map, List.getElem?_eq_getElem h]
    rfl
  · rw [if_neg h, List.getElem?_append_right (by simpa using h), List.getElem?_replicate]
    split <;> rfl
section
variable {W : Wd} {G H : Hp} {ρ : Row} {ds : List D} {vs : List V} {N : List Str}
/-- a def's start -/
theorem Rel.start (b : Sub W.B G) (s : Sub G H) (r : RowAt W H ρ) (nr : ∀ a, W.r = some a → G a = none) (t : LamX.Tabs W.T H) (gt : ∀ a ps, G a ≠ some (.tbl ps)) (a : DenAll W G ds vs) (hl : ds.length ≤ N.length) :
    Rel W H ⟨G, none, W.B⟩ G H (L2.start N vs) (ds.map Sl.sh ++ List.replicate (N.length - ds.length) Sl.no) ρ where
  ext := Ext.refl s
  base := b
  floor := b
  len := by
    unfold L2.start
    rw [List.length_append, List.length_append, List.length_map, List.length_map, List.length_replicate, List.length_replicate, a.length]
  slot := fun i => by
    rw [env0_get, start_get (by rw [← a.length]; exact hl)]
    by_cases h : i < ds.length
    · rw [if_pos h, if_pos (by rw [← a.length]; exact h)]
      obtain ⟨v, hv, dn⟩ := a.get (List.getElem?_eq_getElem h)
      rw [hv, List.getElem?_eq_getElem h]
      exact .sh dn
    · rw [if_neg h]
      exact .no
  apart := fun i j p d e h1 => by
    rw [env0_get] at h1
    split at h1 <;> cases h1
  row := r
  nrow := nr
  tabs := t
  gnt := gt
  self := fun x hx => by cases hx
end
section
variable {P : Program} {w : World} {K : PySem.W.Frag} {mg : Str → Option Value} {base : Heap} {x qual : Str} {params : Arguments} {body : List Stmt} {scope : Scope} {dvs : List V} {kws : List (Str × V)} {f : Addr} {fd : FuncData} {W : Wd} {N ps : List Str} {k : Nat} {gd : Bool} {g : Env → Row → RS}
/-- what holds of the context of a def's body -/
theorem cxOf_good {cdv : Value} {A : Around} {outer : List PySem.Env} {s : Shared} {H : Hp} {E : XK} {qual : Str} (fx : Facts W) (hK : K = W.K) (nd : N.Nodup) (hr : Room k (A.deeper (envOfC qual scope s.heap.objs.size f cdv))) :
    GoodS W (cxOf (CX P w) P w K mg base N qual scope f cdv A outer s H E) k E where
  fx := fx
  K := hK
  calm := rfl
  nd := nd
  room := hr
  own := passes_of (K := fun e s'' => CX P w outer H s E e s'') rfl
  tk := takes_of rfl rfl rfl rfl
theorem guards_deeper {A : Around} {env : PySem.Env} (h : A.guards = some []) : (A.deeper env).guards = some [] := by
  first
  | exact h
  | (unfold Around.deeper
     simp [h])
theorem fnX_of (F : FunD K x qual params body scope dvs kws f fd) (S : FnScope N ps scope) (hp : ps.length ≤ N.length)
    (hb : ∀ (cdv : Value) (A : Around) (outer : List PySem.Env) (s : Shared) (H : Hp) (E : XK), (∃ oc od osl fdd, K.lookup f = some ⟨oc, od, .func fdd, osl⟩ ∧ fdd.code = cdv) → Room k (A.deeper (envOfC qual scope s.heap.objs.size f cdv)) → (gd = true → (A.deeper (envOfC qual scope s.heap.objs.size f cdv)).guards = some []) →
      ∀ G0 : Bs, G0.s = none → PSs (cxOf (CX P w) P w K mg base N qual scope f cdv A outer s H E) body (tSt W H G0 E g)) :
    FnX P w K mg base gd (k + 1) f fd ps (spF W ps.length fun ds r => if ds.length = ps.length then ended (g (ds.map .sh ++ List.replicate (N.length - ds.length) .no) r) else .bad) := by
  refine ⟨fun vs H Q E ⟨G, ρ, ds, _, _, _, _, _, _, a, l, _⟩ => by rw [← a.length]; exact l, fun A outer s H args us vs Q E hr hg e0 hbd rv hsp => ?_⟩
  obtain ⟨oc, od, dV, kV, doc, pm, an, cdv, ct, osl, rfl, lk, hcd, _, _⟩ := F.ex
  obtain ⟨G, ρ, ds, b, sb, r, nr, t, gt, a, l, out⟩ := hsp
  refine LamX.run_ofS lk hcd S hr e0 hbd rv (by rw [← a.length]; exact l) fun hr' => ⟨_, hb cdv A outer s H E ⟨oc, od, osl, _, lk, rfl⟩ hr' (fun z => guards_deeper (hg z)) ⟨G, none, W.B⟩ rfl, G, _, ρ, Rel.start b sb r nr t gt a (by rw [l]; exact hp), ?_⟩
  dsimp only at out
  rw [if_pos l] at out
  cases e : g (ds.map .sh ++ List.replicate (N.length - ds.length) .no) ρ with
  | next env ρ' =>
    rw [e] at out
    exact fun G' H' σ R => out .non G' H' R.ext R.row .non
  | ret d ρ' =>
    rw [e] at out
    exact out
  | brk env ρ' =>
    rw [e] at out
    exact out.elim
  | cont env ρ' =>
    rw [e] at out
    exact out.elim
  | exn c d ρ' =>
    rw [e] at out
    exact out
  | bad =>
    rw [e] at out
    exact out.elim
/-- an __init__ -/
theorem fnI_of {c : Nat} (F : FunD K x qual params body scope dvs kws f fd) (S : FnScope N ps scope) (hp : ps.length ≤ N.length) (hps : 0 < ps.length)
    (hb : ∀ (cdv : Value) (A : Around) (outer : List PySem.Env) (s : Shared) (Hf : Hp) (E : XK), Room k (A.deeper (envOfC qual scope s.heap.objs.size f cdv)) →
      ∀ (H : Hp) (G0 : Bs), PSs (cxOf (CX P w) P w K mg base N qual scope f cdv A outer s Hf E) body (tSt W H G0 E g)) :
    FnOk P w K mg base (CX P w) (k + 1) f fd ps (spI W ps.length c fun ds r => if ds.length + 1 = ps.length then made (g (.ow (.ins c []) :: (ds.map .sh ++ List.replicate (N.length - (ds.length + 1)) .no)) r) else .bad) := by
  refine ⟨fun vs H Q E ⟨x, dx, us, Hb, G, ρ, ds, ev, _, _, _, _, _, _, _, _, _, _, _, a, l, _⟩ => by rw [ev, List.length_cons, ← a.length]; exact l, fun A outer s H args us vs Q E hr e0 hbd rv hsp => ?_⟩
  obtain ⟨oc, od, dV, kV, doc, pm, an, cdv, ct, osl, rfl, lk, hcd, _, _⟩ := F.ex
  obtain ⟨y, dx, ws, Hb, G, ρ, ds, rfl, rfl, hy, hdx, ne, hc, b, sb, r, nr, t, gt, a, l, out⟩ := hsp
  have ex1 : Ext W G Hb G (upd Hb dx (.own y)) := Ext.scratch sb hdx
  have hy1 : upd Hb dx (.own y) y = none := by
    rw [upd_ne ne.symm]
    exact hy
  have ex2 := ex1.trans (Ext.scratch (W := W) (o := .ins (W.clA c) dx []) ex1.sub hy1)
  have gy : G y = none := by
    cases q : G y with
    | none => rfl
    | some o => rw [sb _ _ q] at hy; cases hy
  have hws : ws.length ≤ N.length - 1 := by
    rw [← a.length]
    omega
  refine LamX.run_ofS lk hcd S hr e0 hbd rv (by rw [List.length_cons, ← a.length]; exact l) fun hr' => ⟨_, hb cdv A outer s _ E hr' Hb ⟨G, some y, W.B⟩, G, .ow (.ins c []) :: (ds.map .sh ++ List.replicate (N.length - (ds.length + 1)) .no), ρ, ?_, ?_⟩
  · exact {
      ext := ex2
      base := b
      floor := b
      len := by
        unfold L2.start
        simp only [List.length_append, List.length_cons, List.length_map, List.length_replicate, a.length]
        omega
      slot := fun i => by
        cases i with
        | zero =>
          show SlotOk W Hb G _ (.ow (.ins c [])) _
          have e : (L2.start N (V.ref y :: ws))[0]? = some (some (.ref y)) := rfl
          rw [e]
          refine .ow ⟨hc, dx, [], upd_same, .nil⟩ (.inl hy) gy fun z => ?_
          exact r.here z hy
        | succ i =>
          have e1 : (Sl.ow (.ins c []) :: (ds.map Sl.sh ++ List.replicate (N.length - (ds.length + 1)) Sl.no)).getD (i + 1) .no = (ds.map Sl.sh ++ List.replicate (N.length - (ds.length + 1)) Sl.no).getD i .no := by
            simp [List.getD_eq_getElem?_getD]
          rw [e1, env0_get]
          by_cases h : i < ds.length
          · rw [if_pos h]
            obtain ⟨v, hv, dn⟩ := a.get (List.getElem?_eq_getElem h)
            have e2 : (L2.start N (V.ref y :: ws))[i + 1]? = some (some v) := by
              rw [start_get (by simp; omega)]
              have : i + 1 < (V.ref y :: ws).length := by
                simp [← a.length]
                exact h
              rw [if_pos this]
              simp [hv]
            rw [e2, List.getElem?_eq_getElem h]
            exact .sh dn
          · rw [if_neg h]
            exact .no
      apart := fun i j p d e h1 h2 _ _ => by
        have key : ∀ i d, (Sl.ow (.ins c []) :: (ds.map Sl.sh ++ List.replicate (N.length - (ds.length + 1)) Sl.no)).getD i .no = .ow d → i = 0 := by
          intro i d q
          cases i with
          | zero => rfl
          | succ i =>
            have e1 : (Sl.ow (.ins c []) :: (ds.map Sl.sh ++ List.replicate (N.length - (ds.length + 1)) Sl.no)).getD (i + 1) .no = (ds.map Sl.sh ++ List.replicate (N.length - (ds.length + 1)) Sl.no).getD i .no := by
              simp [List.getD_eq_getElem?_getD]
            rw [e1, env0_get] at q
            split at q <;> cases q
        rw [key i _ h1, key j _ h2]
      row := (r.ext (kept_upd hdx)).ext (kept_upd hy1)
      nrow := nr
      tabs := ex2.tabs t
      gnt := gt
      self := fun z hz => by
        cases hz
        rfl }
  · dsimp only at out
    rw [if_pos l] at out
    cases e : g (.ow (.ins c []) :: (ds.map .sh ++ List.replicate (N.length - (ds.length + 1)) .no)) ρ with
    | next env ρ' =>
      rw [e] at out
      intro G' H' σ R
      cases e0 : env.getD 0 .no with
      | ow d =>
        have em : made (.next env ρ') = .ok d ρ' := by
          unfold made
          simp only [e0]
        rw [em] at out
        obtain ⟨p, hp, ow, _, hg, _⟩ := R.own e0
        rw [R.self y rfl] at hp
        cases hp
        exact out G' H' R.ext R.row hg ow
      | _ =>
        have em : made (.next env ρ') = .bad := by
          unfold made
          simp only [e0]
        rw [em] at out
        exact out.elim
    | ret d ρ' =>
      rw [e] at out
      exact out.elim
    | brk env ρ' =>
      rw [e] at out
      exact out.elim
    | cont env ρ' =>
      rw [e] at out
      exact out.elim
    | exn c d ρ' =>
      rw [e] at out
      exact out
    | bad =>
      rw [e] at out
      exact out.elim
end
end SW

/-! SwCall: calls of the text's own defs, methods and classes. Own work. -/
namespace SW
open PySem PySem.Spec PyProof.Rows L2
section
variable {W : Wd} {X : Cx} {k : Nat} {H0 : Hp} {G0 : Bs} {G H : Hp} {E : XK} {σ : L2.St} {env : Env} {ρ : Row} {f : Env → Row → R D} {fs : Env → Row → R (List D)} {np : Nat} {run : List D → Row → R D} {gd : Bool} {kf : Nat} {fa : Addr} {fd : FuncData} {ps : List Str} {sp : Sp}
  {dv : List D} {dvs : List V} {ds : List Value} {x m : Str} {p pos apos : Pos} {a e o : Expr} {es : List Expr}
/-- the callee runs -/
theorem run_fnX {pins : List (Addr × Obj)} {s : Shared} {Q : VK} {us : List Value} {vs : List V} (F : FnX X.prog X.w X.K X.mg X.base gd kf fa fd ps sp) (hr : Room kf X.A) (hg : gd = true → X.A.guards = some []) (hb : Binds X.K fd ps ds) (hd : Vals dvs ds) (hx : Passes (CX X.prog X.w) X E)
    (I : Inv X pins σ H s) (r : Vals vs us) (h : sp (vs ++ dvs) H Q E) : wpAny (model X.prog X.w) X.A (call (.ref fa) us) (EP X pins σ Q) X.xe s := by
  have rr : Vals (vs ++ dvs) (us ++ ds) := r.append hd
  have hl : (us ++ ds).length = ps.length := by
    rw [← rr.length]
    exact F.len _ _ _ _ h
  refine wpAny_call (codeAny_mono (F.run X.A X.stack s H ⟨us, []⟩ (us ++ ds) (vs ++ dvs) Q E hr hg I.env0 (hb s us I.kIn hl) rr h) fun res s' hq => ?_)
  cases res with
  | ok fl =>
    cases fl with
    | ret u => exact I.after hq
    | _ => exact False.elim hq
  | error e => exact hx pins σ H s e s' I hq
theorem pe_callX {t : TA} (F : FnX X.prog X.w X.K X.mg X.base gd kf fa fd ps sp) (hr : Room kf X.A) (hgd : gd = true → X.A.guards = some []) (hg : Gl X x) (hm : X.mg x = some (.ref fa)) (hk : PySem.W.keepIn X.K (.ref fa) = true) (hb : Binds X.K fd ps ds) (hd : Vals dvs ds) (hx : Passes (CX X.prog X.w) X E)
    (ha : PA X (e :: es) t) (hdb : (x == ("__debug__" : Str)) = false) (he : starEach (e :: es) X.env = (false, eval e X.env) :: starEach es X.env) (hpl : (backTo pos (starEach es X.env)).any (·.1) = false) : PE X (.Call (.Name x p) (e :: es) [] pos) (tCall sp dvs E t) :=
  ⟨fun pins s σ H Q I h => wpAny_Call_Name_kw (ld_glob I hg hm (PySem.W.callWith_K (h₀ := X.base) I.ok.mod.kin hk (thn (ha.run pos pins s σ H _ I h) fun us s1 ⟨vs, H1, I1, r, q⟩ => ⟨I1.kIn, run_fnX F hr hgd hb hd hx I1 r q⟩) he hpl) hdb)⟩
theorem pe_call0X (F : FnX X.prog X.w X.K X.mg X.base gd kf fa fd ps sp) (hr : Room kf X.A) (hgd : gd = true → X.A.guards = some []) (hg : Gl X x) (hm : X.mg x = some (.ref fa)) (hk : PySem.W.keepIn X.K (.ref fa) = true) (hb : Binds X.K fd ps ds) (hd : Vals dvs ds) (hx : Passes (CX X.prog X.w) X E)
    (hdb : (x == ("__debug__" : Str)) = false) : PE X (.Call (.Name x p) [] [] pos) (tCall sp dvs E tNil) :=
  ⟨fun pins s σ H Q I h => wpAny_Call_Name_kw (ld_glob I hg hm (PySem.W.callWith_K0 I.kIn hk (run_fnX (us := []) F hr hgd hb hd hx I .nil h)) hdb)⟩
/-- a promise is told -/
theorem spF_of (R : Rel W H0 G0 G H σ env ρ) {vs : List V} {as : List D} {Q : VK} (dn : DenAll W G as vs) (ddv : DenAll W W.B dv dvs) (hl : ∀ ds r, run ds r ≠ .bad → ds.length = np) (h : OutA W G H E (run (as ++ dv) ρ) fun d _ G' H' => ∀ v, Den W G' d v → Q v H') : spF W np run (vs ++ dvs) H Q E :=
  ⟨G, ρ, as ++ dv, R.base, R.sub, R.row, R.nrow, R.tabs, R.gnt, dn.append (ddv.mono R.base), hl _ ρ fun e => by
    rw [e] at h
    exact h, of_outA h⟩
@[reducible] def callF (run : List D → Row → R D) (dv : List D) (fs : Env → Row → R (List D)) : Env → Row → R D := fun env r => (fs env r).bind fun ds r1 => run (ds ++ dv) r1
theorem de_call (F : FnX X.prog X.w X.K X.mg X.base gd kf fa fd ps (spF W np run)) (hl : ∀ ds r, run ds r ≠ .bad → ds.length = np) (ddv : DenAll W W.B dv dvs) (hr : Room kf X.A) (hgd : gd = true → X.A.guards = some []) (hg : Gl X x) (hm : X.mg x = some (.ref fa)) (hk : PySem.W.keepIn X.K (.ref fa) = true)
    (hb : Binds X.K fd ps ds) (hd : Vals dvs ds) (hx : Passes (CX X.prog X.w) X E) (ha : PA X (e :: es) (tL W H0 G0 E fs)) (hdb : (x == ("__debug__" : Str)) = false) (he : starEach (e :: es) X.env = (false, eval e X.env) :: starEach es X.env) (hpl : (backTo pos (starEach es X.env)).any (·.1) = false) :
    PE X (.Call (.Name x p) (e :: es) [] pos) (tF W H0 G0 E (callF run dv fs)) :=
  PE.imp (pe_callX F hr hgd hg hm hk hb hd hx ha hdb he hpl) fun σ H Q ⟨G, env, ρ, R, h⟩ => tL_bind R (out_A h) fun as ρ1 vs G1 H1 ex dn R1 h1 => spF_of R1 dn ddv hl h1
theorem de_call0 (F : FnX X.prog X.w X.K X.mg X.base gd kf fa fd ps (spF W np run)) (hl : ∀ ds r, run ds r ≠ .bad → ds.length = np) (ddv : DenAll W W.B dv dvs) (hr : Room kf X.A) (hgd : gd = true → X.A.guards = some []) (hg : Gl X x) (hm : X.mg x = some (.ref fa)) (hk : PySem.W.keepIn X.K (.ref fa) = true)
    (hb : Binds X.K fd ps ds) (hd : Vals dvs ds) (hx : Passes (CX X.prog X.w) X E) (hdb : (x == ("__debug__" : Str)) = false) :
    PE X (.Call (.Name x p) [] [] pos) (tF W H0 G0 E (callF run dv fun _ r => .ok [] r)) :=
  PE.imp (pe_call0X F hr hgd hg hm hk hb hd hx hdb) fun σ H Q ⟨G, env, ρ, R, h⟩ => spF_of (vs := []) (as := []) R .nil ddv hl (out_A h)
/-- a local name that holds a def -/
@[reducible] def callvF (i : Nat) (has : Nat → Bool) (call : Nat → List D → Row → R D) (fs : Env → Row → R (List D)) : Env → Row → R D := fun env r => match (env.getD i .no).get with
  | some (.fn f) => if has f = true then (fs env r).bind fun ds r1 => call f ds r1 else .bad
  | _ => .bad
theorem de_callv {i : Nat} {has : Nat → Bool} {call : Nat → List D → Row → R D} (hF : ∀ f, has f = true → ∃ fd ps np, FnOk X.prog X.w X.K X.mg X.base (CX X.prog X.w) kf (W.fnA f) fd ps (spF W np (call f)) ∧ PySem.W.keepIn X.K (.ref (W.fnA f)) = true ∧ Binds X.K fd ps [] ∧ ∀ ds r, call f ds r ≠ .bad → ds.length = np)
    (hr : Room kf X.A) (hN : X.N[i]? = some x) (hv : Vis X.env.scope x) (hx : Passes (CX X.prog X.w) X E) (ha : PA X (e :: es) (tL W H0 G0 E fs)) (hdb : (x == ("__debug__" : Str)) = false) (hcd : (x == ("__classdict__" : Str)) = false)
    (he : starEach (e :: es) X.env = (false, eval e X.env) :: starEach es X.env) (hpl : (backTo pos (starEach es X.env)).any (·.1) = false) : PE X (.Call (.Name x p) (e :: es) [] pos) (tF W H0 G0 E (callvF i has call fs)) :=
  ⟨fun pins s σ H Q I ⟨G, env, ρ, R, h⟩ => by
    unfold callvF at h
    cases e1 : env.getD i .no with
    | sh d =>
      cases d with
      | fn f =>
        rw [e1] at h
        dsimp only [Sl.get] at h
        by_cases c : has f = true
        · rw [if_pos c] at h
          obtain ⟨v, hv', dv⟩ := R.var e1
          obtain rfl := dv.ifn
          obtain ⟨fd, ps, np, F, hk, hb, hl⟩ := hF f c
          refine (pe_callL (i := i) (dvs := []) F hr hN hv hk hb .nil hx ha hdb hcd he hpl).run pins s σ H Q I ⟨hv', tL_bind R (out_A h) fun as ρ1 vs G1 H1 ex dn R1 h1 => ?_⟩
          exact spF_of (dv := []) (dvs := []) R1 dn .nil hl (by rw [List.append_nil]; exact h1)
        · rw [if_neg c] at h
          exact h.elim
      | _ =>
        rw [e1] at h
        exact h.elim
    | _ =>
      rw [e1] at h
      exact h.elim⟩
/-! ### methods -/
@[reducible] def methF (c : Nat) (run : List D → Row → R D) (dv : List D) (f : Env → Row → R D) (fs : Env → Row → R (List D)) : Env → Row → R D := fun env r => (f env r).bind fun d r1 => if d.isCls c = true then (fs env r1).bind fun ds r2 => run (d :: (ds ++ dv)) r2 else .bad
theorem DenF.keys : ∀ {ns : List Str} {ds : List D} {fs : List (Str × V)} {m : Str}, m ∉ ns → DenF W G ns ds fs → fs.lookup m = none
  | _, _, _, _, _, .nil => rfl
  | n :: ns, _, _, m, h, .cons _ a => by
    simp only [List.mem_cons, not_or] at h
    rw [List.lookup_cons, beq_eq_false_iff_ne.mpr h.1]
    exact DenF.keys h.2 a
theorem cls_inv {d : D} {c : Nat} {v : V} (h : d.isCls c = true) (dn : Den W G d v) : ∃ a dx fs ds, v = .ref a ∧ c < W.nc ∧ G a = some (.ins (W.clA c) dx fs) ∧ DenF W G (W.fld c) ds fs := by
  cases d with
  | ins b ds =>
    have e : b = c := by simpa [D.isCls] using h
    subst e
    obtain ⟨a, dx, fs, rfl, lc, ha, df⟩ := dn.iins
    exact ⟨a, dx, fs, ds, rfl, lc, ha, df⟩
  | _ => cases h
theorem meth_conv {c : Nat} {Q : VK} {P : V → Hp → Prop} (R : Rel W H0 G0 G H σ env ρ) (h : Out W G H E (methF c run dv f fs env ρ) Q)
    (hk : ∀ d ρ1 v G1 H1, Ext W G H G1 H1 → Den W G1 d v → Rel W H0 G0 G1 H1 σ env ρ1 → d.isCls c = true → OutA W G1 H1 E ((fs env ρ1).bind fun ds r2 => run (d :: (ds ++ dv)) r2) (fun d _ G' H' => ∀ v, Den W G' d v → Q v H') → P v H1) : tF W H0 G0 E f σ H P :=
  tF_bind R (out_A h) fun d ρ1 v G1 H1 ex dn R1 h1 => by
    by_cases q : d.isCls c = true
    · rw [if_pos q] at h1
      exact hk d ρ1 v G1 H1 ex dn R1 q h1
    · rw [if_neg q] at h1
      exact h1.elim
theorem de_meth {c : Nat} {pl : Sem Bool} (g : Good W X k) (he : PE X o (tF W H0 G0 E f)) (hm : c < W.nc → Meth X.K (W.clA c) m fa) (nf : m ∉ W.fld c) (F : FnOk X.prog X.w X.K X.mg X.base (CX X.prog X.w) kf fa fd ps (spF W np run)) (hl : ∀ ds r, run ds r ≠ .bad → ds.length = np)
    (ddv : DenAll W W.B dv dvs) (hr : Room kf X.A) (hb : Binds X.K fd ps ds) (hd : Vals dvs ds) (hx : Passes (CX X.prog X.w) X E) (ha : PA X (e :: es) (tL W H0 G0 E fs)) (hst : starEach (e :: es) X.env = (false, eval e X.env) :: starEach es X.env) (hpl : (backTo pos (starEach es X.env)).any (·.1) = false) (hc : c < W.nc)
    (ht : eval (.Call (.Attribute o m apos) (e :: es) [] pos) X.env = (do
      let ov ← eval o X.env
      standAt apos.atName
      let (f, first) ← holding [ov] (getMethod ov m pl)
      callWith pos f first (backTo pos (starEach (e :: es) X.env)) (backToKw pos (keywordEach [] X.env)))) :
    PE X (.Call (.Attribute o m apos) (e :: es) [] pos) (tF W H0 G0 E (methF c run dv f fs)) :=
  PE.imp (pe_meth he (by rw [g.K]; exact (g.fx.cls c hc).1) (hm hc) F hr hb hd hx ha hst hpl ht) fun σ H Q ⟨G, env, ρ, R, h⟩ => meth_conv R h fun d ρ1 v G1 H1 ex dn R1 q h1 => by
    obtain ⟨a, dx, fl, dl, rfl, lc, hp, df⟩ := cls_inv q dn
    refine ⟨a, dx, fl, rfl, R1.sub _ _ hp, df.keys nf, tL_bind R1 h1 fun as ρ2 vs G2 H2 ex2 dn2 R2 h2 => ?_⟩
    exact spF_of (as := d :: as) (vs := V.ref a :: vs) R2 (.cons (dn.mono ex2.mono) dn2) ddv hl h2
theorem de_meth0 {c : Nat} {pl : Sem Bool} (g : Good W X k) (he : PE X o (tF W H0 G0 E f)) (hm : c < W.nc → Meth X.K (W.clA c) m fa) (nf : m ∉ W.fld c) (F : FnOk X.prog X.w X.K X.mg X.base (CX X.prog X.w) kf fa fd ps (spF W np run)) (hl : ∀ ds r, run ds r ≠ .bad → ds.length = np)
    (ddv : DenAll W W.B dv dvs) (hr : Room kf X.A) (hb : Binds X.K fd ps ds) (hd : Vals dvs ds) (hx : Passes (CX X.prog X.w) X E) (hc : c < W.nc)
    (ht : eval (.Call (.Attribute o m apos) [] [] pos) X.env = (do
      let ov ← eval o X.env
      standAt apos.atName
      let (f, first) ← holding [ov] (getMethod ov m pl)
      callWith pos f first (backTo pos (starEach [] X.env)) (backToKw pos (keywordEach [] X.env)))) :
    PE X (.Call (.Attribute o m apos) [] [] pos) (tF W H0 G0 E (methF c run dv f fun _ r => .ok [] r)) :=
  PE.imp (pe_meth0 he (by rw [g.K]; exact (g.fx.cls c hc).1) (hm hc) F hr hb hd hx ht) fun σ H Q ⟨G, env, ρ, R, h⟩ => meth_conv R h fun d ρ1 v G1 H1 ex dn R1 q h1 => by
    obtain ⟨a, dx, fl, dl, rfl, lc, hp, df⟩ := cls_inv q dn
    exact ⟨a, dx, fl, rfl, R1.sub _ _ hp, df.keys nf, spF_of (as := [d]) (vs := [V.ref a]) R1 (.cons dn .nil) ddv hl h1⟩
/-! ### C(..) -/
theorem de_mk {c : Nat} (hc : c < W.nc) (M : Mk X.K (W.clA c) fa) (F : FnOk X.prog X.w X.K X.mg X.base (CX X.prog X.w) kf fa fd ps (spI W np c run)) (hl : ∀ ds r, run ds r ≠ .bad → ds.length + 1 = np) (ddv : DenAll W W.B dv dvs) (hr : Room (kf + 1) X.A) (hg : Gl X x) (hm : X.mg x = some (.ref (W.clA c)))
    (hb : Binds X.K fd ps ds) (hd : Vals dvs ds) (hx : Passes (CX X.prog X.w) X E) (ha : PA X (e :: es) (tL W H0 G0 E fs)) (hdb : (x == ("__debug__" : Str)) = false) (he : starEach (e :: es) X.env = (false, eval e X.env) :: starEach es X.env) (hpl : (backTo pos (starEach es X.env)).any (·.1) = false) :
    PE X (.Call (.Name x p) (e :: es) [] pos) (tF W H0 G0 E (callF run dv fs)) :=
  PE.imp (pe_make M F hr hg hm hb hd hx ha hdb he hpl) fun σ H Q ⟨G, env, ρ, R, h⟩ => tL_bind R (out_A h) fun as ρ1 vs G1 H1 ex dn R1 h1 => fun y dx hy hdx ne => by
    refine ⟨y, dx, vs ++ dvs, H1, G1, ρ1, as ++ dv, rfl, rfl, hy, hdx, ne, hc, R1.base, R1.sub, R1.row, R1.nrow, R1.tabs, R1.gnt, dn.append (ddv.mono R1.base), hl _ ρ1 (fun e => by
      rw [e] at h1
      exact h1), ?_⟩
    cases e : run (as ++ dv) ρ1 with
    | ok d ρ2 =>
      rw [e] at h1
      intro G' H' ex2 rr hg ow
      obtain ⟨u, hu, dn2⟩ := ow.den hg
      exact ⟨rfl, h1 _ _ (ex2.freeze (.inl hy) hu hg (ow.nt hu)) rr _ dn2⟩
    | exn c d ρ2 =>
      rw [e] at h1
      exact h1
    | bad =>
      rw [e] at h1
      exact h1.elim
end
end SW

/-! SwTry: several except clauses that name the exception (HandS.TryMany's and HandS.Exc's proofs put together). -/
namespace SW
open PySem PySem.Spec PyProof.Rows L2
/-- what the clauses wish of an exception of the body; slot i is the name's -/
def wAll (K : PySem.W.Frag) (i : Nat) (D : Ends) : List (Value × (Addr → Value → Option Addr → TS)) → WX
  | [] => fun _ _ _ _ => False
  | (c, ts) :: r => fun cls d σ H => ∃ b, PySem.W.exmOne K cls c = some b ∧ (b = true → ∀ a, H a = none → ts a cls d { nx := fun σ' H' => D.nx (σ'.set i none) H', rt := D.rt, bk := fun σ' H' => D.bk (σ'.set i none) H', ct := fun σ' H' => D.ct (σ'.set i none) H' } (σ.set i (some (.ref a))) H) ∧ (b = false → wAll K i D r cls d σ H)
inductive HdsAs (X : Cx) (n : Str) : List ExceptHandler → List (Value × (Addr → Value → Option Addr → TS)) → Prop
  | nil : HdsAs X n [] []
  | cons {x : Str} {c : Value} {ts : Addr → Value → Option Addr → TS} {b₀ : Stmt} {suite : List Stmt} {np pos' : Pos} {hds : List ExceptHandler} {l : List (Value × (Addr → Value → Option Addr → TS))} (hc : Names X x c)
      (hsu : ∀ (a : Addr) (oe : Obj) (cls : Value) (d : Option Addr) (pn : List (Addr × Obj)), Zc cls d oe → (∃ vs, oe.data = .fields vs) → PSs (X.suite a ((a, oe) :: pn)) (b₀ :: suite) (ts a cls d)) (r : HdsAs X n hds l) :
      HdsAs X n (.ExceptHandler (some (.Name x np)) (some n) (b₀ :: suite) pos' :: hds) ((c, ts) :: l)
section
variable {X : Cx} {body : List Stmt} {h₀ : ExceptHandler} {hds : List ExceptHandler} {l : List (Value × (Addr → Value → Option Addr → TS))} {pos : Pos} {tb : WX → TS} {i : Nat} {n : Str}
theorem ps_try_ms (hs : X.stack = X.env :: X.outer) (hf : X.env.frame = some X.env.locals) 
    (hb : ∀ (W : WX) (pn : List (Addr × Obj)) (xe : Value → Shared → Prop), Takes (X.tr pn xe) W → PassesOwn (model X.prog X.w) X.A X.env xe → PSs (X.tr pn xe) body (tb W))
    (hN : X.N.Nodup) (hi : X.N[i]? = some n) (hln : X.env.kindOf n = some .local) (hh : HdsAs X n (h₀ :: hds) l) : PS X (.Try body (h₀ :: hds) [] [] pos) (fun D σ H => tb (wAll X.K i D l) D σ H) := by
  refine ⟨fun pins s σ H D I h => ?_⟩
  have okz := I.ok
  have hfz : X.A.frames = some (X.env :: X.outer) := by rw [okz.frames, hs]
  refine wpAny_Try_except ?_
  refine wpAny_mono ((hb (wAll X.K i D l) (X.pn ++ pins) (fun e s₁ => wpAny (model X.prog X.w) X.A (noteFrame e X.env) (fun _ s₂ => wpAny (model X.prog X.w) X.A (setFlight e none) (fun _ s₃ =>
    wpAny (model X.prog X.w) X.A (handleBy e X.env (h₀ :: hds)) (SP X pins D) X.xe s₃) X.xe s₂) X.xe s₁) (fun u s' xx => ?_) PassesOwn.looking).run [] s σ H D (I.toTry _) h) (fun f s1 hspz => ?_) (fun e s1 he => he)
  · -- the catch
    obtain ⟨a, B, sJ, pinz, σ', H', cls, d, rfl, J', nbz, upz, skz, nz, os, agz, w⟩ := xx
    have J : Inv X pins σ' H' sJ := J'.ofTry okz
    have sky' : Sky B (X.env :: X.outer) a (Zc cls d) X.env.locals s'.heap := by rw [← hs]; exact skz
    show wpAny (model X.prog X.w) X.A (noteFrame (.ref a) X.env) _ _ _
    refine Sky.land Zc.steady hfz hf sky' fun g3 fl3z up3z => ?_
    have J3z : Inv X pins σ' H' { s' with heap := g3 } := J.landed nbz fl3z.1 (upz.trans up3z) os agz
    obtain ⟨oe3z, vs3z, he3z, hz3z, hd3z⟩ := fl3z.there
    have notFz : ∀ {h : Heap} {o : Obj} {vs : Array Value}, h.FunFrames B (X.env :: X.outer) → h.get? a = some o → o.data = .fields vs → a ∉ frs (X.env :: X.outer) := fun {h o vs} ff e dd hm => by
      obtain ⟨_, o', e', hnf⟩ := ff.mem hm
      rw [e] at e'; cases e'
      exact hnf _ dd
    have nfz := notFz fl3z.2.2.1 he3z hd3z
    have nLz : a ≠ X.env.locals := fun z => nfz (List.mem_filterMap.mpr ⟨X.env, List.mem_cons_self, by rw [hf, z]⟩)
    have nFz : a ∉ X.fs := fun hm => by
      obtain ⟨e, he, q⟩ := List.mem_filterMap.mp hm
      exact nfz (List.mem_filterMap.mpr ⟨e, List.mem_cons_of_mem _ he, q⟩)
    have S3z := J3z.suite he3z hd3z nz nLz nFz
    have go : ∀ {hds' : List ExceptHandler} {l' : List (Value × (Addr → Value → Option Addr → TS))}, HdsAs X n hds' l' → wAll X.K i D l' cls d σ' H' →
        wpAny (model X.prog X.w) X.A (handleBy (.ref a) X.env hds') (SP X pins D) X.xe { s' with heap := g3 } := by
      intro hds' l' hk
      induction hk with
      | nil =>
        intro w
        exact w.elim
      | @cons x c ts b₀ suite np pos' hds2 l2 hc hsu r ih =>
        intro w
        obtain ⟨b, hb1, hyz, hnoz⟩ := w
        refine wpAny_handleBy_cons (codeAny_handlers_test ?_) (by intro q; cases q)
        have LTz : PySem.W.Looks (model X.prog X.w) g3 (typeOf (.ref a)) cls := fun A Q E s k q => wpAny_typeOf_ref (k _ _ he3z) (by rw [hz3z.1]; exact q)
        have LMz := PySem.W.exm_one (M := model X.prog X.w) (J3z.kIn) LTz hb1
        have test : ∀ {Q : Value → Shared → Prop} {E : Value → Shared → Prop}, Q c { s' with heap := g3 } → wpAny (model X.prog X.w) (X.A.mark (some (.ref a))) (eval (.Name x np) X.env) Q E { s' with heap := g3 } := fun {Q E} q => by
          obtain ⟨hg, hdz, hm | ⟨hm, hv, hnz⟩⟩ := hc
          · exact ld_glob (X := X.suite a ((a, oe3z) :: (X.pn ++ pins))) S3z hg hm q hdz
          · exact ld_blt (X := X.suite a ((a, oe3z) :: (X.pn ++ pins))) S3z hg hm hv q hnz hdz
        refine test (LMz.here ?_)
        cases b with
        | true =>
          refine codeAny_handlers_suite_as ?_
          refine HandSPX.lands_againZ fl3z fun g4 fl4z up4z => ?_
          have J4z : Inv X pins σ' H' { s' with heap := g4 } := J.landed nbz fl4z.1 ((upz.trans up3z).trans up4z) os agz
          obtain ⟨oe4z, vs4z, he4z, hz4z, hd4z⟩ := fl4z.there
          have S4z := J4z.suite he4z hd4z nz nLz nFz
          refine store_ok (X := X.suite a ((a, oe4z) :: (X.pn ++ pins))) (v := .ref a) S4z hN hi (.inl hln) rfl (fun u5 T5 => ?_) (.inr hln)
          refine wpAny_mono ((hsu a oe4z cls d (X.pn ++ pins) hz4z ⟨_, hd4z⟩).run [] u5 _ H' _ T5 (hyz rfl a nz)) (fun f u6 hspz => ?_) (fun _ _ z => False.elim z)
          have endA : ∀ {τ6 : L2.St} {K6 : Hp} {Q : Shared → Prop}, Inv (X.suite a ((a, oe4z) :: (X.pn ++ pins))) [] τ6 K6 u6 → (∀ u7, Inv X pins (τ6.set i none) K6 u7 → Q u7) →
              wpAny (model X.prog X.w) X.A (do bindName X.env n .none; unbindBehindTheSuite X.env n pos') (fun _ u7 => Q u7) X.xe u6 := fun {τ6 K6 Q} T6 hq => gone_ok (T6.unsuite okz) hN hi hln hq
          cases f with
          | next =>
            obtain ⟨τ6, K6, T6, p6⟩ := hspz
            exact endA T6 fun u7 I7 => ⟨_, _, I7, p6⟩
          | brk =>
            obtain ⟨τ6, K6, T6, p6⟩ := hspz
            exact endA T6 fun u7 I7 => ⟨_, _, I7, p6⟩
          | cont =>
            obtain ⟨τ6, K6, T6, p6⟩ := hspz
            exact endA T6 fun u7 I7 => ⟨_, _, I7, p6⟩
          | ret u =>
            obtain ⟨w6, τ6, K6, T6, t6, p6⟩ := hspz
            exact endA T6 fun u7 I7 => ⟨_, _, _, I7, t6, p6⟩
        | false =>
          show wpAny _ X.A (handleBy (.ref a) X.env hds2) _ _ _
          exact ih (hnoz rfl)
    exact go hh w
  · cases f with
    | next =>
      obtain ⟨σ', H', J', q⟩ := hspz
      exact wpAny_execs_nil ⟨σ', H', J'.ofTry okz, q⟩
    | brk =>
      obtain ⟨σ', H', J', q⟩ := hspz
      exact ⟨σ', H', J'.ofTry okz, q⟩
    | cont =>
      obtain ⟨σ', H', J', q⟩ := hspz
      exact ⟨σ', H', J'.ofTry okz, q⟩
    | ret u =>
      obtain ⟨v, σ', H', J', r, q⟩ := hspz
      exact ⟨v, σ', H', J'.ofTry okz, r, q⟩
end
end SW

/-! SwRef: the law's asking whether something is refused: a lambda given to a def with several except clauses. Own work. -/
namespace SW
open PySem PySem.Spec PyProof.Rows L2
/-- the clauses: the class's name, its number, the word that is told -/
inductive HdMatch : List ExceptHandler → List (Str × Nat × Str) → Prop
  | nil : HdMatch [] []
  | cons {cn w : Str} {c j k : Nat} {np p1 p2 p3 p4 p5 p6 : Pos} {hds : List ExceptHandler} {ws : List (Str × Nat × Str)} : HdMatch hds ws →
      HdMatch (.ExceptHandler (some (.Name cn np)) (some "e") [.Return (some (.Tuple [.Constant (.str w) j p1, .Attribute (.Name "e" p2) "value" p3] k p4)) p5] p6 :: hds) ((cn, c, w) :: ws)
def wordOf (ws : List (Str × Nat × Str)) (c : Nat) : Option Str := (ws.find? fun p => p.2.1 == c).map (·.2.2)
/-- what is told of the exceptions -/
structure ExFacts (W : Wd) (K : PySem.W.Frag) (mg : Str → Option Value) (sg : Scope) (ws : List (Str × Nat × Str)) : Prop where
  gl : ∀ p ∈ ws, sg.names.lookup p.1 = some .globalImplicit ∧ (p.1 == ("__debug__" : Str)) = false ∧ mg p.1 = some (.ref (W.exA p.2.1))
  xf : ∀ p ∈ ws, XfC K (W.exA p.2.1) ∧ PySem.W.findIn K (.ref (W.exA p.2.1)) "value" = some none
  mt : ∀ p ∈ ws, ∀ q ∈ ws, PySem.W.exmOne K (.ref (W.exA p.2.1)) (.ref (W.exA q.2.1)) = some (p.2.1 == q.2.1)
def TTr (W : Wd) (ws : List (Str × Nat × Str)) : (XK → Hp → VK → Prop) → Hp → VK → Prop := fun tl H Q =>
  tl (fun cls d H' => ∃ c w x v, cls = .ref (W.exA c) ∧ wordOf ws c = some w ∧ d = some x ∧ H' x = some (.xd [("value", v)]) ∧ ∀ p, H' p = none → Q (.ref p) (upd H' p (.tup [.str w, v]))) H
    fun _ H' => [V.str (Str.ofString ""), V.non].length ≤ sizeLine ∧ ∀ p, H' p = none → Q (.ref p) (upd H' p (.tup [.str (Str.ofString ""), .non]))
def tsOf (W : Wd) (i : Nat) (p : Str × Nat × Str) : Addr → Value → Option Addr → TS := fun a cls d => tRet (tTup (tCons (tC (.str p.2.2)) (tCons (tXf a cls d (W.exA p.2.1) "value" (tVar i)) tNil)))
def hdl (W : Wd) (i : Nat) (ws : List (Str × Nat × Str)) : List (Value × (Addr → Value → Option Addr → TS)) := ws.map fun p => (.ref (W.exA p.2.1), tsOf W i p)
theorem hds_as {W : Wd} {X : Cx} {i : Nat} (hN : X.N[i]? = some (Str.ofString "e")) (hv : Vis X.env.scope (Str.ofString "e")) : ∀ {hds : List ExceptHandler} {ws : List (Str × Nat × Str)}, HdMatch hds ws → ExFacts W X.K X.mg X.env.scope ws → HdsAs X "e" hds (hdl W i ws) := by
  intro hds ws m
  induction m with
  | nil => exact fun _ => .nil
  | @cons cn w c j k np p1 p2 p3 p4 p5 p6 hds ws m ih =>
    intro f
    obtain ⟨g1, g2, g3⟩ := f.gl (cn, c, w) (by simp)
    obtain ⟨x1, x2⟩ := f.xf (cn, c, w) (by simp)
    refine .cons ⟨g1, g2, .inl g3⟩ (fun a oe cls d pn hz hf => ?_) (ih ⟨fun p hp => f.gl p (by simp [hp]), fun p hp => f.xf p (by simp [hp]), fun p hp q hq => f.mt p (by simp [hp]) q (by simp [hq])⟩)
    exact pss_one (ps_ret (pe_tup (pa_cons pe_str (pa_cons (pe_xf x1 x2 hz hf (pe_var hN hv (by decide) (by decide))) pa_nil))))
theorem all_of {W : Wd} {X : Cx} {i : Nat} {D : Ends} {σ : L2.St} {H : Hp} {c : Nat} {w : Str} {y : Addr} {v : V} {Q : VK} (hi : i < σ.length) (hQ : ∀ p, H p = none → Q (.ref p) (upd H p (.tup [.str w, v]))) (hD : D.rt = Q) (hx : H y = some (.xd [("value", v)])) :
    ∀ {ws : List (Str × Nat × Str)}, wordOf ws c = some w → (∀ q ∈ ws, PySem.W.exmOne X.K (.ref (W.exA c)) (.ref (W.exA q.2.1)) = some (c == q.2.1)) → wAll X.K i D (hdl W i ws) (.ref (W.exA c)) (some y) σ H
  | [], h, _ => by cases h
  | p :: ws, h, hm => by
    refine ⟨c == p.2.1, hm p (by simp), fun hb a ha => ?_, fun hb => all_of hi hQ hD hx (ws := ws) ?_ fun q hq => hm q (by simp [hq])⟩
    · have e : c = p.2.1 := by simpa using hb
      have ew : p.2.2 = w := by
        unfold wordOf at h
        rw [List.find?_cons] at h
        have : (p.2.1 == c) = true := by simp [e]
        rw [this] at h
        exact Option.some.inj h
      refine ⟨.ref a, by rw [List.getElem?_set_self hi], rfl, by rw [e], y, _, v, rfl, hx, rfl, by rw [sizeLine_eq]; simp, fun q hq => ?_⟩
      show D.rt _ _
      rw [hD, ew]
      exact hQ q hq
    · unfold wordOf at h ⊢
      rw [List.find?_cons] at h
      have : (p.2.1 == c) = false := by
        cases e : (p.2.1 == c) with
        | false => rfl
        | true =>
          have z : p.2.1 = c := by simpa using e
          rw [z] at hb
          simp at hb
      rw [this] at h
      exact h
theorem takes_len {X : Cx} {W' : WX} (tk : Takes X W') : Takes X fun cls d σ H => σ.length = X.N.length → W' cls d σ H :=
  fun u s' ⟨a, B, sI, pins, σ, H, cls, d, e, I, nb, up, sky, na, os, ag, w⟩ => tk u s' ⟨a, B, sI, pins, σ, H, cls, d, e, I, nb, up, sky, na, os, ag, w I.len⟩
theorem refused_gives {W : Wd} {X : Cx} {ws : List (Str × Nat × Str)} {hds : List ExceptHandler} {h₀ : ExceptHandler} {x a q : Str} {sg : Scope} {g : Addr} {cdg : Value} {j1 j2 k1 : Nat} {p1 p2 p3 p4 p5 p6 p7 p8 : Pos} {Ng : List Str} (nd : Ng.Nodup) (hN : Ng[1]? = some (Str.ofString "e")) (hv : sg.names.lookup (Str.ofString "e") = some .local) (hm : HdMatch (h₀ :: hds) ws)
    (ex : ExFacts W X.K X.mg sg ws) (hl : Ng.length = 2) :
    LamX.GivesTo X Ng x sg g cdg [.Try [.Expr (.Call (.Name a p1) [] [] p2) p3] (h₀ :: hds) [] [] p4, .Return (some (.Tuple [.Constant (.str (Str.ofString "")) j1 p5, .Constant .none j2 p6] k1 p7)) p8] a q (TTr W ws) := by
  intro f c' s H Q tl act hc h
  refine ⟨_, pss_cons (ps_try_ms (i := 1) (n := "e") (X := (cxOf C8.CX0 X.prog X.w X.K X.mg X.base Ng x sg g cdg X.A X.stack s H C8.E0).nox)
      (tb := fun W' D σ H => ∃ Ech : XK, (∀ cls d σ' H', Ech cls d H' → σ'.length = Ng.length → W' cls d σ' H') ∧ σ[0]? = some (some (.ref f)) ∧ H c' = some (LamX.CodeO c' q) ∧ tl Ech H fun _ H1 => D.nx σ H1) rfl rfl (fun W' pn xe tk _ => ?_) nd hN hv (hds_as (W := W) hN (.inl hv) hm ex))
      (pss_one (ps_ret (pe_tup (pa_cons pe_str (pa_cons pe_non pa_nil))))), ?_⟩
  · refine ⟨fun pins s' σ H' D I h' => ?_⟩
    obtain ⟨Ech, hW, h1, h2, h3⟩ := h'
    exact (pss_one (ps_expr (act _ pn xe Ech p1 p2 (takes_len tk) fun cls d σ' H' e hlen => hW cls d σ' H' e hlen) rfl)).run pins s' σ H' D I ⟨h1, h2, h3⟩
  · refine ⟨fun cls d H' => ∃ c w x v, cls = .ref (W.exA c) ∧ wordOf ws c = some w ∧ d = some x ∧ H' x = some (.xd [("value", v)]) ∧ ∀ p, H' p = none → Q (.ref p) (upd H' p (.tup [.str w, v])), fun cls d σ' H' e hlen => ?_, ?_, hc, ?_⟩
    · obtain ⟨c, w, y, v, rfl, hw, rfl, hy, hQ⟩ := e
      have hc' : ∃ p ∈ ws, p.2.1 = c := by
        unfold wordOf at hw
        cases z : ws.find? fun p => p.2.1 == c with
        | none =>
          rw [z] at hw
          cases hw
        | some p => exact ⟨p, List.mem_of_find?_eq_some z, by simpa using List.find?_some z⟩
      obtain ⟨p, hp, rfl⟩ := hc'
      exact all_of (by rw [hlen, hl]; decide) hQ rfl hy hw fun q hq => ex.mt p hp q hq
    · unfold L2.start
      rfl
    · exact h
@[reducible] def refF (word : Nat → Option Str) (f : Env → Row → R D) : Env → Row → R D := fun env r => match f env r with
  | .ok _ r1 => .ok (.tup [.str (Str.ofString ""), .non]) r1
  | .exn c d r1 => match word c with
    | some w => .ok (.tup [.str w, d]) r1
    | none => .bad
  | .bad => .bad
/-- the law's asking def, as it stands -/
structure RefD (W : Wd) (K : PySem.W.Frag) (mg : Str → Option Value) (ws : List (Str × Nat × Str)) (x a : Str) : Prop where
  ex : ∃ (g : Addr) (fd : FuncData) (params : Arguments) (sg : Scope) (h₀ : ExceptHandler) (hds : List ExceptHandler) (j1 j2 k1 : Nat) (p1 p2 p3 p4 p5 p6 p7 p8 : Pos), mg x = some (.ref g) ∧
    FunD K x x params [.Try [.Expr (.Call (.Name a p1) [] [] p2) p3] (h₀ :: hds) [] [] p4, .Return (some (.Tuple [.Constant (.str (Str.ofString "")) j1 p5, .Constant .none j2 p6] k1 p7)) p8] sg [] [] g fd ∧
    L2.Binds K fd [a] [] ∧ FnScope [a, Str.ofString "e"] [a] sg ∧ Vis sg a ∧ sg.names.lookup (Str.ofString "e") = some .local ∧ HdMatch (h₀ :: hds) ws ∧ ExFacts W K mg sg ws
/-- the tables of code objects for lambdas: the maker's code, its table -/
structure TabF (W : Wd) (X : Cx) : Prop where
  ex : ∃ c P, LamX.TabB X.base X.mg c P ∧ X.env.code = .ref c ∧ (P, X.env.qual ++ "<lambda>") ∈ W.T ∧ ∀ p ∈ W.T, p.1 = P → p.2 = X.env.qual ++ "<lambda>"
theorem extN {W : Wd} {G H H1 : Hp} (s : Sub G H) (gt : ∀ a ps, G a ≠ some (.tbl ps)) (e : LamX.ExtN H H1) (t : LamX.Tabs W.T H1) : Ext W G H G H1 where
  keep := fun a o h n _ => e a o h n
  there := fun a h => by
    cases q : H a with
    | none => exact .inl q
    | some o =>
      by_cases c : ∃ ps, o = .tbl ps
      · obtain ⟨ps, rfl⟩ := c
        exact .inr ⟨ps, q⟩
      · have z := e a o q fun ps y => c ⟨ps, y⟩
        exact absurd rfl (h.ne z fun ps y => c ⟨ps, y⟩)
  sub := fun a o h => e a o (s a o h) fun ps y => gt a ps (by rw [h, y])
  mono := Sub.refl _
  new := fun a h => .inl h
  tabs := fun _ => t
  ntb := fun h => h
theorem de_refused {W : Wd} {X : Cx} {k : Nat} {H0 : Hp} {G0 : Bs} {E0 : XK} {ws : List (Str × Nat × Str)} {x a : Str} {fb : Env → Row → R D} {params : Arguments} {body : Expr} {scope : Scope} {p lpos pos : Pos} (D0 : RefD W X.K X.mg ws x a) (T0 : TabF W X) (hg : Gl X x) (hr : Room (k + 2) X.A) (L : LamX.LamS X.env.scope scope)
    (hdef : defaultsOf params X.env = ([], [])) (hbind : ∀ (q : Str) (cl : List (Str × Addr)) (pm cv ctv : Value), bindArgs (PySem.W.kla_fn "<lambda>" q params body scope cl pm cv ctv) ⟨[], []⟩ = pure [])
    (hbody : ∀ (A : Around) (outer : List PySem.Env) (s : Shared) (H : Hp) (E : XK) (f c' : Addr), Room k (A.deeper (LamX.lamEnv X scope s.heap.objs.size f c')) → PE (LamX.lamCx X A outer s H E scope f c') body (tF W H0 G0 E fb))
    (hdb : (x == ("__debug__" : Str)) = false) (hd : (a == ("__debug__" : Str)) = false) (hcd : (a == ("__classdict__" : Str)) = false) :
    PE X (.Call (.Name x p) [.Lambda params body scope lpos] [] pos) (tF W H0 G0 E0 (refF (wordOf ws) fb)) := by
  obtain ⟨g, fd, pg, sg, h₀, hds, j1, j2, k1, p1, p2, p3, p4, p5, p6, p7, p8, hm, F, hb, Sg, hva, he, hmt, ex⟩ := D0.ex
  obtain ⟨oc, od, dV, kV, doc, pm, an, cdv, ct, osl, rfl, lk, hcg, _, _⟩ := F.ex
  obtain ⟨c, P, TB, hcode, hmT, hu⟩ := T0.ex
  refine PE.imp (LamX.pe_lamcall (T := W.T) (t := fun E => tF W H0 G0 E fb) hg hm F.kp lk hcg hb Sg rfl hva (refused_gives (W := W) Sg.nd rfl he hmt ex rfl) TB hcode hmT hu hr L hdef hbind hbody hdb hd hcd) fun σ H Q q => ?_
  obtain ⟨G, env, ρ, R, h⟩ := q
  refine ⟨R.tabs, fun H1 en t1 => ?_⟩
  have ex1 := extN R.sub R.gnt en t1
  have row1 : RowAt W H1 ρ := ⟨R.row.1, fun b hb => by
    obtain ⟨w, q1, q2⟩ := R.row.2 b hb
    exact ⟨w, en _ _ q1 (fun _ z => by cases z), q2⟩⟩
  have R1 := R.extend ex1 row1
  have fin : ∀ {w : Str} {d : D} {r1 : Row} {v : V} {G' H' : Hp}, Out W G H E0 (.ok (.tup [.str w, d]) r1) Q → Ext W G H1 G' H' → RowAt W H' r1 → Den W G' d v → ∀ p, H' p = none → Q (.ref p) (upd H' p (.tup [.str w, v])) := by
    intro w d r1 v G' H' h ex2 rr dn p hp
    have gp : G' p = none := by
      cases q : G' p with
      | none => rfl
      | some o => rw [ex2.sub _ _ q] at hp; cases hp
    exact h _ _ _ ((ex1.trans ex2).trans (Ext.alloc ex2.sub hp)) (rr.ext (kept_upd hp)) (.tup upd_same (.cons (.str w) (.cons (dn.mono (sub_upd gp)) .nil)))
  refine ⟨G, env, ρ, R1, ?_⟩
  unfold refF at h
  cases e : fb env ρ with
  | ok d r1 =>
    rw [e] at h
    intro v G' H' ex2 rr dn
    exact ⟨by rw [sizeLine_eq]; simp, fin (d := .non) h ex2 rr .non⟩
  | exn c d r1 =>
    rw [e] at h
    cases ew : wordOf ws c with
    | none =>
      simp only [ew] at h
      exact h.elim
    | some w =>
      simp only [ew] at h
      intro v G' H' y ex2 rr dn hy hy'
      exact ⟨c, w, y, v, rfl, ew, rfl, hy', fin h ex2 rr dn⟩
  | bad =>
    rw [e] at h
    exact h.elim
end SW

/-! SwMat: whether the little language's code stands for the text: a decidable matcher. Own work. -/
namespace SW
open PySem
structure Txt where
  fns : List (Str × Nat)
  ar : Nat → Nat → Bool
  gdf : Nat → Bool
  cls : List (Str × Nat)
  car : Nat → Nat → Bool
  mts : List (Nat × Str × Nat)
  gls : List Str
  exs : List (Str × Nat)
  fld : Nat → List Str
  refN : Str
  refA : Str
structure Stt where
  N : List Str
  sc : Scope
  isDef : Bool
  cel : List Str
  ini : Bool
  gd : Bool
  lam : Bool

def augB : Operator → P2 → Bool
  | .Add, .add => true
  | .Sub, .sub => true
  | _, _ => false
def cstB : Const → D → Bool
  | .none, .non => true
  | .bool b, .bl c => b == c
  | .int i, .int j => i == j
  | .str s, .str t => s == t
  | _, _ => false
def notStar : Expr → Bool
  | .Starred _ _ => false
  | _ => true
def notSlice : Expr → Bool
  | .Slice _ _ _ _ => false
  | .Starred _ _ => false
  | _ => true
/-- the text o.f does not ask about super() -/
def baseB : Expr → Bool
  | .Call _ _ _ _ => false
  | _ => true
def visB (sc : Scope) (x : Str) : Bool := match sc.names.lookup x with
  | some .local => true
  | some .cell => true
  | some .free => true
  | _ => false
def glB (sc : Scope) (x : Str) : Bool := match sc.names.lookup x with
  | some .globalImplicit => true
  | _ => false
def okN (x : Str) : Bool := !(x == ("__debug__" : Str)) && !(x == ("__classdict__" : Str)) && !(x == ("__name__" : Str))
/-- a name that is read: slot i -/
def varB (s : Stt) (x : Str) (i : Nat) : Bool := decide (s.N[i]? = some x) && visB s.sc x && okN x
/-- a name that is stored: slot i -/
def locB (s : Stt) (x : Str) (i : Nat) : Bool := decide (s.N[i]? = some x) && okN x && (match s.sc.names.lookup x with
  | some .local => true
  | some .cell => s.isDef || s.cel.contains x
  | _ => false) && (!s.ini || i != 0)
def bltns : List Str := ["len", "all", "any", "sum", "sorted", "repr", "int", "tuple", "list", "range", "enumerate", "zip", "isinstance", "set", "max", "min", "abs", "bool", "str", "dict"]
/-- built-in calls of one argument: the name, is it a type -/
inductive P1K where
  | neg | isNone | notNone | isI (k : Isk) | sset | call (x : Str) (rp : Bool) | no
def p1K : P1 → P1K
  | .len => .call "len" false
  | .int1 => .call "int" false
  | .all => .call "all" false
  | .any => .call "any" false
  | .tupleOf => .call "tuple" false
  | .listOf => .call "list" false
  | .sortedL => .call "sorted" false
  | .repr => .call "repr" true
  | .sum => .call "sum" false
  | .neg => .neg
  | .isNone => .isNone
  | .notNone => .notNone
  | .isI k => .isI k
  | .sortedSet => .sset
  | _ => .no
inductive P2K where
  | bin (op : Operator) | cmp (op : CmpOp) | idx | no
def p2K : P2 → P2K
  | .add => .bin .Add
  | .sub => .bin .Sub
  | .mul => .bin .Mult
  | .fdiv => .bin .FloorDiv
  | .mod => .bin .Mod
  | .pow => .bin .Pow
  | .eq => .cmp .Eq
  | .ne => .cmp .NotEq
  | .lt => .cmp .Lt
  | .le => .cmp .LtE
  | .gt => .cmp .Gt
  | .ge => .cmp .GtE
  | .isIn => .cmp .In
  | .notIn => .cmp .NotIn
  | .isB => .cmp .Is
  | .isNotB => .cmp .IsNot
  | .idx => .idx
  | _ => .no
def p2Op (p : P2) (op : Operator) : Bool := match p2K p with
  | .bin o => o == op
  | _ => false
def p2Cmp (p : P2) (op : CmpOp) : Bool := match p2K p with
  | .cmp o => o == op
  | _ => false
inductive IskK where
  | cls (c : Nat) | rowT | ty (x : Str) (T : String)
def iskK : Isk → IskK
  | .int => .ty "int" "int"
  | .bool => .ty "bool" "bool"
  | .str => .ty "str" "str"
  | .tuple => .ty "tuple" "tuple"
  | .list => .ty "list" "list"
  | .dict => .ty "dict" "dict"
  | .rowT => .rowT
  | .cls c => .cls c
def isStar : Expr → Bool
  | .Starred _ _ => true
  | _ => false
def nmOf (sc : Scope) (line : Nat) : Expr → Option Str
  | .Name id pos => if sc.names.lookup id == some .local && pos.line == line then some id else none
  | _ => none
def swapT (ts vs : List Expr) (sc : Scope) : Option (Option (List Str)) :=
  if (!(ts.length == 2 || ts.length == 3) || vs.length != ts.length) = true then some none else
  if vs.any isStar = true then some none else
  if ((ts.filterMap (nmOf sc ((ts.head?.map (·.pos.line)).getD 0))).length != ts.length || (ts.filterMap (nmOf sc ((ts.head?.map (·.pos.line)).getD 0))).eraseDups.length != (ts.filterMap (nmOf sc ((ts.head?.map (·.pos.line)).getD 0))).length) = true then some none else
  if vs.all (foldedForSure 8) = true then some none else
  if vs.all (constantsAlone 8) = true then none else some (some (ts.filterMap (nmOf sc ((ts.head?.map (·.pos.line)).getD 0))))
def swapB (targets : List Expr) (value : Expr) (sc : Scope) : Option (Option (List Str)) := match targets with
  | [.Tuple ts _ _] => (match value with
    | .Tuple vs _ _ => swapT ts vs sc
    | _ => some none)
  | [.List _ _] => none
  | _ => some none
def isComp : Expr → Bool
  | .ListComp _ _ _ _ => true
  | .SetComp _ _ _ _ => true
  | .DictComp _ _ _ _ _ => true
  | _ => false
def notSet : Expr → Bool
  | .Set _ _ _ => false
  | _ => true
mutual
def mG (s : Stt) : Nat → Expr → Tg → Bool
  | 0, _, _ => false
  | _ + 1, .Name x _, .nm i => locB s x i
  | n + 1, .Tuple es _ _, .tp ts => mGs s n es ts
  | _, _, _ => false
def mGs (s : Stt) : Nat → List Expr → List Tg → Bool
  | 0, _, _ => false
  | _ + 1, [], [] => true
  | n + 1, e :: es, t :: ts => notStar e && mG s n e t && mGs s n es ts
  | _, _, _ => false
end
def celOf (sc : Scope) : List Str := (sc.names.filter fun y => match y.2 with
  | .cell => true
  | _ => false).map (·.1)
/-- the state of a block, of a lambda -/
def Stt.blk (s : Stt) (scope : Scope) : Stt := { s with sc := { scope with names := scope.names.map fun (n, k) => if (k == .free && s.sc.kind == .function && s.sc.names.lookup n == some .cell) then (n, .cell) else (n, k) }, isDef := false, cel := celOf scope }
def Stt.lm (s : Stt) (scope : Scope) : Stt := { s with sc := scope, isDef := false, cel := [], gd := false, lam := false }
def blkB (N : List Str) (sc scope : Scope) (own : List (Str × Nat)) : Bool :=
  (match scope.kind with | .function => true | _ => false) && (scope.names.all fun y => decide (scope.names.lookup y.1 = some y.2)) && (own.all fun p => decide (N[p.2]? = some p.1)) &&
    (scope.names.all fun y => match y.2 with
      | .free => (match sc.names.lookup y.1 with | some .cell => true | some .free => true | _ => false)
      | .local => (own.map (·.1)).contains y.1 || !N.contains y.1
      | .cell => (own.map (·.1)).contains y.1 || !N.contains y.1
      | _ => true)
def lamB (sc scope : Scope) : Bool :=
  (match scope.kind with | .function => true | _ => false) && !scope.isCoroutine && !scope.isGenerator && scope.names.all fun y => match y.2 with
    | .local => false
    | .cell => false
    | .free => (match sc.names.lookup y.1 with | some .cell => true | some .free => true | _ => false)
    | _ => true
mutual
def mE (T : Txt) : Nat → Stt → Expr → IE → Bool
  | 0, _, _, _ => false
  | n + 1, s, e, ie => match ie with
    | .borrow _ a => mE T n s e a
    | .var i => (match e with
      | .Name x _ => varB s x i
      | _ => false)
    | .glb i => (match e with
      | .Name x _ => decide (T.gls[i]? = some x) && glB s.sc x && okN x
      | _ => false)
    | .cst d => (match e with
      | .Constant c _ _ => cstB c d
      | _ => false)
    | .tup is => (match e with
      | .Tuple es _ _ => decide (is.length ≤ 1000) && mEs T n s es is
      | _ => false)
    | .lst is => (match e with
      | .List es _ => decide (is.length ≤ 1000) && mEs T n s es is
      | _ => false)
    | .dnew _ => (match e with
      | .Dict [] [] _ => true
      | _ => false)
    | .call f is => (match e with
      | .Call (.Name x _) es [] _ => T.fns.contains (x, f) && T.ar f is.length && (!T.gdf f || s.gd) && glB s.sc x && okN x && mEs T n s es is
      | _ => false)
    | .callv i is => (match e with
      | .Call (.Name x _) (e :: es) [] _ => varB s x i && mEs T n s (e :: es) is
      | _ => false)
    | .mk c is => (match e with
      | .Call (.Name x _) (e :: es) [] _ => T.cls.contains (x, c) && T.car c is.length && glB s.sc x && okN x && mEs T n s (e :: es) is
      | _ => false)
    | .meth c f i is => (match e with
      | .Call (.Attribute o m apos) es [] pos => T.mts.contains (c, m, f) && T.ar f (is.length + 1) && baseB o && (apos.endLine == pos.line) && decide (is.length < 20) && mE T n s o i && mEs T n s es is
      | _ => false)
    | .fld c i j => (match e with
      | .Attribute o x _ => decide ((T.fld c)[j]? = some x) && baseB o && mE T n s o i
      | _ => false)
    | .o1 p i => (match p1K p with
      | .neg => (match e with
        | .UnaryOp .USub a _ => mE T n s a i
        | _ => false)
      | .isNone => (match e with
        | .Compare a [.Is] [.Constant .none _ _] _ => mE T n s a i
        | _ => false)
      | .notNone => (match e with
        | .Compare a [.IsNot] [.Constant .none _ _] _ => mE T n s a i
        | _ => false)
      | .isI k => (match iskK k with
        | .cls c => (match e with
          | .Call (.Name x _) [a, .Name y _] [] _ => (x == ("isinstance" : Str)) && T.cls.contains (y, c) && glB s.sc x && glB s.sc y && okN y && notStar a && mE T n s a i
          | _ => false)
        | .rowT => (match e with
          | .Call (.Name x _) [a, .Tuple [.Name y _, .Name z _] _ _] [] _ => (x == ("isinstance" : Str)) && ((y == ("tuple" : Str) && z == ("list" : Str)) || (y == ("list" : Str) && z == ("tuple" : Str))) && glB s.sc x && glB s.sc y && glB s.sc z && notStar a && mE T n s a i
          | _ => false)
        | .ty ty _ => (match e with
          | .Call (.Name x _) [a, .Name y _] [] _ => (x == ("isinstance" : Str)) && (y == ty) && glB s.sc x && glB s.sc y && notStar a && mE T n s a i
          | _ => false))
      | .sset => (match e with
        | .Call (.Name x _) [.Call (.Name y _) [a] [] _] [] _ => (x == ("sorted" : Str)) && (y == ("set" : Str)) && glB s.sc x && glB s.sc y && notStar a && mE T n s a i
        | _ => false)
      | .call nm rp => (match e with
        | .Call (.Name x _) [a] [] _ => (x == nm) && glB s.sc x && notStar a && (!rp || s.gd) && mE T n s a i
        | _ => false)
      | .no => false)
    | .o2 p i j => (match p2K p with
      | .bin op => (match e with
        | .BinOp a op' b _ => (op == op') && mE T n s a i && mE T n s b j
        | _ => false)
      | .cmp op => (match e with
        | .Compare a [op'] [b] _ => (op == op') && !behindInMarks op' b && mE T n s a i && mE T n s b j
        | _ => false)
      | .idx => (match e with
        | .Subscript a b _ => notSlice b && mE T n s a i && mE T n s b j
        | _ => false)
      | .no => false)
    | .index i j => (match e with
      | .Call (.Attribute o m apos) [b] [] pos => (m == ("index" : Str)) && baseB o && (apos.endLine == pos.line) && notStar b && mE T n s o i && mE T n s b j
      | _ => false)
    | .sl i l h => (match e with
      | .Subscript a (.Slice lo hi none _) _ => mE T n s a i && mO T n s lo l && mO T n s hi h
      | _ => false)
    | .chain p q i j k => (match e with
      | .Compare a [op, op'] [b, c] _ => p2Cmp p op && p2Cmp q op' && !lastMarks [op, op'] [b, c] && mE T n s a i && mE T n s b j && mE T n s c k
      | _ => false)
    | .andE i j => (match e with
      | .BoolOp .And [a, b] _ => mE T n s a i && mE T n s b j
      | .BoolOp .And (a :: b :: c :: es) pos => mE T n s a i && mE T n s (.BoolOp .And (b :: c :: es) pos) j
      | _ => false)
    | .orE i j => (match e with
      | .BoolOp .Or [a, b] _ => mE T n s a i && mE T n s b j
      | .BoolOp .Or (a :: b :: c :: es) pos => mE T n s a i && mE T n s (.BoolOp .Or (b :: c :: es) pos) j
      | _ => false)
    | .notE i => (match e with
      | .UnaryOp .Not a _ => mE T n s a i
      | _ => false)
    | .ite i j k => (match e with
      | .IfExp c a b _ => mE T n s c i && mE T n s a j && mE T n s b k
      | _ => false)
    | .lc own t it ts i => (match e with
      | .ListComp elt [⟨tg, iter, ifs, 0⟩] scope _ => blkB s.N s.sc scope own && mI T n s tg iter it && mG (s.blk scope) 50 tg t && mTs T n (s.blk scope) ifs ts && mE T n (s.blk scope) elt i && notSet iter && ((tgSlots t).all fun i => (own.map (·.2)).contains i) && (!s.ini || !(own.map (·.2)).contains 0)
      | _ => false)
    | .refused i => (match e with
      | .Call (.Name x _) [.Lambda ⟨[], [], none, [], [], none, []⟩ body scope _] [] _ => s.lam && (x == T.refN) && okN x && okN T.refA && glB s.sc x && lamB s.sc scope && mE T n (s.lm scope) body i
      | _ => false)
def mEs (T : Txt) : Nat → Stt → List Expr → List IE → Bool
  | 0, _, _, _ => false
  | n + 1, s, es, is => match is with
    | [] => es.isEmpty
    | i :: is => (match es with
      | e :: es => notStar e && mE T n s e i && mEs T n s es is
      | [] => false)
def mO (T : Txt) : Nat → Stt → Option Expr → Option IE → Bool
  | 0, _, _, _ => false
  | n + 1, s, e, i => match i with
    | none => e.isNone
    | some i => (match e with
      | some e => mE T n s e i
      | none => false)
def mTs (T : Txt) : Nat → Stt → List Expr → List IE → Bool
  | 0, _, _, _ => false
  | n + 1, s, es, is => match is with
    | [] => es.isEmpty
    | [i] => (match es with
      | [e] => mE T n s e i
      | _ => false)
    | _ => false
def mI (T : Txt) : Nat → Stt → Expr → Expr → IT → Bool
  | 0, _, _, _, _ => false
  | n + 1, s, tg, e, it => match it with
    | .rng is => (match e with
      | .Call (.Name x _) [a] [] _ => (x == ("range" : Str)) && glB s.sc x && notStar a && mEs T n s [a] is
      | .Call (.Name x _) [a, b] [] _ => (x == ("range" : Str)) && glB s.sc x && notStar a && notStar b && mEs T n s [a, b] is
      | .Call (.Name x _) [a, b, c] [] _ => (x == ("range" : Str)) && glB s.sc x && notStar a && notStar b && notStar c && mEs T n s [a, b, c] is
      | _ => false)
    | .enum is => (match tg with
      | .Tuple _ _ _ => (match e with
        | .Call (.Name x _) [a] [] _ => (x == ("enumerate" : Str)) && glB s.sc x && notStar a && mEs T n s [a] is
        | _ => false)
      | _ => false)
    | .zip is => (match tg with
      | .Tuple _ _ _ => (match e with
        | .Call (.Name x _) [a, b] [] _ => (x == ("zip" : Str)) && glB s.sc x && notStar a && notStar b && mEs T n s [a, b] is
        | .Call (.Name x _) [a, b, c] [] _ => (x == ("zip" : Str)) && glB s.sc x && notStar a && notStar b && notStar c && mEs T n s [a, b, c] is
        | _ => false)
      | _ => false)
    | .seq i => mE T n s e i
end
/-- an expression whose value is a new list or dict, as evN has it -/
def newB : IE → Bool
  | .lc _ _ _ _ _ => true
  | .lst _ => true
  | .dnew _ => true
  | .borrow _ (.lc _ _ _ _ _) => true
  | .borrow _ (.lst _) => true
  | .o1 .listOf _ => true
  | .o1 .sortedL _ => true
  | .o2 .add _ _ => true
  | .o2 .mul _ _ => true
  | .sl _ _ _ => true
  | _ => false
def newLc : IE → Bool
  | .lc _ _ _ _ _ => true
  | .borrow _ (.lc _ _ _ _ _) => true
  | _ => false
mutual
def mS (T : Txt) : Nat → Stt → Stmt → IS → Bool
  | 0, _, _, _ => false
  | n + 1, s, st, ist => match ist with
    | .par js is => (match st with
      | .Assign [.Tuple [.Name x p1, .Name y p2] k1 p3] (.Tuple [a, b] k2 p4) _ => (match js with
        | [i, j] => decide (swapT [.Name x p1, .Name y p2] [a, b] s.sc = some (some [x, y])) && locB s x i && locB s y j && decide (i ≠ j) && (s.sc.names.lookup x == some .local) && (s.sc.names.lookup y == some .local) && mEs T n s [a, b] is
        | _ => false)
      | .Assign [.Tuple [.Name x p1, .Name y p2, .Name z p5] k1 p3] (.Tuple [a, b, c] k2 p4) _ => (match js with
        | [i, j, l] => decide (swapT [.Name x p1, .Name y p2, .Name z p5] [a, b, c] s.sc = some (some [x, y, z])) && locB s x i && locB s y j && locB s z l && decide (i ≠ j ∧ i ≠ l ∧ j ≠ l) && (s.sc.names.lookup x == some .local) && (s.sc.names.lookup y == some .local) && (s.sc.names.lookup z == some .local) && mEs T n s [a, b, c] is
        | _ => false)
      | _ => false)
    | .asg tg i => (match st with
      | .Assign [t] v _ => mG s 50 t tg && mE T n s v i && decide (swapB [t] v s.sc = some none) && (!isComp v || newLc i)
      | _ => false)
    | .asgO j i => (match st with
      | .Assign [.Name x _] v _ => locB s x j && newB i && mE T n s v i && (!isComp v || newLc i)
      | _ => false)
    | .aug j p i => (match st with
      | .AugAssign (.Name x _) op v _ => locB s x j && augB op p && mE T n s v i
      | _ => false)
    | .setS j i i' => (match st with
      | .Assign [.Subscript (.Name x _) k _] v _ => varB s x j && notSlice k && mE T n s k i && mE T n s v i'
      | _ => false)
    | .augS j i p i' => (match st with
      | .AugAssign (.Subscript (.Name x _) k _) op v _ => varB s x j && notSlice k && augB op p && mE T n s k i && mE T n s v i'
      | _ => false)
    | .setF c j m i => (match st with
      | .Assign [.Attribute (.Name x _) f _] v _ => varB s x j && decide ((T.fld c)[m]? = some f) && mE T n s v i
      | _ => false)
    | .app j i => (match st with
      | .Expr (.Call (.Attribute (.Name x _) m p2) [v] [] p3) _ => (m == ("append" : Str)) && varB s x j && notStar v && (p2.endLine == p3.line) && mE T n s v i
      | _ => false)
    | .ext j i => (match st with
      | .Expr (.Call (.Attribute (.Name x _) m p2) [v] [] p3) _ => (m == ("extend" : Str)) && varB s x j && notStar v && (p2.endLine == p3.line) && mE T n s v i
      | _ => false)
    | .ex i => (match st with
      | .Expr e _ => !isComp e && mE T n s e i
      | _ => false)
    | .for_ t it b _ => (match st with
      | .For tg iter body [] _ => mI T n s tg iter it && mG s 50 tg t && mSs T n s body b && notSet iter
      | _ => false)
    | .while_ i b _ => (match st with
      | .While c body [] _ => mE T n s c i && mSs T n s body b
      | _ => false)
    | .if_ i ia ib => (match st with
      | .If c a b _ => mE T n s c i && mSs T n s a ia && mSs T n s b ib
      | _ => false)
    | .ret i => (match st with
      | .Return (some e) _ => mE T n s e i
      | _ => false)
    | .retN => (match st with
      | .Return none _ => true
      | _ => false)
    | .brk => (match st with
      | .Break _ => true
      | _ => false)
    | .cont => (match st with
      | .Continue _ => true
      | _ => false)
    | .pass => (match st with
      | .Pass _ => true
      | .Expr (.Constant (.str _) _ _) _ => true
      | _ => false)
    | .raise c i => (match st with
      | .Raise (some (.Call (.Name x _) [e] [] _)) none _ => T.exs.contains (x, c) && glB s.sc x && okN x && notStar e && mE T n s e i
      | _ => false)
    | _ => false
def mSs (T : Txt) : Nat → Stt → List Stmt → List IS → Bool
  | 0, _, _, _ => false
  | n + 1, s, sts, is => match is with
    | [] => sts.isEmpty
    | .freeze _ :: is => mSs T n s sts is
    | .kill _ :: is => mSs T n s sts is
    | i :: is => (match sts with
      | st :: sts => mS T n s st i && mSs T n s sts is
      | [] => false)
end
end SW

/-! SwMat2: what the matcher's small tests say. Own work. -/
namespace SW
open PySem PySem.Spec PyProof.Rows L2
theorem swapT_ok {env : PySem.Env} {es vs : List Expr} {k1 k2 : Nat} {p1 p2 : Pos} {r : Option (List Str)} (hk : env.scope.kind = .function) (h : swapT es vs env.scope = some r) : swappedStores [.Tuple es k1 p1] (.Tuple vs k2 p2) env = pure r := by
  have hb : env.blockKind = .function := by
    unfold PySem.Env.blockKind
    rw [hk]
    rfl
  have e1 : (fun (x : Expr) => match x with | .Starred .. => true | _ => false) = isStar := by
    funext x
    cases x <;> rfl
  have e2 : ∀ line : Nat, (fun (x : Expr) => match x with | .Name id pos => if env.kindOf id == some .local && pos.line == line then some id else none | _ => none) = nmOf env.scope line := by
    intro line
    funext x
    cases x <;> rfl
  unfold swapT at h
  unfold swappedStores
  change (if (!(es.length == 2 || es.length == 3) || vs.length != es.length || env.blockKind != .function) = true then pure none else _) = _
  by_cases c1 : (!(es.length == 2 || es.length == 3) || vs.length != es.length) = true
  · rw [if_pos c1] at h
    cases h
    rw [if_pos (by rw [c1]; rfl)]
  · rw [if_neg c1] at h
    rw [if_neg (by
      rw [hb]
      simp only [Bool.not_eq_true] at c1
      rw [c1]
      decide)]
    change (if (vs.any fun (x : Expr) => match x with | .Starred .. => true | _ => false) = true then pure none else _) = _
    rw [e1]
    by_cases c2 : vs.any isStar = true
    · rw [if_pos c2] at h ⊢
      cases h
      rfl
    · rw [if_neg c2] at h ⊢
      change (if ((es.filterMap (fun (x : Expr) => match x with | .Name id pos => if env.kindOf id == some .local && pos.line == ((es.head?.map (·.pos.line)).getD 0) then some id else none | _ => none)).length != es.length || (es.filterMap (fun (x : Expr) => match x with | .Name id pos => if env.kindOf id == some .local && pos.line == ((es.head?.map (·.pos.line)).getD 0) then some id else none | _ => none)).eraseDups.length != (es.filterMap (fun (x : Expr) => match x with | .Name id pos => if env.kindOf id == some .local && pos.line == ((es.head?.map (·.pos.line)).getD 0) then some id else none | _ => none)).length) = true then pure none else (if vs.all (foldedForSure 8) = true then pure none else _)) = _
      rw [e2]
      split at h
      · rename_i c3
        cases h
        rw [if_pos c3]
      · rename_i c3
        rw [if_neg c3]
        split at h
        · rename_i c4
          cases h
          rw [if_pos c4]
        · rename_i c4
          rw [if_neg c4]
          split at h
          · cases h
          · rename_i c5
            cases h
            rw [if_neg c5]
            rfl
theorem swap_ok {env : PySem.Env} {t v : Expr} {r : Option (List Str)} (hk : env.scope.kind = .function) (h : swapB [t] v env.scope = some r) : swappedStores [t] v env = pure r := by
  cases t with
  | Tuple es k1 p1 =>
    cases v with
    | Tuple vs k2 p2 => exact swapT_ok hk h
    | _ =>
      cases h
      rfl
  | List _ _ => cases h
  | _ =>
    cases h
    rfl
theorem backTo_plain (pos : Pos) (env : PySem.Env) : ∀ {es : List Expr}, (es.all notStar) = true → (backTo pos (starEach es env)).any (·.1) = false
  | [], _ => rfl
  | e :: es, h => by
    simp only [List.all_cons, Bool.and_eq_true] at h
    have ih := backTo_plain pos env h.2
    cases e <;> first | (cases h.1; done) | exact ih
theorem star_cons {env : PySem.Env} {e : Expr} {es : List Expr} (h : notStar e = true) : starEach (e :: es) env = (false, eval e env) :: starEach es env := by
  cases e <;> first | rfl | (cases h; done)
theorem plain_ix {b : Expr} (h : notSlice b = true) : PlainIx b := fun o i => by
  cases b <;> first | rfl | (cases h; done)
theorem base_ok {o : Expr} {m : Str} {env : PySem.Env} (h : baseB o = true) : attributeBase o m env (eval o env) = eval o env := by
  cases o <;> first | rfl | (cases h; done)
end SW

/-! SwMain: what the matcher matches runs as the evaluator says: expressions. Own work. -/
namespace SW
open PySem PySem.Spec PyProof.Rows L2
/-- the errors' own __init__(self, value): self.value = value -/
def spX (K : PySem.W.Frag) : Sp := fun vs H Q E => ∃ a v C H1, vs = [V.ref a, v] ∧ OexC K C ∧ PySem.W.findIn K (.ref C) (Str.ofString "value") = some none ∧ H1 a = none ∧ H = upd H1 a (exo a C none) ∧
  ∀ dx, H1 dx = none → dx ≠ a → Q .non (upd (upd H dx (exd dx [(Str.ofString "value", v)])) a (exo a C (some dx)))
/-- a def that may be called -/
structure FnFact (W : Wd) (P : Program) (w : World) (K : PySem.W.Frag) (mg : Str → Option Value) (base : Heap) (gd : Bool) (kf : Nat) (fa : Addr) (dv : List D) (run : List D → Row → R D) : Prop where
  ex : ∃ fd ps ds dvs np, FnX P w K mg base gd kf fa fd ps (spF W np run) ∧ Binds K fd ps ds ∧ Vals dvs ds ∧ DenAll W W.B dv dvs ∧ ∀ ds r, run ds r ≠ .bad → ds.length = np
/-- the text's facts, at one depth of calls -/
structure TxtOk (T : Txt) (W : Wd) (C : Ctx) (P : Program) (w : World) (K : PySem.W.Frag) (mg : Str → Option Value) (base : Heap) (kf km : Nat) : Prop where
  bl : ∀ x ∈ bltns, mg x = none
  fn : ∀ x f, (x, f) ∈ T.fns → mg x = some (.ref (W.fnA f)) ∧ PySem.W.keepIn K (.ref (W.fnA f)) = true ∧ ∀ n, T.ar f n = true → FnFact W P w K mg base (T.gdf f) kf (W.fnA f) (C.dv f n) (C.call f)
  has : ∀ f, C.has f = true → ∃ fd ps np, FnOk P w K mg base (CX P w) kf (W.fnA f) fd ps (spF W np (C.call f)) ∧ PySem.W.keepIn K (.ref (W.fnA f)) = true ∧ Binds K fd ps [] ∧ ∀ ds r, C.call f ds r ≠ .bad → ds.length = np
  mkc : ∀ x c, (x, c) ∈ T.cls → mg x = some (.ref (W.clA c)) ∧ c < W.nc
  mka : ∀ x c n, (x, c) ∈ T.cls → T.car c n = true → ∃ fa fd ps ds dvs np, Mk K (W.clA c) fa ∧ FnOk P w K mg base (CX P w) km fa fd ps (spI W np c (C.init c)) ∧ Binds K fd ps ds ∧ Vals dvs ds ∧ DenAll W W.B (C.idv c n) dvs ∧ ∀ ds r, C.init c ds r ≠ .bad → ds.length + 1 = np
  mt : ∀ c m f, (c, m, f) ∈ T.mts → c < W.nc ∧ m ∉ W.fld c ∧ Meth K (W.clA c) m (W.fnA f) ∧ ∀ n, T.ar f n = true → FnFact W P w K mg base false kf (W.fnA f) (C.dv f n) (C.call f)
  gl : ∀ i x, T.gls[i]? = some x → ∃ v u, mg x = some u ∧ RelV v u ∧ Den W W.B (C.gl i) v
  fld : W.fld = T.fld
  ex : ∀ x c, (x, c) ∈ T.exs → mg x = some (.ref (W.exA c)) ∧ OexC K (W.exA c) ∧ PySem.W.findIn K (.ref (W.exA c)) (Str.ofString "value") = some none ∧
    ∃ fI fd ps, PySem.W.findIn K (.ref (W.exA c)) (Str.ofString "__init__") = some (some (.ref fI)) ∧ PySem.W.typeIn K (.ref fI) = some (.type "function") ∧ FnOk P w K mg base (CX P w) 1 fI fd ps (spX K) ∧ Binds K fd ps []
  ref : ∃ ws, RefD W K mg ws T.refN T.refA ∧ C.word = wordOf ws
/-- a context of the text, as the matcher sees it -/
structure CtxOk (s : Stt) (W : Wd) (X : Cx) (E : XK) (P : Program) (w : World) (K : PySem.W.Frag) (mg : Str → Option Value) (base : Heap) (kf km k : Nat) : Prop where
  good : Good W X k
  ep : X.prog = P
  ew : X.w = w
  eK : X.K = K
  em : X.mg = mg
  eb : X.base = base
  N : X.N = s.N
  sc : X.env.scope = s.sc
  kind : X.env.scope.kind = .function
  fn : ∀ x, (s.isDef = true ∨ x ∈ s.cel) → X.fn x = true
  gd : s.gd = true → X.A.guards = some []
  pass : Passes (CX P w) X E
  rf : kf ≤ k
  rm : km + 1 ≤ k
  rx : 2 ≤ k
  lam : s.lam = true → TabF W X ∧ kf + 2 ≤ k ∧ km + 3 ≤ k ∧ 4 ≤ k
theorem and_t {a b : Bool} (h : (a && b) = true) : a = true ∧ b = true := by simpa using h
section
variable {T : Txt} {W : Wd} {C : Ctx} {P : Program} {w : World} {K : PySem.W.Frag} {mg : Str → Option Value} {base : Heap} {kf km k : Nat} {s : Stt} {X : Cx} {E : XK} {H0 : Hp} {G0 : Bs}
theorem okN_of {x : Str} (h : okN x = true) : (x == ("__debug__" : Str)) = false ∧ (x == ("__classdict__" : Str)) = false ∧ x ≠ "__name__" := by
  unfold okN at h
  obtain ⟨h, h3⟩ := and_t h
  obtain ⟨h1, h2⟩ := and_t h
  refine ⟨by simpa using h1, by simpa using h2, ?_⟩
  rintro rfl
  simp at h3
theorem var_of (c : CtxOk s W X E P w K mg base kf km k) {x : Str} {i : Nat} (h : varB s x i = true) : X.N[i]? = some x ∧ Vis X.env.scope x ∧ okN x = true := by
  unfold varB at h
  obtain ⟨h, h3⟩ := and_t h
  obtain ⟨h1, h2⟩ := and_t h
  refine ⟨by rw [c.N]; exact of_decide_eq_true h1, ?_, h3⟩
  unfold visB at h2
  rw [c.sc]
  split at h2
  · rename_i q
    exact .inl q
  · rename_i q
    exact .inr (.inl q)
  · rename_i q
    exact .inr (.inr q)
  · cases h2
theorem gl_of (c : CtxOk s W X E P w K mg base kf km k) {x : Str} (h : glB s.sc x = true) : Gl X x := by
  unfold glB at h
  show X.env.scope.names.lookup x = _
  rw [c.sc]
  split at h
  · assumption
  · cases h
theorem loc_of (c : CtxOk s W X E P w K mg base kf km k) (hi : s.ini = true ∨ G0.s = none) {x : Str} {i : Nat} (h : locB s x i = true) : X.N[i]? = some x ∧ okN x = true ∧ Loc X.env.scope x ∧ (X.fn x = true ∨ X.env.scope.names.lookup x = some .local) ∧ (G0.s = none ∨ i ≠ 0) := by
  unfold locB at h
  obtain ⟨h, h4⟩ := and_t h
  obtain ⟨h, h3⟩ := and_t h
  obtain ⟨h1, h2⟩ := and_t h
  have h0 : G0.s = none ∨ i ≠ 0 := by
    rcases hi with q | q
    · rw [q] at h4
      right
      simpa using h4
    · exact .inl q
  split at h3
  · rename_i q
    rw [← c.sc] at q
    exact ⟨by rw [c.N]; exact of_decide_eq_true h1, h2, .inl q, .inr q, h0⟩
  · rename_i q
    rw [← c.sc] at q
    refine ⟨by rw [c.N]; exact of_decide_eq_true h1, h2, .inr q, .inl (c.fn x ?_), h0⟩
    simp only [Bool.or_eq_true] at h3
    rcases h3 with z | z
    · exact .inl z
    · exact .inr (by simpa using z)
  · cases h3
theorem evs_len {C : Ctx} : ∀ {es : List IE} {env : Env} {r : Row} {ds : List D} {r1 : Row}, evs C es env r = .ok ds r1 → ds.length = es.length
  | [], env, r, ds, r1, h => by
    rw [evs] at h
    cases h
    rfl
  | e :: es, env, r, ds, r1, h => by
    rw [evs] at h
    cases e1 : ev C e env r with
    | ok d r2 =>
      rw [e1] at h
      cases e2 : evs C es env r2 with
      | ok ds' r3 =>
        have h : (evs C es env r2).bind (fun ds r3 => R.ok (d :: ds) r3) = .ok ds r1 := h
        rw [e2] at h
        cases h
        rw [List.length_cons, List.length_cons, evs_len e2]
      | exn c d' r3 =>
        have h : (evs C es env r2).bind (fun ds r3 => R.ok (d :: ds) r3) = .ok ds r1 := h
        rw [e2] at h
        cases h
      | bad =>
        have h : (evs C es env r2).bind (fun ds r3 => R.ok (d :: ds) r3) = .ok ds r1 := h
        rw [e2] at h
        cases h
    | exn c d r2 =>
      rw [e1] at h
      cases h
    | bad =>
      rw [e1] at h
      cases h
/-! ### what an expression must do -/
/-- as a value, as a test -/
structure EOk (W : Wd) (X : Cx) (H0 : Hp) (G0 : Bs) (E : XK) (C : Ctx) (e : Expr) (ie : IE) : Prop where
  v : PE X e (tF W H0 G0 E (ev C ie))
  t : PT X e (tT W H0 G0 E (tru (ev C ie)))
/-- by its value alone: an expression whose test is its value's truth -/
def plainT : Expr → Bool
  | .UnaryOp .Not _ _ => false
  | .BoolOp _ _ _ => false
  | .IfExp _ _ _ _ => false
  | .Compare _ _ _ _ => false
  | _ => true
theorem EOk.of {e : Expr} {ie : IE} (hp : plainT e = true) (h : PE X e (tF W H0 G0 E (ev C ie))) : EOk W X H0 G0 E C e ie := ⟨h, dt_truth h fun whole => by
  cases e <;> first | rfl | (cases hp; done) | skip
  rename_i op a p
  cases op <;> first | rfl | (cases hp; done)⟩
end
end SW

/-! SwMain2: the evaluator's rows, by forms; single forms. Own work. -/
namespace SW
open PySem PySem.Spec PyProof.Rows L2
section
variable (C : Ctx)
theorem ev_var (i : Nat) : ev C (.var i) = fun env r => liftO (env.getD i .no).get r := by
  funext env r
  rw [ev]
theorem ev_cst (d : D) : ev C (.cst d) = fun _ r => .ok d r := by
  funext env r
  rw [ev]
theorem ev_glb (i : Nat) : ev C (.glb i) = fun _ r => .ok (C.gl i) r := by
  funext env r
  rw [ev]
theorem ev_tup (es : List IE) : ev C (.tup es) = fun env r => (evs C es env r).bind fun ds r1 => .ok (.tup ds) r1 := by
  funext env r
  rw [ev]
theorem ev_lst (es : List IE) : ev C (.lst es) = fun env r => (evs C es env r).bind fun ds r1 => .ok (.lst ds) r1 := by
  funext env r
  rw [ev]
theorem ev_dnew (t : Bool) : ev C (.dnew t) = fun _ r => .ok (.dic t []) r := by
  funext env r
  rw [ev]
theorem ev_call (f : Nat) (es : List IE) : ev C (.call f es) = callF (C.call f) (C.dv f es.length) (evs C es) := by
  funext env r
  rw [ev]
theorem ev_callv (i : Nat) (es : List IE) : ev C (.callv i es) = callvF i C.has C.call (evs C es) := by
  funext env r
  rw [ev]
  all_goals rfl
theorem ev_mk (c : Nat) (es : List IE) : ev C (.mk c es) = callF (C.init c) (C.idv c es.length) (evs C es) := by
  funext env r
  rw [ev]
theorem ev_meth (c m : Nat) (o : IE) (es : List IE) : ev C (.meth c m o es) = methF c (C.call m) (C.dv m (es.length + 1)) (ev C o) (evs C es) := by
  funext env r
  rw [ev]
theorem ev_fld (c f : Nat) (o : IE) : ev C (.fld c o f) = fldF c f (ev C o) := by
  funext env r
  rw [ev]
theorem ev_o1 (p : P1) (a : IE) : ev C (.o1 p a) = fun env r => (ev C a env r).bind fun d r1 => liftO (p1 p d) r1 := by
  funext env r
  rw [ev]
theorem ev_o2 (p : P2) (a b : IE) : ev C (.o2 p a b) = fun env r => (ev C a env r).bind fun d r1 => (ev C b env r1).bind fun e r2 => liftO (p2 p d e) r2 := by
  funext env r
  rw [ev]
theorem ev_index (a b : IE) : ev C (.index a b) = fun env r => (ev C a env r).bind fun d r1 => if d.isLst = true then (ev C b env r1).bind fun e r2 => liftO (p2 .index d e) r2 else .bad := by
  funext env r
  rw [ev]
theorem ev_sl (a : IE) (lo hi : Option IE) : ev C (.sl a lo hi) = sliceF (ev C a) (evO C lo) (evO C hi) := by
  funext env r
  rw [ev]
theorem ev_chain (p q : P2) (a b c : IE) : ev C (.chain p q a b c) = chainF p q (ev C a) (ev C b) (ev C c) := by
  funext env r
  rw [ev]
  all_goals rfl
theorem ev_and (a b : IE) : ev C (.andE a b) = andF (ev C a) (ev C b) := by
  funext env r
  rw [ev]
  all_goals rfl
theorem ev_or (a b : IE) : ev C (.orE a b) = orF (ev C a) (ev C b) := by
  funext env r
  rw [ev]
  all_goals rfl
theorem ev_not (a : IE) : ev C (.notE a) = notF (ev C a) := by
  funext env r
  rw [ev]
  all_goals rfl
theorem ev_ite (a b c : IE) : ev C (.ite a b c) = iteF (ev C a) (ev C b) (ev C c) := by
  funext env r
  rw [ev]
  all_goals rfl
theorem ev_lc (own : List (Str × Nat)) (tg : Tg) (it : IT) (ts : List IE) (e : IE) : ev C (.lc own tg it ts e) = lcF (own.map (·.2)) tg (evI C it) (tsts C ts) (ev C e) := by
  funext env r
  rw [ev]
  all_goals rfl
theorem ev_refused (e : IE) : ev C (.refused e) = refF C.word (ev C e) := by
  funext env r
  rw [ev]
  all_goals rfl
theorem ev_borrow (is : List Nat) (e : IE) : ev C (.borrow is e) = borrowF e.isNew is (ev C e) := by
  funext env r
  rw [ev]
theorem evs_nil : evs C [] = fun _ r => .ok [] r := by
  funext env r
  rw [evs]
theorem evs_cons (e : IE) (es : List IE) : evs C (e :: es) = fun env r => (ev C e env r).bind fun d r1 => (evs C es env r1).bind fun ds r2 => .ok (d :: ds) r2 := by
  funext env r
  rw [evs]
theorem evO_none : evO C none = fun _ r => .ok none r := by
  funext env r
  rw [evO]
theorem evO_some (e : IE) : evO C (some e) = partF (ev C e) := by
  funext env r
  rw [evO]
  all_goals rfl
theorem evI_seq (e : IE) : evI C (.seq e) = seqF (ev C e) := by
  funext env r
  rw [evI]
theorem evI_rng (es : List IE) : evI C (.rng es) = overF rgO (evs C es) := by
  funext env r
  rw [evI]
theorem evI_enum (es : List IE) : evI C (.enum es) = overF enO (evs C es) := by
  funext env r
  rw [evI]
theorem evI_zip (es : List IE) : evI C (.zip es) = overF zpO (evs C es) := by
  funext env r
  rw [evI]
theorem tsts_nil : tsts C [] = fun _ r => .ok true r := by
  funext env r
  rw [tsts]
end
/-! ### single forms -/
section
variable {T : Txt} {W : Wd} {C : Ctx} {P : Program} {w : World} {K : PySem.W.Frag} {mg : Str → Option Value} {base : Heap} {kf km k : Nat} {s : Stt} {X : Cx} {E : XK} {H0 : Hp} {G0 : Bs}
theorem cst_ok {c : Const} {d : D} {j : Nat} {pos : Pos} (h : cstB c d = true) : PE X (.Constant c j pos) (tF W H0 G0 E (ev C (.cst d))) := by
  rw [ev_cst]
  cases c <;> cases d <;> first | (cases h; done) | skip
  · exact de_cst pe_non fun G => .non
  · rename_i a b
    have e : a = b := by simpa [cstB] using h
    subst e
    exact de_cst pe_bl fun G => .bl _
  · rename_i a b
    have e : a = b := by simpa [cstB] using h
    subst e
    exact de_cst pe_int fun G => .int _
  · rename_i a b
    have e : a = b := by simpa [cstB] using h
    subst e
    exact de_cst pe_str fun G => .str _
theorem opr_bin (g : Good W X k) {p : P2} {op : Operator} (h : p2K p = .bin op) : OpR X (binaryOp op) (rP2 W (p2 p)) := by
  cases p <;> first | (cases h; done) | skip
  all_goals cases h
  · exact o_add
  · exact o_sub
  · exact o_mul
  · exact o_fdiv
  · exact o_mod
  · exact o_pow
theorem opr_cmp (g : Good W X k) {p : P2} {op : CmpOp} (h : p2K p = .cmp op) : OpR X (compareOp op) (rP2 W (p2 p)) ∧ boolish p := by
  cases p <;> first | (cases h; done) | skip
  all_goals cases h
  · exact ⟨o_eq g, bl_eq⟩
  · exact ⟨o_ne g, bl_ne⟩
  · exact ⟨o_lt g, bl_lt⟩
  · exact ⟨o_le g, bl_le⟩
  · exact ⟨o_gt g, bl_gt⟩
  · exact ⟨o_ge g, bl_ge⟩
  · exact ⟨o_isIn g, bl_in⟩
  · exact ⟨o_notIn g, bl_notIn⟩
  · exact ⟨o_isB, bl_isB⟩
  · exact ⟨o_isNotB, bl_isNotB⟩
theorem p2Cmp_of {p : P2} {op : CmpOp} (h : p2Cmp p op = true) : p2K p = .cmp op := by
  unfold p2Cmp at h
  split at h
  · rename_i o e
    rw [e]
    have : o = op := by simpa using h
    rw [this]
  · cases h
theorem bl_mem (Tok : TxtOk T W C P w K mg base kf km) (c : CtxOk s W X E P w K mg base kf km k) {x : Str} (h : x ∈ bltns) : X.mg x = none := by
  rw [c.em]
  exact Tok.bl x h
/-- a built-in call of one argument -/
theorem blt_ok (Tok : TxtOk T W C P w K mg base kf km) (c : CtxOk s W X E P w K mg base kf km k) {p : P1} {nm : Str} {rp : Bool} {x : Str} {a : Expr} {i : IE} {p1' p2' : Pos} (hk : p1K p = .call nm rp) (hx : x = nm) (hg : Gl X x) (hs : notStar a = true) (hrp : rp = true → X.A.guards = some []) (ha : PE X a (tF W H0 G0 E (ev C i))) :
    PE X (.Call (.Name x p1') [a] [] p2') (tF W H0 G0 E (ev C (.o1 p i))) := by
  rw [ev_o1]
  have st : starEach [a] X.env = (false, eval a X.env) :: starEach [] X.env := star_cons hs
  have g := c.good
  cases p <;> first | (cases hk; done) | skip
  all_goals cases hk
  all_goals subst hx
  · exact de_call1 (es := []) (fs := fun _ r => .ok [] r) b_len hg (bl_mem Tok c (by decide)) boot_len ha (by decide) (by decide) st rfl
  · exact de_callT b_int hg (bl_mem Tok c (by decide)) boot_int ha (by decide) (by decide) st rfl
  · exact de_call1 (es := []) (fs := fun _ r => .ok [] r) (b_all g) hg (bl_mem Tok c (by decide)) (by first | exact boot_all | rfl) ha (by decide) (by decide) st rfl
  · exact de_call1 (es := []) (fs := fun _ r => .ok [] r) (b_any g) hg (bl_mem Tok c (by decide)) (by first | exact boot_any | rfl) ha (by decide) (by decide) st rfl
  · exact de_callT b_tuple hg (bl_mem Tok c (by decide)) (by first | exact boot_tuple | rfl) ha (by decide) (by decide) st rfl
  · exact de_callT (rP1_of b_list) hg (bl_mem Tok c (by decide)) (by first | exact boot_list | rfl) ha (by decide) (by decide) st rfl
  · exact de_call1 (es := []) (fs := fun _ r => .ok [] r) (rP1_of (b_sorted g)) hg (bl_mem Tok c (by decide)) (by first | exact boot_sorted | rfl) ha (by decide) (by decide) st rfl
  · exact de_call1 (es := []) (fs := fun _ r => .ok [] r) (b_repr g (hrp rfl)) hg (bl_mem Tok c (by decide)) (by first | exact boot_repr | rfl) ha (by decide) (by decide) st rfl
  · exact de_call1 (es := []) (fs := fun _ r => .ok [] r) (b_sum g) hg (bl_mem Tok c (by decide)) (by first | exact boot_sum | rfl) ha (by decide) (by decide) st rfl
end
end SW

/-! SwMain3: isinstance, list.index; contexts of blocks and lambdas. Own work. -/
namespace SW
open PySem PySem.Spec PyProof.Rows L2
section
variable {T : Txt} {W : Wd} {C : Ctx} {P : Program} {w : World} {K : PySem.W.Frag} {mg : Str → Option Value} {base : Heap} {kf km k : Nat} {s : Stt} {X : Cx} {E : XK} {H0 : Hp} {G0 : Bs} {f f1 f2 : Env → Row → R D} {a b o : Expr} {i j : IE} {p1' p2' p3' p4' p5' pos apos : Pos}
theorem tF_wrap {W : Wd} {H0 : Hp} {G0 : Bs} {G H : Hp} {E : XK} {σ : L2.St} {env : Env} {ρ : Row} {p : P1} {Q : VK} {Q' : VK} (R : Rel W H0 G0 G H σ env ρ) (h : Out W G H E ((f env ρ).bind fun d r1 => liftO (p1 p d) r1) Q)
    (hk : ∀ v G1 H1 d z ρ1, Rel W H0 G0 G1 H1 σ env ρ1 → Den W G1 d v → p1 p d = some z → (∀ u G' H', Ext W G1 H1 G' H' → Kept H1 H' → Den W G' z u → Q u H') → Q' v H1) : tF W H0 G0 E f σ H Q' :=
  tF_bind R (out_A h) fun d ρ1 v G1 H1 x dv R1 h1 => by
    obtain ⟨z, hz, h4⟩ := lift_end h1
    exact hk v G1 H1 d z ρ1 R1 dv hz fun u G' H' ex kp du => h4 G' H' ex (R1.row.ext kp) u du
theorem isi_ok (Tok : TxtOk T W C P w K mg base kf km) (c : CtxOk s W X E P w K mg base kf km k) {q : Isk} {ty : String} (hT : q.ty = some ty) {y : Str} (hv : bootBuiltins y = some (.type ty)) (hy : y ∈ bltns) (hg : Gl X ("isinstance" : Str)) (hg2 : Gl X y) (hs : notStar a = true) (hn : y ≠ "__name__") (hd : (y == ("__debug__" : Str)) = false) (ha : PE X a (tF W H0 G0 E f)) :
    PE X (.Call (.Name ("isinstance" : Str) p1') [a, .Name y p2'] [] pos) (tF W H0 G0 E fun env r => (f env r).bind fun d r1 => liftO (p1 (.isI q) d) r1) := by
  have st : starEach [a, .Name y p2'] X.env = (false, eval a X.env) :: starEach [.Name y p2'] X.env := star_cons hs
  refine PE.imp (pe_callB (c_isi c.good hT) hg (bl_mem Tok c (by decide)) (by first | exact boot_isinstance | rfl) (pa_cons ha (pa_cons (pe_bltn (v := .ty ty) hg2 (bl_mem Tok c hy) hv rfl hn hd) pa_nil (by rfl)) st) (by decide) (by decide) st (by rfl)) fun σ H Q ⟨G, env, ρ, R, h⟩ => ?_
  exact tF_wrap R h fun v G1 H1 d z ρ1 R1 dv hz kk => ⟨v, rfl, v, G1, d, z, rfl, R1.sub, dv, hz, kk⟩
theorem isiC_ok (Tok : TxtOk T W C P w K mg base kf km) (c : CtxOk s W X E P w K mg base kf km k) {cn : Nat} {y : Str} (hc : (y, cn) ∈ T.cls) (hg : Gl X ("isinstance" : Str)) (hg2 : Gl X y) (hs : notStar a = true) (hd : (y == ("__debug__" : Str)) = false) (ha : PE X a (tF W H0 G0 E f)) :
    PE X (.Call (.Name ("isinstance" : Str) p1') [a, .Name y p2'] [] pos) (tF W H0 G0 E fun env r => (f env r).bind fun d r1 => liftO (p1 (.isI (.cls cn)) d) r1) := by
  have st : starEach [a, .Name y p2'] X.env = (false, eval a X.env) :: starEach [.Name y p2'] X.env := star_cons hs
  obtain ⟨hm, lc⟩ := Tok.mkc y cn hc
  refine PE.imp (pe_callB (c_isiC c.good lc) hg (bl_mem Tok c (by decide)) (by first | exact boot_isinstance | rfl) (pa_cons ha (pa_cons (pe_glob (v := .ref (W.clA cn)) hg2 (by rw [c.em]; exact hm) rfl hd) pa_nil (by rfl)) st) (by decide) (by decide) st (by rfl)) fun σ H Q ⟨G, env, ρ, R, h⟩ => ?_
  exact tF_wrap R h fun v G1 H1 d z ρ1 R1 dv hz kk => ⟨v, rfl, v, G1, d, z, rfl, R1.sub, dv, hz, kk⟩
theorem isiT_ok (Tok : TxtOk T W C P w K mg base kf km) (c : CtxOk s W X E P w K mg base kf km k) {y z : Str} {T1 T2 : String} {kk : Nat} (hT : (T1 = "tuple" ∧ T2 = "list") ∨ (T1 = "list" ∧ T2 = "tuple")) (hy : bootBuiltins y = some (.type T1)) (hz : bootBuiltins z = some (.type T2)) (my : y ∈ bltns) (mz : z ∈ bltns) (hg : Gl X ("isinstance" : Str)) (hg2 : Gl X y) (hg3 : Gl X z) (hs : notStar a = true)
    (hn : y ≠ "__name__") (hd : (y == ("__debug__" : Str)) = false) (hn3 : z ≠ "__name__") (hd3 : (z == ("__debug__" : Str)) = false) (ha : PE X a (tF W H0 G0 E f)) :
    PE X (.Call (.Name ("isinstance" : Str) p1') [a, .Tuple [.Name y p2', .Name z p3'] kk p4'] [] pos) (tF W H0 G0 E fun env r => (f env r).bind fun d r1 => liftO (p1 (.isI .rowT) d) r1) := by
  have st : starEach [a, .Tuple [.Name y p2', .Name z p3'] kk p4'] X.env = (false, eval a X.env) :: starEach [.Tuple [.Name y p2', .Name z p3'] kk p4'] X.env := star_cons hs
  refine PE.imp (pe_callB (c_isiT c.good hT) hg (bl_mem Tok c (by decide)) (by first | exact boot_isinstance | rfl) (pa_cons ha (pa_cons (pe_tup (pa_cons (pe_bltn (v := .ty T1) hg2 (bl_mem Tok c my) hy rfl hn hd) (pa_cons (pe_bltn (v := .ty T2) hg3 (bl_mem Tok c mz) hz rfl hn3 hd3) pa_nil (by rfl)) (by rfl))) pa_nil (by rfl)) st) (by decide) (by decide) st (by rfl)) fun σ H Q ⟨G, env, ρ, R, h⟩ => ?_
  refine tF_wrap R h fun v G1 H1 d z ρ1 R1 dv hz kk => ⟨by rw [sizeLine_eq]; simp, fun q hq => ?_⟩
  have ex := Ext.scratch (W := W) (o := .tup [.ty T1, .ty T2]) R1.sub hq
  exact ⟨v, q, rfl, upd_same, v, G1, d, z, rfl, ex.sub, dv, hz, fun u G' H' ex2 kp du => kk u G' H' (ex.trans ex2) (fun a o h => kp a o (kept_upd hq a o h)) du⟩
/-! ### list.index -/
theorem findIdx_first {xs : List D} {a : D} (h : (xs.any fun z => z.eqv a) = true) : ∃ z, xs[xs.findIdx fun z => z.eqv a]? = some z ∧ z.eqv a = true ∧ ∀ m z', m < (xs.findIdx fun z => z.eqv a) → xs[m]? = some z' → z'.eqv a = false := by
  have lt : xs.findIdx (fun z => z.eqv a) < xs.length := List.findIdx_lt_length_of_exists (by simpa using h)
  refine ⟨xs[xs.findIdx fun z => z.eqv a], List.getElem?_eq_getElem lt, List.findIdx_getElem (w := lt), fun m z' hm hz => ?_⟩
  have hm' : m < xs.length := Nat.lt_trans hm lt
  rw [List.getElem?_eq_getElem hm'] at hz
  cases hz
  have q := List.not_of_lt_findIdx hm
  simpa using q
theorem pyAll_get : ∀ {xs : List D} {m : Nat}, (pyAll xs)[m]? = (xs[m]?).map D.py
  | [], m => by simp [pyAll]
  | x :: xs, 0 => by simp [pyAll]
  | x :: xs, m + 1 => by simpa [pyAll] using pyAll_get (xs := xs) (m := m)
theorem canLay_py : ∀ (n : Nat) (d : D), d.plainN n = true → d.smallN n = true → d.py.canLay0 = true := by
  intro n
  induction n with
  | zero =>
    intro d h z
    cases d with
    | str x =>
      show PyData.strOk x = true
      unfold PyData.strOk
      rw [← Array.all_toList]
      simpa [D.smallN] using z
    | _ => first | rfl | (simp [D.plainN] at h; done)
  | succ n ih =>
    have all : ∀ xs : List D, (∀ x ∈ xs, x.plainN n = true) → (∀ x ∈ xs, x.smallN n = true) → PyData.canLayAll0 (pyAll xs) = true := by
      intro xs
      induction xs with
      | nil =>
        intro _ _
        simp [pyAll, PyData.canLayAll0]
      | cons x xs ihx =>
        intro h z
        simp only [pyAll, PyData.canLayAll0, Bool.and_eq_true]
        exact ⟨ih x (h x (by simp)) (z x (by simp)), ihx (fun y hy => h y (by simp [hy])) fun y hy => z y (by simp [hy])⟩
    intro d h z
    cases d with
    | tup xs => exact all xs (plainN_all (by simpa [D.plainN] using h)) (by simpa [D.smallN] using z)
    | lst xs => exact all xs (plainN_all (by simpa [D.plainN] using h)) (by simpa [D.smallN] using z)
    | str x =>
      show PyData.strOk x = true
      unfold PyData.strOk
      rw [← Array.all_toList]
      simpa [D.smallN] using z
    | _ => first | rfl | (simp [D.plainN] at h; done)
theorem shaped_py {d : D} (h : d.plainN 8 = true) (z : d.smallN 8 = true) : SeqAt.shaped d.py = true := by
  unfold SeqAt.shaped
  rw [canLay_py 8 d h z]
  have := depth_py 8 d h
  simp
  omega
theorem m_index (g : Good W X k) : MtR X "list.index" fun x xs H Q => ∃ y, xs = [y] ∧ rP2 W (p2 .index) x y H Q := fun pins s σ H x xs v us Q I rx rxs ⟨y, e, G, d, e2, z, sb, dx, dy, hz, kk⟩ => by
  subst e
  cases d <;> simp only [p2] at hz <;> try (cases hz; done)
  rename_i ds
  obtain ⟨c, rfl⟩ := ite_some hz
  simp only [Bool.and_eq_true] at c
  obtain ⟨⟨⟨c1, c2⟩, c4, c5⟩, c3⟩ := c
  obtain ⟨z0, hz0, he0, hno⟩ := findIdx_first c3
  obtain ⟨l, vs, rfl, hl, aa⟩ := dx.ilst
  have pl : ∀ x ∈ ds, x.plainN 7 = true := plainN_all (show (ds.all (D.plainN 7)) = true from c2)
  have pd : (D.lst ds).plainN 8 = true := by simpa [D.plainN, plainAll] using c2
  have d1 := Den.dp (K := X.K) g.K sb 8 (.lst ds) _ pd (.lst hl aa)
  have d2 := Den.dp (K := X.K) g.K sb 8 e2 y c1 dy
  have hr := g.room.un
  have hc : cLine = 9900 := rfl
  refine mt_indexD (by omega) pins s σ H _ [y] v us Q I rx rxs ⟨l, y, e2.py, pyAll ds, ds.findIdx fun z => z.eqv e2, z0.py, rfl, rfl, d1, d2, ?_, ?_, ?_, ?_, ?_, ?_⟩
  · exact shaped_py pd c5
  · exact shaped_py c1 c4
  · rw [pyAll_get, hz0]
    rfl
  · rw [eqv_py 7 8 z0 e2 (pl z0 (List.mem_of_getElem? hz0)) c1]
    exact he0
  · intro m z' hm hz'
    rw [pyAll_get] at hz'
    cases q : ds[m]? with
    | none =>
      rw [q] at hz'
      cases hz'
    | some u =>
      rw [q] at hz'
      cases hz'
      rw [eqv_py 7 8 u e2 (pl u (List.mem_of_getElem? q)) c1]
      exact hno m u hm q
  · exact stay sb kk (.int _)
theorem index_ok (g : Good W X k) (ho : PE X o (tF W H0 G0 E f1)) (hb : PE X b (tF W H0 G0 E f2)) (h1 : baseB o = true) (hl : (apos.endLine == pos.line) = true) (hs : notStar b = true) :
    PE X (.Call (.Attribute o ("index" : Str) apos) [b] [] pos) (tF W H0 G0 E fun env r => (f1 env r).bind fun d r1 => if d.isLst = true then (f2 env r1).bind fun e r2 => liftO (p2 .index d e) r2 else .bad) := by
  have st : starEach [b] X.env = (false, eval b X.env) :: starEach [] X.env := star_cons hs
  refine PE.imp (pe_bm PySem.F.plainAttrs_list PySem.F.slot_list_index PySem.F.type_list_index (m_index g) ho (pa_cons hb pa_nil st) (base_ok h1) (by rw [st]; rfl) hl st rfl) fun σ H Q ⟨G, env, ρ, R, h⟩ => tF_bind R (out_A h) fun d ρ1 v G1 H1 x dv R1 h1 => ?_
  cases d with
  | lst xs =>
    obtain ⟨a, vs, rfl, ha, aa⟩ := dv.ilst
    refine ⟨.inl ⟨rfl, vs, SqL.of (R1.sub _ _ ha)⟩, tF_bind R1 h1 fun e ρ2 u G2 H2 x2 du R2 h2 => ?_⟩
    obtain ⟨z, hz, h3⟩ := lift_end h2
    exact ⟨u, rfl, G2, .lst xs, e, z, R2.sub, dv.mono x2.mono, du, hz, fun w G' H' ex kp dw => h3 G' H' ex (R2.row.ext kp) w dw⟩
  | _ => exact h1.elim
end
end SW

/-! SwMain4: contexts within contexts; targets; the induction over expressions. Own work. -/
namespace SW
open PySem PySem.Spec PyProof.Rows L2
/-! ### blocks, lambdas -/
theorem blk_ok {N : List Str} {sc scope : Scope} {own : List (Str × Nat)} (h : blkB N sc scope own = true) : BlkOk N sc scope own := by
  unfold blkB at h
  obtain ⟨h, h4⟩ := and_t h
  obtain ⟨h, h3⟩ := and_t h
  obtain ⟨h1, h2⟩ := and_t h
  rw [List.all_eq_true] at h2 h3 h4
  refine ⟨?_, fun y hy => of_decide_eq_true (h2 y hy), fun p hp => of_decide_eq_true (h3 p hp), fun y hy e => ?_, fun y hy e => ?_⟩
  · split at h1
    · assumption
    · cases h1
  · have q := h4 y hy
    rw [e] at q
    dsimp only at q
    split at q
    · rename_i z
      exact .inl z
    · rename_i z
      exact .inr z
    · cases q
  · have q := h4 y hy
    have q : ((own.map (·.1)).contains y.1 || !N.contains y.1) = true := by
      rcases e with e | e
      · rw [e] at q
        exact q
      · rw [e] at q
        exact q
    simp only [Bool.or_eq_true] at q
    rcases q with z | z
    · exact .inl (by simpa using z)
    · exact .inr (by simpa using z)
theorem lam_ok {sc scope : Scope} (h : lamB sc scope = true) : LamX.LamS sc scope := by
  unfold lamB at h
  obtain ⟨h, h4⟩ := and_t h
  obtain ⟨h, h3⟩ := and_t h
  obtain ⟨h1, h2⟩ := and_t h
  rw [List.all_eq_true] at h4
  refine ⟨?_, by simpa using h2, by simpa using h3, fun y hy => ?_, fun y hy e => ?_⟩
  · split at h1
    · assumption
    · cases h1
  · have q := h4 y hy
    constructor
    · intro e
      rw [e] at q
      cases q
    · intro e
      rw [e] at q
      cases q
  · have q := h4 y hy
    rw [e] at q
    dsimp only at q
    split at q
    · rename_i z
      exact .inl z
    · rename_i z
      exact .inr z
    · cases q
section
variable {T : Txt} {W : Wd} {C : Ctx} {P : Program} {w : World} {K : PySem.W.Frag} {mg : Str → Option Value} {base : Heap} {kf km k : Nat} {s : Stt} {X : Cx} {E : XK} {H0 : Hp} {G0 : Bs}
theorem ctx_blk (c : CtxOk s W X E P w K mg base kf km k) {scope : Scope} {own : List (Str × Nat)} (hb : blkB s.N s.sc scope own = true) (s0 : Shared) (H : Hp) (A : Addr) (cl : List (Str × Addr)) (fp : List Addr) : CtxOk (s.blk scope) W (X.blk s0 H scope (compEnvC scope cl A X.env) fp) EF P w K mg base kf km k where
  good := ⟨c.good.fx, c.good.K, c.good.calm, c.good.nd, c.good.room⟩
  ep := c.ep
  ew := c.ew
  eK := c.eK
  em := c.em
  eb := c.eb
  N := c.N
  sc := by
    show relabel scope X.env = _
    unfold relabel Stt.blk
    rw [← c.sc]
    rfl
  kind := by
    have q := (blk_ok hb).kind
    exact q
  fn := fun x h => by
    rcases h with h | h
    · cases h
    · unfold Stt.blk celOf at h
      obtain ⟨y, hy, rfl⟩ := List.mem_map.mp h
      rw [List.mem_filter] at hy
      show (scope.names.lookup y.1 == some .cell) = true
      rw [(blk_ok hb).uniq y hy.1]
      have q := hy.2
      split at q
      · rename_i z
        rw [z]
        rfl
      · cases q
  gd := c.gd
  pass := fun pins σ H s e s' I h => by
    obtain ⟨_, _, _, _, _, _, _, _, _, _, _, _, z⟩ := h
    exact z.elim
  rf := c.rf
  rm := c.rm
  rx := c.rx
  lam := fun h => by
    obtain ⟨t, r1, r2, r3⟩ := c.lam h
    refine ⟨?_, r1, r2, r3⟩
    obtain ⟨cc, PP, a, b, d, e⟩ := t.ex
    exact ⟨cc, PP, a, b, d, e⟩
theorem ctx_lam (c : CtxOk s W X E P w K mg base kf km k) {scope : Scope} (hl : lamB s.sc scope = true) (A : Around) (outer : List PySem.Env) (s0 : Shared) (H : Hp) (E' : XK) (fa c' : Addr) {k' : Nat} (h1 : kf ≤ k') (h2 : km + 1 ≤ k') (h3 : 2 ≤ k') (hr : Room k' (A.deeper (LamX.lamEnv X scope s0.heap.objs.size fa c'))) :
    CtxOk (s.lm scope) W (LamX.lamCx X A outer s0 H E' scope fa c') E' P w K mg base kf km k' where
  good := ⟨c.good.fx, c.good.K, rfl, c.good.nd, hr⟩
  ep := c.ep
  ew := c.ew
  eK := c.eK
  em := c.em
  eb := c.eb
  N := c.N
  sc := rfl
  kind := (lam_ok hl).kind
  fn := fun x h => by
    rcases h with h | h
    · cases h
    · cases h
  gd := fun h => by cases h
  pass := by
    rw [← c.ep, ← c.ew]
    exact passes_call (X := LamX.lamCx X A outer s0 H E' scope fa c') (takes_of rfl rfl rfl rfl) (fun _ _ _ _ z => z)
  rf := h1
  rm := h2
  rx := h3
  lam := fun h => by cases h
/-! ### targets -/
theorem tg_ok (c : CtxOk s W X E P w K mg base kf km k) (hi : s.ini = true ∨ G0.s = none) : ∀ n, (∀ e t, mG s n e t = true → PG X e (tG W H0 G0 t)) ∧ ∀ es ts, mGs s n es ts = true → PGs X es (tGs W H0 G0 ts) ∧ (assignEach es X.env).length = ts.length ∧ (assignEach es X.env).findIdx? (·.1) = none
  | 0 => ⟨fun e t h => by simp [mG] at h, fun es ts h => by simp [mGs] at h⟩
  | n + 1 => by
    obtain ⟨i1, i2⟩ := tg_ok c hi n
    refine ⟨fun e t h => ?_, fun es ts h => ?_⟩
    · cases e with
      | Name x p =>
        cases t with
        | nm i =>
          obtain ⟨h1, _, h2, h3, h4⟩ := loc_of c hi (by simpa [mG] using h)
          exact dg_name c.good.nd h1 h2 h3 h4
        | tp ts => simp [mG] at h
      | Tuple es k p =>
        cases t with
        | nm i => simp [mG] at h
        | tp ts =>
          obtain ⟨h1, h2, h3⟩ := i2 es ts (by simpa [mG] using h)
          exact dg_tup c.good.calm h1 h2 h3
      | _ => cases t <;> simp [mG] at h
    · cases es with
      | nil =>
        cases ts with
        | nil => exact ⟨dgs_nil, rfl, rfl⟩
        | cons _ _ => simp [mGs] at h
      | cons e es =>
        cases ts with
        | nil => simp [mGs] at h
        | cons t ts =>
          simp only [mGs] at h
          obtain ⟨h, h3⟩ := and_t h
          obtain ⟨h1, h2⟩ := and_t h
          obtain ⟨q1, q2, q3⟩ := i2 es ts h3
          have p1 := i1 e t h2
          have ae : assignEach (e :: es) X.env = (false, assign e X.env) :: assignEach es X.env := by
            cases e <;> first | rfl | (cases h1; done)
          refine ⟨dgs_cons ?_, by rw [ae, List.length_cons, List.length_cons, q2], by rw [ae, List.findIdx?_cons, q3]; rfl⟩
          exact pgs_cons p1 q1 (by rw [ae]; rfl)
end
end SW

/-! SwSet0: set(xs) of a list of tuples with few distinct ones (HandS.TupSets' proof, the list as long as it likes). -/
namespace SW
open PySem PySem.Spec PyProof.Rows L2
def Few (ks : List (Addr × List Int)) : Prop := ∃ U : List (List Int), (∀ p ∈ ks, p.2 ∈ U) ∧ U.length < 63
theorem len_sub : ∀ {l U : List (List Int)}, l.Nodup → (∀ x ∈ l, x ∈ U) → l.length ≤ U.length
  | [], _, _, _ => Nat.zero_le _
  | x :: l, U, nd, h => by
    obtain ⟨n1, n2⟩ := List.nodup_cons.mp nd
    have hx := h x List.mem_cons_self
    have q := len_sub (U := U.erase x) n2 fun y hy => (List.mem_erase_of_ne (by rintro rfl; exact n1 hy)).2 (h y (List.mem_cons_of_mem _ hy))
    rw [List.length_erase_of_mem hx] at q
    have p := List.length_pos_of_mem hx
    rw [List.length_cons]
    omega
theorem few_of {ks L : List (Addr × List Int)} (f : Few ks) (h : ∀ p ∈ L, p ∈ ks) (nd : (L.map (·.2)).Nodup) : L.length + 1 < 64 := by
  obtain ⟨U, u1, u2⟩ := f
  have q := len_sub (U := U) nd fun x hx => by
    obtain ⟨p, hp, rfl⟩ := List.mem_map.mp hx
    exact u1 p (h p hp)
  rw [List.length_map] at q
  omega
section
variable {P : Program} {w : World} {A : Around} {E : Value → Shared → Prop} {s : Shared}
/-- set.update's loop -/
theorem set_upd_u {I : Addr} {fp wr : List Addr} {G : Array GenState → Array GenState → Prop} {n : Nat} {Pv : Nat → Value → Prop} {St : Nat → Shared → Prop} {R : Result → Shared → Prop}
    (W : WalksS P w A.in1 I fp wr G n Pv St) (S : Addr) (hSfz : S ∉ fp) (ks : List (Addr × List Int)) (hnz : n = ks.length) (hU : Few ks) (hvalz : ∀ i v, Pv i v → ∃ p, ks[i]? = some p ∧ v = .ref p.1)
    (h0z : Heap) (hk : ∀ p ∈ ks, IsT P w h0z p.2 p.1) (hS0z : h0z.get? S = none) (hw0z : ∀ b ∈ wr, h0z.get? b = none) (hu : A.in1.units < cLine) :
    ∀ (k i : Nat) (s : Shared), n - i = k → i ≤ n → St i s → (∀ b o, h0z.get? b = some o → s.heap.get? b = some o) → (∃ L es ep t, SetTR P w s.heap S L es ep t ∧ Got ks i L) →
      (∀ s' L es ep t, Moved (S :: wr) G s s' → SetTR P w s'.heap S L es ep t → Got ks n L → (∀ b o, h0z.get? b = some o → s'.heap.get? b = some o) → R (.ok (.ret .none)) s') →
      codeAny (model P w) A (.builtin "set.update.loop" ⟨[.ref S, .ref I], []⟩) R s := by
  have hSwz : S ∉ wr := fun h => hSfz (W.sub _ h)
  have hsubz : ∀ b ∈ wr, b ∈ S :: wr := fun b hb => List.mem_cons_of_mem _ hb
  have keepMz : ∀ {s s' : Shared}, Moved wr G s s' → (∀ b o, h0z.get? b = some o → s.heap.get? b = some o) → ∀ b o, h0z.get? b = some o → s'.heap.get? b = some o := fun hmz hkpz b o e =>
    hmz.heap b o (fun hb => by rw [hw0z b hb] at e; cases e) (hkpz b o e)
  intro k
  induction k with
  | zero =>
    intro i s hkqz hiz hstz hkpz ⟨L, es, ep, t, hSz, g⟩ hRz
    have hinz : i = n := by omega
    subst hinz
    refine codeAny_builtin F.entry_set_update_loop ?_
    rw [Around.under_plainId F.plain_set_update_loop _]
    show wpAny _ A.in1 (pyNext (.ref I) >>= _) _ _ s
    refine wpAny_bind (W.done s _ _ hstz fun s' hmz => ?_)
    show wpAny _ A.in1 (ret Value.none) _ _ s'
    have hkpqz := keepMz hmz hkpz
    have subz : ∀ p ∈ L, p ∈ ks := fun p hp => List.mem_of_mem_take (g.sub p hp)
    exact wpAny_pure (hRz s' L es ep t (hmz.mono hsubz) (hSz.keep (fun o e => hmz.heap S o hSwz e) fun p hp => isT_keep (hk p (subz p hp)) hkpqz) g hkpqz)
  | succ k ihz =>
    intro i s hkqz hiz hstz hkpz ⟨L, es, ep, t, hSz, g⟩ hRz
    have hltz : i < n := by omega
    refine codeAny_builtin F.entry_set_update_loop ?_
    rw [Around.under_plainId F.plain_set_update_loop _]
    show wpAny _ A.in1 (pyNext (.ref I) >>= _) _ _ s
    refine wpAny_bind (W.item i s _ _ hltz hstz fun v s' hPz hstqz hmz => ?_)
    obtain ⟨p, hp, rfl⟩ := hvalz i v hPz
    have hkpqz := keepMz hmz hkpz
    have subz : ∀ p ∈ L, p ∈ ks := fun p hp => List.mem_of_mem_take (g.sub p hp)
    have hSqz : SetTR P w s'.heap S L es ep t := hSz.keep (fun o e => hmz.heap S o hSwz e) fun q hq => isT_keep (hk q (subz q hq)) hkpqz
    have hxz : IsT P w s'.heap p.2 p.1 := isT_keep (hk p (List.mem_of_getElem? hp)) hkpqz
    show wpAny _ A.in1 (holding [Value.ref p.1] (setAdd S (.ref p.1)) >>= _) _ _ s'
    refine wpAny_bind (wpAny_holding ?_)
    unfold setAdd
    refine wpAny_holding ?_
    refine wpAny_bind (wpAny_pyHash_tuple hu hxz ?_)
    refine add_at (s := { s' with toks := s'.toks + (p.2.length + 1) }) hSqz hxz hu (few_of hU (fun q hq => List.mem_of_mem_take (g.sub q hq)) hSqz.nd) fun b h' L' es' ep' t' hsbz hS2z c1z c2z => ?_
    have gqz : Got ks (i + 1) L' := by
      rcases Classical.em (p.2 ∈ L.map (·.2)) with c | c
      · rw [c1z c]; exact g.same hp c
      · exact g.more hp (c2z c)
    have hkp2z : ∀ b o, h0z.get? b = some o → h'.get? b = some o := fun b o e => (hsbz.2 b (fun z => by rw [z, hS0z] at e; cases e)).trans (hkpqz b o e)
    refine wpAny_pure ⟨plainId_quiet F.plain_set_update_loop _, ihz (i + 1) _ (by omega) hltz (W.frame _ s' _ _ hstqz (Nat.le_add_right _ _) fun b hb o e => ?_) hkp2z ⟨L', es', ep', t', hS2z, gqz⟩ fun s'' L2 es2 ep2 t2 hmqqz hSqqz gqqz hkpqqz => ?_⟩
    · rw [hsbz.2 b (fun h : b = S => hSfz (by rw [← h]; exact hb))]; exact e
    · refine hRz s'' L2 es2 ep2 t2 (Moved.trans W.gtrans ((hmz.mono hsubz).then_heap (Nat.le_add_right _ _) fun b o hb e => ?_) hmqqz) hSqqz gqqz hkpqqz
      rw [hsbz.2 b (fun h : b = S => hb (by rw [h]; exact List.mem_cons_self))]; exact e

set_option maxRecDepth 100000 in
set_option maxHeartbeats 3200000 in
/-- set(xs) -/
theorem call_set_u {l : Addr} {items : Array Value} (ks : List (Addr × List Int)) {Q : Value → Shared → Prop} (hh : A.handled = none) (hl : s.heap.IsList l items) (hitz : items.toList = ks.map fun p => Value.ref p.1)
    (hk : ∀ p ∈ ks, IsT P w s.heap p.2 p.1) (hU : Few ks) (hu : A.units + 3 < cLine)
    (h : ∀ (h' : Heap) (tk : Nat) L es ep t, SetTR P w h' s.heap.objs.size L es ep t → Got ks ks.length L → (∀ b o, s.heap.get? b = some o → h'.get? b = some o) → Q (.ref s.heap.objs.size) { s with heap := h', toks := tk }) :
    wpAny (model P w) A (call (.type "set") [.ref l]) Q E s := by
  have hiszz : items.size = ks.length := by
    have q := congrArg List.length hitz
    rw [Array.length_toList, List.length_map] at q
    exact q
  obtain ⟨c, tl, hmroz⟩ := F.called_set.mro
  have hmadez := F.called_set.made
  have hsubz := F.called_set.sub
  refine wpAny_call (codeAny_of_tree ?_)
  show wpAny _ _ (callAny (.type "set") _) _ _ _
  refine wpAny_pure ⟨Code.quiet_builtin _ (by decide +kernel), codeAny_builtin F.entry_type_call ?_⟩
  rw [Around.under_plain (weight_type_call_type "set" [.ref l] []) rfl]
  have h1 := F.called_set.notType
  have h2 := F.called_set.canCreate
  have hctz := F.typeCall_set_1 (.ref l)
  repeat (any_goals (first | assumption | wp_step))

  refine codeAny_mono (code_set_led1 (.ref l) (E := E) (Q₁ := fun objz s₁ => objz = .ref s.heap.objs.size ∧ s₁ = { s with heap := s.heap.push { cls := .type "set", dict := none, data := .set #[] 0 (.fresh 0 0 (!w.params.followText "set-order")) } }) ⟨rfl, rfl⟩) fun r s₁ hrz => ?_
  cases r with
  | error e => exact hrz
  | ok fl =>
    cases fl with
    | ret objz =>
      obtain ⟨rfl, rfl⟩ := hrz
      have hSz : (s.heap.push { cls := .type "set", dict := none, data := .set #[] 0 (.fresh 0 0 (!w.params.followText "set-order")) }).get? s.heap.objs.size = some { cls := .type "set", dict := none, data := .set #[] 0 (.fresh 0 0 (!w.params.followText "set-order")) } := Heap.get?_push_size _ rfl
      have hTz : Shared.TypeIs { s with heap := s.heap.push { cls := .type "set", dict := none, data := .set #[] 0 (.fresh 0 0 (!w.params.followText "set-order")) } } (.ref s.heap.objs.size) "set" := ⟨_, hSz, rfl⟩
      have hliz := F.called_set.init.lookup
      have hbiz := F.called_set.init.bind (.ref s.heap.objs.size)
      repeat (any_goals (first | assumption | wp_step))

      refine codeAny_mono (codeAny_call_builtin (R := wants (fun r s₂ => r = .none ∧ ∃ h' tk L es ep t, s₂ = { s with heap := h', toks := tk } ∧ SetTR P w h' s.heap.objs.size L es ep t ∧ Got ks ks.length L ∧
          (∀ b o, s.heap.get? b = some o → h'.get? b = some o)) E) F.called_set.init.plain F.entry_set_init (check_set_init_1 hTz ?_)) fun r₂ s₂ hr₂z => ?_
      · obtain ⟨ol, holz, hclz, nlz, hdlz⟩ := hl
        obtain ⟨oclsz, odictz, odataz, oslotsz⟩ := ol
        simp only at hclz hdlz
        subst hclz; subst hdlz
        have holqz : (s.heap.push { cls := .type "set", dict := none, data := .set #[] 0 (.fresh 0 0 (!w.params.followText "set-order")) }).get? l = some { cls := .type "list", dict := odictz, data := .seq items nlz, slots := oslotsz } := Heap.get?_push_of_some _ holz
        have hslsz := F.sub_list_set
        have hslfz := F.sub_list_frozenset
        have hnez : (Value.type "list" == Value.type "dict") = false := by decide
        have hl1z : (s.heap.push { cls := .type "set", dict := none, data := .set #[] 0 (.fresh 0 0 (!w.params.followText "set-order")) }).IsList l items := ⟨_, holqz, rfl, nlz, rfl⟩
        unfold Builtin.«set.__init__» noKeywords Builtin.Frozenset.updateFrom
        generalize hPIz : pyIter = PIz
        wp_walk
        subst hPIz

        refine wpAny_pyIter_list hl1z ?_
        refine wpAny_bind (wpAny_runValue ?_)
        have hlSz : l < s.heap.objs.size := Heap.lt_size holz
        have hh3z : A.in1.in1.in1.handled = none := by simp [hh]
        have hz1z : (s.heap.push { cls := .type "set", dict := none, data := .set #[] 0 (.fresh 0 0 (!w.params.followText "set-order")) }).objs.size = s.heap.objs.size + 1 := Heap.size_push ..
        have hneIz : l ≠ (s.heap.push { cls := .type "set", dict := none, data := .set #[] 0 (.fresh 0 0 (!w.params.followText "set-order")) }).objs.size := by
          rw [Heap.size_push]; exact Nat.ne_of_lt (Nat.lt_succ_of_lt hlSz)
        have hSfz : s.heap.objs.size ∉ [(s.heap.push { cls := .type "set", dict := none, data := .set #[] 0 (.fresh 0 0 (!w.params.followText "set-order")) }).objs.size, l] := by
          rw [Heap.size_push]; simp only [List.mem_cons, List.mem_singleton, List.not_mem_nil, or_false, not_or]
          exact ⟨Nat.ne_of_lt (Nat.lt_succ_self _), Nat.ne_of_gt hlSz⟩
        have hvalz : ∀ (i : Nat) (v : Value), items[i]? = some v → ∃ p, ks[i]? = some p ∧ v = .ref p.1 := fun i v hv => by
          have q : items.toList[i]? = some v := by rw [Array.getElem?_toList]; exact hv
          rw [hitz, List.getElem?_map] at q
          cases hq : ks[i]? with
          | none => rw [hq] at q; cases q
          | some p =>
            rw [hq] at q
            exact ⟨p, rfl, (Option.some.inj q).symm⟩
        have none_ofz : ∀ b, s.heap.objs.size ≤ b → s.heap.get? b = none := fun b hb => by
          cases q : s.heap.get? b with
          | none => rfl
          | some o => exact absurd (Nat.lt_of_lt_of_le (Heap.lt_size q) hb) (Nat.lt_irrefl _)
        refine set_upd_u ((Walks.list hh3z _ l hneIz items).toS) s.heap.objs.size
          hSfz ks hiszz hU hvalz s.heap hk (none_ofz _ (Nat.le_refl _)) (fun b hb => none_ofz b (by
            rw [List.mem_singleton.mp hb, Heap.size_push]
            exact Nat.le_succ _)) hu (items.size - 0) 0 _ (by omega) (Nat.zero_le _)
          ⟨⟨_, Heap.get?_push_size _ rfl, rfl, rfl⟩, (hl1z.push _)⟩ (fun b o e => Heap.get?_push_of_some _ (Heap.get?_push_of_some _ e)) ?hS0 ?hR
        case hS0 =>
          have hgetz : ((s.heap.push { cls := .type "set", dict := none, data := .set #[] 0 (.fresh 0 0 (!w.params.followText "set-order")) }).push { cls := .type "list_iterator", data := .fields #[.ref l, .int 0 0] }).get? s.heap.objs.size
              = some { cls := .type "set", dict := none, data := .set #[] 0 (.fresh 0 0 (!w.params.followText "set-order")) } := Heap.get?_push_of_some _ hSz
          exact ⟨[], #[], 0, _, setTR_fresh hgetz, Got.zero ks⟩
        case hR =>
          intro s' L es ep t hmz hSqz gqz hkpz
          obtain ⟨h', g2, d', tk', os'⟩ := s'
          have egz : g2 = s.gens := hmz.gens
          have edz : d' = s.drawn := hmz.drawn
          have eoz : os' = s.os := hmz.os
          subst egz; subst edz; subst eoz
          show wpAny _ _ _ _ _ _
          refine wpAny_pure ?_
          show wpAny _ _ (ret Value.none) _ _ _
          rw [hiszz] at gqz
          exact wpAny_pure ⟨rfl, h', tk', L, es, ep, t, rfl, hSqz, gqz, hkpz⟩

      · cases r₂ with
        | error e => exact hr₂z
        | ok fl₂ =>
          cases fl₂ with
          | ret r =>
            obtain ⟨rfl, h', tk, L, es, ep, t, rfl, hSqz, gqz, hkqz⟩ := hr₂z
            repeat (any_goals (first | assumption | wp_step))
            exact h _ _ _ _ _ _ hSqz gqz hkqz
          | _ => exact hr₂z.elim
    | _ => exact hrz.elim


end
end SW

/-! SwSet1: set(xs) in a def's text, the list as long as it likes with few distinct tuples. Own work, after HandS.TupSets. -/
namespace SW
open PySem PySem.Spec PyProof.Rows L2
section
variable {X : Cx}
def rSetU (K : PySem.W.Frag) (P : Program) (w : World) : List V → Hp → VK → Prop := fun vs H Q => ∃ (xp : Addr) (us : List (Addr × List Int)), vs = [V.ref xp] ∧ SqL K H xp (us.map fun u => V.ref u.1) ∧ (∀ u ∈ us, SqT K H u.1 (u.2.map V.int)) ∧ Few us ∧
  ∀ b M, H b = none → (∀ u ∈ M, u ∈ us) → (∀ u ∈ us, u.2 ∈ M.map (·.2)) → Q (.ref b) (upd H b (SetTO P w b M))
theorem cr_setU (cm : X.calm = true) (un : X.A.units + 64 < cLine) : CallR X (.type "set") (rSetU X.K X.prog X.w) := by
  intro pns st ss Hp ys ws QQ Iv rr hh
  obtain ⟨xp, us, rfl, hxp, htu, hfew, kk⟩ := hh
  rw [Vals.ref1 rr]
  obtain ⟨itm, rvv, pln, hzz⟩ := Iv.list hxp
  have hfr : Hp st.heap.objs.size = none := Iv.hok.fresh (Nat.le_refl _)
  have his : itm = us.map fun u => Value.ref u.1 := refs_of_vals rvv
  refine call_set_u (P := X.prog) (w := X.w) us (Iv.ok.hd cm) pln.isList (by rw [← his]) (fun u hu => Inv.isT Iv (htu u hu)) hfew (by omega) fun h2 tk2 M es2 ep2 tb2 RT GG keep2 => ?_
  refine ⟨.ref st.heap.objs.size, upd Hp st.heap.objs.size (SetTO X.prog X.w st.heap.objs.size M), Iv.laid (t' := tk2) keep2 (Nat.le_refl _) (setTO_new RT.t0), rfl, kk _ M hfr (fun u hu => ?_) fun u hu => ?_⟩
  · exact List.mem_of_mem_take (GG.sub u hu)
  · exact GG.all u (by rw [List.take_length]; exact hu)
end
end SW

/-! SwSet2: tuples of small ints by their code. Own work. -/
namespace SW
open PySem PySem.Spec PyProof.Rows L2
theorem lt_code : ∀ {xs ys : List Int}, xs.length = ys.length → TS.Bd 64 xs → TS.Bd 64 ys → ltAll (xs.map .int) (ys.map .int) = decide (TS.code 64 xs < TS.code 64 ys)
  | [], [], _, _, _ => by simp [ltAll]
  | x :: xs, y :: ys, hl, h1, h2 => by
    have hl' : xs.length = ys.length := by simpa using hl
    show (if D.eqv (.int x) (.int y) then ltAll (xs.map .int) (ys.map .int) else decide (x < y)) = _
    have e : D.eqv (.int x) (.int y) = decide (x = y) := by
      first
      | rfl
      | (unfold D.eqv; rfl)
      | simp [D.eqv]
    rw [e]
    rcases Int.lt_trichotomy x y with c | c | c
    · have q : TS.code 64 (x :: xs) < TS.code 64 (y :: ys) := TS.code_lt hl' (fun m hm => h1 m (List.mem_cons_of_mem _ hm)) (fun m hm => h2 m (List.mem_cons_of_mem _ hm)) c
      have n : ¬ x = y := by omega
      simp [n, c, q]
    · subst c
      have q := TS.code_same (B := 64) (d := x) hl'
      rw [if_pos (by simp), lt_code hl' (fun m hm => h1 m (List.mem_cons_of_mem _ hm)) (fun m hm => h2 m (List.mem_cons_of_mem _ hm))]
      exact (decide_eq_decide.mpr q).symm
    · have q : TS.code 64 (y :: ys) < TS.code 64 (x :: xs) := TS.code_lt hl'.symm (fun m hm => h2 m (List.mem_cons_of_mem _ hm)) (fun m hm => h1 m (List.mem_cons_of_mem _ hm)) c
      have n : ¬ x = y := by omega
      have n2 : ¬ x < y := by omega
      have q2 : ¬ TS.code 64 (x :: xs) < TS.code 64 (y :: ys) := by omega
      simp [n, n2, q2]
theorem smallT_eq {d : D} {ns : List Int} (h : smallT d = some ns) : (∃ xs, d = .tup xs ∧ intsOf xs = some ns) ∧ TS.Bd 64 ns := by
  unfold smallT at h
  split at h
  · rename_i xs
    split at h
    · rename_i ms e
      split at h
      · rename_i c
        cases h
        refine ⟨⟨xs, rfl, e⟩, fun m hm => ?_⟩
        have q := List.all_eq_true.mp c m hm
        simpa using q
      · cases h
    · cases h
  · cases h
theorem code_inj : ∀ {xs ys : List Int}, xs.length = ys.length → TS.Bd 64 xs → TS.Bd 64 ys → TS.code 64 xs = TS.code 64 ys → xs = ys
  | [], [], _, _, _, _ => rfl
  | x :: xs, y :: ys, hl, h1, h2, e => by
    have hl' : xs.length = ys.length := by simpa using hl
    rcases Int.lt_trichotomy x y with c | c | c
    · have q : TS.code 64 (x :: xs) < TS.code 64 (y :: ys) := TS.code_lt hl' h1.tail h2.tail c
      omega
    · subst c
      have q1 := TS.code_same (B := 64) (d := x) hl'
      have q2 := TS.code_same (B := 64) (d := x) hl'.symm
      have : TS.code 64 xs = TS.code 64 ys := by omega
      rw [code_inj hl' h1.tail h2.tail this]
    · have q : TS.code 64 (y :: ys) < TS.code 64 (x :: xs) := TS.code_lt hl'.symm h2.tail h1.tail c
      omega
def toT (ns : List Int) : D := .tup (ns.map .int)
theorem sort_small {l m : List (List Int)} {d : Nat} (hp : m.Perm l) (pw : m.Pairwise fun a b => TS.code 64 a ≤ TS.code 64 b) (hl : ∀ x ∈ l, x.length = d) (hb : ∀ x ∈ l, TS.Bd 64 x) : D.sort (l.map toT) = m.map toT := by
  have e : m = l.mergeSort fun a b => decide (TS.code 64 a ≤ TS.code 64 b) := by
    refine List.Perm.eq_of_pairwise (le := fun a b => TS.code 64 a ≤ TS.code 64 b) (fun a b ha hb' h1 h2 => ?_) pw ?_ (hp.trans (List.mergeSort_perm _ _).symm)
    · have ma := hp.mem_iff.mp ha
      have mb := (List.mergeSort_perm _ _).mem_iff.mp hb'
      exact code_inj (by rw [hl _ ma, hl _ mb]) (hb _ ma) (hb _ mb) (by omega)
    · have q := List.pairwise_mergeSort (le := fun a b : List Int => decide (TS.code 64 a ≤ TS.code 64 b)) (fun a b c h1 h2 => by simp at h1 h2 ⊢; omega) (fun a b => by simp; omega) l
      exact q.imp fun h => by simpa using h
  rw [e]
  unfold D.sort
  refine (List.map_mergeSort fun a ha b hb' => ?_).symm
  show decide _ = !ltAll (b.map .int) (a.map .int)
  rw [lt_code (by rw [hl _ ha, hl _ hb']) (hb _ hb') (hb _ ha)]
  by_cases c : TS.code 64 a ≤ TS.code 64 b
  · have n : ¬ TS.code 64 b < TS.code 64 a := by omega
    simp [c, n]
  · have n : TS.code 64 b < TS.code 64 a := by omega
    simp [c, n]
theorem mem_nubI : ∀ {l : List (List Int)} {x : List Int}, x ∈ nubI l ↔ x ∈ l
  | [], x => Iff.rfl
  | y :: l, x => by
    show x ∈ y :: (nubI l).filter (fun z => !(z == y)) ↔ _
    rw [List.mem_cons, List.mem_cons, List.mem_filter, mem_nubI]
    by_cases c : x = y
    · simp [c]
    · simp [c]
theorem nubI_nodup : ∀ {l : List (List Int)}, (nubI l).Nodup
  | [] => List.nodup_nil
  | y :: l => by
    show (y :: (nubI l).filter (fun z => !(z == y))).Nodup
    refine List.nodup_cons.mpr ⟨fun h => ?_, nubI_nodup.filter _⟩
    simp [List.mem_filter] at h
theorem eqv_toT : ∀ (a b : List Int), D.eqv (toT a) (toT b) = (a == b)
  | [], [] => rfl
  | [], _ :: _ => rfl
  | _ :: _, [] => rfl
  | x :: a, y :: b => by
    have ih : eqvAll (a.map .int) (b.map .int) = (a == b) := eqv_toT a b
    show ((x == y) && eqvAll (a.map .int) (b.map .int)) = ((x :: a) == (y :: b))
    rw [ih]
    rfl
theorem nub_toT : ∀ (l : List (List Int)), nubD (l.map toT) = (nubI l).map toT
  | [] => rfl
  | x :: l => by
    show toT x :: (nubD (l.map toT)).filter (fun y => !y.eqv (toT x)) = toT x :: ((nubI l).filter fun y => !(y == x)).map toT
    rw [nub_toT l, List.filter_map]
    congr 2
    refine List.filter_congr fun y _ => ?_
    show (!D.eqv (toT y) (toT x)) = _
    rw [eqv_toT]
end SW

/-! SwSet: sorted(set(x)). Own work. -/
namespace SW
open PySem PySem.Spec PyProof.Rows L2
theorem ints_map : ∀ {xs : List D} {ns : List Int}, intsOf xs = some ns → xs = ns.map .int
  | [], ns, h => by
    simp only [intsOf] at h
    cases h
    rfl
  | x :: xs, ns, h => by
    cases x <;> simp only [intsOf] at h <;> try (cases h)
    rename_i i
    cases e : intsOf xs with
    | none =>
      rw [e] at h
      cases h
    | some m =>
      rw [e] at h
      cases h
      rw [ints_map e]
      rfl
theorem smallAll_eq : ∀ {ds : List D} {ls : List (List Int)}, smallAll ds = some ls → ds = ls.map toT ∧ ∀ l ∈ ls, TS.Bd 64 l
  | [], ls, h => by
    simp only [smallAll] at h
    cases h
    exact ⟨rfl, fun l hl => by simp at hl⟩
  | d :: ds, ls, h => by
    simp only [smallAll] at h
    cases e1 : smallT d with
    | none =>
      rw [e1] at h
      cases h
    | some l =>
      cases e2 : smallAll ds with
      | none =>
        rw [e1, e2] at h
        cases h
      | some m =>
        rw [e1, e2] at h
        cases h
        obtain ⟨⟨xs, rfl, q⟩, b⟩ := smallT_eq e1
        obtain ⟨i1, i2⟩ := smallAll_eq e2
        refine ⟨?_, fun l' hl => ?_⟩
        · rw [i1, ints_map q]
          rfl
        · rcases List.mem_cons.mp hl with rfl | z
          · exact b
          · exact i2 _ z
section
variable {W : Wd} {G : Hp}
theorem den_ints : ∀ {ns : List Int} {vs : List V}, DenAll W G (ns.map .int) vs → vs = ns.map V.int
  | [], _, .nil => rfl
  | n :: ns, _, .cons d a => by
    rw [d.iint, den_ints a]
    rfl
theorem ints_den : ∀ (ns : List Int), DenAll W G (ns.map .int) (ns.map V.int)
  | [] => .nil
  | n :: ns => .cons (.int n) (ints_den ns)
theorem den_small : ∀ {ls : List (List Int)} {vs : List V}, DenAll W G (ls.map toT) vs → ∃ us : List (Addr × List Int), us.map (·.2) = ls ∧ vs = us.map (fun u => V.ref u.1) ∧ ∀ u ∈ us, G u.1 = some (.tup (u.2.map V.int))
  | [], _, .nil => ⟨[], rfl, rfl, fun u hu => by simp at hu⟩
  | l :: ls, _, .cons d a => by
    obtain ⟨us, e1, e2, e3⟩ := den_small a
    obtain ⟨p, ws, rfl, hp, aa⟩ := d.itup
    refine ⟨(p, l) :: us, by rw [List.map_cons, e1], by rw [List.map_cons, e2], fun u hu => ?_⟩
    rcases List.mem_cons.mp hu with rfl | z
    · rw [hp, den_ints aa]
    · exact e3 u z
theorem small_den : ∀ {L : List (Addr × List Int)}, (∀ u ∈ L, G u.1 = some (.tup (u.2.map V.int))) → DenAll W G ((L.map (·.2)).map toT) (L.map fun u => V.ref u.1)
  | [], _ => .nil
  | u :: L, h => .cons (.tup (h u (by simp)) (ints_den _)) (small_den fun z hz => h z (by simp [hz]))
end
theorem few_sm {us : List (Addr × List Int)} {ls : List (List Int)} (e : us.map (·.2) = ls) (h : (nubI ls).length < 63) : Few us := ⟨nubI ls, fun u hu => mem_nubI.mpr (by rw [← e]; exact List.mem_map.mpr ⟨u, hu, rfl⟩), h⟩
section
variable {T : Txt} {W : Wd} {C : Ctx} {P : Program} {w : World} {K : PySem.W.Frag} {mg : Str → Option Value} {base : Heap} {kf km k : Nat} {s : Stt} {X : Cx} {E : XK} {H0 : Hp} {G0 : Bs} {f : Env → Row → R D} {a : Expr} {p1' p2' p3' pos : Pos}
theorem sset_ok (Tok : TxtOk T W C P w K mg base kf km) (c : CtxOk s W X E P w K mg base kf km k) (hg : Gl X ("sorted" : Str)) (hg2 : Gl X ("set" : Str)) (hs : notStar a = true) (ha : PE X a (tF W H0 G0 E f)) :
    PE X (.Call (.Name ("sorted" : Str) p1') [.Call (.Name ("set" : Str) p2') [a] [] p3'] [] pos) (tN W H0 G0 E fun env r => (f env r).bind fun d r1 => liftO (p1 .sortedSet d) r1) := by
  have un : X.A.units + 64 < cLine := by
    have := c.good.room.un
    omega
  refine PE.imp (pe_callB (cr_sortedT c.good.calm) hg (bl_mem Tok c (by decide)) (by first | exact boot_sorted | rfl) (pa_cons (pe_callTy (cr_setU c.good.calm un) hg2 (bl_mem Tok c (by decide)) (by first | exact PyProof.Rows.boot_set | rfl) (pa_cons ha pa_nil (star_cons hs)) (by decide) (by decide) (star_cons hs) rfl) pa_nil (by rfl)) (by decide) (by decide) (by rfl) rfl) fun σ H Q ⟨G, env, ρ, R, q⟩ => tF_bind R (outN_A q) fun d ρ1 v G1 H1 x dv R1 h1 => ?_
  obtain ⟨z, hz, h4⟩ := lift_end h1
  cases d <;> simp only [p1] at hz <;> try (cases hz)
  rename_i xs
  obtain ⟨ok, rfl⟩ := ite_some hz
  unfold setOk at ok
  cases e : smallAll xs with
  | none =>
    rw [e] at ok
    cases ok
  | some ls =>
    rw [e] at ok
    dsimp only at ok
    obtain ⟨o1, o2⟩ := and_t ok
    have hlen : (nubI ls).length < 63 := by simpa using o2
    obtain ⟨rfl, bd⟩ := smallAll_eq e
    obtain ⟨p, vs, rfl, hp, aa⟩ := dv.ilst
    obtain ⟨us, eu, rfl, hu⟩ := den_small aa
    have hN := ls.headD []
    have lall : ∀ l ∈ ls, 1 ≤ l.length ∧ l.length = (ls.headD []).length := fun l hl => by
      have := List.all_eq_true.mp o1 l hl
      simpa using this
    have sub := R1.sub
    refine ⟨p, us, rfl, SqL.of (sub _ _ hp), fun u hm => SqT.of (sub _ _ (hu u hm)), few_sm eu hlen, fun b M hb hM1 hM2 => ?_⟩
    have hMm : ∀ u ∈ M, u.2 ∈ ls := fun u hm => by
      rw [← eu]
      exact List.mem_map.mpr ⟨u, hM1 u hm, rfl⟩
    refine ⟨b, M, max (ls.headD []).length 1, 64, rfl, upd_same, fun u hm => SqT.of (upd_some hb (sub _ _ (hu u (hM1 u hm)))), by omega, fun u hm => ?_, fun L' p' pm nd few pw hp' => ?_⟩
    · obtain ⟨q1, q2⟩ := lall _ (hMm u hm)
      exact ⟨by omega, bd _ (hMm u hm)⟩
    · have hp1 : H1 p' = none := by
        by_cases c : p' = b
        · subst c
          exact hb
        · rw [upd_ne c] at hp'
          exact hp'
      have hL : ∀ u ∈ L', u ∈ us := fun u hu => hM1 u (pm.mem_iff.mp hu)
      have ex1 : Ext W G1 H1 G1 (upd H1 b (SetTO X.prog X.w b M)) := Ext.scratch sub hb
      have ex2 := ex1.trans (Ext.scratch (W := W) (o := .lst (L'.map fun q => V.ref q.1)) ex1.sub hp')
      have key : D.sort (nubD (ls.map toT)) = (L'.map (·.2)).map toT := by
        rw [nub_toT]
        refine sort_small (d := (ls.headD []).length) ?_ ?_ (fun x hx => (lall x (mem_nubI.mp hx)).2) fun x hx => bd x (mem_nubI.mp hx)
        · refine (List.perm_ext_iff_of_nodup nd nubI_nodup).mpr fun x => ?_
          rw [mem_nubI]
          constructor
          · intro hx
            obtain ⟨u, hu', rfl⟩ := List.mem_map.mp hx
            exact hMm u (pm.mem_iff.mp hu')
          · intro hx
            rw [← eu] at hx
            obtain ⟨u, hu', rfl⟩ := List.mem_map.mp hx
            obtain ⟨u2, h2, e2⟩ := List.mem_map.mp (hM2 u hu')
            rw [← e2]
            exact List.mem_map.mpr ⟨u2, pm.mem_iff.mpr h2, rfl⟩
        · exact List.pairwise_map.mpr pw
      rw [key] at h4
      have hg1 : G1 p' = none := by
        cases q : G1 p' with
        | none => rfl
        | some o =>
          rw [sub _ _ q] at hp1
          cases hp1
      refine h4 G1 _ ex2 ((R1.row.ext (kept_upd hb)).ext (kept_upd hp')) p' (x.free (.inl hp1)) hg1 ⟨_, upd_same, small_den fun u hm => hu u (hL u hm)⟩
end
end SW

/-! SwMain5: the induction over expressions. Own work. -/
namespace SW
open PySem PySem.Spec PyProof.Rows L2
section
variable {T : Txt} {W : Wd} {C : Ctx} {P : Program} {w : World} {K : PySem.W.Frag} {mg : Str → Option Value} {base : Heap} {kf km k : Nat} {s : Stt} {X : Cx} {E : XK} {H0 : Hp} {G0 : Bs}
/-- what is shown for matchers of depth n -/
structure MainAt (T : Txt) (W : Wd) (C : Ctx) (P : Program) (w : World) (K : PySem.W.Frag) (mg : Str → Option Value) (base : Heap) (kf km n : Nat) : Prop where
  e : ∀ {s : Stt} {X : Cx} {E : XK} {k : Nat} {H0 : Hp} {G0 : Bs}, CtxOk s W X E P w K mg base kf km k → (s.ini = true ∨ G0.s = none) → ∀ {e : Expr} {ie : IE}, mE T n s e ie = true → EOk W X H0 G0 E C e ie
  es : ∀ {s : Stt} {X : Cx} {E : XK} {k : Nat} {H0 : Hp} {G0 : Bs}, CtxOk s W X E P w K mg base kf km k → (s.ini = true ∨ G0.s = none) → ∀ {es : List Expr} {is : List IE}, mEs T n s es is = true → PA X es (tL W H0 G0 E (evs C is)) ∧ (es.all notStar) = true ∧ es.length = is.length
  o : ∀ {s : Stt} {X : Cx} {E : XK} {k : Nat} {H0 : Hp} {G0 : Bs}, CtxOk s W X E P w K mg base kf km k → (s.ini = true ∨ G0.s = none) → ∀ {e : Option Expr} {i : Option IE}, mO T n s e i = true → PO X e (tO W H0 G0 E (evO C i))
  ts : ∀ {s : Stt} {X : Cx} {k : Nat} {H0 : Hp} {G0 : Bs}, CtxOk s W X EF P w K mg base kf km k → (s.ini = true ∨ G0.s = none) → ∀ {es : List Expr} {is : List IE}, mTs T n s es is = true → PTs X es (tT W H0 G0 EF (tsts C is))
  new : ∀ {s : Stt} {X : Cx} {E : XK} {k : Nat} {H0 : Hp} {G0 : Bs}, CtxOk s W X E P w K mg base kf km k → (s.ini = true ∨ G0.s = none) → ∀ {e : Expr} {ie : IE}, mE T n s e ie = true → newB ie = true → PE X e (tN W H0 G0 E (evN C ie))
  i : ∀ {s : Stt} {X : Cx} {E : XK} {k : Nat} {H0 : Hp} {G0 : Bs}, CtxOk s W X E P w K mg base kf km k → (s.ini = true ∨ G0.s = none) → ∀ {tg e : Expr} {it : IT}, mI T n s tg e it = true → PI X tg e (tI W H0 G0 E (evI C it))
theorem str_eq {x : Str} {y : Str} (h : (x == y) = true) : x = y := by simpa using h
theorem evs_lim {is : List IE} (h : is.length ≤ 1000) : ∀ env r ds r1, evs C is env r = .ok ds r1 → ds.length ≤ LIM := fun env r ds r1 e => by
  rw [evs_len e]
  unfold LIM
  omega
theorem tsts_one {t : IE} {Q : Bool → Hp → Prop} {σ : L2.St} {H : Hp} (q : tT W H0 G0 EF (tsts C [t]) σ H Q) : tT W H0 G0 EF (tru (ev C t)) σ H Q := by
  obtain ⟨G, env, ρ, R, h⟩ := q
  refine ⟨G, env, ρ, R, ?_⟩
  rw [tsts] at h
  unfold tru
  cases e : ev C t env ρ with
  | ok d r1 =>
    rw [e] at h
    cases ht : d.truth with
    | none =>
      simp only [ht] at h
      exact h.elim
    | some b =>
      have z : OutA W G H EF (.ok b r1) (fun b _ _ H' => Q b H') := by
        cases b with
        | true =>
          simp only [ht, tsts_nil] at h
          exact h
        | false =>
          simp only [ht] at h
          exact h
      show OutA W G H EF (liftO d.truth r1) _
      rw [ht]
      exact z
  | exn c d r1 =>
    rw [e] at h
    exact h.elim
  | bad =>
    rw [e] at h
    exact h.elim
theorem tsts_nx {is : List IE} : ∀ env r c d r1, tsts C is env r ≠ .exn c d r1 := by
  induction is with
  | nil =>
    intro env r c d r1 h
    rw [tsts_nil] at h
    cases h
  | cons t ts ih =>
    intro env r c d r1 h
    rw [tsts] at h
    split at h
    · split at h
      · exact ih _ _ _ _ _ h
      · cases h
      · cases h
    · cases h
theorem main_es (m : ∀ {s : Stt} {X : Cx} {E : XK} {k : Nat} {H0 : Hp} {G0 : Bs}, CtxOk s W X E P w K mg base kf km k → (s.ini = true ∨ G0.s = none) → ∀ {e : Expr} {ie : IE}, mE T n s e ie = true → EOk W X H0 G0 E C e ie)
    (ms : ∀ {s : Stt} {X : Cx} {E : XK} {k : Nat} {H0 : Hp} {G0 : Bs}, CtxOk s W X E P w K mg base kf km k → (s.ini = true ∨ G0.s = none) → ∀ {es : List Expr} {is : List IE}, mEs T n s es is = true → PA X es (tL W H0 G0 E (evs C is)) ∧ (es.all notStar) = true ∧ es.length = is.length)
    (c : CtxOk s W X E P w K mg base kf km k) (hi : s.ini = true ∨ G0.s = none) {es : List Expr} {is : List IE} (h : mEs T (n + 1) s es is = true) : PA X es (tL W H0 G0 E (evs C is)) ∧ (es.all notStar) = true ∧ es.length = is.length := by
  cases is with
  | nil =>
    have h : es.isEmpty = true := by simpa only [mEs] using h
    cases es with
    | nil =>
      rw [evs_nil]
      exact ⟨da_nil, rfl, rfl⟩
    | cons _ _ => cases h
  | cons i is =>
    cases es with
    | nil => simp only [mEs] at h; cases h
    | cons e es =>
      simp only [mEs] at h
      obtain ⟨h, h3⟩ := and_t h
      obtain ⟨h1, h2⟩ := and_t h
      obtain ⟨q1, q2, q3⟩ := ms (H0 := H0) c hi h3
      refine ⟨?_, by simp only [List.all_cons, h1, q2]; rfl, by rw [List.length_cons, List.length_cons, q3]⟩
      rw [evs_cons]
      exact da_cons (m c hi h2).v q1 (star_cons h1)
theorem newLst {a : IE} (h : a.isNew = true) : ∀ env r d r1, ev C a env r = .ok d r1 → ∃ ds, d = .lst ds := by
  intro env r d r1 e
  cases a <;> first | (cases h; done) | skip
  · rename_i es
    rw [ev] at e
    cases q : evs C es env r with
    | ok ds r2 =>
      rw [q] at e
      cases e
      exact ⟨ds, rfl⟩
    | exn c d r2 =>
      rw [q] at e
      cases e
    | bad =>
      rw [q] at e
      cases e
  · rename_i own tg it ts i
    rw [ev_lc] at e
    unfold lcF at e
    cases q : evI C it env r with
    | ok ds r2 =>
      rw [q] at e
      have e : (lcLoop (fun d => bindT tg d (killE (own.map (·.2)) env)) (tsts C ts) (noExn (ev C i)) ds r2).bind (fun xs r2 => R.ok (D.lst xs) r2) = .ok d r1 := e
      cases q2 : lcLoop (fun d => bindT tg d (killE (own.map (·.2)) env)) (tsts C ts) (noExn (ev C i)) ds r2 with
      | ok xs r3 =>
        rw [q2] at e
        cases e
        exact ⟨xs, rfl⟩
      | exn c d r3 =>
        rw [q2] at e
        cases e
      | bad =>
        rw [q2] at e
        cases e
    | exn c d r2 =>
      rw [q] at e
      cases e
    | bad =>
      rw [q] at e
      cases e
theorem new_plain {n : Nat} (M : MainAt T W C P w K mg base kf km n) {e : Expr} {a : IE} (h : mE T n s e a = true) (hn : a.isNew = true) : plainT e = true := by
  cases n with
  | zero => cases h
  | succ n =>
    cases a <;> first | (cases hn; done) | skip
    all_goals
      simp only [mE] at h
      split at h
      · rfl
      · cases h
theorem lc_case {n : Nat} (M : MainAt T W C P w K mg base kf km n) (c : CtxOk s W X E P w K mg base kf km k) (hi : s.ini = true ∨ G0.s = none) {elt tg iter : Expr} {ifs : List Expr} {scope : Scope} {pos : Pos} {own : List (Str × Nat)} {t : Tg} {it : IT} {ts : List IE} {i : IE}
    (h : (blkB s.N s.sc scope own && mI T n s tg iter it && mG (s.blk scope) 50 tg t && mTs T n (s.blk scope) ifs ts && mE T n (s.blk scope) elt i && notSet iter && ((tgSlots t).all fun i => (own.map (·.2)).contains i) && (!s.ini || !(own.map (·.2)).contains 0)) = true) :
    PE X (.ListComp elt [⟨tg, iter, ifs, 0⟩] scope pos) (tN W H0 G0 E (lcF (own.map (·.2)) t (evI C it) (tsts C ts) (ev C i))) := by
  obtain ⟨h, h8⟩ := and_t h
  obtain ⟨h, h7⟩ := and_t h
  obtain ⟨h, h6⟩ := and_t h
  obtain ⟨h, h5⟩ := and_t h
  obtain ⟨h, h4⟩ := and_t h
  obtain ⟨h, h3⟩ := and_t h
  obtain ⟨h1, h2⟩ := and_t h
  have ok : BlkOk X.N X.env.scope scope own := by
    rw [c.N, c.sc]
    exact blk_ok h1
  have cb : ∀ (s0 : Shared) (H : Hp) (A : Addr) (cl : List (Str × Addr)) (fp : List Addr), CtxOk (s.blk scope) W (X.blk s0 H scope (compEnvC scope cl A X.env) fp) EF P w K mg base kf km k := fun s0 H A cl fp => ctx_blk c h1 s0 H A cl fp
  refine dn_lc c.good (M.i c hi h2) ok (fun s0 H A cl fp => (tg_ok (cb s0 H A cl fp) hi 50).1 _ _ h3) (fun s0 H A cl fp => M.ts (cb s0 H A cl fp) hi h4) (fun s0 H A cl fp => (M.e (cb s0 H A cl fp) hi h5).v) (fun x => ?_) (fun j hj => ?_) tsts_nx ?_
  · cases iter <;> first | rfl | (cases h6; done)
  · rw [List.all_eq_true] at h7
    simpa using h7 j hj
  · rcases hi with q | q
    · rw [q] at h8
      right
      simpa using h8
    · exact .inl q
theorem main_e (Tok : TxtOk T W C P w K mg base kf km) {n : Nat} (M : MainAt T W C P w K mg base kf km n) (c : CtxOk s W X E P w K mg base kf km k) (hi : s.ini = true ∨ G0.s = none) {e : Expr} {ie : IE} (h : mE T (n + 1) s e ie = true) : EOk W X H0 G0 E C e ie := by
  have g := c.good
  cases ie with
  | var i =>
    simp only [mE] at h
    split at h
    · obtain ⟨h1, h2, h3⟩ := var_of c h
      obtain ⟨n1, n2, n3⟩ := okN_of h3
      refine .of rfl ?_
      rw [ev_var]
      exact de_var h1 h2 n1 n2
    · cases h
  | cst d =>
    simp only [mE] at h
    split at h
    · exact .of rfl (cst_ok h)
    · cases h
  | glb i =>
    simp only [mE] at h
    split at h
    · obtain ⟨h, h3⟩ := and_t h
      obtain ⟨h1, h2⟩ := and_t h
      obtain ⟨v, u, hm, r, dn⟩ := Tok.gl i _ (of_decide_eq_true h1)
      obtain ⟨n1, n2, n3⟩ := okN_of h3
      refine .of rfl ?_
      rw [ev_glb]
      exact PE.imp (pe_glob (gl_of c h2) (by rw [c.em]; exact hm) r n1) fun σ H Q ⟨G, env, ρ, R, q⟩ => q v G H (Ext.refl R.sub) R.row (dn.mono R.base)
    · cases h
  | tup is =>
    simp only [mE] at h
    split at h
    · obtain ⟨h1, h2⟩ := and_t h
      refine .of rfl ?_
      rw [ev_tup]
      exact de_tup (M.es c hi h2).1 (evs_lim (of_decide_eq_true h1))
    · cases h
  | lst is =>
    simp only [mE] at h
    split at h
    · obtain ⟨h1, h2⟩ := and_t h
      refine .of rfl ?_
      rw [ev_lst]
      exact de_new (dn_lst (M.es c hi h2).1 (evs_lim (of_decide_eq_true h1)))
    · cases h
  | dnew t =>
    simp only [mE] at h
    split at h
    · refine .of rfl ?_
      rw [ev_dnew]
      cases t with
      | true => exact de_new dn_dnewT
      | false => exact de_new dn_dnewK
    · cases h
  | call f is =>
    simp only [mE] at h
    split at h
    · rename_i x p1 es p2
      obtain ⟨h, h6⟩ := and_t h
      obtain ⟨h, h5⟩ := and_t h
      obtain ⟨h, h4⟩ := and_t h
      obtain ⟨h, h3⟩ := and_t h
      obtain ⟨h1, h2⟩ := and_t h
      obtain ⟨hm, hk, hf⟩ := Tok.fn x f (by simpa using h1)
      obtain ⟨fd, ps, ds, dvs, np, F, hb, hd, ddv, hl⟩ := (hf _ h2).ex
      obtain ⟨n1, n2, n3⟩ := okN_of h5
      obtain ⟨q1, q2, q3⟩ := M.es (H0 := H0) c hi h6
      have hgd : T.gdf f = true → X.A.guards = some [] := fun z => by
        rw [z] at h3
        exact c.gd h3
      refine .of rfl ?_
      rw [ev_call]
      have hr : Room kf X.A := g.room.mono c.rf
      have pass := c.pass
      rw [← c.ep, ← c.ew] at pass F
      rw [← c.eK, ← c.em, ← c.eb] at F
      rw [← c.eK] at hb hk
      rw [← c.em] at hm
      cases es with
      | nil =>
        have e0 : is = [] := List.length_eq_zero_iff.mp (by rw [← q3]; rfl)
        subst e0
        rw [evs_nil]
        exact de_call0 F hl ddv hr hgd (gl_of c h4) hm hk hb hd pass n1
      | cons e es =>
        simp only [List.all_cons, Bool.and_eq_true] at q2
        exact de_call F hl ddv hr hgd (gl_of c h4) hm hk hb hd pass q1 n1 (star_cons q2.1) (backTo_plain _ _ q2.2)
    · cases h
  | callv i is =>
    simp only [mE] at h
    split at h
    · rename_i x p1 e es p2
      obtain ⟨h1, h2⟩ := and_t h
      obtain ⟨v1, v2, v3⟩ := var_of c h1
      obtain ⟨n1, n2, n3⟩ := okN_of v3
      obtain ⟨q1, q2, q3⟩ := M.es (H0 := H0) c hi h2
      simp only [List.all_cons, Bool.and_eq_true] at q2
      refine .of rfl ?_
      rw [ev_callv]
      have pass := c.pass
      have hs := Tok.has
      rw [← c.ep, ← c.ew] at pass hs
      rw [← c.eK, ← c.em, ← c.eb] at hs
      exact de_callv hs (g.room.mono c.rf) v1 v2 pass q1 n1 n2 (star_cons q2.1) (backTo_plain _ _ q2.2)
    · cases h
  | mk cn is =>
    simp only [mE] at h
    split at h
    · rename_i x p1 e es p2
      obtain ⟨h, h6⟩ := and_t h
      obtain ⟨h, h5⟩ := and_t h
      obtain ⟨h, h4⟩ := and_t h
      obtain ⟨h1, h2⟩ := and_t h
      have hx : (x, cn) ∈ T.cls := by simpa using h1
      obtain ⟨hm, lc⟩ := Tok.mkc x cn hx
      obtain ⟨fa, fd, ps, ds, dvs, np, Mk', F, hb, hd, ddv, hl⟩ := Tok.mka x cn _ hx h2
      obtain ⟨n1, n2, n3⟩ := okN_of h5
      obtain ⟨q1, q2, q3⟩ := M.es (H0 := H0) c hi h6
      simp only [List.all_cons, Bool.and_eq_true] at q2
      refine .of rfl ?_
      rw [ev_mk]
      have pass := c.pass
      rw [← c.ep, ← c.ew] at pass F
      rw [← c.eK, ← c.em, ← c.eb] at F
      rw [← c.eK] at hb Mk'
      rw [← c.em] at hm
      exact de_mk lc Mk' F hl ddv (g.room.mono c.rm) (gl_of c h4) hm hb hd pass q1 n1 (star_cons q2.1) (backTo_plain _ _ q2.2)
    · cases h
  | meth cn f i is =>
    simp only [mE] at h
    split at h
    · rename_i o m apos es pos
      obtain ⟨h, h7⟩ := and_t h
      obtain ⟨h, h6⟩ := and_t h
      obtain ⟨h, h5⟩ := and_t h
      obtain ⟨h, h4⟩ := and_t h
      obtain ⟨h, h3⟩ := and_t h
      obtain ⟨h1, h2⟩ := and_t h
      obtain ⟨lc, nf, me, hf⟩ := Tok.mt cn m f (by simpa using h1)
      obtain ⟨fd, ps, ds, dvs, np, F, hb, hd, ddv, hl⟩ := (hf _ h2).ex
      obtain ⟨q1, q2, q3⟩ := M.es (H0 := H0) c hi h7
      refine .of rfl ?_
      rw [ev_meth]
      have pass := c.pass
      have F := F.ok
      rw [← c.ep, ← c.ew] at pass F
      rw [← c.eK, ← c.em, ← c.eb] at F
      rw [← c.eK] at hb me
      have hr : Room kf X.A := g.room.mono c.rf
      have hmf : methodCallForm (es.length + ([] : List Keyword).length) (backTo pos (starEach es X.env)) (backToKw pos (keywordEach [] X.env)) = true := by
        have l1 : es.length < 20 := by
          rw [q3]
          exact of_decide_eq_true h5
        have a1 : (backTo pos (starEach es X.env)).all (fun x => !x.1) = true := by
          have := backTo_plain pos X.env q2
          rw [List.all_eq_true]
          rw [List.any_eq_false] at this
          intro x hx
          simpa using this x hx
        unfold methodCallForm
        rw [a1]
        show (true && true && decide _) = true
        simp
        show es.length + 0 + 0 < 30
        omega
      have ht : eval (.Call (.Attribute o m apos) es [] pos) X.env = (do
          let ov ← eval o X.env
          standAt apos.atName
          let (f, first) ← holding [ov] (getMethod ov m (plainOf o X.env))
          callWith pos f first (backTo pos (starEach es X.env)) (backToKw pos (keywordEach [] X.env))) := by
        show (do
          let ov ← attributeBase o m X.env (eval o X.env)
          standAt apos.atName
          methodCall o m apos pos X.env ov (es.length + ([] : List Keyword).length) (backTo pos (starEach es X.env)) (backToKw pos (keywordEach [] X.env))) = _
        rw [base_ok h3]
        congr 1
        funext ov
        congr 1
        funext _
        exact mcall_line hmf h4
      cases es with
      | nil =>
        have e0 : is = [] := List.length_eq_zero_iff.mp (by rw [← q3]; rfl)
        subst e0
        rw [evs_nil]
        exact de_meth0 g (M.e c hi h6).v (fun _ => me) nf F hl ddv hr hb hd pass lc ht
      | cons e es =>
        simp only [List.all_cons, Bool.and_eq_true] at q2
        exact de_meth g (M.e c hi h6).v (fun _ => me) nf F hl ddv hr hb hd pass q1 (star_cons q2.1) (backTo_plain _ _ q2.2) lc ht
    · cases h
  | fld cn i j =>
    simp only [mE] at h
    split at h
    · obtain ⟨h, h3⟩ := and_t h
      obtain ⟨h1, h2⟩ := and_t h
      refine .of rfl ?_
      rw [ev_fld]
      exact de_fld g (M.e c hi h3).v (by rw [Tok.fld]; exact of_decide_eq_true h1) (base_ok h2)
    · cases h
  | o1 p i =>
    simp only [mE] at h
    split at h
    · -- neg
      rename_i hk
      split at h
      · have e : p = .neg := by
          cases p <;> first | rfl | (cases hk; done)
        subst e
        refine .of rfl ?_
        rw [ev_o1]
        exact de_un un_neg (fun d z hz => by
          cases d <;> simp only [p1] at hz <;> cases hz
          exact ⟨_, rfl, rfl⟩) (M.e c hi h).v
      · cases h
    · rename_i hk
      split at h
      · have e : p = .isNone := by
          cases p <;> first | rfl | (cases hk; done)
        subst e
        have q := (M.e (H0 := H0) c hi h).v
        refine ⟨?_, ?_⟩
        · rw [ev_o1]
          exact de_isN q
        · unfold tru
          rw [ev_o1]
          exact dt_isN q
      · cases h
    · rename_i hk
      split at h
      · have e : p = .notNone := by
          cases p <;> first | rfl | (cases hk; done)
        subst e
        have q := (M.e (H0 := H0) c hi h).v
        refine ⟨?_, ?_⟩
        · rw [ev_o1]
          exact de_notN q
        · unfold tru
          rw [ev_o1]
          exact dt_notN q
      · cases h
    · rename_i kk hk
      have e : p = .isI kk := by
        cases p <;> first | (cases hk; done) | skip
        cases hk
        rfl
      subst e
      split at h
      · rename_i cn hc
        have e : kk = .cls cn := by
          cases kk <;> first | (cases hc; done) | skip
          cases hc
          rfl
        subst e
        split at h
        · obtain ⟨h, h7⟩ := and_t h
          obtain ⟨h, h6⟩ := and_t h
          obtain ⟨h, h5⟩ := and_t h
          obtain ⟨h, h4⟩ := and_t h
          obtain ⟨h, h3⟩ := and_t h
          obtain ⟨h1, h2⟩ := and_t h
          obtain rfl := str_eq h1
          obtain ⟨n1, n2, n3⟩ := okN_of h5
          refine .of rfl ?_
          rw [ev_o1]
          exact isiC_ok Tok c (by simpa using h2) (gl_of c h3) (gl_of c h4) h6 n1 (M.e c hi h7).v
        · cases h
      · rename_i hc
        have e : kk = .rowT := by
          cases kk <;> first | rfl | (cases hc; done)
        subst e
        split at h
        · obtain ⟨h, h7⟩ := and_t h
          obtain ⟨h, h6⟩ := and_t h
          obtain ⟨h, h5⟩ := and_t h
          obtain ⟨h, h4⟩ := and_t h
          obtain ⟨h, h3⟩ := and_t h
          obtain ⟨h1, h2⟩ := and_t h
          obtain rfl := str_eq h1
          refine .of rfl ?_
          rw [ev_o1]
          simp only [Bool.or_eq_true, Bool.and_eq_true, beq_iff_eq] at h2
          rcases h2 with ⟨rfl, rfl⟩ | ⟨rfl, rfl⟩
          · exact isiT_ok Tok c (.inl ⟨rfl, rfl⟩) (by first | exact boot_tuple | rfl) (by first | exact boot_list | rfl) (by decide) (by decide) (gl_of c h3) (gl_of c h4) (gl_of c h5) h6 (by decide) (by decide) (by decide) (by decide) (M.e c hi h7).v
          · exact isiT_ok Tok c (.inr ⟨rfl, rfl⟩) (by first | exact boot_list | rfl) (by first | exact boot_tuple | rfl) (by decide) (by decide) (gl_of c h3) (gl_of c h4) (gl_of c h5) h6 (by decide) (by decide) (by decide) (by decide) (M.e c hi h7).v
        · cases h
      · rename_i ty TT hc
        split at h
        · obtain ⟨h, h7⟩ := and_t h
          obtain ⟨h, h6⟩ := and_t h
          obtain ⟨h, h4⟩ := and_t h
          obtain ⟨h, h3⟩ := and_t h
          obtain ⟨h1, h2⟩ := and_t h
          obtain rfl := str_eq h1
          obtain rfl := str_eq h2
          refine .of rfl ?_
          rw [ev_o1]
          have q := (M.e (H0 := H0) (G0 := G0) c hi h7).v
          cases kk <;> first | (cases hc; done) | skip
          all_goals cases hc
          · exact isi_ok Tok c (q := .int) rfl boot_int (by decide) (gl_of c h3) (gl_of c h4) h6 (by decide) (by decide) q
          · exact isi_ok Tok c (q := .bool) rfl (by first | exact boot_bool | rfl) (by decide) (gl_of c h3) (gl_of c h4) h6 (by decide) (by decide) q
          · exact isi_ok Tok c (q := .str) rfl (by first | exact boot_str | rfl) (by decide) (gl_of c h3) (gl_of c h4) h6 (by decide) (by decide) q
          · exact isi_ok Tok c (q := .tuple) rfl (by first | exact boot_tuple | rfl) (by decide) (gl_of c h3) (gl_of c h4) h6 (by decide) (by decide) q
          · exact isi_ok Tok c (q := .list) rfl (by first | exact boot_list | rfl) (by decide) (gl_of c h3) (gl_of c h4) h6 (by decide) (by decide) q
          · exact isi_ok Tok c (q := .dict) rfl (by first | exact boot_dict | rfl) (by decide) (gl_of c h3) (gl_of c h4) h6 (by decide) (by decide) q
        · cases h
    · rename_i hk
      split at h
      · have e : p = .sortedSet := by
          cases p <;> first | rfl | (cases hk; done)
        subst e
        obtain ⟨h, h6⟩ := and_t h
        obtain ⟨h, h5⟩ := and_t h
        obtain ⟨h, h4⟩ := and_t h
        obtain ⟨h, h3⟩ := and_t h
        obtain ⟨h1, h2⟩ := and_t h
        obtain rfl := str_eq h1
        obtain rfl := str_eq h2
        refine .of rfl ?_
        rw [ev_o1]
        exact de_new (sset_ok Tok c (gl_of c h3) (gl_of c h4) h5 (M.e c hi h6).v)
      · cases h
    · rename_i nm rp hk
      split at h
      · obtain ⟨h, h5⟩ := and_t h
        obtain ⟨h, h4⟩ := and_t h
        obtain ⟨h, h3⟩ := and_t h
        obtain ⟨h1, h2⟩ := and_t h
        have hx := str_eq h1
        refine .of rfl (blt_ok Tok c hk hx (gl_of c h2) h3 (fun z => ?_) (M.e c hi h5).v)
        rw [z] at h4
        exact c.gd h4
      · cases h
    · cases h
  | o2 p i j =>
    simp only [mE] at h
    split at h
    · rename_i op hk
      split at h
      · obtain ⟨h, h3⟩ := and_t h
        obtain ⟨h1, h2⟩ := and_t h
        have e := beq_iff_eq.mp h1
        subst e
        refine .of rfl ?_
        rw [ev_o2]
        exact de_op2 (opr_bin g hk) (M.e c hi h2).v (M.e c hi h3).v
      · cases h
    · rename_i op hk
      split at h
      · obtain ⟨h, h4⟩ := and_t h
        obtain ⟨h, h3⟩ := and_t h
        obtain ⟨h1, h2⟩ := and_t h
        have e := beq_iff_eq.mp h1
        subst e
        obtain ⟨o1, o2⟩ := opr_cmp g hk
        have q1 := (M.e (H0 := H0) c hi h3).v
        have q2 := (M.e (H0 := H0) c hi h4).v
        refine ⟨?_, ?_⟩
        · rw [ev_o2]
          exact de_cmp2 o1 q1 q2 (by simpa using h2)
        · unfold tru
          rw [ev_o2]
          exact dt_cmp2 o1 o2 q1 q2 (by simpa using h2)
      · cases h
    · rename_i hk
      split at h
      · obtain ⟨h, h3⟩ := and_t h
        obtain ⟨h1, h2⟩ := and_t h
        have e : p = .idx := by
          cases p <;> first | rfl | (cases hk; done)
        subst e
        refine .of rfl ?_
        rw [ev_o2]
        exact de_idx g (M.e c hi h2).v (M.e c hi h3).v (plain_ix h1)
      · cases h
    · cases h
  | index i j =>
    simp only [mE] at h
    split at h
    · rename_i o m apos b pos
      obtain ⟨h, h6⟩ := and_t h
      obtain ⟨h, h5⟩ := and_t h
      obtain ⟨h, h4⟩ := and_t h
      obtain ⟨h, h3⟩ := and_t h
      obtain ⟨h1, h2⟩ := and_t h
      obtain rfl := str_eq h1
      refine .of rfl ?_
      rw [ev_index]
      exact index_ok g (M.e c hi h5).v (M.e c hi h6).v h2 h3 h4
    · cases h
  | sl i l hh =>
    simp only [mE] at h
    split at h
    · obtain ⟨h, h3⟩ := and_t h
      obtain ⟨h1, h2⟩ := and_t h
      refine .of rfl ?_
      rw [ev_sl]
      exact de_slice g (M.e c hi h1).v (M.o c hi h2) (M.o c hi h3)
    · cases h
  | chain p q i j l =>
    simp only [mE] at h
    split at h
    · obtain ⟨h, h6⟩ := and_t h
      obtain ⟨h, h5⟩ := and_t h
      obtain ⟨h, h4⟩ := and_t h
      obtain ⟨h, h3⟩ := and_t h
      obtain ⟨h1, h2⟩ := and_t h
      obtain ⟨o1, b1⟩ := opr_cmp g (p2Cmp_of h1)
      obtain ⟨o2, b2⟩ := opr_cmp g (p2Cmp_of h2)
      have q1 := (M.e (H0 := H0) c hi h4).v
      have q2 := (M.e (H0 := H0) c hi h5).v
      have q3 := (M.e (H0 := H0) c hi h6).v
      refine ⟨?_, ?_⟩
      · rw [ev_chain]
        exact de_chain o1 o2 b1 q1 q2 q3 (by simpa using h3)
      · rw [ev_chain]
        exact dt_chain o1 o2 b1 b2 q1 q2 q3 (by simpa using h3)
    · cases h
  | andE i j =>
    simp only [mE] at h
    split at h
    · obtain ⟨h1, h2⟩ := and_t h
      have q1 := M.e (H0 := H0) (G0 := G0) c hi h1
      have q2 := M.e (H0 := H0) (G0 := G0) c hi h2
      refine ⟨?_, ?_⟩
      · rw [ev_and]
        exact de_and q1.v ⟨fun pins s' σ H Q I z => BoolOp_one (q2.v.run pins s' σ H Q I z)⟩
      · rw [ev_and]
        exact (dw_and q1.t (pw_and1 q2.t)).pt
    · obtain ⟨h1, h2⟩ := and_t h
      have q1 := M.e (H0 := H0) (G0 := G0) c hi h1
      have q2 := M.e (H0 := H0) (G0 := G0) c hi h2
      refine ⟨?_, ?_⟩
      · rw [ev_and]
        exact de_and q1.v q2.v
      · rw [ev_and]
        refine (dw_and q1.t ⟨fun wh pins s' σ H Q I z => ?_⟩).pt
        have y := q2.t.run pins s' σ H Q I z
        exact y
    · cases h
  | orE i j =>
    simp only [mE] at h
    split at h
    · obtain ⟨h1, h2⟩ := and_t h
      have q1 := M.e (H0 := H0) (G0 := G0) c hi h1
      have q2 := M.e (H0 := H0) (G0 := G0) c hi h2
      refine ⟨?_, ?_⟩
      · rw [ev_or]
        exact de_or q1.v ⟨fun pins s' σ H Q I z => BoolOp_one (q2.v.run pins s' σ H Q I z)⟩
      · rw [ev_or]
        exact (dw_or q1.t (pw_or1 q2.t)).pt
    · obtain ⟨h1, h2⟩ := and_t h
      have q1 := M.e (H0 := H0) (G0 := G0) c hi h1
      have q2 := M.e (H0 := H0) (G0 := G0) c hi h2
      refine ⟨?_, ?_⟩
      · rw [ev_or]
        exact de_or q1.v q2.v
      · rw [ev_or]
        refine (dw_or q1.t ⟨fun wh pins s' σ H Q I z => ?_⟩).pt
        have y := q2.t.run pins s' σ H Q I z
        exact y
    · cases h
  | notE i =>
    simp only [mE] at h
    split at h
    · have q := M.e (H0 := H0) (G0 := G0) c hi h
      refine ⟨?_, ?_⟩
      · rw [ev_not]
        exact de_not q.v
      · rw [ev_not]
        exact dt_not q.t
    · cases h
  | ite i j l =>
    simp only [mE] at h
    split at h
    · obtain ⟨h, h3⟩ := and_t h
      obtain ⟨h1, h2⟩ := and_t h
      have q1 := M.e (H0 := H0) (G0 := G0) c hi h1
      have q2 := M.e (H0 := H0) (G0 := G0) c hi h2
      have q3 := M.e (H0 := H0) (G0 := G0) c hi h3
      refine ⟨?_, ?_⟩
      · rw [ev_ite]
        exact de_ite q1.t q2.v q3.v
      · rw [ev_ite]
        exact dt_ite q1.t q2.t q3.t
    · cases h
  | lc own t it ts i =>
    simp only [mE] at h
    split at h
    · refine .of rfl ?_
      rw [ev_lc]
      exact de_new (lc_case M c hi h)
    · cases h
  | refused i =>
    simp only [mE] at h
    split at h
    · obtain ⟨h, h7⟩ := and_t h
      obtain ⟨h, h6⟩ := and_t h
      obtain ⟨h, h5⟩ := and_t h
      obtain ⟨h, h4⟩ := and_t h
      obtain ⟨h, h3⟩ := and_t h
      obtain ⟨h1, h2⟩ := and_t h
      obtain rfl := str_eq h2
      obtain ⟨n1, n2, n3⟩ := okN_of h3
      obtain ⟨m1, m2, m3⟩ := okN_of h4
      obtain ⟨tab, r1, r2, r3⟩ := c.lam h1
      obtain ⟨ws, D0, ew⟩ := Tok.ref
      refine .of rfl ?_
      rw [ev_refused, ew]
      rw [← c.eK, ← c.em] at D0
      obtain ⟨k', rfl⟩ : ∃ k', k = k' + 2 := ⟨k - 2, by omega⟩
      exact de_refused D0 tab (gl_of c h5) g.room (by rw [c.sc]; exact lam_ok h6) rfl (fun _ _ _ _ _ => rfl) (fun A outer s0 H E' fa c' hr => (M.e (ctx_lam c h6 A outer s0 H E' fa c' (by omega) (by omega) (by omega) hr) hi h7).v) n1 m1 m2
    · cases h
  | borrow is a =>
    simp only [mE] at h
    cases hn : a.isNew with
    | false =>
      have q := M.e (H0 := H0) (G0 := G0) c hi h
      refine ⟨?_, ?_⟩
      · rw [ev_borrow, hn]
        exact de_borrow is q.v
      · rw [ev_borrow, hn]
        exact dt_borrow is q.t
    | true =>
      have hb : newB a = true := by
        cases a <;> first | rfl | (cases hn; done)
      have q := M.new (H0 := H0) (G0 := G0) c hi h hb
      have ee : evN C a = ev C a := by
        funext env r
        cases a <;> first | (cases hn; done) | rfl
      rw [ee] at q
      refine .of (new_plain M h hn) ?_
      rw [ev_borrow, hn]
      exact de_new (dn_borrow is (newLst hn) q)
end
end SW

/-! SwMain6: new lists; iterators; the induction closed. Own work. -/
namespace SW
open PySem PySem.Spec PyProof.Rows L2
section
variable {T : Txt} {W : Wd} {C : Ctx} {P : Program} {w : World} {K : PySem.W.Frag} {mg : Str → Option Value} {base : Heap} {kf km k : Nat} {s : Stt} {X : Cx} {E : XK} {H0 : Hp} {G0 : Bs} {a b : Expr} {f f1 f2 : Env → Row → R D} {pos p2 : Pos}
theorem dn_op2 {op : Operator} {gg : D → D → Option D} (hop : OpR X (binaryOp op) (rP2N W gg)) (ha : PE X a (tF W H0 G0 E f1)) (hb : PE X b (tF W H0 G0 E f2)) :
    PE X (.BinOp a op b pos) (tN W H0 G0 E fun env r => (f1 env r).bind fun d r1 => (f2 env r1).bind fun e r2 => liftO (gg d e) r2) :=
  PE.imp (pe_op hop ha hb) fun σ H Q ⟨G, env, ρ, R, h⟩ => tF_bind R (outN_A h) fun d ρ1 v G1 H1 x dv R1 h1 => tF_bind R1 h1 fun e ρ2 u G2 H2 x2 du R2 h2 => by
    obtain ⟨z, hz, h3⟩ := lift_end h2
    exact ⟨G2, d, e, z, R2.sub, dv.mono x2.mono, du, hz, fun p G' H' ex kp hp hg o => h3 G' H' ex (R2.row.ext kp) p (x.free (x2.free (.inl hp))) hg o⟩
theorem dn_slice {lo hi : Option Expr} {g h : Env → Row → R (Option Int)} (ha : PE X a (tF W H0 G0 E f)) (hl : PO X lo (tO W H0 G0 E g)) (hh : PO X hi (tO W H0 G0 E h)) :
    PE X (.Subscript a (.Slice lo hi none p2) pos) (tN W H0 G0 E fun env r => (f env r).bind fun d r1 => (g env r1).bind fun l r2 => (h env r2).bind fun u r3 => liftO (sliceN d l u) r3) :=
  PE.imp (pe_slice sl_list ha hl hh) fun σ H Q ⟨G, env, ρ, R, q⟩ => tF_bind R (outN_A q) fun d ρ1 v G1 H1 x dv R1 h1 => tO_bind R1 h1 fun l ρ2 G2 H2 x2 R2 h2 => tO_bind R2 h2 fun u ρ3 G3 H3 x3 R3 h3 => by
    obtain ⟨z, hz, h4⟩ := lift_end h3
    have dv := dv.mono (x2.mono.trans x3.mono)
    cases d with
    | lst xs =>
      cases hz
      obtain ⟨p, vs, rfl, hp, aa⟩ := dv.ilst
      refine ⟨p, vs, rfl, SqL.of (R3.sub _ _ hp), fun q hq => ?_⟩
      have gq : G3 q = none := by
        cases e : G3 q with
        | none => rfl
        | some o => rw [R3.sub q o e] at hq; cases hq
      exact h4 _ _ (Ext.scratch R3.sub hq) (R3.row.ext (kept_upd hq)) q (x.free (x2.free (x3.free (.inl hq)))) gq ⟨_, upd_same, aa.cut l u⟩
    | _ => cases hz
theorem main_new (Tok : TxtOk T W C P w K mg base kf km) {n : Nat} (M : MainAt T W C P w K mg base kf km n) (c : CtxOk s W X E P w K mg base kf km k) (hi : s.ini = true ∨ G0.s = none) {e : Expr} {ie : IE} (h : mE T (n + 1) s e ie = true) (hn : newB ie = true) : PE X e (tN W H0 G0 E (evN C ie)) := by
  have g := c.good
  cases ie with
  | lc own t it ts i =>
    simp only [mE] at h
    split at h
    · show PE X _ (tN W H0 G0 E (ev C _))
      rw [ev_lc]
      exact lc_case M c hi h
    · cases h
  | lst is =>
    simp only [mE] at h
    split at h
    · obtain ⟨h1, h2⟩ := and_t h
      show PE X _ (tN W H0 G0 E (ev C _))
      rw [ev_lst]
      exact dn_lst (M.es c hi h2).1 (evs_lim (of_decide_eq_true h1))
    · cases h
  | dnew t =>
    simp only [mE] at h
    split at h
    · show PE X _ (tN W H0 G0 E (ev C _))
      rw [ev_dnew]
      cases t with
      | true => exact dn_dnewT
      | false => exact dn_dnewK
    · cases h
  | borrow is a =>
    simp only [mE] at h
    have hn' : a.isNew = true ∧ newB a = true := by
      cases a <;> first | exact ⟨rfl, rfl⟩ | (cases hn; done)
    have q := M.new (H0 := H0) (G0 := G0) c hi h hn'.2
    have ee : evN C a = ev C a := by
      funext env r
      cases a <;> first | (cases hn; done) | rfl
    rw [ee] at q
    show PE X _ (tN W H0 G0 E (ev C _))
    rw [ev_borrow, hn'.1]
    exact dn_borrow is (newLst hn'.1) q
  | o1 p i =>
    cases p <;> first | (cases hn; done) | skip
    · simp only [mE, p1K] at h
      split at h
      · obtain ⟨h, h5⟩ := and_t h
        obtain ⟨h, h4⟩ := and_t h
        obtain ⟨h, h3⟩ := and_t h
        obtain ⟨h1, h2⟩ := and_t h
        obtain rfl := str_eq h1
        show PE X _ (tN W H0 G0 E (ev C _))
        rw [ev_o1]
        exact dn_callT b_list (gl_of c h2) (bl_mem Tok c (by decide)) (by first | exact boot_list | rfl) (M.e c hi h5).v (by decide) (by decide) (star_cons h3) rfl
      · cases h
    · simp only [mE, p1K] at h
      split at h
      · obtain ⟨h, h5⟩ := and_t h
        obtain ⟨h, h4⟩ := and_t h
        obtain ⟨h, h3⟩ := and_t h
        obtain ⟨h1, h2⟩ := and_t h
        obtain rfl := str_eq h1
        show PE X _ (tN W H0 G0 E (ev C _))
        rw [ev_o1]
        exact dn_call1 (b_sorted g) (gl_of c h2) (bl_mem Tok c (by decide)) (by first | exact boot_sorted | rfl) (M.e c hi h5).v (by decide) (by decide) (star_cons h3) rfl
      · cases h
  | o2 p i j =>
    cases p <;> first | (cases hn; done) | skip
    · simp only [mE, p2K] at h
      split at h
      · obtain ⟨h, h3⟩ := and_t h
        obtain ⟨h1, h2⟩ := and_t h
        have e := beq_iff_eq.mp h1
        subst e
        exact dn_op2 o_addL (M.e c hi h2).v (M.e c hi h3).v
      · cases h
    · simp only [mE, p2K] at h
      split at h
      · obtain ⟨h, h3⟩ := and_t h
        obtain ⟨h1, h2⟩ := and_t h
        have e := beq_iff_eq.mp h1
        subst e
        exact dn_op2 o_mulL (M.e c hi h2).v (M.e c hi h3).v
      · cases h
  | sl i l hh =>
    simp only [mE] at h
    split at h
    · obtain ⟨h, h3⟩ := and_t h
      obtain ⟨h1, h2⟩ := and_t h
      exact dn_slice (M.e c hi h1).v (M.o c hi h2) (M.o c hi h3)
    · cases h
  | _ => cases hn
theorem main_o {n : Nat} (M : MainAt T W C P w K mg base kf km n) (c : CtxOk s W X E P w K mg base kf km k) (hi : s.ini = true ∨ G0.s = none) {e : Option Expr} {i : Option IE} (h : mO T (n + 1) s e i = true) : PO X e (tO W H0 G0 E (evO C i)) := by
  cases i with
  | none =>
    simp only [mO] at h
    cases e with
    | none =>
      rw [evO_none]
      exact do_none
    | some _ => cases h
  | some i =>
    cases e with
    | none => simp only [mO] at h; cases h
    | some e =>
      simp only [mO] at h
      rw [evO_some]
      exact do_some (M.e c hi h).v
theorem main_ts {n : Nat} (M : MainAt T W C P w K mg base kf km n) (c : CtxOk s W X EF P w K mg base kf km k) (hi : s.ini = true ∨ G0.s = none) {es : List Expr} {is : List IE} (h : mTs T (n + 1) s es is = true) : PTs X es (tT W H0 G0 EF (tsts C is)) := by
  match is with
  | [] =>
    simp only [mTs] at h
    cases es with
    | nil => exact ⟨fun pins s' σ H Q I ⟨G, env, ρ, R, q⟩ => pts_nil.run pins s' σ H Q I (by
        rw [tsts_nil] at q
        exact q.end_ R)⟩
    | cons _ _ => cases h
  | [i] =>
    simp only [mTs] at h
    split at h
    · have q := (M.e (H0 := H0) (G0 := G0) c hi h).t
      exact ⟨fun pins s' σ H Q I z => (pts_one q).run pins s' σ H Q I (tsts_one z)⟩
    · cases h
  | _ :: _ :: _ => simp only [mTs] at h; cases h
theorem star1 {env : PySem.Env} {a : Expr} (h : notStar a = true) : starEach [a] env = [(false, eval a env)] := star_cons h
theorem main_i (Tok : TxtOk T W C P w K mg base kf km) {n : Nat} (M : MainAt T W C P w K mg base kf km n) (c : CtxOk s W X E P w K mg base kf km k) (hi : s.ini = true ∨ G0.s = none) {tg e : Expr} {it : IT} (h : mI T (n + 1) s tg e it = true) : PI X tg e (tI W H0 G0 E (evI C it)) := by
  cases it with
  | seq i =>
    simp only [mI] at h
    rw [evI_seq]
    exact di_seq (M.e c hi h).v
  | rng is =>
    simp only [mI] at h
    rw [evI_rng]
    split at h
    · obtain ⟨h, h4⟩ := and_t h
      obtain ⟨h, h3⟩ := and_t h
      obtain ⟨h1, h2⟩ := and_t h
      obtain rfl := str_eq h1
      obtain ⟨q1, q2, q3⟩ := M.es (H0 := H0) (G0 := G0) c hi h4
      exact di_rng1 (gl_of c h2) (bl_mem Tok c (by decide)) q1 (star1 h3) fun env r ds r1 e => by rw [evs_len e, ← q3]; rfl
    · obtain ⟨h, h5⟩ := and_t h
      obtain ⟨h, h4⟩ := and_t h
      obtain ⟨h, h3⟩ := and_t h
      obtain ⟨h1, h2⟩ := and_t h
      obtain rfl := str_eq h1
      obtain ⟨q1, q2, q3⟩ := M.es (H0 := H0) (G0 := G0) c hi h5
      exact di_rng2 (gl_of c h2) (bl_mem Tok c (by decide)) q1 (by rw [star_cons h3, star1 h4]) (star1 h4) fun env r ds r1 e => by rw [evs_len e, ← q3]; rfl
    · obtain ⟨h, h6⟩ := and_t h
      obtain ⟨h, h5⟩ := and_t h
      obtain ⟨h, h4⟩ := and_t h
      obtain ⟨h, h3⟩ := and_t h
      obtain ⟨h1, h2⟩ := and_t h
      obtain rfl := str_eq h1
      obtain ⟨q1, q2, q3⟩ := M.es (H0 := H0) (G0 := G0) c hi h6
      simp only [List.all_cons, Bool.and_eq_true] at q2
      exact di_rng3 (gl_of c h2) (bl_mem Tok c (by decide)) q1 (star_cons h3) (backTo_plain _ _ (by simp only [List.all_cons, Bool.and_eq_true]; exact q2.2)) fun env r ds r1 e => by rw [evs_len e, ← q3]; rfl
    · cases h
  | enum is =>
    simp only [mI] at h
    rw [evI_enum]
    split at h
    · split at h
      · obtain ⟨h, h4⟩ := and_t h
        obtain ⟨h, h3⟩ := and_t h
        obtain ⟨h1, h2⟩ := and_t h
        obtain rfl := str_eq h1
        obtain ⟨q1, q2, q3⟩ := M.es (H0 := H0) (G0 := G0) c hi h4
        exact di_enum (gl_of c h2) (bl_mem Tok c (by decide)) q1 (star1 h3) fun env r ds r1 e => by rw [evs_len e, ← q3]; rfl
      · cases h
    · cases h
  | zip is =>
    simp only [mI] at h
    rw [evI_zip]
    split at h
    · split at h
      · obtain ⟨h, h5⟩ := and_t h
        obtain ⟨h, h4⟩ := and_t h
        obtain ⟨h, h3⟩ := and_t h
        obtain ⟨h1, h2⟩ := and_t h
        obtain rfl := str_eq h1
        obtain ⟨q1, q2, q3⟩ := M.es (H0 := H0) (G0 := G0) c hi h5
        simp only [List.all_cons, Bool.and_eq_true] at q2
        exact di_zip2 (gl_of c h2) (bl_mem Tok c (by decide)) q1 (star_cons h3) (backTo_plain _ _ (by simp only [List.all_cons, Bool.and_eq_true]; exact q2.2)) fun env r ds r1 e => by rw [evs_len e, ← q3]; rfl
      · obtain ⟨h, h6⟩ := and_t h
        obtain ⟨h, h5⟩ := and_t h
        obtain ⟨h, h4⟩ := and_t h
        obtain ⟨h, h3⟩ := and_t h
        obtain ⟨h1, h2⟩ := and_t h
        obtain rfl := str_eq h1
        obtain ⟨q1, q2, q3⟩ := M.es (H0 := H0) (G0 := G0) c hi h6
        simp only [List.all_cons, Bool.and_eq_true] at q2
        exact di_zip3 (gl_of c h2) (bl_mem Tok c (by decide)) q1 (star_cons h3) (backTo_plain _ _ (by simp only [List.all_cons, Bool.and_eq_true]; exact q2.2)) fun env r ds r1 e => by rw [evs_len e, ← q3]; rfl
      · cases h
    · cases h
theorem main_all (Tok : TxtOk T W C P w K mg base kf km) : ∀ n, MainAt T W C P w K mg base kf km n
  | 0 => {
    e := fun c hi => fun h => by cases h
    es := fun c hi => fun h => by cases h
    o := fun c hi => fun h => by cases h
    ts := fun c hi => fun h => by cases h
    new := fun c hi => fun h => by cases h
    i := fun c hi => fun h => by cases h }
  | n + 1 => by
    have M := main_all Tok n
    exact {
      e := fun c hi => fun h => main_e Tok M c hi h
      es := fun c hi => fun h => main_es (fun c hi => fun h => M.e c hi h) (fun c hi => fun h => M.es c hi h) c hi h
      o := fun c hi => fun h => main_o M c hi h
      ts := fun c hi => fun h => main_ts M c hi h
      new := fun c hi => fun h hn => main_new Tok M c hi h hn
      i := fun c hi => fun h => main_i Tok M c hi h }
end
end SW

/-! SwMainS: the induction over statements. Own work. -/
namespace SW
open PySem PySem.Spec PyProof.Rows L2
section
variable (C : Ctx)
theorem ex_asg (tg : Tg) (e : IE) : exS C (.asg tg e) = asgF tg (ev C e) := by
  funext env r
  rw [exS]
theorem ex_asgO (i : Nat) (e : IE) : exS C (.asgO i e) = asgOF i (evN C e) := by
  funext env r
  rw [exS]
theorem ex_par (is : List Nat) (es : List IE) : exS C (.par is es) = parF is (evs C es) := by
  funext env r
  rw [exS]
theorem ex_aug (i : Nat) (p : P2) (e : IE) : exS C (.aug i p e) = augF i p (ev C e) := by
  funext env r
  rw [exS]
theorem ex_setS (i : Nat) (k e : IE) : exS C (.setS i k e) = setSF i (ev C k) (ev C e) := by
  funext env r
  rw [exS]
theorem ex_augS (i : Nat) (k : IE) (p : P2) (e : IE) : exS C (.augS i k p e) = augSF i (ev C k) p (ev C e) := by
  funext env r
  rw [exS]
  all_goals rfl
theorem ex_setF (c i n : Nat) (e : IE) : exS C (.setF c i n e) = setFF c i n (ev C e) := by
  funext env r
  rw [exS]
  all_goals rfl
theorem ex_app (i : Nat) (e : IE) : exS C (.app i e) = appF i (ev C e) := by
  funext env r
  rw [exS]
theorem ex_ext (i : Nat) (e : IE) : exS C (.ext i e) = extF i (ev C e) := by
  funext env r
  rw [exS]
theorem ex_ex (e : IE) : exS C (.ex e) = fun env r => (ev C e env r).then fun _ r1 => .next env r1 := by
  funext env r
  rw [exS]
theorem ex_for (tg : Tg) (it : IT) (b : List IS) (kl : List Nat) : exS C (.for_ tg it b kl) = forF tg (evI C it) (exSs C b) kl := by
  funext env r
  rw [exS]
theorem ex_while (c : IE) (b : List IS) (kl : List Nat) : exS C (.while_ c b kl) = fun env r => whileLoop (tru (ev C c)) (exSs C b) (killE kl) C.fuel env r := by
  funext env r
  rw [exS]
  all_goals rfl
theorem ex_if (c : IE) (a b : List IS) : exS C (.if_ c a b) = ifF (tru (ev C c)) (exSs C a) (exSs C b) := by
  funext env r
  rw [exS]
  all_goals rfl
theorem ex_ret (e : IE) : exS C (.ret e) = fun env r => (ev C e env r).then fun d r1 => .ret d r1 := by
  funext env r
  rw [exS]
theorem ex_raise (c : Nat) (e : IE) : exS C (.raise c e) = fun env r => (ev C e env r).then fun d r1 => .exn c d r1 := by
  funext env r
  rw [exS]
theorem ex_nil : exSs C [] = fun env r => .next env r := by
  funext env r
  rw [exSs]
theorem ex_cons (s : IS) (ss : List IS) : exSs C (s :: ss) = fun env r => (exS C s env r).then (exSs C ss) := by
  funext env r
  rw [exSs]
end
section
variable {T : Txt} {W : Wd} {C : Ctx} {P : Program} {w : World} {K : PySem.W.Frag} {mg : Str → Option Value} {base : Heap} {kf km k : Nat} {s : Stt} {X : Cx} {E : XK} {H0 : Hp} {G0 : Bs}
structure MainS (T : Txt) (W : Wd) (C : Ctx) (P : Program) (w : World) (K : PySem.W.Frag) (mg : Str → Option Value) (base : Heap) (kf km n : Nat) : Prop where
  s : ∀ {s : Stt} {X : Cx} {E : XK} {k : Nat} {H0 : Hp} {G0 : Bs}, CtxOk s W X E P w K mg base kf km k → GoodS W X k E → (s.ini = true ∨ G0.s = none) → ∀ {st : Stmt} {i : IS}, mS T n s st i = true → PS X st (tSt W H0 G0 E (exS C i))
  ss : ∀ {s : Stt} {X : Cx} {E : XK} {k : Nat} {H0 : Hp} {G0 : Bs}, CtxOk s W X E P w K mg base kf km k → GoodS W X k E → (s.ini = true ∨ G0.s = none) → ∀ {st : List Stmt} {i : List IS}, mSs T n s st i = true → PSs X st (tSt W H0 G0 E (exSs C i))
theorem sws_false {v : Expr} {t : Option Expr} {l : Nat} {env : PySem.Env} (h : isComp v = false) : swapsWith v t l env = pure false := by
  cases v <;> first | rfl | (cases h; done)
theorem swl_name {elt : Expr} {gs : List Comprehension} {scope : Scope} {p p2 : Pos} {x : Str} {l : Nat} {env : PySem.Env} : ∃ b : Bool, swapsWith (.ListComp elt gs scope p) (some (.Name x p2)) l env = pure b ∧ (b = true → env.scope.names.lookup x = some .local) := by
  refine ⟨_, rfl, fun h => ?_⟩
  simp only [Bool.and_eq_true] at h
  obtain ⟨⟨⟨_, h1⟩, _⟩, _⟩ := h
  exact (show env.kindOf x = some .local by simpa using h1)
theorem aug_op {op : Operator} {p : P2} (h : augB op p = true) : PIp X op (ipI (augW p)) ∧ InOp X op fun x y H Q => ∃ i j, x = .int i ∧ y = .int j ∧ Q (.int (augW p i j)) H := by
  cases op <;> cases p <;> first | (cases h; done) | skip
  · exact ⟨ip_add, in_add⟩
  · exact ⟨ip_sub, in_sub⟩
theorem raise_mk (Tok : TxtOk T W C P w K mg base kf km) (c : CtxOk s W X E P w K mg base kf km k) {x : Str} {cn : Nat} {p pos : Pos} {e : Expr} {f : Env → Row → R D} (hx : (x, cn) ∈ T.exs) (hg : Gl X x) (hd : (x == ("__debug__" : Str)) = false) (hs : notStar e = true) (he : PE X e (tF W H0 G0 E f)) :
    PMk X (.Call (.Name x p) [e] [] pos) fun σ H Q => tF W H0 G0 E f σ H fun v H1 => ∀ y H2, (∀ a o, H1 a = some o → H2 a = some o) → H1 y = none → H2 y = some (.xd [(Str.ofString "value", v)]) → Q (.ref (W.exA cn)) (some y) H2 := by
  obtain ⟨hm, T0, hno, fI, fd, ps, iC, tI, F1, hb⟩ := Tok.ex x cn hx
  rw [← c.eK] at T0 iC tI hb hno
  rw [← c.ep, ← c.ew, ← c.eK, ← c.em, ← c.eb] at F1
  rw [← c.em] at hm
  have hr : Room (1 + 1) X.A := c.good.room.mono c.rx
  have st : starEach [e] X.env = (false, eval e X.env) :: starEach [] X.env := star_cons hs
  have q := pmk_oex (ds := []) (dvs := []) (p := p) (pos := pos) T0 iC tI F1 hr hb .nil (fun pins σ H s' u s'' I h => by
    obtain ⟨_, _, _, _, _, _, _, _, _, _, _, _, z⟩ := h
    exact z.elim) hg hm (pa_cons he pa_nil st) hd st rfl
  intro pins s' σ H Q I h
  refine q pins s' σ H Q I ?_
  obtain ⟨G, env, ρ, R, h⟩ := h
  refine ⟨G, env, ρ, R, ?_⟩
  cases ef : f env ρ with
  | ok d r1 =>
    rw [ef] at h
    intro v G' H' ex rr dn
    refine ⟨by simp, fun a ha => ?_⟩
    refine ⟨a, v, W.exA cn, H', rfl, T0, hno, ha, rfl, fun dx hdx ne => ⟨rfl, dx, [(Str.ofString "value", v)], upd_same, ?_, hdx, ?_⟩⟩
    · rw [upd_ne ne, upd_same]
    · refine h v G' H' ex rr dn dx _ (fun b o hb => ?_) hdx upd_same
      have nb : b ≠ dx := by
        rintro rfl
        rw [hdx] at hb
        cases hb
      have na : b ≠ a := by
        rintro rfl
        rw [ha] at hb
        cases hb
      rw [upd_ne nb, L2.del_ne na, upd_ne na, upd_ne nb, upd_ne na]
      exact hb
  | exn cc d r1 =>
    rw [ef] at h
    exact h
  | bad =>
    rw [ef] at h
    exact h
theorem setLc0 {n : Nat} (M : MainAt T W C P w K mg base kf km n) (c : CtxOk s W X E P w K mg base kf km k) (hi : s.ini = true ∨ G0.s = none) {x : Str} {j : Nat} {py spos pos : Pos} {elt tg iter : Expr} {ifs : List Expr} {scope : Scope} {own : List (Str × Nat)} {t : Tg} {it : IT} {ts : List IE} {i : IE} (hj : X.N[j]? = some x) (hl : X.env.scope.names.lookup x = some .local)
    (hsw : swapsWith (.ListComp elt [⟨tg, iter, ifs, 0⟩] scope pos) (some (.Name x py)) spos.line X.env = pure true)
    (h : (blkB s.N s.sc scope own && mI T n s tg iter it && mG (s.blk scope) 50 tg t && mTs T n (s.blk scope) ifs ts && mE T n (s.blk scope) elt i && notSet iter && ((tgSlots t).all fun i => (own.map (·.2)).contains i) && (!s.ini || !(own.map (·.2)).contains 0)) = true) :
    PS X (.Assign [.Name x py] (.ListComp elt [⟨tg, iter, ifs, 0⟩] scope pos) spos) (tAsg (tN W H0 G0 E (lcF (own.map (·.2)) t (evI C it) (tsts C ts) (ev C i))) (gName j)) := by
  obtain ⟨h, h8⟩ := and_t h
  obtain ⟨h, h7⟩ := and_t h
  obtain ⟨h, h6⟩ := and_t h
  obtain ⟨h, h5⟩ := and_t h
  obtain ⟨h, h4⟩ := and_t h
  obtain ⟨h, h3⟩ := and_t h
  obtain ⟨h1, h2⟩ := and_t h
  have ok : BlkOk X.N X.env.scope scope own := by
    rw [c.N, c.sc]
    exact blk_ok h1
  have cb : ∀ (s0 : Shared) (H : Hp) (A : Addr) (cl : List (Str × Addr)) (fp : List Addr), CtxOk (s.blk scope) W (X.blk s0 H scope (compEnvC scope cl A X.env) fp) EF P w K mg base kf km k := fun s0 H A cl fp => ctx_blk c h1 s0 H A cl fp
  refine PS.imp (ps_setLc c.good.calm c.good.nd hj hl hsw (M.i (H0 := H0) (G0 := G0) c hi h2) ok (fun s0 H A cl fp => (tg_ok (H0 := H0) (G0 := G0) (cb s0 H A cl fp) hi 50).1 _ _ h3) (fun s0 H A cl fp => M.ts (H0 := H0) (G0 := G0) (cb s0 H A cl fp) hi h4) (fun s0 H A cl fp => (M.e (H0 := H0) (G0 := G0) (cb s0 H A cl fp) hi h5).v) (fun y => ?_)) fun Dn σ H q => ?_
  · cases iter <;> first | rfl | (cases h6; done)
  · refine lc_imp (fun j hj => ?_) tsts_nx ?_ q
    · rw [List.all_eq_true] at h7
      simpa using h7 j hj
    · rcases hi with q | q
      · rw [q] at h8
        right
        simpa using h8
      · exact .inl q
theorem setLc {n : Nat} (Tok : TxtOk T W C P w K mg base kf km) (c : CtxOk s W X E P w K mg base kf km k) (hi : s.ini = true ∨ G0.s = none) {x : Str} {j : Nat} {py spos : Pos} {v : Expr} {i : IE} (hj : X.N[j]? = some x) (hl : X.env.scope.names.lookup x = some .local)
    (hsw : swapsWith v (some (.Name x py)) spos.line X.env = pure true) (h : mE T n s v i = true) (hn : newLc i = true) : PS X (.Assign [.Name x py] v spos) (tAsg (tN W H0 G0 E (ev C i)) (gName j)) := by
  cases n with
  | zero => cases h
  | succ n =>
    cases i with
    | lc own t it ts i =>
      simp only [mE] at h
      split at h
      · rw [ev_lc]
        exact setLc0 (main_all Tok n) c hi hj hl hsw h
      · cases h
    | borrow is a =>
      cases a with
      | lc own t it ts i =>
        simp only [mE] at h
        cases n with
        | zero => cases h
        | succ n =>
          simp only [mE] at h
          split at h
          · refine PS.imp (setLc0 (H0 := H0) (G0 := G0) (C := C) (main_all Tok n) c hi hj hl hsw h) fun Dn σ H q => ?_
            rw [ev_borrow] at q
            have q' := bn_imp (newLst (C := C) (a := .lc own t it ts i) rfl) q
            rw [ev_lc] at q'
            exact q'
          · cases h
      | _ => cases hn
    | _ => cases hn
theorem lc_of {n : Nat} {v : Expr} {i : IE} (h : mE T n s v i = true) (hn : newLc i = true) : ∃ elt gs scope p, v = .ListComp elt gs scope p := by
  cases n with
  | zero => cases h
  | succ n =>
    cases i with
    | lc own t it ts i =>
      simp only [mE] at h
      split at h
      · exact ⟨_, _, _, _, rfl⟩
      · cases h
    | borrow is a =>
      cases a with
      | lc own t it ts i =>
        simp only [mE] at h
        cases n with
        | zero => cases h
        | succ n =>
          simp only [mE] at h
          split at h
          · exact ⟨_, _, _, _, rfl⟩
          · cases h
      | _ => cases hn
    | _ => cases hn
theorem newLc_ev {i : IE} (h : newLc i = true) : evN C i = ev C i := by
  cases i <;> first | (cases h; done) | (funext env r; rfl)
theorem main_s (Tok : TxtOk T W C P w K mg base kf km) {n : Nat} (S : MainS T W C P w K mg base kf km n) (c : CtxOk s W X E P w K mg base kf km k) (gs : GoodS W X k E) (hi : s.ini = true ∨ G0.s = none) {st : Stmt} {i : IS} (h : mS T (n + 1) s st i = true) : PS X st (tSt W H0 G0 E (exS C i)) := by
  have g := c.good
  have M := main_all Tok n
  cases i with
  | asg tg i =>
    simp only [mS] at h
    rw [ex_asg]
    split at h
    · rename_i t v pos
      obtain ⟨h, h4⟩ := and_t h
      obtain ⟨h, h3⟩ := and_t h
      obtain ⟨h1, h2⟩ := and_t h
      have hw : swappedStores [t] v X.env = pure none := swap_ok c.kind (by rw [c.sc]; exact of_decide_eq_true h3)
      have hg := (tg_ok (H0 := H0) (G0 := G0) c hi 50).1 t tg h1
      have he := M.e (H0 := H0) (G0 := G0) c hi h2
      have h1' : (assignEach [t] X.env).map (·.2) = [assign t X.env] := by
        cases t <;> first | rfl | (cases tg <;> cases h1; done)
      by_cases hc : isComp v = true
      · have hn : newLc i = true := by
          rw [hc] at h4
          exact h4
        obtain ⟨elt, gns, scope, p2, rfl⟩ := lc_of h2 hn
        cases t with
        | Name x py =>
          obtain ⟨b, hb, hl⟩ := swl_name (elt := elt) (gs := gns) (scope := scope) (p := p2) (x := x) (p2 := py) (l := pos.line) (env := X.env)
          cases b with
          | false => exact ds_asg he.v hg hb hw h1'
          | true =>
            cases tg with
            | nm j =>
              obtain ⟨l1, l2, l3, l4, l5⟩ := loc_of (G0 := G0) c hi (by simpa [mG] using h1 : locB s x j = true)
              exact PS.imp (setLc Tok c hi l1 (hl rfl) hb h2 hn) fun Dn σ H q => asgN_imp l5 q
            | tp ts => simp [mG] at h1
        | _ => exact ds_asg he.v hg rfl hw h1'
      · exact ds_asg he.v hg (sws_false (by simpa using hc)) hw h1'
    · cases h
  | asgO j i =>
    simp only [mS] at h
    rw [ex_asgO]
    split at h
    · rename_i x py v pos
      obtain ⟨h, h4⟩ := and_t h
      obtain ⟨h, h3⟩ := and_t h
      obtain ⟨h1, h2⟩ := and_t h
      obtain ⟨l1, l2, l3, l4, l5⟩ := loc_of (G0 := G0) c hi h1
      have he := M.new (H0 := H0) (G0 := G0) c hi h3 h2
      by_cases hc : isComp v = true
      · have hn : newLc i = true := by
          rw [hc] at h4
          exact h4
        obtain ⟨elt, gns, scope, p2, rfl⟩ := lc_of h3 hn
        obtain ⟨b, hb, hl⟩ := swl_name (elt := elt) (gs := gns) (scope := scope) (p := p2) (x := x) (p2 := py) (l := pos.line) (env := X.env)
        cases b with
        | false => exact ds_asgO g l5 l1 l3 he hb l4
        | true =>
          rw [newLc_ev hn]
          exact PS.imp (setLc Tok c hi l1 (hl rfl) hb h3 hn) fun Dn σ H q => asgO_imp l5 q
      · exact ds_asgO g l5 l1 l3 he (sws_false (by simpa using hc)) l4
    · cases h
  | par js is =>
    simp only [mS] at h
    rw [ex_par]
    split at h
    · split at h
      · obtain ⟨h, h7⟩ := and_t h
        obtain ⟨h, h6⟩ := and_t h
        obtain ⟨h, h5⟩ := and_t h
        obtain ⟨h, h4⟩ := and_t h
        obtain ⟨h, h3⟩ := and_t h
        obtain ⟨h1, h2⟩ := and_t h
        obtain ⟨l1, l2, l3, l4, l5⟩ := loc_of (G0 := G0) c hi h2
        obtain ⟨m1, m2, m3, m4, m5⟩ := loc_of (G0 := G0) c hi h3
        obtain ⟨q1, q2, q3⟩ := M.es (H0 := H0) (G0 := G0) c hi h7
        have a1 := beq_iff_eq.mp h5
        have a2 := beq_iff_eq.mp h6
        rw [← c.sc] at a1 a2
        refine ds_par2 g ?_ l1 m1 (of_decide_eq_true h4) a1 a2 q1 (swapT_ok c.kind (by rw [c.sc]; exact of_decide_eq_true h1)) rfl fun env r ds r1 e => by rw [evs_len e, ← q3]; rfl
        rcases l5 with z | z
        · exact .inl z
        · rcases m5 with y | y
          · exact .inl y
          · exact .inr ⟨z, y⟩
      · cases h
    · split at h
      · obtain ⟨h, h9⟩ := and_t h
        obtain ⟨h, h8⟩ := and_t h
        obtain ⟨h, h7⟩ := and_t h
        obtain ⟨h, h6⟩ := and_t h
        obtain ⟨h, h5⟩ := and_t h
        obtain ⟨h, h4⟩ := and_t h
        obtain ⟨h, h3⟩ := and_t h
        obtain ⟨h1, h2⟩ := and_t h
        obtain ⟨l1, l2, l3, l4, l5⟩ := loc_of (G0 := G0) c hi h2
        obtain ⟨m1, m2, m3, m4, m5⟩ := loc_of (G0 := G0) c hi h3
        obtain ⟨o1, o2, o3, o4, o5⟩ := loc_of (G0 := G0) c hi h4
        obtain ⟨q1, q2, q3⟩ := M.es (H0 := H0) (G0 := G0) c hi h9
        have a1 := beq_iff_eq.mp h6
        have a2 := beq_iff_eq.mp h7
        have a3 := beq_iff_eq.mp h8
        rw [← c.sc] at a1 a2 a3
        obtain ⟨d1, d2, d3⟩ := of_decide_eq_true h5
        refine ds_par3 g ?_ l1 m1 o1 d1 d2 d3 a1 a2 a3 q1 (swapT_ok c.kind (by rw [c.sc]; exact of_decide_eq_true h1)) rfl fun env r ds r1 e => by rw [evs_len e, ← q3]; rfl
        rcases l5 with z | z
        · exact .inl z
        · rcases m5 with y | y
          · exact .inl y
          · rcases o5 with x | x
            · exact .inl x
            · exact .inr ⟨z, y, x⟩
      · cases h
    · cases h
  | aug j p i =>
    simp only [mS] at h
    rw [ex_aug]
    split at h
    · obtain ⟨h, h3⟩ := and_t h
      obtain ⟨h1, h2⟩ := and_t h
      obtain ⟨l1, l2, l3, l4, l5⟩ := loc_of (G0 := G0) c hi h1
      exact ds_aug g l5 l1 l3 (M.e c hi h3).v (aug_op h2).1 l4
    · cases h
  | setS j i i' =>
    simp only [mS] at h
    rw [ex_setS]
    split at h
    · rename_i x p1 kx p2 v pos
      obtain ⟨h, h4⟩ := and_t h
      obtain ⟨h, h3⟩ := and_t h
      obtain ⟨h1, h2⟩ := and_t h
      obtain ⟨v1, v2, v3⟩ := var_of c h1
      obtain ⟨n1, n2, n3⟩ := okN_of v3
      refine ds_setS g (pe_var v1 v2 n1 n2) (M.e c hi h3).v (M.e c hi h4).v ?_ ?_ ?_ rfl fun u => ?_
      · cases v <;> rfl
      · cases v <;> rfl
      · cases v <;> rfl
      · cases kx <;> first | rfl | (cases h2; done)
    · cases h
  | augS j i p i' =>
    simp only [mS] at h
    rw [ex_augS]
    split at h
    · rename_i x p1 kx p2 op v pos
      obtain ⟨h, h5⟩ := and_t h
      obtain ⟨h, h4⟩ := and_t h
      obtain ⟨h, h3⟩ := and_t h
      obtain ⟨h1, h2⟩ := and_t h
      obtain ⟨v1, v2, v3⟩ := var_of c h1
      obtain ⟨n1, n2, n3⟩ := okN_of v3
      refine ds_augS g (pe_var v1 v2 n1 n2) (M.e c hi h4).v (M.e c hi h5).v (aug_op h3).2 fun ov iv new => ?_
      cases kx <;> first | rfl | (cases h2; done)
    · cases h
  | setF cn j m i =>
    simp only [mS] at h
    rw [ex_setF]
    split at h
    · rename_i x p1 f p2 v pos
      obtain ⟨h, h3⟩ := and_t h
      obtain ⟨h1, h2⟩ := and_t h
      obtain ⟨v1, v2, v3⟩ := var_of c h1
      obtain ⟨n1, n2, n3⟩ := okN_of v3
      refine ds_setF g (pe_var v1 v2 n1 n2) (M.e c hi h3).v (by rw [Tok.fld]; exact of_decide_eq_true h2) ?_
      cases v <;> rfl
    · cases h
  | app j i =>
    simp only [mS] at h
    rw [ex_app]
    split at h
    · obtain ⟨h, h5⟩ := and_t h
      obtain ⟨h, h4⟩ := and_t h
      obtain ⟨h, h3⟩ := and_t h
      obtain ⟨h1, h2⟩ := and_t h
      obtain rfl := str_eq h1
      obtain ⟨v1, v2, v3⟩ := var_of c h2
      obtain ⟨n1, n2, n3⟩ := okN_of v3
      exact ds_app (pe_var v1 v2 n1 n2) (M.e c hi h5).v rfl (by rw [star_cons h3]; rfl) h4 (star_cons h3) rfl
    · cases h
  | ext j i =>
    simp only [mS] at h
    rw [ex_ext]
    split at h
    · obtain ⟨h, h5⟩ := and_t h
      obtain ⟨h, h4⟩ := and_t h
      obtain ⟨h, h3⟩ := and_t h
      obtain ⟨h1, h2⟩ := and_t h
      obtain rfl := str_eq h1
      obtain ⟨v1, v2, v3⟩ := var_of c h2
      obtain ⟨n1, n2, n3⟩ := okN_of v3
      exact ds_ext (pe_var v1 v2 n1 n2) (M.e c hi h5).v rfl (by rw [star_cons h3]; rfl) h4 (star_cons h3) rfl
    · cases h
  | ex i =>
    simp only [mS] at h
    rw [ex_ex]
    split at h
    · obtain ⟨h1, h2⟩ := and_t h
      exact ds_ex (M.e c hi h2).v (sws_false (by simpa using h1))
    · cases h
  | for_ t it b kl =>
    simp only [mS] at h
    rw [ex_for]
    split at h
    · rename_i tg iter body pos
      obtain ⟨h, h4⟩ := and_t h
      obtain ⟨h, h3⟩ := and_t h
      obtain ⟨h1, h2⟩ := and_t h
      refine ds_for gs (M.i c hi h1) (fun F => (tg_ok (G0 := G0.up F) c hi 50).1 _ _ h2) (fun F => S.ss (G0 := G0.up F) c gs hi h3) fun x => ?_
      cases iter <;> first | rfl | (cases h4; done)
    · cases h
  | while_ i b kl =>
    simp only [mS] at h
    rw [ex_while]
    split at h
    · obtain ⟨h1, h2⟩ := and_t h
      exact ds_while gs (M.e c hi h1).t (S.ss c gs hi h2)
    · cases h
  | if_ i ia ib =>
    simp only [mS] at h
    rw [ex_if]
    split at h
    · obtain ⟨h, h3⟩ := and_t h
      obtain ⟨h1, h2⟩ := and_t h
      exact ds_if (M.e c hi h1).t (S.ss c gs hi h2) (S.ss c gs hi h3)
    · cases h
  | ret i =>
    simp only [mS] at h
    rw [ex_ret]
    split at h
    · exact ds_ret (M.e c hi h).v
    · cases h
  | retN =>
    simp only [mS] at h
    rw [show exS C .retN = fun _ r => .ret .non r from by funext env r; rw [exS]]
    split at h
    · exact ds_retN
    · cases h
  | brk =>
    simp only [mS] at h
    rw [show exS C .brk = fun env r => .brk env r from by funext env r; rw [exS]]
    split at h
    · exact ds_brk
    · cases h
  | cont =>
    simp only [mS] at h
    rw [show exS C .cont = fun env r => .cont env r from by funext env r; rw [exS]]
    split at h
    · exact ds_cont
    · cases h
  | pass =>
    simp only [mS] at h
    rw [show exS C .pass = fun env r => .next env r from by funext env r; rw [exS]]
    split at h
    · exact ds_pass
    · exact ds_doc
    · cases h
  | raise cn i =>
    simp only [mS] at h
    rw [ex_raise]
    split at h
    · obtain ⟨h, h5⟩ := and_t h
      obtain ⟨h, h4⟩ := and_t h
      obtain ⟨h, h3⟩ := and_t h
      obtain ⟨h1, h2⟩ := and_t h
      obtain ⟨n1, n2, n3⟩ := okN_of h3
      exact ds_raise gs (raise_mk Tok c (by simpa using h1) (gl_of c h2) n1 h4 (M.e c hi h5).v)
    · cases h
  | freeze is => cases h
  | kill is => cases h
theorem main_ss (Tok : TxtOk T W C P w K mg base kf km) {n : Nat} (S : MainS T W C P w K mg base kf km n) (c : CtxOk s W X E P w K mg base kf km k) (gs : GoodS W X k E) (hi : s.ini = true ∨ G0.s = none) {st : List Stmt} {i : List IS} (h : mSs T (n + 1) s st i = true) : PSs X st (tSt W H0 G0 E (exSs C i)) := by
  cases i with
  | nil =>
    simp only [mSs] at h
    cases st with
    | nil =>
      rw [ex_nil]
      exact ds_nil
    | cons _ _ => cases h
  | cons i is =>
    cases i with
    | freeze js =>
      simp only [mSs] at h
      have e : exSs C (.freeze js :: is) = fun env r => exSs C is (frzE js env) r := by
        funext env r
        rw [exSs, exS]
      rw [e]
      exact ds_frz js (S.ss c gs hi h)
    | kill js =>
      simp only [mSs] at h
      have e : exSs C (.kill js :: is) = fun env r => exSs C is (killE js env) r := by
        funext env r
        rw [exSs, exS]
      rw [e]
      exact ds_kill js (S.ss c gs hi h)
    | _ =>
      simp only [mSs] at h
      split at h
      · obtain ⟨h1, h2⟩ := and_t h
        rw [ex_cons]
        exact ds_cons (S.s c gs hi h1) (S.ss c gs hi h2)
      · cases h
theorem mains (Tok : TxtOk T W C P w K mg base kf km) : ∀ n, MainS T W C P w K mg base kf km n
  | 0 => {
    s := fun c gs hi => fun h => by cases h
    ss := fun c gs hi => fun h => by cases h }
  | n + 1 => by
    have S := mains Tok n
    exact {
      s := fun c gs hi => fun h => main_s Tok S c gs hi h
      ss := fun c gs hi => fun h => main_ss Tok S c gs hi h }
end
end SW

/-! SwTake: the drawing def by hand. Own work. -/
namespace SW
open PySem PySem.Spec PyProof.Rows L2
section
variable {W : Wd} {G H : Hp} {E : XK} {Dn : Ends} {K : PySem.W.Frag} {X : Cx}
/-- row[k] -/
def tRw (K : PySem.W.Frag) (k : Int) : TE := tOp (rIxL K) (tVar 0) (tC (.int k))
/-- row[k] = .. -/
def gRw (k : Int) : TG := gSub (tVar 0) (tC (.int k)) rSetL
def cInt1 : List V → Hp → VK → Prop := fun xs H Q => (∃ i, xs = [.int i] ∧ Q (.int i) H) ∨ ∃ k, xs = [.bl k] ∧ Q (.int (if k then 1 else 0)) H
def tInt (t : TE) : TE := tCB cInt1 (tCons t tNil)
def tMod (a b : TE) : TE := tOp (rI (fun _ j => 0 < j) fun i j => .int (i % j)) a b
def tMul (a b : TE) : TE := tOp (rI CMulW fun i j => .int (i * j)) a b
def tDiv (a b : TE) : TE := tOp (rI CDivW fun i j => .int (i / j)) a b
def tPls (a b : TE) : TE := tOp (rI0 fun i j => .int (i + j)) a b
theorem t_rw {σ : L2.St} {Q : VK} {k : Int} {a : Addr} {xs : List V} {v : V} (h0 : σ[0]? = some (some (.ref a))) (h : H a = some (.lst xs)) (hv : atI xs k = some v) (q : Q v H) : tRw K k σ H Q :=
  ⟨_, h0, _, _, _, _, rfl, rfl, SqL.of h, hv, q⟩
theorem g_rw {σ : L2.St} {Q : L2.St → Hp → Prop} {k : Int} {a : Addr} {xs : List V} {v : V} {j : Nat} (h0 : σ[0]? = some (some (.ref a))) (h : H a = some (.lst xs)) (hj : ixN xs.length k = some j) (q : Q σ (upd H a (.lst (xs.set j v)))) : gRw k v σ H Q :=
  ⟨_, h0, _, _, _, _, rfl, rfl, h, hj, q⟩
theorem t_int {σ : L2.St} {Q : VK} {t : TE} (h : t σ H fun x H1 => ∃ i, x = .int i ∧ Q (.int i) H1) (m : ∀ Q1 Q2 : VK, (∀ x H1, Q1 x H1 → Q2 x H1) → t σ H Q1 → t σ H Q2) : tInt t σ H Q := by
  refine m _ _ (fun x H1 ⟨i, e, q⟩ => ?_) h
  subst e
  exact .inl ⟨i, rfl, q⟩
/-- the row changed -/
theorem Ext.rowed {a : Addr} {xs ys : List V} (s : Sub G H) (hw : W.r = some a) (hg : G a = none) (h : H a = some (.lst xs)) : Ext W G H G (upd H a (.lst ys)) where
  keep := fun b u e n r => by
    rw [upd_ne (fun z => r (by rw [z]; exact hw))]
    exact e
  there := fun b f => by
    by_cases q : b = a
    · subst q
      rcases f with f | ⟨ps, f⟩ <;> rw [upd_same] at f <;> cases f
    · unfold Fr at f
      rw [upd_ne q] at f
      exact f
  sub := fun b u e => by
    rw [upd_ne]
    · exact s b u e
    · rintro rfl
      rw [hg] at e
      cases e
  mono := Sub.refl _
  new := fun b e => .inl e
  tabs := fun t => by
    intro x hx
    obtain ⟨ps, q, r, c⟩ := t x hx
    refine ⟨ps, ?_, r, fun pos cv hc => ?_⟩
    · rw [upd_ne]
      · exact q
      · intro z
        rw [z, h] at q
        cases q
    · obtain ⟨cc, e1, e2⟩ := c pos cv hc
      refine ⟨cc, e1, ?_⟩
      rw [upd_ne]
      · exact e2
      · intro z
        rw [z, h] at e2
        cases e2
  ntb := fun e => e
def tkTest (a b : TE) : TT := tTest (tOp (rI0 fun i j => .bl (decide (j < i))) a b)
def tNum (k : Int) : TE := tC (.int k)
/-- the drawing def's body -/
def tTk (K : PySem.W.Frag) (rLen : List V → Hp → VK → Prop) : TS :=
  tSeq (tIfS (tkTest (tRw K 3) (tNum 0)) (tSeq (tAsg (tMod (tInt (tRw K 3)) (tVar 1)) (gName 2)) (tSeq (tAsg (tDiv (tRw K 3) (tVar 1)) (gRw 3)) (tRet (tVar 2)))) tNext)
  (tSeq (tAsg (tPls (tRw K 1) (tNum 1)) (gRw 1))
  (tSeq (tIfS (tkTest (tRw K 1) (tCB rLen (tCons (tRw K 0) tNil)))
      (tSeq (tAsg (tMod (tInt (tPls (tMul (tRw K 2) (tNum 48271)) (tNum 11))) (tNum 2147483647)) (gRw 2)) (tRet (tMod (tInt (tDiv (tRw K 2) (tNum 7))) (tVar 1)))) tNext)
  (tSeq (tAsg (tOp (rIxL K) (tRw K 0) (tOp (rI0 fun i j => .int (i - j)) (tRw K 1) (tNum 1))) (gName 3))
  (tSeq (tAsg (tMod (tInt (tPls (tPls (tMul (tRw K 2) (tNum 48271)) (tVar 3)) (tNum 11))) (tNum 2147483647)) (gRw 2))
  (tSeq (tIfS (tTest (tOp (rI0 fun i j => .bl (decide (j ≤ i))) (tVar 3) (tOp (rI CPow fun i j => .int (i ^ j.toNat)) (tNum 10) (tNum 18)))) (tAsg (tDiv (tVar 3) (tVar 1)) (gRw 3)) tNext)
    (tRet (tMod (tInt (tVar 3)) (tVar 1))))))))
def takeG (env : Env) (r : Row) : RS := match env with
  | [.sh .row, .sh (.int many), .no, .no] => if r.live ∧ 0 < many ∧ many < 1073741824 then .ret (.int (r.take many).1) (r.take many).2 else .bad
  | _ => .bad
def rwL (W : Wd) (ρ : Row) : List V := [.ref W.scr, .int ρ.i, .int ρ.m, .int ρ.c]
theorem bits_div {i j : Int} {n : Nat} (h : 0 ≤ i) (hj : 0 < j) (hb : Builtin.Int.intBits i ≤ n) : Builtin.Int.intBits (i / j) ≤ n := by
  have h1 : (i / j).natAbs ≤ i.natAbs := by
    have a : 0 ≤ i / j := Int.ediv_nonneg h (by omega)
    have b : i / j ≤ i := Int.ediv_le_self j h
    omega
  unfold Builtin.Int.intBits at hb ⊢
  by_cases z : (i / j) = 0
  · simp [z]
  · have hi : i ≠ 0 := by
      rintro rfl
      simp at z
    have m : (i / j).natAbs.log2 ≤ i.natAbs.log2 := by
      rw [Nat.le_log2 (by omega)]
      exact Nat.le_trans (Nat.log2_self_le (by omega)) h1
    simp_all
    omega
/-- a reading that only answers v -/
def Ev (t : TE) (σ : L2.St) (H : Hp) (v : V) : Prop := ∀ Q : VK, Q v H → t σ H Q
section
variable {σ : L2.St} {a b t : TE} {i j k : Int} {x : Addr} {xs : List V} {v : V} {u : TS} {n : Nat}
theorem tk_num : Ev (tNum k) σ H (.int k) := fun Q q => q
theorem tk_var (h : σ[n]? = some (some v)) : Ev (tVar n) σ H v := fun Q q => ⟨v, h, q⟩
theorem tk_rw (h0 : σ[0]? = some (some (.ref x))) (h : H x = some (.lst xs)) (hv : atI xs k = some v) : Ev (tRw K k) σ H v := fun Q q => t_rw h0 h hv q
theorem tk_mod (ha : Ev a σ H (.int i)) (hb : Ev b σ H (.int j)) (h : 0 < j) : Ev (tMod a b) σ H (.int (i % j)) := fun Q q => ha _ (hb _ ⟨i, j, rfl, rfl, h, q⟩)
theorem tk_mul (ha : Ev a σ H (.int i)) (hb : Ev b σ H (.int j)) (h : CMulW i j) : Ev (tMul a b) σ H (.int (i * j)) := fun Q q => ha _ (hb _ ⟨i, j, rfl, rfl, h, q⟩)
theorem tk_div (ha : Ev a σ H (.int i)) (hb : Ev b σ H (.int j)) (h : CDivW i j) : Ev (tDiv a b) σ H (.int (i / j)) := fun Q q => ha _ (hb _ ⟨i, j, rfl, rfl, h, q⟩)
theorem tk_pls (ha : Ev a σ H (.int i)) (hb : Ev b σ H (.int j)) : Ev (tPls a b) σ H (.int (i + j)) := fun Q q => ha _ (hb _ ⟨i, j, rfl, rfl, q⟩)
theorem tk_int (ha : Ev a σ H (.int i)) : Ev (tInt a) σ H (.int i) := fun Q q => ha _ (.inl ⟨i, rfl, q⟩)
theorem st_nm (h : Ev t σ H v) {D : Ends} (q : u D (σ.set n (some v)) H) : tSeq (tAsg t (gName n)) u D σ H := h _ q
theorem st_rw (h : Ev t σ H v) {D : Ends} (h0 : σ[0]? = some (some (.ref x))) (hx : H x = some (.lst xs)) (hj : ixN xs.length k = some n) (q : u D σ (upd H x (.lst (xs.set n v)))) : tSeq (tAsg t (gRw k)) u D σ H := h _ (g_rw h0 hx hj q)
theorem st_ret (h : Ev t σ H v) {D : Ends} (q : D.rt v H) : tRet t D σ H := h _ q
theorem st_if {tt : TE} {c : Bool} {s1 : TS} {D : Ends} (h : Ev tt σ H (.bl c)) (q : if c = true then s1 { D with nx := u D } σ H else u D σ H) : tSeq (tIfS (tTest tt) s1 tNext) u D σ H := by
  refine h _ ⟨c, rfl, ?_⟩
  cases c <;> exact q
theorem tk_gt (ha : Ev a σ H (.int i)) (hb : Ev b σ H (.int j)) : Ev (tOp (rI0 fun i j => .bl (decide (j < i))) a b) σ H (.bl (decide (j < i))) := fun Q q => ha _ (hb _ ⟨i, j, rfl, rfl, q⟩)
end
theorem upd_twice {H : Hp} {p : Addr} {o u : HO} : upd (upd H p o) p u = upd H p u := by
  funext b
  by_cases e : b = p
  · subst e
    rw [upd_same, upd_same]
  · rw [upd_ne e, upd_ne e, upd_ne e]
theorem tk_ge {σ : L2.St} {a b : TE} {i j : Int} (ha : Ev a σ H (.int i)) (hb : Ev b σ H (.int j)) : Ev (tOp (rI0 fun i j => .bl (decide (j ≤ i))) a b) σ H (.bl (decide (j ≤ i))) := fun Q q => ha _ (hb _ ⟨i, j, rfl, rfl, q⟩)
theorem tk_sub {σ : L2.St} {a b : TE} {i j : Int} (ha : Ev a σ H (.int i)) (hb : Ev b σ H (.int j)) : Ev (tOp (rI0 fun i j => .int (i - j)) a b) σ H (.int (i - j)) := fun Q q => ha _ (hb _ ⟨i, j, rfl, rfl, q⟩)
theorem tk_pow {σ : L2.St} {a b : TE} {i j : Int} (ha : Ev a σ H (.int i)) (hb : Ev b σ H (.int j)) (c : CPow i j) : Ev (tOp (rI CPow fun i j => .int (i ^ j.toNat)) a b) σ H (.int (i ^ j.toNat)) := fun Q q => ha _ (hb _ ⟨i, j, rfl, rfl, c, q⟩)
theorem take_law {y z : Option V} {a : Addr} {many : Int} {ρ : Row} {rLen : List V → Hp → VK → Prop} (hL : ∀ xs H Q, (∃ p ys, xs = [.ref p] ∧ (SqL K H p ys ∨ SqT K H p ys) ∧ Q (.int ys.length) H) → rLen xs H Q)
    (wf : RowWf ρ) (hH : H a = some (.lst (rwL W ρ))) (hs : ∀ xs : List V, SqL K (upd H a (.lst xs)) W.scr (ρ.ns.map V.int)) (hm : 0 < many ∧ many < 1073741824)
    (q : ∀ H' v, v = V.int (ρ.take many).1 → H' = upd H a (.lst (rwL W (ρ.take many).2)) → Dn.rt v H') :
    tTk K rLen Dn [some (.ref a), some (.int many), y, z] H := by
  have cm : ∀ i, CDivW i many := fun i => wide_div (b := 30) hm.1 (by omega) (by decide) (by decide)
  refine st_if (tk_gt (tk_rw rfl hH (v := .int ρ.c) rfl) tk_num) ?_
  by_cases c0 : 0 < ρ.c
  · rw [if_pos (by simpa using c0)]
    refine st_nm (tk_mod (tk_int (tk_rw rfl hH (v := .int ρ.c) rfl)) (tk_var rfl) hm.1) ?_
    refine st_rw (tk_div (tk_rw rfl hH (v := .int ρ.c) rfl) (tk_var rfl) (cm _)) rfl hH (n := 3) rfl ?_
    refine st_ret (tk_var rfl) (q _ _ ?_ ?_)
    · simp [Row.take, c0]
    · simp [Row.take, c0, rwL]
  · rw [if_neg (by simpa using c0)]
    refine st_rw (tk_pls (tk_rw rfl hH (v := .int ρ.i) rfl) tk_num) rfl hH (n := 1) rfl ?_
    have hH1 : upd H a (.lst ((rwL W ρ).set 1 (.int (ρ.i + 1)))) a = some (.lst [.ref W.scr, .int (ρ.i + 1), .int ρ.m, .int ρ.c]) := upd_same
    have el : Ev (tCB rLen (tCons (tRw K 0) tNil)) [some (.ref a), some (.int many), y, z] (upd H a (.lst ((rwL W ρ).set 1 (.int (ρ.i + 1))))) (.int ρ.ns.length) := fun Q q => t_rw rfl hH1 (v := .ref W.scr) rfl (hL _ _ _ ⟨W.scr, _, rfl, .inl (hs _), by simpa using q⟩)
    have mm : CMulW ρ.m 48271 := wide_mul (a := 31) (b := 16) (by have := wf.m0; omega) (by decide) (by decide) (by decide) (by decide)
    refine st_if (tk_gt (tk_rw rfl hH1 (v := .int (ρ.i + 1)) rfl) el) ?_
    by_cases c1 : ρ.i + 1 > ρ.ns.length
    · rw [if_pos (by simpa using c1)]
      refine st_rw (tk_mod (tk_int (tk_pls (tk_mul (tk_rw rfl hH1 (v := .int ρ.m) rfl) tk_num mm) tk_num)) tk_num (by decide)) rfl hH1 (n := 2) rfl ?_
      refine st_ret (tk_mod (tk_int (tk_div (tk_rw rfl upd_same (v := .int ((ρ.m * 48271 + 11) % 2147483647)) rfl) tk_num (wide_div (b := 30) (by decide) (by decide) (by decide) (by decide)))) (tk_var rfl) hm.1) (q _ _ ?_ ?_)
      · simp only [Row.take, if_neg c0, if_pos c1]
      · simp only [Row.take, if_neg c0, if_pos c1, rwL, upd_twice]
        rfl
    · rw [if_neg (by simpa using c1)]
      have h0 := wf.i0
      obtain ⟨n, hn⟩ : ∃ n : Nat, ρ.i = n := ⟨ρ.i.toNat, by omega⟩
      have hlt : n < ρ.ns.length := by omega
      have hc : idxI ρ.ns (ρ.i + 1 - 1) = some ρ.ns[n] := by
        rw [show ρ.i + 1 - 1 = (n : Int) by omega]
        exact atI_nat (List.getElem?_eq_getElem hlt)
      have hc' : atI (ρ.ns.map V.int) (ρ.i + 1 - 1) = some (V.int ρ.ns[n]) := by
        rw [show ρ.i + 1 - 1 = (n : Int) by omega]
        exact atI_nat (by rw [List.getElem?_map, List.getElem?_eq_getElem hlt]; rfl)
      have ec : Ev (tOp (rIxL K) (tRw K 0) (tOp (rI0 fun i j => .int (i - j)) (tRw K 1) (tNum 1))) [some (.ref a), some (.int many), y, z] (upd H a (.lst ((rwL W ρ).set 1 (.int (ρ.i + 1))))) (.int ρ.ns[n]) := fun Q q =>
        tk_rw rfl hH1 (v := .ref W.scr) rfl _ (tk_sub (tk_rw rfl hH1 (v := .int (ρ.i + 1)) rfl) tk_num _ ⟨_, _, _, _, rfl, rfl, hs _, hc', q⟩)
      refine st_nm ec ?_
      refine st_rw (tk_mod (tk_int (tk_pls (tk_pls (tk_mul (tk_rw rfl hH1 (v := .int ρ.m) rfl) tk_num mm) (tk_var rfl)) tk_num)) tk_num (by decide)) rfl hH1 (n := 2) rfl ?_
      refine st_if (tk_ge (tk_var rfl) (tk_pow tk_num tk_num ⟨by decide, by decide, by decide⟩)) ?_
      by_cases c2 : (10 : Int) ^ 18 ≤ ρ.ns[n]
      · rw [if_pos (by simpa using c2)]
        refine (tk_div (tk_var rfl) (tk_var rfl) (cm _)) _ (g_rw rfl upd_same (j := 3) rfl ?_)
        refine st_ret (tk_mod (tk_int (tk_var rfl)) (tk_var rfl) hm.1) (q _ _ ?_ ?_)
        · simp only [Row.take, if_neg c0, if_neg c1, hc, Option.getD_some]
        · simp only [Row.take, if_neg c0, if_neg c1, hc, Option.getD_some, rwL, upd_twice, ge_iff_le, if_pos c2]
          rfl
      · rw [if_neg (by simpa using c2)]
        refine st_ret (tk_mod (tk_int (tk_var rfl)) (tk_var rfl) hm.1) (q _ _ ?_ ?_)
        · simp only [Row.take, if_neg c0, if_neg c1, hc, Option.getD_some]
        · simp only [Row.take, if_neg c0, if_neg c1, hc, Option.getD_some, rwL, upd_twice, ge_iff_le, if_neg c2]
          rfl
theorem take_wf {ρ : Row} {many : Int} (wf : RowWf ρ) (hm : 0 < many) (hl : ρ.live = true) : RowWf (ρ.take many).2 ∧ (ρ.take many).2.live = true ∧ (ρ.take many).2.ns = ρ.ns := by
  unfold Row.take
  split
  · rename_i c0
    refine ⟨⟨wf.len, wf.bits, wf.i0, wf.m0, Int.ediv_nonneg wf.c0.1 (by omega), bits_div wf.c0.1 hm wf.c0.2⟩, hl, rfl⟩
  · split
    · have := wf.i0
      exact ⟨⟨wf.len, wf.bits, by show 0 ≤ ρ.i + 1; omega, ⟨Int.emod_nonneg _ (by decide), Int.emod_lt_of_pos _ (by decide)⟩, wf.c0⟩, hl, rfl⟩
    · rename_i c0 c1
      have h0 := wf.i0
      obtain ⟨n, hn⟩ : ∃ n : Nat, ρ.i = n := ⟨ρ.i.toNat, by omega⟩
      have hlt : n < ρ.ns.length := by omega
      have hc : idxI ρ.ns (ρ.i + 1 - 1) = some ρ.ns[n] := by
        rw [show ρ.i + 1 - 1 = (n : Int) by omega]
        exact atI_nat (List.getElem?_eq_getElem hlt)
      have hb := wf.bits _ (List.getElem_mem hlt)
      refine ⟨⟨wf.len, wf.bits, by show 0 ≤ ρ.i + 1; omega, ⟨Int.emod_nonneg _ (by decide), Int.emod_lt_of_pos _ (by decide)⟩, ?_⟩, hl, rfl⟩
      rw [hc]
      dsimp only [Option.getD_some]
      split
      · rename_i c2
        have h1 : 0 ≤ ρ.ns[n] := Int.le_trans (by decide) c2
        exact ⟨Int.ediv_nonneg h1 (by omega), bits_div h1 hm hb⟩
      · exact wf.c0
theorem take_st {H0 : Hp} {G0 : Bs} {rLen : List V → Hp → VK → Prop} {σ : L2.St} (hL : ∀ xs H Q, (∃ p ys, xs = [.ref p] ∧ (SqL W.K H p ys ∨ SqT W.K H p ys) ∧ Q (.int ys.length) H) → rLen xs H Q)
    (h : tSt W H0 G0 E takeG Dn σ H) : tTk W.K rLen Dn σ H := by
  obtain ⟨G, env, ρ, R, o⟩ := h
  unfold takeG at o
  split at o
  case h_2 => exact o.elim
  rename_i many
  split at o
  case isFalse => exact o.elim
  rename_i hc
  obtain ⟨hl, hm⟩ := hc
  have hr := R.row
  have h0 := R.slot 0
  have h1 := R.slot 1
  have h2 := R.slot 2
  have h3 := R.slot 3
  have hlen := R.len
  obtain ⟨x0, x1, x2, x3, rfl⟩ : ∃ x0 x1 x2 x3, σ = [x0, x1, x2, x3] := by
    match σ, hlen with
    | [a, b, c, d], _ => exact ⟨a, b, c, d, rfl⟩
  cases h0 with
  | sh d0 =>
  cases h1 with
  | sh d1 =>
  obtain ⟨a, rfl, hw⟩ := d0.irow
  cases d1
  obtain ⟨wf, hH, hs⟩ := hr.2 a hw
  have hg := R.nrow a hw
  obtain ⟨wf', hl', hn'⟩ := take_wf wf hm.1 hl
  refine take_law hL wf hH (fun xs => ?_) hm fun H' v ev eh => ?_
  · refine Sub.sqL (fun b u e => ?_) hs
    have e1 := R.ext.sub _ _ (R.base _ _ e)
    rw [upd_ne]
    · exact e1
    · rintro rfl
      rw [R.base _ _ e] at hg
      cases hg
  · subst ev
    subst eh
    have ex : Ext W G H G (upd H a (.lst (rwL W (ρ.take many).2))) := Ext.rowed R.ext.sub hw hg hH
    refine o _ _ _ (R.ext.trans ex) ⟨?_, fun b hb => ?_⟩ (.int _)
    · rw [hl', hw]
      simp
    · rw [hw] at hb
      cases hb
      refine ⟨wf', upd_same, ?_⟩
      rw [hn']
      exact hs
theorem FnX.imp {P : Program} {w : World} {K : PySem.W.Frag} {mg : Str → Option Value} {base : Heap} {gd : Bool} {k : Nat} {f : Addr} {fd : FuncData} {ps : List Str} {sp sp' : Sp} (F : FnX P w K mg base gd k f fd ps sp) (h : ∀ vs H Q E, sp' vs H Q E → sp vs H Q E) : FnX P w K mg base gd k f fd ps sp' :=
  ⟨fun vs H Q E x => F.len vs H Q E (h _ _ _ _ x), fun A outer s H args us vs Q E r g e b v x => F.run A outer s H args us vs Q E r g e b v (h _ _ _ _ x)⟩
theorem taken_eq (d e : D) (r : Row) : takeD [d, e] r = ended (takeG [.sh d, .sh e, .no, .no] r) := by
  cases d <;> try rfl
  cases e <;> try rfl
  unfold takeD takeG
  dsimp only
  split <;> rfl
theorem taken_sp {vs : List V} {H : Hp} {Q : VK} {E : XK} (h : spF W 2 takeD vs H Q E) : spF W 2 (fun ds r => if ds.length = 2 then ended (takeG (ds.map .sh ++ List.replicate (4 - ds.length) .no) r) else .bad) vs H Q E := by
  obtain ⟨G, ρ, ds, b, sb, r, nr, t, gt, a, l, out⟩ := h
  refine ⟨G, ρ, ds, b, sb, r, nr, t, gt, a, l, ?_⟩
  match ds, l, out with
  | [d, e], _, out =>
    rw [taken_eq] at out
    exact out
end
section
variable {P : Program} {w : World} {K : PySem.W.Frag} {mg : Str → Option Value} {base : Heap} {x qual : Str} {params : Arguments} {body : List Stmt} {scope : Scope} {dvs : List V} {kws : List (Str × V)} {f : Addr} {fd : FuncData} {W : Wd} {N ps : List Str} {k : Nat} {gd : Bool} {rLen : List V → Hp → VK → Prop}
/-- the drawing def -/
theorem fn_taken (F : FunD K x qual params body scope dvs kws f fd) (S : FnScope N ps scope) (hN : N.length = 4) (hp : ps.length = 2) (hL : ∀ xs H Q, (∃ p ys, xs = [.ref p] ∧ (SqL W.K H p ys ∨ SqT W.K H p ys) ∧ Q (.int ys.length) H) → rLen xs H Q)
    (hb : ∀ (cdv : Value) (A : Around) (outer : List PySem.Env) (s : Shared) (H : Hp) (E : XK), PSs (cxOf (CX P w) P w K mg base N qual scope f cdv A outer s H E) body (tTk W.K rLen)) :
    FnX P w K mg base gd (k + 1) f fd ps (spF W 2 takeD) := by
  have h := fnX_of (W := W) (gd := gd) (k := k) (P := P) (w := w) (mg := mg) (base := base) (g := takeG) F S (by omega) fun cdv A outer s H E _ _ _ G0 _ => PSs.imp (hb cdv A outer s H E) fun Dn σ H' q => take_st hL q
  rw [hp, hN] at h
  exact h.imp fun vs H Q E q => taken_sp q
end
end SW

/-! SwProg: the whole text: each def at each depth of calls. Own work. -/
namespace SW
open PySem PySem.Spec PyProof.Rows L2
/-- the table of a def that makes lambdas -/
structure LamF (W : Wd) (K : PySem.W.Frag) (mg : Str → Option Value) (base : Heap) (fa : Addr) (qual : Str) : Prop where
  ex : ∃ c Pt, LamX.TabB base mg c Pt ∧ (∀ oc od osl fdd, K.lookup fa = some ⟨oc, od, .func fdd, osl⟩ → fdd.code = .ref c) ∧ (Pt, qual ++ ".<locals>." ++ "<lambda>") ∈ W.T ∧ ∀ p ∈ W.T, p.1 = Pt → p.2 = qual ++ ".<locals>." ++ "<lambda>"
/-- what the arguments that lack are filled up with -/
structure BindF (W : Wd) (K : PySem.W.Frag) (fda : FuncData) (ps : List Str) (dv : List D) : Prop where
  ex : ∃ ds dvs, Binds K fda ps ds ∧ Vals dvs ds ∧ DenAll W W.B dv dvs
/-- a def of the text and its code -/
structure DefF (T : Txt) (W : Wd) (P : Program) (w : World) (K : PySem.W.Frag) (mg : Str → Option Value) (base : Heap) (f : Nat) (gd ini : Bool) (fd : FD) (bd : Nat → FuncData → List Str → Prop) : Prop where
  ex : ∃ (x qual : Str) (params : Arguments) (body : List Stmt) (scope : Scope) (dvs : List V) (kws : List (Str × V)) (fda : FuncData) (s : Stt) (ps : List Str) (n : Nat), FunD K x qual params body scope dvs kws (W.fnA f) fda ∧ FnScope s.N ps scope ∧ s.sc = scope ∧ (s.gd = true → gd = true) ∧ s.ini = ini ∧
    (s.lam = true → ini = false ∧ LamF W K mg base (W.fnA f) qual) ∧ ps.length = fd.np ∧ s.N.length = fd.sz ∧ fd.np ≤ fd.sz ∧ mSs T n s body fd.body = true ∧ ∀ m, bd m fda ps
section
variable {T : Txt} {W : Wd} {C : Ctx} {P : Program} {w : World} {K : PySem.W.Frag} {mg : Str → Option Value} {base : Heap} {kf km k : Nat} {f : Nat} {gd : Bool} {fd : FD} {bd : Nat → FuncData → List Str → Prop}
theorem fnX_bad {fa : Addr} {fda : FuncData} {ps : List Str} {np : Nat} (h : ps.length = np) : FnX P w K mg base gd 0 fa fda ps (spF W np fun _ _ => .bad) :=
  ⟨fun vs H Q E ⟨G, ρ, ds, _, _, _, _, _, _, a, l, _⟩ => by rw [← a.length, l, h], fun A outer s H args us vs Q E _ _ _ _ _ ⟨_, _, _, _, _, _, _, _, _, _, _, o⟩ => o.elim⟩
theorem fnI_bad {fa : Addr} {fda : FuncData} {ps : List Str} {np c : Nat} (h : ps.length = np) : FnOk P w K mg base (CX P w) 0 fa fda ps (spI W np c fun _ _ => .bad) :=
  ⟨fun vs H Q E ⟨x, dx, us, Hb, G, ρ, ds, ev, _, _, _, _, _, _, _, _, _, _, _, a, l, _⟩ => by rw [ev, List.length_cons, ← a.length, l, h],
    fun A outer s H args us vs Q E _ _ _ _ ⟨_, _, _, _, _, _, _, _, _, _, _, _, _, _, _, _, _, _, _, _, _, o⟩ => o.elim⟩
/-- a def's body is a context of the text -/
theorem ctx_def {s : Stt} {scope : Scope} {ps : List Str} {qual : Str} {fa : Addr} {cdv : Value} {A : Around} {outer : List PySem.Env} {s0 : Shared} {H : Hp} {E : XK} (fx : Facts W) (hK : K = W.K) (S : FnScope s.N ps scope) (hs : s.sc = scope)
    (hr : Room k (A.deeper (envOfC qual scope s0.heap.objs.size fa cdv))) (hg : s.gd = true → (A.deeper (envOfC qual scope s0.heap.objs.size fa cdv)).guards = some []) (h1 : kf ≤ k) (h2 : km + 1 ≤ k) (h3 : 2 ≤ k)
    (hl : s.lam = true → TabF W (cxOf (CX P w) P w K mg base s.N qual scope fa cdv A outer s0 H E) ∧ kf + 2 ≤ k ∧ km + 3 ≤ k ∧ 4 ≤ k) :
    CtxOk s W (cxOf (CX P w) P w K mg base s.N qual scope fa cdv A outer s0 H E) E P w K mg base kf km k where
  good := (cxOf_good fx hK S.nd hr).toGood
  ep := rfl
  ew := rfl
  eK := rfl
  em := rfl
  eb := rfl
  N := rfl
  sc := hs.symm
  kind := S.kind
  fn := fun x _ => rfl
  gd := hg
  pass := passes_call (X := cxOf (CX P w) P w K mg base s.N qual scope fa cdv A outer s0 H E) (takes_of rfl rfl rfl rfl) (fun _ _ _ _ z => z)
  rf := h1
  rm := h2
  rx := h3
  lam := hl
theorem tabF_of {N : List Str} {scope : Scope} {qual : Str} {fa : Addr} {cdv : Value} {A : Around} {outer : List PySem.Env} {s0 : Shared} {H : Hp} {E : XK} (L : LamF W K mg base fa qual) (hc : ∃ oc od osl fdd, K.lookup fa = some ⟨oc, od, .func fdd, osl⟩ ∧ fdd.code = cdv) :
    TabF W (cxOf (CX P w) P w K mg base N qual scope fa cdv A outer s0 H E) := by
  obtain ⟨c, Pt, h1, h2, h3, h4⟩ := L.ex
  obtain ⟨oc, od, osl, fdd, e1, e2⟩ := hc
  refine ⟨c, Pt, h1, ?_, h3, h4⟩
  show cdv = .ref c
  rw [← e2]
  exact h2 _ _ _ _ e1
/-- a def keeps its promise, its callees being such -/
theorem def_ok (Tok : TxtOk T W C P w K mg base kf km) (fx : Facts W) (hK : K = W.K) (D : DefF T W P w K mg base f gd false fd bd) (h1 : kf + 2 ≤ k) (h2 : km + 3 ≤ k) (h3 : 4 ≤ k) :
    ∃ fda ps, ps.length = fd.np ∧ (∀ m, bd m fda ps) ∧ FnX P w K mg base gd (k + 1) (W.fnA f) fda ps (spF W fd.np fun ds r => if ds.length = fd.np then ended (exSs C fd.body (env0 fd ds) r) else .bad) := by
  obtain ⟨x, qual, params, body, scope, dvs, kws, fda, s, ps, n, F, S, hs, hg, hi, hl, e1, e2, e3, hm, hb⟩ := D.ex
  refine ⟨fda, ps, e1, hb, ?_⟩
  have q := fnX_of (W := W) (gd := gd) (k := k) (P := P) (w := w) (mg := mg) (base := base) (g := exSs C fd.body) F S (by omega) fun cdv A outer s0 H E hc hr hgu G0 hG => ?_
  · refine q.imp fun vs H Q E ⟨G, ρ, ds, b, sb, r, nr, t, gt, a, l, out⟩ => ⟨G, ρ, ds, b, sb, r, nr, t, gt, a, by rw [l, e1], ?_⟩
    dsimp only at out ⊢
    rw [if_pos l] at out
    rw [if_pos (l.trans e1.symm)]
    unfold env0 at out
    rw [e2, l]
    exact out
  · have c := ctx_def (P := P) (w := w) (mg := mg) (base := base) (kf := kf) (km := km) (outer := outer) (H := H) (E := E) fx hK S hs hr (fun z => hgu (hg z)) (by omega) (by omega) (by omega) fun z => ⟨tabF_of (hl z).2 hc, h1, h2, h3⟩
    exact (mains Tok n).ss c (cxOf_good fx hK S.nd hr) (.inr hG) hm
theorem ini_ok {c : Nat} (Tok : TxtOk T W C P w K mg base kf km) (fx : Facts W) (hK : K = W.K) (D : DefF T W P w K mg base f false true fd bd) (hp : 0 < fd.np) (h1 : kf ≤ k) (h2 : km + 1 ≤ k) (h3 : 2 ≤ k) :
    ∃ fda ps, ps.length = fd.np ∧ (∀ m, bd m fda ps) ∧ FnOk P w K mg base (CX P w) (k + 1) (W.fnA f) fda ps (spI W fd.np c fun ds r => if ds.length + 1 = fd.np then made (exSs C fd.body (.ow (.ins c []) :: (ds.map .sh ++ List.replicate (fd.sz - fd.np) .no)) r) else .bad) := by
  obtain ⟨x, qual, params, body, scope, dvs, kws, fda, s, ps, n, F, S, hs, hg, hi, hl, e1, e2, e3, hm, hb⟩ := D.ex
  refine ⟨fda, ps, e1, hb, ?_⟩
  have q := fnI_of (W := W) (k := k) (P := P) (w := w) (mg := mg) (base := base) (c := c) (g := exSs C fd.body) F S (by omega) (by omega) fun cdv A outer s0 Hf E hr H G0 => ?_
  · refine q.imp fun vs H Q E ⟨x, dx, us, Hb, G, ρ, ds, y1, y2, y3, y4, y5, y6, y7, y8, y9, y10, y11, y12, a, l, out⟩ => ⟨x, dx, us, Hb, G, ρ, ds, y1, y2, y3, y4, y5, y6, y7, y8, y9, y10, y11, y12, a, by rw [l, e1], ?_⟩
    dsimp only at out ⊢
    rw [if_pos l] at out
    rw [if_pos (l.trans e1.symm)]
    have e4 : s.N.length - (ds.length + 1) = fd.sz - fd.np := by rw [e2, l]
    rw [e4]
    exact out
  · have c := ctx_def (P := P) (w := w) (mg := mg) (base := base) (kf := kf) (km := km) (outer := outer) (H := Hf) (E := E) fx hK S hs hr (fun z => by cases (hg z)) (by omega) (by omega) (by omega) fun z => by cases (hl z).1.symm.trans rfl
    exact (mains Tok n).ss c (cxOf_good fx hK S.nd hr) (.inl hi) hm
end
/-- the facts of the whole text -/
structure PgF (T : Txt) (W : Wd) (Pg : Pg) (P : Program) (w : World) (K : PySem.W.Frag) (mg : Str → Option Value) (base : Heap) : Prop where
  fx : Facts W
  hK : K = W.K
  bl : ∀ x ∈ bltns, mg x = none
  nm : ∀ x f, (x, f) ∈ T.fns → mg x = some (.ref (W.fnA f)) ∧ PySem.W.keepIn K (.ref (W.fnA f)) = true
  ar : ∀ f n, T.ar f n = true → f = fTaken ∨ ∃ fd, Pg.fn f = some fd ∧ DefF T W P w K mg base f (T.gdf f) false fd fun m fda ps => T.ar f m = true → BindF W K fda ps (Pg.dv f m)
  tk : ∃ fda ps, ps.length = 2 ∧ (∀ m, T.ar fTaken m = true → BindF W K fda ps (Pg.dv fTaken m)) ∧ FnX P w K mg base false 1 (W.fnA fTaken) fda ps (spF W 2 takeD)
  has : ∀ f, Pg.has f = true → T.gdf f = false ∧ f ≠ fTaken ∧ PySem.W.keepIn K (.ref (W.fnA f)) = true ∧ ∃ fd m, Pg.fn f = some fd ∧ T.ar f m = true ∧ Pg.dv f m = []
  mkc : ∀ x c, (x, c) ∈ T.cls → mg x = some (.ref (W.clA c)) ∧ c < W.nc
  ini : ∀ x c n, (x, c) ∈ T.cls → T.car c n = true → ∃ g fd, Pg.ini c = some g ∧ Pg.fn g = some fd ∧ 0 < fd.np ∧ Mk K (W.clA c) (W.fnA g) ∧ DefF T W P w K mg base g false true fd fun m fda ps => T.car c m = true → BindF W K fda ps (Pg.idv c m)
  mt : ∀ c m f, (c, m, f) ∈ T.mts → c < W.nc ∧ m ∉ W.fld c ∧ Meth K (W.clA c) m (W.fnA f) ∧ T.gdf f = false
  gl : ∀ i x, T.gls[i]? = some x → ∃ v u, mg x = some u ∧ RelV v u ∧ Den W W.B (Pg.gl i) v
  fld : W.fld = T.fld
  ex : ∀ x c, (x, c) ∈ T.exs → mg x = some (.ref (W.exA c)) ∧ OexC K (W.exA c) ∧ PySem.W.findIn K (.ref (W.exA c)) (Str.ofString "value") = some none ∧
    ∃ fI fd ps, PySem.W.findIn K (.ref (W.exA c)) (Str.ofString "__init__") = some (some (.ref fI)) ∧ PySem.W.typeIn K (.ref fI) = some (.type "function") ∧ FnOk P w K mg base (CX P w) 1 fI fd ps (spX K) ∧ Binds K fd ps []
  ref : ∃ ws, RefD W K mg ws T.refN T.refA ∧ Pg.word = wordOf ws
section
variable {T : Txt} {W : Wd} {Pg : Pg} {P : Program} {w : World} {K : PySem.W.Frag} {mg : Str → Option Value} {base : Heap} {kf km k : Nat} {f : Nat} {gd : Bool} {fd : FD}
/-- what holds of all calls at one depth -/
structure CallsOk (T : Txt) (W : Wd) (Pg : SW.Pg) (P : Program) (w : World) (K : PySem.W.Frag) (mg : Str → Option Value) (base : Heap) (kf : Nat) (run : Nat → List D → Row → R D) : Prop where
  fn : ∀ f n, T.ar f n = true → FnFact W P w K mg base (T.gdf f) kf (W.fnA f) (Pg.dv f n) (run f)
  has : ∀ f, Pg.has f = true → ∃ fd ps np, FnOk P w K mg base (CX P w) kf (W.fnA f) fd ps (spF W np (run f)) ∧ PySem.W.keepIn K (.ref (W.fnA f)) = true ∧ Binds K fd ps [] ∧ ∀ ds r, run f ds r ≠ .bad → ds.length = np
theorem tok_of (F : PgF T W Pg P w K mg base) {run ini : Nat → List D → Row → R D} (c : CallsOk T W Pg P w K mg base kf run)
    (hi : ∀ x c n, (x, c) ∈ T.cls → T.car c n = true → ∃ fa fd ps ds dvs np, Mk K (W.clA c) fa ∧ FnOk P w K mg base (CX P w) km fa fd ps (spI W np c (ini c)) ∧ Binds K fd ps ds ∧ Vals dvs ds ∧ DenAll W W.B (Pg.idv c n) dvs ∧ ∀ ds r, ini c ds r ≠ .bad → ds.length + 1 = np) :
    TxtOk T W (ctx Pg run ini) P w K mg base kf km where
  bl := F.bl
  fn := fun x f h => ⟨(F.nm x f h).1, (F.nm x f h).2, fun n hn => c.fn f n hn⟩
  has := c.has
  mkc := F.mkc
  mka := fun x c n h1 h2 => hi x c n h1 h2
  mt := fun c' m f h => by
    obtain ⟨h1, h2, h3, h4⟩ := F.mt c' m f h
    refine ⟨h1, h2, h3, fun n hn => ?_⟩
    have q := c.fn f n hn
    rw [h4] at q
    exact q
  gl := F.gl
  fld := F.fld
  ex := F.ex
  ref := F.ref
theorem tok_ini0 (F : PgF T W Pg P w K mg base) {run : Nat → List D → Row → R D} (c : CallsOk T W Pg P w K mg base kf run) : TxtOk T W (ctx Pg run fun _ _ _ => .bad) P w K mg base kf 0 :=
  tok_of F c fun x c n h1 h2 => by
    obtain ⟨g, fd, e1, e2, hp, hmk, D⟩ := F.ini x c n h1 h2
    obtain ⟨x, qual, params, body, scope, dvs, kws, fda, s, ps, n', FD, S, hs, hg, hi, hl, q1, q2, q3, hm, hb⟩ := D.ex
    obtain ⟨ds, dvs, b1, b2, b3⟩ := (hb n h2).ex
    exact ⟨_, fda, ps, ds, dvs, ps.length, hmk, fnI_bad rfl, b1, b2, b3, fun ds r z => absurd rfl z⟩
/-- C(..) at one depth -/
theorem tok_ini (F : PgF T W Pg P w K mg base) {run : Nat → List D → Row → R D} (c : CallsOk T W Pg P w K mg base kf run) : TxtOk T W (ctx Pg run (iniF Pg run)) P w K mg base kf (kf + 3) :=
  tok_of F c fun x c' n h1 h2 => by
    obtain ⟨g, fd, e1, e2, hp, hmk, D⟩ := F.ini x c' n h1 h2
    obtain ⟨fda, ps, l, hb, Fi⟩ := ini_ok (c := c') (k := kf + 2) (tok_ini0 F c) F.fx F.hK D hp (by omega) (by omega) (by omega)
    obtain ⟨ds, dvs, b1, b2, b3⟩ := (hb n h2).ex
    have e : (iniF Pg run c') = fun ds r => if ds.length + 1 = fd.np then made (exSs (ctx Pg run fun _ _ _ => .bad) fd.body (.ow (.ins c' []) :: (ds.map .sh ++ List.replicate (fd.sz - fd.np) .no)) r) else .bad := by
      funext ds r
      unfold iniF
      rw [e1]
      dsimp only
      rw [e2]
    rw [e]
    refine ⟨_, fda, ps, ds, dvs, fd.np, hmk, Fi, b1, b2, b3, fun ds r z => ?_⟩
    by_cases q : ds.length + 1 = fd.np
    · exact q
    · exact absurd (if_neg q) z
theorem calls0 (F : PgF T W Pg P w K mg base) : CallsOk T W Pg P w K mg base 0 (runF Pg 0) where
  fn := fun f n hn => by
    rcases F.ar f n hn with rfl | ⟨fd, e, D⟩
    · obtain ⟨fda, ps, l, hb, G⟩ := F.tk
      obtain ⟨ds, dvs, b1, b2, b3⟩ := (hb n hn).ex
      exact ⟨fda, ps, ds, dvs, ps.length, fnX_bad rfl, b1, b2, b3, fun ds r z => absurd rfl z⟩
    · obtain ⟨x, qual, params, body, scope, dvs, kws, fda, s, ps, n', FD, S, hs, hg, hi, hl, q1, q2, q3, hm, hb⟩ := D.ex
      obtain ⟨ds, dvs, b1, b2, b3⟩ := (hb n hn).ex
      exact ⟨fda, ps, ds, dvs, ps.length, fnX_bad rfl, b1, b2, b3, fun ds r z => absurd rfl z⟩
  has := fun f h => by
    obtain ⟨h1, h2, h3, fd, m, e, hm, hd⟩ := F.has f h
    rcases F.ar f m hm with rfl | ⟨fd', e', D⟩
    · exact absurd rfl h2
    · obtain ⟨x, qual, params, body, scope, dvs, kws, fda, s, ps, n', FD, S, hs, hg, hi, hl, q1, q2, q3, hm', hb⟩ := D.ex
      obtain ⟨ds, dvs, b1, b2, b3⟩ := (hb m hm).ex
      rw [hd] at b3
      cases b3
      cases b2
      exact ⟨fda, ps, ps.length, (fnX_bad rfl).ok, h3, b1, fun ds r z => absurd rfl z⟩
theorem run_eq {n : Nat} (e : Pg.fn f = some fd) (h : f ≠ fTaken) : runF Pg (n + 1) f = fun ds r => if ds.length = fd.np then ended (exSs (ctx Pg (runF Pg n) (iniF Pg (runF Pg n))) fd.body (env0 fd ds) r) else .bad := by
  funext ds r
  rw [runF, if_neg h, e]
theorem calls (F : PgF T W Pg P w K mg base) : ∀ n, CallsOk T W Pg P w K mg base (7 * n) (runF Pg n)
  | 0 => calls0 F
  | n + 1 => by
    have Tok := tok_ini F (calls F n)
    have key : ∀ f m, T.ar f m = true → f ≠ fTaken → ∃ fd fda ps, Pg.fn f = some fd ∧ BindF W K fda ps (Pg.dv f m) ∧ FnX P w K mg base (T.gdf f) (7 * (n + 1)) (W.fnA f) fda ps (spF W fd.np (runF Pg (n + 1) f)) := fun f m hm hf => by
      rcases F.ar f m hm with rfl | ⟨fd, e, D⟩
      · exact absurd rfl hf
      · obtain ⟨fda, ps, l, hb, G⟩ := def_ok (k := 7 * n + 6) Tok F.fx F.hK D (by omega) (by omega) (by omega)
        refine ⟨fd, fda, ps, e, hb m hm, ?_⟩
        rw [run_eq e hf]
        exact G.mono (by omega)
    have keyl : ∀ f fd, Pg.fn f = some fd → f ≠ fTaken → ∀ ds r, runF Pg (n + 1) f ds r ≠ .bad → ds.length = fd.np := fun f fd e hf ds r z => by
      rw [run_eq e hf] at z
      by_cases q : ds.length = fd.np
      · exact q
      · exact absurd (if_neg q) z
    exact {
      fn := fun f m hm => by
        by_cases hf : f = fTaken
        · subst hf
          obtain ⟨fda, ps, l, hb, G⟩ := F.tk
          obtain ⟨ds, dvs, b1, b2, b3⟩ := (hb m hm).ex
          have e : runF Pg (n + 1) fTaken = takeD := by
            funext ds r
            rw [runF, if_pos rfl]
          refine ⟨fda, ps, ds, dvs, 2, ?_, b1, b2, b3, fun ds r z => ?_⟩
          · rw [e]
            have G := G.mono (k := 7 * (n + 1)) (by omega)
            cases T.gdf fTaken with
            | true => exact G.gd
            | false => exact G
          · rw [e] at z
            unfold takeD at z
            split at z
            · rfl
            · exact absurd rfl z
        · obtain ⟨fd, fda, ps, e, hb, G⟩ := key f m hm hf
          obtain ⟨ds, dvs, b1, b2, b3⟩ := hb.ex
          exact ⟨fda, ps, ds, dvs, fd.np, G, b1, b2, b3, keyl f fd e hf⟩
      has := fun f h => by
        obtain ⟨h1, h2, h3, fd, m, e, hm, hd⟩ := F.has f h
        obtain ⟨fd', fda, ps, e', hb, G⟩ := key f m hm h2
        obtain ⟨ds, dvs, b1, b2, b3⟩ := hb.ex
        rw [hd] at b3
        cases b3
        cases b2
        rw [h1] at G
        exact ⟨fda, ps, fd'.np, G.ok, h3, b1, keyl f fd' e' h2⟩ }
/-- the facts at one depth -/
theorem tok_at (F : PgF T W Pg P w K mg base) (n : Nat) : TxtOk T W (ctx Pg (runF Pg n) (iniF Pg (runF Pg n))) P w K mg base (7 * n) (7 * n + 3) := tok_ini F (calls F n)
end
end SW

/-! SwLaw: the law's own def: its first statement makes the drawing row, the rest is the evaluator's. Own work. -/
namespace SW
open PySem PySem.Spec PyProof.Rows L2
/-- the script alone, frozen -/
def scrB (H : Hp) (a : Addr) : Hp := fun b => if b = a then (match H a with
  | some (.tbl _) => none
  | o => o) else none
theorem scrB_sub {H : Hp} {a : Addr} : Sub (scrB H a) H := fun b o h => by
  unfold scrB at h
  by_cases c : b = a
  · rw [if_pos c] at h
    rw [c]
    split at h
    · cases h
    · exact h
  · rw [if_neg c] at h
    cases h
theorem scrB_ntb {H : Hp} {a : Addr} : ∀ b ps, scrB H a b ≠ some (.tbl ps) := fun b ps h => by
  unfold scrB at h
  by_cases c : b = a
  · rw [if_pos c] at h
    split at h
    · cases h
    · rename_i q
      exact q _ h
  · rw [if_neg c] at h
    cases h
theorem scrB_sq {K : PySem.W.Frag} {H : Hp} {a : Addr} {vs : List V} (h : SqL K H a vs) : SqL K (scrB H a) a vs := by
  rcases h with h | h
  · refine .inl ?_
    rcases h with h | ⟨o, h⟩
    · refine .inl ?_
      unfold scrB
      rw [if_pos rfl, h]
    · refine .inr ⟨o, ?_⟩
      unfold scrB
      rw [if_pos rfl, h]
  · exact .inr h
@[reducible] def Wd.at (W : Wd) (p a : Addr) (H : Hp) : Wd := { W with r := some p, scr := a, B := scrB H a }
def spLaw (W : Wd) : Sp := fun vs H Q E => ∃ (a : Addr) (ns : List Int), vs = [V.ref a] ∧ ns.length ≤ 63 ∧ (∀ z ∈ ns, Builtin.Int.intBits z ≤ 1048576) ∧ LamX.Tabs W.T H ∧ SqL W.K H a (ns.map V.int) ∧ ∀ H', Q (.bl true) H'
theorem pss_any {ι : Sort _} {X : Cx} {b : List Stmt} {t : ι → TS} (h : ∀ i, PSs X b (t i)) : PSs X b (fun Dn σ H => ∃ i, t i Dn σ H) := ⟨fun pins s σ H Dn I ⟨i, q⟩ => (h i).run pins s σ H Dn I q⟩
/-- the names at the law's second statement -/
def envL (n : Nat) : Env := .no :: .sh .row :: List.replicate (n - 2) .no
theorem envL_get {n i : Nat} : (envL n).getD i .no = if i = 1 then .sh .row else .no := by
  unfold envL
  match i with
  | 0 => rfl
  | 1 => rfl
  | i + 2 =>
    rw [if_neg (by omega), List.getD_eq_getElem?_getD, List.getElem?_cons_succ, List.getElem?_cons_succ, List.getElem?_replicate]
    split <;> rfl
section
variable {T : Txt} {W : Wd} {Pg : Pg} {P : Program} {w : World} {K : PySem.W.Frag} {mg : Str → Option Value} {base : Heap} {x qual : Str} {params : Arguments} {body : List Stmt} {scope : Scope} {dvs : List V} {kws : List (Str × V)} {fa : Addr} {fda : FuncData} {s : Stt} {n : Nat} {is : List IS}
theorem law_run {m0 : Int} {i1 i2 i3 : Nat} {p1 p2 p3 p4 p5 p6 p7 : Pos} {sx rx : Str} {N' : List Str} (F : ∀ p a H, PgF T (W.at p a H) Pg P w K mg base) (FD : FunD K x qual params (.Assign [.Name rx p1] (.List [.Name sx p2, .Constant (.int 0) i1 p3, .Constant (.int m0) i2 p4, .Constant (.int 0) i3 p5] p6) p7 :: body) scope dvs kws fa fda)
    (hN : s.N = sx :: rx :: N') (S : FnScope s.N [sx] scope) (hs : s.sc = scope) (hl : s.lam = true → LamF W K mg base fa qual) (hm : mSs T n s body is = true) (hm0 : 0 ≤ m0 ∧ m0 < 2147483647) (hi : s.ini = false) (hx : okN sx = true) (hrx : Loc scope rx) {d : Nat}
    (hev : ∀ ns : List Int, ns.length ≤ 63 → ∃ r', ended (exSs (ctx Pg (runF Pg d) (iniF Pg (runF Pg d))) is (envL s.N.length) ⟨true, ns, 0, m0, 0⟩) = .ok (.bl true) r') : FnX P w K mg base true (7 * (d + 1)) fa fda [sx] (spLaw W) := by
  refine ⟨fun vs H Q E ⟨a, ns, e, _⟩ => by rw [e]; rfl, fun A outer s0 H args us vs Q E hr hg e0 hbd rv hsp => ?_⟩
  obtain ⟨oc, od, dV, kV, doc, pm, an, cdv, ct, osl, rfl, lk, hcd, _, _⟩ := FD.ex
  obtain ⟨a, ns, rfl, h63, hbits, tb, sq, hQ⟩ := hsp
  have hK : K = W.K := (F 0 0 fun _ => none).hK
  have hg' := fun z => guards_deeper (env := envOfC qual scope s0.heap.objs.size fa cdv) (hg z)
  obtain ⟨okd, okc, _⟩ := okN_of hx
  have vis : Vis scope sx := by
    rcases S.par sx (by simp) with q | q
    · exact .inl q
    · exact .inr (.inl q)
  refine LamX.run_ofS (k := 7 * d + 6) lk hcd S hr e0 hbd rv rfl fun hr' => ⟨_, pss_cons (ps_set (i := 1) S.nd (by show s.N[1]? = _; rw [hN]; rfl) hrx (pe_lst (pa_cons (pe_var (i := 0) (by show s.N[0]? = _; rw [hN]; rfl) vis okd okc) (pa_cons pe_int (pa_cons pe_int (pa_cons pe_int pa_nil))))) (by rfl) (.inl rfl)) (pss_any (ι := Addr × Hp) (t := fun i => tSt (W.at i.1 a H) i.2 ⟨scrB H a, none, scrB H a⟩ E (exSs (ctx Pg (runF Pg d) (iniF Pg (runF Pg d))) is)) fun i => ?_), ?_⟩
  · have Fi := F i.1 a H
    have c := ctx_def (W := W.at i.1 a H) (P := P) (w := w) (mg := mg) (base := base) (kf := 7 * d) (km := 7 * d + 3) (outer := outer) (H := H) (E := E) (s0 := s0) (A := A) (fa := fa) (cdv := cdv) (qual := qual) (k := 7 * d + 6) Fi.fx Fi.hK S hs hr' (fun z => hg' rfl) (by omega) (by omega) (by omega) fun z => ⟨tabF_of ⟨(hl z).ex⟩ ⟨oc, od, osl, _, lk, rfl⟩, by omega, by omega, by omega⟩
    exact (mains (tok_at Fi d) n).ss c (cxOf_good Fi.fx Fi.hK S.nd hr') (.inr rfl) hm
  · refine ⟨.ref a, rfl, ?_⟩
    show [V.ref a, .int 0, .int m0, .int 0].length ≤ sizeLine ∧ _
    refine ⟨by rw [sizeLine_eq]; simp, fun p hp => ⟨(p, upd H p (.lst [V.ref a, .int 0, .int m0, .int 0])), scrB H a, envL s.N.length, ⟨true, ns, 0, m0, 0⟩, ?_, ?_⟩⟩
    · exact {
        ext := Ext.refl fun b o h => upd_some hp (scrB_sub b o h)
        base := Sub.refl _
        floor := Sub.refl _
        len := by
          unfold envL
          simp [L2.start, hN]
        slot := fun j => by
          rw [envL_get]
          by_cases c : j = 1
          · rw [if_pos c, c]
            have e : ((L2.start s.N [V.ref a]).set 1 (some (V.ref p)))[1]? = some (some (V.ref p)) := by
              rw [List.getElem?_set_self]
              simp [L2.start, hN]
            rw [e]
            exact .sh (.row rfl)
          · rw [if_neg c]
            exact .no
        apart := fun j l q d e h1 => by
          rw [envL_get] at h1
          split at h1 <;> cases h1
        row := ⟨by simp, fun b hb => by
          cases hb
          exact ⟨⟨by simp; omega, hbits, by simp, hm0, by simp [Builtin.Int.intBits]⟩, upd_same, by
            show SqL W.K (scrB H a) a (ns.map V.int)
            rw [← hK]
            rw [← hK] at sq
            exact scrB_sq sq⟩⟩
        nrow := fun b hb => by
          cases hb
          cases q : scrB H a p with
          | none => rfl
          | some o =>
            rw [scrB_sub _ _ q] at hp
            cases hp
        tabs := tb.ext fun b o q => upd_some hp q
        gnt := scrB_ntb
        self := fun z hz => by cases hz }
    · obtain ⟨r', hr2⟩ := hev ns h63
      cases e : exSs (ctx Pg (runF Pg d) (iniF Pg (runF Pg d))) is (envL s.N.length) ⟨true, ns, 0, m0, 0⟩ with
      | ret v r2 =>
        rw [e] at hr2
        cases hr2
        intro v G1 H1 ex ro dn
        cases dn
        exact hQ H1
      | next _ _ =>
        rw [e] at hr2
        cases hr2
      | brk _ _ =>
        rw [e] at hr2
        cases hr2
      | cont _ _ =>
        rw [e] at hr2
        cases hr2
      | exn _ _ _ =>
        rw [e] at hr2
        cases hr2
      | bad =>
        rw [e] at hr2
        cases hr2
end
end SW

/-! SwEnd: the end of a law: the call of the law's def by the machine. -/
namespace SW
open PySem PySem.Spec PyProof.Rows L2 LamX
/-- the law's call: what a def under a guard promises, the tables of code objects known (HandS.EndTab's proof, turned) -/
theorem law_end {P : Program} {w : World} {K : PySem.W.Frag} {mg mB : Str → Option Value} {k : Nat} {fA a : Addr} {tabs : List (Addr × Addr)} {fd : FuncData} {x : Str} {sp : Sp} {sA : Shared} {vs : List Value} {ns : List Int}
    (inK : K.In sA.heap) (nsM : sA.heap.Ns mainGlobals mg) (nsB : sA.heap.Ns builtinsNs mB) (isB : ∀ x : Str, x ≠ "__name__" → mB x = bootBuiltins x) (noL : sA.heap.NoLimit) (gen0 : sA.gens = #[])
    (tab0 : ∀ p ∈ tabs, sA.heap.get? p.2 = some { cls := .none, data := .fields #[] }) (tabK : ∀ p ∈ tabs, K.lookup p.2 = none) (codeT : ∀ p ∈ tabs, PySem.W.CodeHd sA.heap p.1 p.2)
    (bmod : ∃ (bM : Addr) (oM : Obj), mg "__builtins__" = some (.ref bM) ∧ bM ≠ builtinsNs ∧ sA.heap.get? bM = some oM ∧ oM.cls = .type "module" ∧ oM.dict = some builtinsNs ∧ oM.data = .plain)
    (aAt : sA.heap.get? a = some { cls := .type "list", data := .seq vs.toArray }) (isI : IntsAre vs ns) (lenS : ns.length ≤ sizeLine) (room : Room k callerA)
    (prom : ∀ base : Heap, K.In base → base.Ns mainGlobals mg → (∀ p ∈ tabs, LamX.TabB base mg p.1 p.2) → FnX P w K mg base true k fA fd [x] sp) (bnds : ∀ (s : Shared) (u : Value), BindsTo s fd ⟨[u], []⟩ [(x, u)])
    (wish : ∀ H : Hp, (∀ p ∈ tabs, H p.2 = some (.tbl #[])) → SqL K H a (ns.map V.int) → sp [.ref a] H (fun v _ => v = .bl true) fun _ _ _ => False) :
    codeAny (model P w) callerA (.call (.ref fA) ⟨[.ref a], []⟩) (fun r s' => r = .ok (.ret (.bool true)) ∧ OldK sA.heap s'.heap ∧ s'.os = sA.os ∧ AllBare s'.gens) sA := by
  have rvs := vals_ints isI
  have lenW := isI.length
  have tabAt : ∀ b : Addr, b ∈ tabs.map (·.2) → sA.heap.get? b = some { cls := .none, data := .fields #[] } := fun b nsB => by
    obtain ⟨p, hp, e⟩ := List.mem_map.mp nsB
    rw [← e]
    exact tab0 p hp
  have notT : a ∉ tabs.map (·.2) := fun z => by
    have q := tabAt a z
    rw [aAt] at q
    have zz : Data.seq vs.toArray _ = Data.fields #[] := congrArg Obj.data (Option.some.inj q)
    cases zz
  have inT : ∀ p ∈ tabs, p.2 ∈ tabs.map (·.2) := fun p hp => List.mem_map.mpr ⟨p, hp, rfl⟩
  have main1 : ∀ H : Hp, (∀ p ∈ tabs, H p.2 = some (.tbl #[])) → (∀ b, H b = none ∨ b ∈ tabs.map (·.2) ∨ ∃ o xs, H b = some (.frz o (.lst xs))) → SqL K H a (ns.map V.int) → HOk P w H sA.heap → (∀ b, H b ≠ none → b = a ∨ b ∈ tabs.map (·.2)) → (H a ≠ none → K.lookup a = none) →
      codeAny (model P w) callerA (.call (.ref fA) ⟨[.ref a], []⟩) (fun r s' => r = .ok (.ret (.bool true)) ∧ OldK sA.heap s'.heap ∧ s'.os = sA.os ∧ AllBare s'.gens) sA := by
    intro H tblH kinds sqS okH only1 noK
    have inBase : ∀ {b : Addr} {o : Obj}, sA.heap.get? b = some o → H b = none → (hidT sA.heap H).get? b = some o := fun e n => hidT_get e n
    have freeD : ∀ {b : Addr} {o : Obj}, sA.heap.get? b = some o → (∀ vs n, o.data ≠ .seq vs n) → o.data ≠ .fields #[] → H b = none := fun {b o} e h1 h2 => by
      cases q : H b with
      | none => rfl
      | some u =>
        rcases only1 b (by rw [q]; simp) with e' | e'
        · rw [e', aAt] at e
          cases e
          exact (h1 _ _ rfl).elim
        · rw [tabAt b e'] at e
          cases e
          exact (h2 rfl).elim
    have freeA : ∀ {b : Addr} {o : Obj} {es : Array DictEntry} {ep : Nat}, sA.heap.get? b = some o → o.data = .dict es ep → H b = none := fun {b o es ep} e d => by
      refine freeD e (fun vs n z => ?_) fun z => ?_
      · rw [d] at z
        cases z
      · rw [d] at z
        cases z
    have nsUp : ∀ {b : Addr} {m : Str → Option Value}, sA.heap.Ns b m → (hidT sA.heap H).Ns b m := fun {b m} ⟨o, es, ep, e, d, r⟩ => ⟨o, es, ep, inBase e (freeA e d), d, r⟩
    have kBase : K.In (hidT sA.heap H) := fun b o e => inBase (inK b o e) (by
      cases q : H b with
      | none => rfl
      | some u =>
        rcases only1 b (by rw [q]; simp) with e' | e'
        · rw [e'] at e q
          rw [noK (by rw [q]; simp)] at e
          cases e
        · obtain ⟨pp, hp, ep⟩ := List.mem_map.mp e'
          rw [← ep, tabK pp hp] at e
          cases e)
    have modB : L2.Mod K mg (hidT sA.heap H) := ⟨kBase, nsUp nsM, ⟨mB, nsUp nsB, isB⟩, let ⟨mc, h1, h2⟩ := noL; ⟨mc, nsUp h1, h2⟩⟩
    have tabsB1 : ∀ p ∈ tabs, LamX.TabB (hidT sA.heap H) mg p.1 p.2 := fun p hp => by
      have hTp := tab0 p hp
      refine ⟨?_, ?_, fun z => ?_⟩
      · obtain ⟨o, us, file, tf, flags, tg, inF, text, tt, e1, r1, r2, r3, r4, r5, r6, r7, r8, hne⟩ := codeT p hp
        refine ⟨o, us, file, tf, flags, tg, inF, text, tt, inBase e1 (freeD e1 (fun vs n z => ?_) fun z => ?_), r1, r2, r3, r4, r5, r6, r7, r8, hne⟩
        · rw [r2] at z
          cases z
        · rw [r2] at z
          cases z
          simp at r3
      · obtain ⟨bM, oM, b1, b2, b3, b4, b5, b6⟩ := bmod
        have nG : bM ≠ mainGlobals := fun q => by
          obtain ⟨o, es, ep, e, isD, _⟩ := nsM
          rw [q, e] at b3
          cases b3
          rw [isD] at b6
          cases b6
        have nP : bM ≠ p.2 := fun q => by
          rw [q, hTp] at b3
          cases b3
          cases b6
        refine ⟨bM, oM, b1, b2, nG, nP, inBase b3 (freeD b3 (fun vs n z => ?_) fun z => ?_), b4, b5, b6⟩
        · rw [b6] at z
          cases z
        · rw [b6] at z
          cases z
      · obtain ⟨o, es, ep, e, isD, _⟩ := nsM
        rw [z, hTp] at e
        cases e
        cases isD
    have envB : Env0 P w K mg (hidT sA.heap H) callerA [] sA H := ⟨rfl, modB, fun b o e => of_hidT e, Nat.le_of_eq (hidT_size _ _), trivial, fun b nsB => absurd (show b ∈ ([] : List Addr) from nsB) (by simp), okH, .of_eq gen0⟩
    refine codeAny_mono ((prom _ kBase (nsUp nsM) tabsB1).run callerA [] sA H ⟨[.ref a], []⟩ [.ref a] [.ref a] _ _ room (fun _ => rfl) envB (bnds sA (.ref a)) (.cons rfl .nil) (wish H tblH sqS)) fun r s' h => ?_
    cases r with
    | error e1 =>
      obtain ⟨_, _, _, _, _, _, _, _, _, _, _, _, no⟩ := h
      exact no.elim
    | ok fl =>
      cases fl with
      | next => exact False.elim h
      | brk => exact False.elim h
      | cont => exact False.elim h
      | ret u =>
        obtain ⟨v, H', osE, bareE, unH, hok', r', q⟩ := h
        have q' : v = .bl true := q
        subst q'
        obtain rfl : u = Value.bool true := by exact r'
        have kept1 : ∀ b o, b ∉ tabs.map (·.2) → sA.heap.get? b = some o → s'.heap.get? b = some o := fun b o nb e => by
          cases q : H b with
          | none => exact unH.keep b o e q (by intro z; exact absurd (show b ∈ ([] : List Addr) from z) (by simp)) (by simp)
          | some u =>
            rcases kinds b with z | z | ⟨oM, xs, z⟩
            · rw [q] at z; cases z
            · exact absurd z nb
            · have z2 := unH.frzs b oM _ z
              obtain ⟨e1, _⟩ := okH b _ z
              obtain ⟨e2, _⟩ := hok' b _ z2
              rw [e] at e1; cases e1
              exact e2
        have grew : ∀ p ∈ tabs, ∃ more : Array Value, s'.heap.get? p.2 = some { cls := .none, data := .fields more } := fun p hp => by
          obtain ⟨more, z⟩ := unH.tbls p.2 #[] (tblH p hp)
          exact ⟨_, hok' p.2 _ z⟩
        refine ⟨rfl, ⟨fun b o e => ?_, fun b o e => ?_⟩, osE, bareE⟩
        · by_cases nsB : b ∈ tabs.map (·.2)
          · obtain ⟨p, hp, ep⟩ := List.mem_map.mp nsB
            obtain ⟨more, hm⟩ := grew p hp
            rw [← ep] at e ⊢
            rw [tab0 p hp] at e
            cases e
            exact .inr (.inl ⟨((codeT p hp).tab (tab0 p hp)).isCodeTable, rfl, #[], more, rfl, by rw [Array.empty_append]; exact hm⟩)
          · exact .inl (kept1 b o nsB e)
        · by_cases nsB : b ∈ tabs.map (·.2)
          · obtain ⟨p, hp, ep⟩ := List.mem_map.mp nsB
            obtain ⟨more, hm⟩ := grew p hp
            rw [← ep]
            exact ⟨_, hm⟩
          · exact ⟨o, kept1 b o nsB e⟩
  cases lkA : K.lookup a with
  | some o =>
    have e := inK a o lkA
    rw [aAt] at e
    cases e
    refine main1 (fun b => if b ∈ tabs.map (·.2) then some (.tbl #[]) else none) (fun p hp => if_pos (inT p hp)) (fun b => ?_) (.inr ⟨_, vs.toArray, _, lkA, rfl, rfl, rfl, by rw [List.size_toArray, lenW]; exact lenS, by simpa using rvs⟩) (fun b u z => ?_) (fun b z => ?_) fun z => absurd (show (if a ∈ tabs.map (·.2) then some (HO.tbl #[]) else none) = none from if_neg notT) z
    · by_cases nsB : b ∈ tabs.map (·.2)
      · exact .inr (.inl nsB)
      · exact .inl (if_neg nsB)
    · by_cases nsB : b ∈ tabs.map (·.2)
      · have z' := (if_pos nsB).symm.trans z
        cases z'
        exact tabAt b nsB
      · have z' := (if_neg nsB).symm.trans z
        cases z'
    · by_cases nsB : b ∈ tabs.map (·.2)
      · exact .inr nsB
      · exact absurd (if_neg nsB) z
  | none =>
    refine main1 (fun b => if b = a then some (.frz { cls := .type "list", data := .seq vs.toArray } (.lst (ns.map V.int))) else if b ∈ tabs.map (·.2) then some (.tbl #[]) else none) (fun p hp => (if_neg (show ¬ p.2 = a from fun z => notT (by rw [← z]; exact inT p hp))).trans (if_pos (inT p hp))) (fun b => ?_)
      (.inl (.inr ⟨{ cls := .type "list", data := .seq vs.toArray }, if_pos rfl⟩)) (fun b u z => ?_) (fun b z => ?_) fun _ => lkA
    · by_cases nsB : b = a
      · exact .inr (.inr ⟨_, _, if_pos nsB⟩)
      · by_cases hb2 : b ∈ tabs.map (·.2)
        · exact .inr (.inl hb2)
        · exact .inl ((if_neg nsB).trans (if_neg hb2))
    · by_cases nsB : b = a
      · have z' := (if_pos nsB).symm.trans z
        cases z'
        rw [nsB]
        exact ⟨aAt, by rw [List.length_map]; exact lenS, vs, _, rvs, aAt⟩
      · have z1 := (if_neg nsB).symm.trans z
        by_cases hb2 : b ∈ tabs.map (·.2)
        · have zz := (if_pos hb2).symm.trans z1
          cases zz
          exact tabAt b hb2
        · have zz := (if_neg hb2).symm.trans z1
          cases zz
    · by_cases nsB : b = a
      · exact .inl nsB
      · by_cases hb2 : b ∈ tabs.map (·.2)
        · exact .inr hb2
        · exact absurd ((if_neg nsB).trans (if_neg hb2)) z
/-- the law, its facts told by a Hook -/
theorem walk_end {l : PySem.W.OpenLaw} {n k : Nat} {q : Program} {loose : List Str} {XP : (Str → Option Value) → Heap → Prop} {YP : World → Heap → Prop} {d : DefRec} {x : Str}
    (hn : l.most = some n) (hn2 : n ≤ sizeLine) (hdf : d.params.defaults = []) (hr : Room k callerA)
    (F : ∀ (w : World) (mg : Str → Option Value) (fa : Addr) (h : Heap), YP w h → h.Ns mainGlobals mg → mg d.name = some (.ref fa) → ∃ (K : PySem.W.Frag) (fd : FuncData) (tabs : List (Addr × Addr)) (sp : Sp), K.In h ∧ (∀ p ∈ tabs, h.get? p.2 = some { cls := .none, data := .fields #[] }) ∧ (∀ p ∈ tabs, K.lookup p.2 = none) ∧ (∀ p ∈ tabs, PySem.W.CodeHd h p.1 p.2) ∧
      (∀ (s : Shared) (u : Value), BindsTo s fd ⟨[u], []⟩ [(x, u)]) ∧
      (∀ (H : Hp) (a : Addr) (ns : List Int), ns.length ≤ n → (∀ z ∈ ns, Builtin.Int.intBits z ≤ 1048576) → (∀ p ∈ tabs, H p.2 = some (.tbl #[])) → SqL K H a (ns.map V.int) → sp [.ref a] H (fun v _ => v = .bl true) fun _ _ _ => False) ∧
      ∀ base : Heap, K.In base → base.Ns mainGlobals mg → (∀ p ∈ tabs, LamX.TabB base mg p.1 p.2) → FnX l.prog w K mg base true k fa fd [x] sp) :
    PySem.W.WalkO q loose XP YP l.row.toRowW d [] (fun f vs => PySem.call f vs) := by
  refine Att.attach_callB hn hdf fun w s₀ sA mg mB fA o pm cd doc a vs ns G Y _ _ _ atM obj isI len bits gens => ?_
  obtain ⟨K, fd, tabs, sp, inK, t1, t2, t3, bnd, wish, prom⟩ := F w mg fA _ Y G.T.g atM
  exact law_end inK G.T.g G.T.b G.T.builtins G.T.nolimit gens t1 t2 t3 G.T.bmain obj isI (Nat.le_trans len hn2) hr prom bnd fun H tH sH => wish H a ns len bits tH sH
end SW

/-! SwHead: what the head tells of the text's classes, errors and defs. Own work. -/
namespace SW
open PySem PySem.Spec PyProof.Rows L2
/-- the names of the text -/
structure Tb where
  fnP : List (Nat × He.Defn)
  cls : List Str
  fld : Nat → List Str
  exs : List (Nat × Str)
  lam : List (He.Defn × Str)
@[reducible] def Tb.wd (t : Tb) (K : PySem.W.Frag) : Wd where
  K := K
  fnA := fun f => He.fAd K ((t.fnP.lookup f).getD ("", none))
  clA := fun c => He.ga K (t.cls.getD c "")
  nc := t.cls.length
  fld := t.fld
  exA := fun c => He.ga K ((t.exs.lookup c).getD "")
  T := t.lam.map fun p => ((He.cT K p.1).2, p.2 ++ ".<locals>." ++ "<lambda>")
  r := none
  scr := 0
  B := fun _ => none
def oexB (K : PySem.W.Frag) (C : Addr) : Bool := (match K.lookup C with
  | some ⟨.type "type", dd, .cls cd, sl⟩ => (match cd.mro, sl.toList with
    | .ref C' :: bm, [_, _, _, _, some (.builtin n), _] => decide (C' = C) && (decide (n = "ValueError.__new__") && (!cd.hasDel && (cd.hasDict && PySem.HandSPX.refsVE bm)))
    | _, _ => false)
  | _ => false) && (He.eqO (PySem.W.findIn K (.ref C) "__setattr__") (some (some (.builtin "object.__setattr__"))) && (decide (PySem.W.subIn K (.ref C) (.type "BaseException") = some true) && (decide (PySem.W.typeIn K (.ref C) = some (.type "type")) && PySem.W.keepIn K (.ref C))))
theorem oexB_ok {K : PySem.W.Frag} {C : Addr} (h : oexB K C = true) : OexC K C := by
  unfold oexB at h
  obtain ⟨h1, h⟩ := and_t h
  obtain ⟨h2, h⟩ := and_t h
  obtain ⟨h3, h⟩ := and_t h
  obtain ⟨h4, h5⟩ := and_t h
  refine ⟨?_, He.eqO_ok h2, of_decide_eq_true h3, of_decide_eq_true h4, h5⟩
  split at h1
  · rename_i dd cd sl ho
    split at h1
    · rename_i C' bm k0 k1 k2 k3 n k5 hm hs
      obtain ⟨a1, h1⟩ := and_t h1
      obtain ⟨a2, h1⟩ := and_t h1
      obtain ⟨a3, h1⟩ := and_t h1
      obtain ⟨a4, a5⟩ := and_t h1
      have b1 := of_decide_eq_true a1
      have b2 := of_decide_eq_true a2
      subst b1 b2
      obtain ⟨nm, bs, mro, ns, qn, hd, sn, sb, ab, col, del⟩ := cd
      dsimp only at hm a3 a4
      subst hm
      have b3 : del = false := by simpa using a3
      subst b3
      subst a4
      refine ⟨nm, qn, ns, bs, bm, sn, sb, ab, col, dd, k0, k1, k2, k3, k5, ?_, a5⟩
      rw [ho]
      obtain ⟨l⟩ := sl
      dsimp only at hs
      subst hs
      rfl
    · cases h1
  · cases h1
/-- a class of the text -/
def clsB (t : Tb) (K : PySem.W.Frag) (c : Nat) : Bool :=
  (He.Fa.cls (t.cls.getD c "")).ok K && ((He.Fa.mkr (t.cls.getD c "")).ok K && ((t.fld c).all (fun f => (He.Fa.noat (t.cls.getD c "") f).ok K) && (He.eqO (PySem.W.findIn K (.ref ((t.wd K).clA c)) "__class__") (some (some (.builtin "object.__class__"))) &&
  (decide (PySem.W.mroIn K ((t.wd K).clA c) (.type "object") = some true) && ((["NoneType", "bool", "int", "str", "list", "tuple", "dict"].all fun T => decide (PySem.W.kitOne K (.type T) (.ref ((t.wd K).clA c)) = some false)) &&
  ((List.range t.cls.length).all (fun d => decide (PySem.W.kitOne K (.ref ((t.wd K).clA c)) (.ref ((t.wd K).clA d)) = some (c == d))) && (decide (t.fld c).Nodup && decide ((t.fld c).length ≤ 100))))))))
/-- an error of the text -/
def excB (t : Tb) (K : PySem.W.Frag) (c : Nat) : Bool :=
  (He.Fa.glo ((t.exs.lookup c).getD "")).ok K && (oexB K ((t.wd K).exA c) && (L2.xfB K ((t.wd K).exA c) && (He.eqO (PySem.W.findIn K (.ref ((t.wd K).exA c)) (Str.ofString "value")) (some none) && (He.eqO (PySem.W.findIn K (.ref ((t.wd K).exA c)) (Str.ofString "__init__")) (some (some (.ref (He.fAd K ((t.exs.lookup c).getD "", some "__init__"))))) &&
  (decide (PySem.W.typeIn K (.ref (He.fAd K ((t.exs.lookup c).getD "", some "__init__"))) = some (.type "function")) && (t.exs.map (·.1)).all fun d => decide (PySem.W.exmOne K (.ref ((t.wd K).exA c)) (.ref ((t.wd K).exA d)) = some (c == d)))))))
def exB (t : Tb) (K : PySem.W.Frag) : Bool := (List.range t.cls.length).all (clsB t K) && ((t.exs.map (·.1)).all (excB t K) && (decide (t.lam.map fun p => (He.cT K p.1).2).Nodup && (He.eqO (PySem.W.specialIn K (.builtin "object.__class__") "__get__") (some (some (.builtin "getset_descriptor.__get__"))) && decide (PySem.W.takesIn K (.builtin "object.__class__") = some true))))
section
variable {t : Tb} {K : PySem.W.Frag} {mg : Str → Option Value} {base h : Heap}
theorem mem_rg {n c : Nat} (h : c < n) : c ∈ List.range n := List.mem_range.mpr h
theorem exB_cls (h : exB t K = true) {c : Nat} (hc : c < t.cls.length) : clsB t K c = true := by
  unfold exB at h
  exact List.all_eq_true.mp (and_t h).1 c (mem_rg hc)
theorem exB_exc (h : exB t K = true) {c : Nat} (hc : c ∈ t.exs.map (·.1)) : excB t K c = true := by
  unfold exB at h
  exact List.all_eq_true.mp (and_t (and_t h).2).1 c hc
theorem facts_of (h : exB t K = true) : Facts (t.wd K) where
  cls := fun c hc => by
    have q := exB_cls h hc
    unfold exB at h
    obtain ⟨_, h⟩ := and_t h
    obtain ⟨_, h⟩ := and_t h
    obtain ⟨_, h⟩ := and_t h
    obtain ⟨g1, g2⟩ := and_t h
    unfold clsB at q
    obtain ⟨q1, q⟩ := and_t q
    obtain ⟨q2, q⟩ := and_t q
    obtain ⟨q3, q⟩ := and_t q
    obtain ⟨q4, q⟩ := and_t q
    obtain ⟨q5, q⟩ := and_t q
    exact ⟨He.cls_ok q1, He.eqO_ok q4, He.eqO_ok g1, of_decide_eq_true g2, of_decide_eq_true q5⟩
  noat := fun c f hc hff => by
    have q := exB_cls h hc
    unfold clsB at q
    obtain ⟨q1, q⟩ := and_t q
    obtain ⟨q2, q⟩ := and_t q
    obtain ⟨q3, q⟩ := and_t q
    exact He.noat_ok (List.all_eq_true.mp q3 f hff)
  fnd := fun c hc => by
    have q := exB_cls h hc
    unfold clsB at q
    obtain ⟨q1, q⟩ := and_t q
    obtain ⟨q2, q⟩ := and_t q
    obtain ⟨q3, q⟩ := and_t q
    obtain ⟨q4, q⟩ := and_t q
    obtain ⟨q5, q⟩ := and_t q
    obtain ⟨q6, q⟩ := and_t q
    obtain ⟨q7, q⟩ := and_t q
    obtain ⟨q8, q9⟩ := and_t q
    exact ⟨of_decide_eq_true q8, of_decide_eq_true q9⟩
  kit0 := fun c hc T hT => by
    have q := exB_cls h hc
    unfold clsB at q
    obtain ⟨q1, q⟩ := and_t q
    obtain ⟨q2, q⟩ := and_t q
    obtain ⟨q3, q⟩ := and_t q
    obtain ⟨q4, q⟩ := and_t q
    obtain ⟨q5, q⟩ := and_t q
    obtain ⟨q6, q⟩ := and_t q
    exact of_decide_eq_true (List.all_eq_true.mp q6 T hT)
  kitC := fun c d hc hd => by
    have q := exB_cls h hc
    unfold clsB at q
    obtain ⟨q1, q⟩ := and_t q
    obtain ⟨q2, q⟩ := and_t q
    obtain ⟨q3, q⟩ := and_t q
    obtain ⟨q4, q⟩ := and_t q
    obtain ⟨q5, q⟩ := and_t q
    obtain ⟨q6, q⟩ := and_t q
    obtain ⟨q7, q⟩ := and_t q
    exact of_decide_eq_true (List.all_eq_true.mp q7 d (mem_rg hd))
theorem Facts.at {W : Wd} (f : Facts W) (p a : Addr) (H : Hp) : Facts (W.at p a H) := ⟨f.cls, f.noat, f.fnd, f.kit0, f.kitC⟩
/-- C(..)'s __init__ -/
theorem mk_of (h : exB t K = true) {c : Nat} (hc : c < t.cls.length) : Mk K ((t.wd K).clA c) (He.ma K (He.ga K (t.cls.getD c "")) "__init__") := by
  have q := exB_cls h hc
  unfold clsB at q
  obtain ⟨q1, q⟩ := and_t q
  obtain ⟨q2, q⟩ := and_t q
  exact He.mkr_ok q2
/-! ### the errors -/
theorem err_ok {P : Program} {w : World} {qual : Str} {params : Arguments} {scope : Scope} {dvs : List V} {kws : List (Str × V)} {fI : Addr} {fda : FuncData} {p1 p2 p3 p4 : Pos} (F : FunD K "__init__" qual params [.Assign [.Attribute (.Name ("self" : Str) p1) "value" p2] (.Name ("value" : Str) p3) p4] scope dvs kws fI fda)
    (S : FnScope [("self" : Str), ("value" : Str)] [("self" : Str), ("value" : Str)] scope) : FnOk P w K mg base (CX P w) 1 fI fda [("self" : Str), ("value" : Str)] (spX K) := by
  refine F.ok S (fun vs H Q E hh => ?_) (fun cdv A outer s H vs Q E hr hh => ⟨_, pss_one (ps_ost (pe_var (i := 0) rfl ?_ (by decide) (by decide)) (pe_var (i := 1) rfl ?_ (by decide) (by decide))), ?_⟩)
  · obtain ⟨a, v, C, H1, rfl, _⟩ := hh
    rfl
  · rcases S.par ("self" : Str) (by simp) with q | q
    · exact .inl q
    · exact .inr (.inl q)
  · rcases S.par ("value" : Str) (by simp) with q | q
    · exact .inl q
    · exact .inr (.inl q)
  · obtain ⟨a, v, C, H1, rfl, hC, hv, hn, rfl, hQ⟩ := hh
    refine ⟨v, rfl, .ref a, rfl, a, C, rfl, hC, hv, .inl ⟨upd_same, fun dx hdx ne => hQ dx ?_ ne⟩⟩
    rw [upd_ne ne] at hdx
    exact hdx
theorem exc_of {P : Program} {w : World} (hx : exB t K = true) (X : K.In h) (G : h.Ns mainGlobals mg) {c : Nat} (hc : c ∈ t.exs.map (·.1))
    (hd : ∃ fd ps, FnOk P w K mg base (CX P w) 1 (He.fAd K ((t.exs.lookup c).getD "", some "__init__")) fd ps (spX K) ∧ Binds K fd ps []) :
    mg ((t.exs.lookup c).getD "") = some (.ref ((t.wd K).exA c)) ∧ OexC K ((t.wd K).exA c) ∧ PySem.W.findIn K (.ref ((t.wd K).exA c)) (Str.ofString "value") = some none ∧
    ∃ fI fd ps, PySem.W.findIn K (.ref ((t.wd K).exA c)) (Str.ofString "__init__") = some (some (.ref fI)) ∧ PySem.W.typeIn K (.ref fI) = some (.type "function") ∧ FnOk P w K mg base (CX P w) 1 fI fd ps (spX K) ∧ Binds K fd ps [] := by
  have q := exB_exc hx hc
  unfold excB at q
  obtain ⟨q1, q⟩ := and_t q
  obtain ⟨q2, q⟩ := and_t q
  obtain ⟨q3, q⟩ := and_t q
  obtain ⟨q4, q⟩ := and_t q
  obtain ⟨q5, q⟩ := and_t q
  obtain ⟨q6, q⟩ := and_t q
  obtain ⟨fd, ps, F, B⟩ := hd
  exact ⟨He.glo_ok X G q1, oexB_ok q2, He.eqO_ok q4, _, fd, ps, He.eqO_ok q5, of_decide_eq_true q6, F, B⟩
theorem exf_of {sg : Scope} {ws : List (Str × Nat × Str)} (hx : exB t K = true) (X : K.In h) (G : h.Ns mainGlobals mg) (hw : ∀ p ∈ ws, p.2.1 ∈ t.exs.map (·.1) ∧ (t.exs.lookup p.2.1).getD "" = p.1 ∧ sg.names.lookup p.1 = some .globalImplicit ∧ (p.1 == ("__debug__" : Str)) = false) : ExFacts (t.wd K) K mg sg ws where
  gl := fun p hp => by
    obtain ⟨h1, h2, h3, h4⟩ := hw p hp
    have q := exB_exc hx h1
    unfold excB at q
    obtain ⟨q1, q⟩ := and_t q
    refine ⟨h3, h4, ?_⟩
    have q := He.glo_ok X G q1
    rw [h2] at q
    rw [q, ← h2]
  xf := fun p hp => by
    obtain ⟨h1, _⟩ := hw p hp
    have q := exB_exc hx h1
    unfold excB at q
    obtain ⟨q1, q⟩ := and_t q
    obtain ⟨q2, q⟩ := and_t q
    obtain ⟨q3, q⟩ := and_t q
    obtain ⟨q4, q⟩ := and_t q
    exact ⟨L2.xfB_ok q3, He.eqO_ok q4⟩
  mt := fun p hp r hr => by
    obtain ⟨h1, _⟩ := hw p hp
    obtain ⟨h2, _⟩ := hw r hr
    have q := exB_exc hx h1
    unfold excB at q
    obtain ⟨q1, q⟩ := and_t q
    obtain ⟨q2, q⟩ := and_t q
    obtain ⟨q3, q⟩ := and_t q
    obtain ⟨q4, q⟩ := and_t q
    obtain ⟨q5, q⟩ := and_t q
    obtain ⟨q6, q7⟩ := and_t q
    exact of_decide_eq_true (List.all_eq_true.mp q7 r.2.1 h2)
/-! ### the law's asking def, by a Bool -/
def hdB (q : Str × Nat × Str) : ExceptHandler → Bool
  | .ExceptHandler (some (.Name cn _)) (some e) [.Return (some (.Tuple [.Constant (.str w) _ _, .Attribute (.Name e2 _) v _] _ _)) _] _ => decide (cn = q.1) && (decide (e = "e") && (decide (w = q.2.2) && (decide (e2 = "e") && decide (v = "value"))))
  | _ => false
theorem hdB_ok {q : Str × Nat × Str} {h : ExceptHandler} (b : hdB q h = true) : ∃ (j k : Nat) (np p1 p2 p3 p4 p5 p6 : Pos), h = .ExceptHandler (some (.Name q.1 np)) (some "e") [.Return (some (.Tuple [.Constant (.str q.2.2) j p1, .Attribute (.Name "e" p2) "value" p3] k p4)) p5] p6 := by
  unfold hdB at b
  split at b
  · obtain ⟨h1, b⟩ := and_t b
    obtain ⟨h2, b⟩ := and_t b
    obtain ⟨h3, b⟩ := and_t b
    obtain ⟨h4, h5⟩ := and_t b
    rw [of_decide_eq_true h1, of_decide_eq_true h2, of_decide_eq_true h3, of_decide_eq_true h4, of_decide_eq_true h5]
    exact ⟨_, _, _, _, _, _, _, _, _, rfl⟩
  · cases b
def hdsB : List ExceptHandler → List (Str × Nat × Str) → Bool
  | [], [] => true
  | h :: hds, q :: ws => hdB q h && hdsB hds ws
  | _, _ => false
theorem hdsB_ok : ∀ {hds : List ExceptHandler} {ws : List (Str × Nat × Str)}, hdsB hds ws = true → HdMatch hds ws
  | [], [], _ => .nil
  | [], _ :: _, h => by cases h
  | _ :: _, [], h => by cases h
  | x :: hds, (a, c, b) :: ws, h => by
    obtain ⟨h1, h2⟩ := and_t (show (hdB (a, c, b) x && hdsB hds ws) = true from h)
    obtain ⟨j, k, np, p1, p2, p3, p4, p5, p6, rfl⟩ := hdB_ok h1
    exact .cons (hdsB_ok h2)
def refB (a : Str) (ws : List (Str × Nat × Str)) : List Stmt → Bool
  | [.Try [.Expr (.Call (.Name a' _) [] [] _) _] (h₀ :: hds) [] [] _, .Return (some (.Tuple [.Constant (.str z) _ _, .Constant .none _ _] _ _)) _] => decide (a' = a) && (decide (z = Str.ofString "") && hdsB (h₀ :: hds) ws)
  | _ => false
theorem refB_ok {a : Str} {ws : List (Str × Nat × Str)} {b : List Stmt} (h : refB a ws b = true) : ∃ (h₀ : ExceptHandler) (hds : List ExceptHandler) (j1 j2 k1 : Nat) (p1 p2 p3 p4 p5 p6 p7 p8 : Pos),
    b = [.Try [.Expr (.Call (.Name a p1) [] [] p2) p3] (h₀ :: hds) [] [] p4, .Return (some (.Tuple [.Constant (.str (Str.ofString "")) j1 p5, .Constant .none j2 p6] k1 p7)) p8] ∧ HdMatch (h₀ :: hds) ws := by
  unfold refB at h
  split at h
  · obtain ⟨h1, h⟩ := and_t h
    obtain ⟨h2, h3⟩ := and_t h
    rw [of_decide_eq_true h1, of_decide_eq_true h2]
    exact ⟨_, _, _, _, _, _, _, _, _, _, _, _, _, rfl, hdsB_ok h3⟩
  · cases h
theorem refD_of {d : He.DefD} {x a : Str} {ws : List (Str × Nat × Str)} (hF : ∃ fd, FunD K d.name d.qual d.params d.body d.scope (d.dvs K) (d.kws K) (He.fAd K d.at_) fd) (hx : d.name = x ∧ d.qual = x ∧ d.dfl = [] ∧ d.kwd = []) (hm : mg x = some (.ref (He.fAd K d.at_))) (hb : refB a ws d.body = true)
    (bnd : ∀ (kV doc pm : Value) (an : Option Addr) (cdv ct : Value) (us : List Value), us.length = [a].length → bindArgs (PySem.W.fnOf d.name d.qual d.params d.body d.scope .none kV doc pm an cdv ct) ⟨us, []⟩ = pure ([a].zip us))
    (S : FnScope [a, Str.ofString "e"] [a] d.scope) (hv : Vis d.scope a) (he : d.scope.names.lookup (Str.ofString "e") = some .local) (ex : ExFacts (t.wd K) K mg d.scope ws) : RefD (t.wd K) K mg ws x a := by
  obtain ⟨at_, name, qual, params, body, scope, dfl, kwd⟩ := d
  dsimp only at *
  obtain ⟨rfl, rfl, rfl, rfl⟩ := hx
  obtain ⟨fd, F⟩ := hF
  obtain ⟨h₀, hds, j1, j2, k1, p1, p2, p3, p4, p5, p6, p7, p8, rfl, hm2⟩ := refB_ok hb
  exact ⟨_, fd, params, scope, h₀, hds, j1, j2, k1, p1, p2, p3, p4, p5, p6, p7, p8, hm, F, FunD.bindsN F bnd, S, hv, he, hm2, ex⟩
theorem RefD.at {W : Wd} {ws : List (Str × Nat × Str)} {x a : Str} (h : RefD W K mg ws x a) (p q : Addr) (H : Hp) : RefD (W.at p q H) K mg ws x a := by
  obtain ⟨g, fd, params, sg, h₀, hds, j1, j2, k1, p1, p2, p3, p4, p5, p6, p7, p8, hm, F, hb, S, hv, he, hm2, ex⟩ := h.ex
  exact ⟨g, fd, params, sg, h₀, hds, j1, j2, k1, p1, p2, p3, p4, p5, p6, p7, p8, hm, F, hb, S, hv, he, hm2, ⟨ex.gl, ex.xf, ex.mt⟩⟩
/-! ### lambdas' tables -/
theorem lamF_of {p : He.Defn × Str} {fda : FuncData} {x : Str} {params : Arguments} {body : List Stmt} {scope : Scope} {dvs : List V} {kws : List (Str × V)} (hx : exB t K = true) (hp : p ∈ t.lam) (F : FunD K x p.2 params body scope dvs kws (He.fAd K p.1) fda) (hT : LamX.TabB base mg (He.cT K p.1).1 (He.cT K p.1).2) :
    LamF (t.wd K) K mg base (He.fAd K p.1) p.2 := by
  obtain ⟨oc, od, dV, kV, doc, pm, an, cdv, ct, osl, rfl, lk, hcd, _, _⟩ := F.ex
  obtain ⟨c, rfl⟩ := He.codeIn_ref hcd
  have hc := He.codeOf_eq lk rfl
  refine ⟨(He.cT K p.1).1, (He.cT K p.1).2, hT, fun oc' od' osl' fdd e => ?_, List.mem_map.mpr ⟨p, hp, rfl⟩, fun q hq e => ?_⟩
  · rw [lk] at e
    cases e
    show Value.ref c = .ref (He.codeOf K p.1)
    rw [hc]
  · obtain ⟨r, hr, rfl⟩ := List.mem_map.mp hq
    unfold exB at hx
    obtain ⟨_, hx⟩ := and_t hx
    obtain ⟨_, hx⟩ := and_t hx
    obtain ⟨nd, _⟩ := and_t hx
    have nd := of_decide_eq_true nd
    have key : ∀ {l : List (He.Defn × Str)}, (l.map fun p => (He.cT K p.1).2).Nodup → p ∈ l → r ∈ l → (He.cT K r.1).2 = (He.cT K p.1).2 → r = p := by
      intro l
      induction l with
      | nil => intro _ h
               cases h
      | cons z l ih =>
        intro n h1 h2 h3
        rw [List.map_cons, List.nodup_cons] at n
        obtain ⟨n1, n2⟩ := n
        rcases List.mem_cons.mp h1 with e1 | h1
        · rcases List.mem_cons.mp h2 with e2 | h2
          · rw [e1, e2]
          · rw [← e1] at n1
            exact absurd (List.mem_map.mpr ⟨r, h2, h3⟩) n1
        · rcases List.mem_cons.mp h2 with e2 | h2
          · rw [← e2] at n1
            exact absurd (List.mem_map.mpr ⟨p, h1, h3.symm⟩) n1
          · exact ih n2 h1 h2 h3
    rw [key nd hp hr e]
theorem tabs_of {H : Hp} {T : List (Addr × Str)} (h : ∀ p ∈ T, H p.1 = some (.tbl #[])) : LamX.Tabs T H := fun p hp => ⟨#[], h p hp, by first | trivial | exact .nil | simp [TriplesOk], fun pos cv hc => by
  first
  | cases hc
  | simp [codeAmong] at hc⟩
/-! ### a def -/
theorem defF_of {T : Txt} {W : Wd} {P : Program} {w : World} {f : Nat} {gd ini : Bool} {fd : FD} {d : He.DefD} {s : Stt} {ps : List Str} {dv : Nat → List D} {ar : Nat → Bool} (hF : ∃ fda, FunD K d.name d.qual d.params d.body d.scope (d.dvs K) (d.kws K) (He.fAd K d.at_) fda) (hA : W.fnA f = He.fAd K d.at_) (S : FnScope s.N ps d.scope) (hs : s.sc = d.scope)
    (hg : s.gd = true → gd = true) (hi : s.ini = ini) (hl : s.lam = true → ini = false ∧ ∀ fda, FunD K d.name d.qual d.params d.body d.scope (d.dvs K) (d.kws K) (He.fAd K d.at_) fda → LamF W K mg base (He.fAd K d.at_) d.qual) (e : ps.length = fd.np ∧ s.N.length = fd.sz ∧ fd.np ≤ fd.sz) {n : Nat} (hm : mSs T n s d.body fd.body = true)
    (hb : ∀ fda, FunD K d.name d.qual d.params d.body d.scope (d.dvs K) (d.kws K) (He.fAd K d.at_) fda → ∃ ds, Vals [] ds ∧ Binds K fda ps ds) (hdv : ∀ m, ar m = true → dv m = []) :
    DefF T W P w K mg base f gd ini fd fun m fda ps => ar m = true → BindF W K fda ps (dv m) := by
  obtain ⟨fda, F⟩ := hF
  refine ⟨d.name, d.qual, d.params, d.body, d.scope, d.dvs K, d.kws K, fda, s, ps, n, by rw [hA]; exact F, S, hs, hg, hi, fun z => ⟨(hl z).1, by rw [hA]; exact (hl z).2 fda F⟩, e.1, e.2.1, e.2.2, hm, fun m hm => ?_⟩
  obtain ⟨ds, v, b⟩ := hb fda F
  rw [hdv m hm]
  exact ⟨ds, [], b, v, .nil⟩
end
/-! ### the names of the text, by a Bool -/
def glB1 (t : Tb) (K : PySem.W.Frag) (x : Str) : D → Bool
  | .int z => (He.Fa.int x z).ok K
  | .str z => (He.Fa.str x z).ok K
  | .fn f => (He.Fa.glo x).ok K && decide (t.fnP.lookup f = some (x, none))
  | _ => false
def nmB (T : Txt) (t : Tb) (gl : Nat → D) (K : PySem.W.Frag) : Bool :=
  (bltns.all fun x => (He.Fa.free x).ok K) && ((T.fns.all fun p => (He.Fa.glo p.1).ok K && (PySem.W.keepIn K (.ref (He.ga K p.1)) && decide (t.fnP.lookup p.2 = some (p.1, none)))) && ((T.cls.all fun p => (He.Fa.glo p.1).ok K && (decide (t.cls.getD p.2 "" = p.1) && decide (p.2 < t.cls.length))) &&
  ((T.mts.all fun p => (He.Fa.meth (t.cls.getD p.1 "") p.2.1).ok K && (decide (t.fnP.lookup p.2.2 = some (t.cls.getD p.1 "", some p.2.1)) && (decide (p.1 < t.cls.length) && (decide (p.2.1 ∉ t.fld p.1) && !T.gdf p.2.2)))) && ((T.exs.all fun p => decide ((t.exs.lookup p.2).getD "" = p.1) && decide (p.2 ∈ t.exs.map (·.1))) &&
  (List.range T.gls.length).all fun i => glB1 t K (T.gls.getD i "") (gl i)))))
section
variable {T : Txt} {t : Tb} {gl : Nat → D} {K : PySem.W.Frag} {mg : Str → Option Value} {h : Heap}
structure NmF (T : Txt) (t : Tb) (gl : Nat → D) (K : PySem.W.Frag) (mg : Str → Option Value) : Prop where
  bl : ∀ x ∈ bltns, mg x = none
  nm : ∀ x f, (x, f) ∈ T.fns → mg x = some (.ref ((t.wd K).fnA f)) ∧ PySem.W.keepIn K (.ref ((t.wd K).fnA f)) = true
  mkc : ∀ x c, (x, c) ∈ T.cls → mg x = some (.ref ((t.wd K).clA c)) ∧ c < t.cls.length
  mt : ∀ c m f, (c, m, f) ∈ T.mts → c < t.cls.length ∧ m ∉ t.fld c ∧ Meth K ((t.wd K).clA c) m ((t.wd K).fnA f) ∧ T.gdf f = false
  ex : ∀ x c, (x, c) ∈ T.exs → (t.exs.lookup c).getD "" = x ∧ c ∈ t.exs.map (·.1)
  gl : ∀ i x, T.gls[i]? = some x → ∃ v u, mg x = some u ∧ RelV v u ∧ ∀ p a H, Den ((t.wd K).at p a H) (scrB H a) (gl i) v
theorem nmF_of (b : nmB T t gl K = true) (X : K.In h) (G : h.Ns mainGlobals mg) : NmF T t gl K mg := by
  unfold nmB at b
  obtain ⟨b1, b⟩ := and_t b
  obtain ⟨b2, b⟩ := and_t b
  obtain ⟨b3, b⟩ := and_t b
  obtain ⟨b4, b⟩ := and_t b
  obtain ⟨b5, b6⟩ := and_t b
  refine ⟨fun x hx => He.free_ok X G (List.all_eq_true.mp b1 x hx), fun x f hf => ?_, fun x c hc => ?_, fun c m f hm => ?_, fun x c hc => ?_, fun i x hi => ?_⟩
  · obtain ⟨q1, q⟩ := and_t (List.all_eq_true.mp b2 _ hf)
    obtain ⟨q2, q3⟩ := and_t q
    have e := of_decide_eq_true q3
    dsimp only at e q1 q2
    dsimp only [Tb.wd]
    rw [e]
    exact ⟨He.glo_ok X G q1, q2⟩
  · obtain ⟨q1, q⟩ := and_t (List.all_eq_true.mp b3 _ hc)
    obtain ⟨q2, q3⟩ := and_t q
    have e := of_decide_eq_true q2
    dsimp only at e q1
    dsimp only [Tb.wd]
    rw [e]
    exact ⟨He.glo_ok X G q1, of_decide_eq_true q3⟩
  · obtain ⟨q1, q⟩ := and_t (List.all_eq_true.mp b4 _ hm)
    obtain ⟨q2, q⟩ := and_t q
    obtain ⟨q3, q⟩ := and_t q
    obtain ⟨q4, q5⟩ := and_t q
    have e := of_decide_eq_true q2
    dsimp only at e q1 q4
    refine ⟨of_decide_eq_true q3, of_decide_eq_true q4, ?_, by simpa using q5⟩
    dsimp only [Tb.wd]
    rw [e]
    exact He.meth_ok q1
  · obtain ⟨q1, q2⟩ := and_t (List.all_eq_true.mp b5 _ hc)
    exact ⟨of_decide_eq_true q1, of_decide_eq_true q2⟩
  · obtain ⟨hl, rfl⟩ := List.getElem?_eq_some_iff.mp hi
    have q := List.all_eq_true.mp b6 i (mem_rg hl)
    have e : T.gls.getD i "" = T.gls[i] := by
      rw [List.getD_eq_getElem?_getD, hi]
      rfl
    rw [e] at q
    unfold glB1 at q
    split at q
    · rename_i z hz
      obtain ⟨tk, q⟩ := He.int_ok X G q
      exact ⟨.int z, _, q, ⟨tk, rfl⟩, fun p a H => by rw [hz]; exact .int z⟩
    · rename_i z hz
      obtain ⟨tk, q⟩ := He.str_ok X G q
      exact ⟨.str z, _, q, ⟨tk, rfl⟩, fun p a H => by rw [hz]; exact .str z⟩
    · rename_i f hz
      obtain ⟨q1, q2⟩ := and_t q
      refine ⟨.ref ((t.wd K).fnA f), .ref ((t.wd K).fnA f), ?_, rfl, fun p a H => by rw [hz]; exact .fn f⟩
      dsimp only [Tb.wd]
      rw [of_decide_eq_true q2]
      exact He.glo_ok X G q1
    · cases q
end
theorem mem_lk {β : Type} {f : Nat} {b : β} : ∀ {l : List (Nat × β)}, l.lookup f = some b → (f, b) ∈ l
  | [], h => by cases h
  | (g, c) :: r, h => by
    rw [List.lookup_cons] at h
    split at h
    · rename_i q
      cases h
      rw [beq_iff_eq.mp q]
      exact List.mem_cons_self
    · exact List.mem_cons_of_mem _ (mem_lk h)
/-- a table of arities -/
def arOf (l : List (Nat × Nat)) (f n : Nat) : Bool := match l.lookup f with
  | some m => n == m
  | none => false
theorem arOf_mem {l : List (Nat × Nat)} {f n : Nat} (h : arOf l f n = true) : (f, n) ∈ l := by
  unfold arOf at h
  split at h
  · rename_i m e
    rw [beq_iff_eq.mp h]
    exact mem_lk e
  · cases h
end SW

namespace SW
open PySem (Str)
/-- is_integer(thing) -/
def is1 : List IS := [.ret (.andE (.o1 (.isI .int) (.var 0)) (.notE (.o1 (.isI .bool) (.var 0))))]
def fd1 : FD := ⟨1, 1, is1⟩
/-- is_within('thing', 'least', 'most') -/
def is2 : List IS := [.ret (.andE (.call 1 [.var 0]) (.chain .le .le (.var 1) (.var 0) (.var 2)))]
def fd2 : FD := ⟨3, 3, is2⟩
/-- is_row(thing) -/
def is3 : List IS := [.ret (.o1 (.isI .rowT) (.var 0))]
def fd3 : FD := ⟨1, 1, is3⟩
/-- is_word('thing', 'size', 'most') -/
def is4 : List IS := [.ret (.andE (.o1 (.isI .tuple) (.var 0)) (.andE (.o2 .eq (.o1 .len (.var 0)) (.var 1)) (.o1 .all (.lc [("one", 3)] (.nm 3) (.seq (.var 0)) [] (.call 2 [.var 3, .cst (.int 0), .var 2])))))]
def fd4 : FD := ⟨3, 4, is4⟩
/-- is_edge(thing) -/
def is5 : List IS := [.ret (.orE (.o1 .isNone (.var 0)) (.call 2 [.var 0, .cst (.int 0), .glb 2]))]
def fd5 : FD := ⟨1, 1, is5⟩
/-- Kit.__init__('self', 'height', 'tiles', 'floor', 'roof') -/
def is6 : List IS := [.if_ (.notE (.call 2 [.var 1, .cst (.int 1), .glb 0])) [.raise 0 (.var 1)] [],
  .if_ (.orE (.notE (.call 3 [.var 2])) (.o2 .gt (.o1 .len (.var 2)) (.glb 1))) [.raise 1 (.o1 .neg (.cst (.int 1)))] [],
  .for_ (.tp [(.nm 5), (.nm 6)]) (.enum [.var 2]) [.if_ (.notE (.call 4 [.var 6, .cst (.int 4), .glb 2])) [.raise 1 (.var 5)] []] [5, 6],
  .if_ (.notE (.call 5 [.var 3])) [.raise 2 (.var 3)] [],
  .if_ (.notE (.call 5 [.var 4])) [.raise 3 (.var 4)] [],
  .setF 0 0 0 (.var 1),
  .setF 0 0 1 (.o1 .tupleOf (.var 2)),
  .setF 0 0 2 (.var 3),
  .setF 0 0 3 (.var 4),
  .setF 0 0 4 (.borrow [0] (.meth 0 7 (.var 0) [])),
  .setF 0 0 5 (.borrow [0] (.lc [("column", 7)] (.nm 7) (.seq (.fld 0 (.var 0) 4)) [] (.meth 0 8 (.var 0) [.var 7, .glb 6]))),
  .setF 0 0 6 (.borrow [0] (.lc [("column", 7)] (.nm 7) (.seq (.fld 0 (.var 0) 4)) [] (.meth 0 8 (.var 0) [.var 7, .glb 4])))]
def fd6 : FD := ⟨5, 8, is6⟩
/-- Kit.all_columns(self) -/
def is7 : List IS := [.asg (.nm 1) (.lst [.tup []]),
  .for_ (.nm 2) (.rng [.fld 0 (.var 0) 0]) [.asgO 3 (.lst []), .for_ (.nm 4) (.seq (.var 1)) [.asg (.nm 5) (.ite (.o2 .eq (.var 2) (.cst (.int 0))) (.fld 0 (.var 0) 2) (.o2 .idx (.o2 .idx (.fld 0 (.var 0) 1) (.o2 .idx (.var 4) (.o1 .neg (.cst (.int 1))))) (.glb 3))), .asg (.nm 6) (.lc [("k", 7), ("tile", 8)] (.tp [(.nm 7), (.nm 8)]) (.enum [.fld 0 (.var 0) 1]) [.orE (.o1 .isNone (.var 5)) (.o2 .eq (.o2 .idx (.var 8) (.glb 5)) (.var 5))] (.var 7)), .ext 3 (.lc [("k", 7)] (.nm 7) (.seq (.var 6)) [] (.o2 .add (.var 4) (.tup [.var 7])))] [4, 5, 6], .freeze [3], .asg (.nm 1) (.var 3)] [2, 3, 4, 5, 6],
  .ret (.lc [("row", 4)] (.nm 4) (.seq (.var 1)) [.orE (.o1 .isNone (.fld 0 (.var 0) 3)) (.o2 .eq (.o2 .idx (.o2 .idx (.fld 0 (.var 0) 1) (.o2 .idx (.var 4) (.o1 .neg (.cst (.int 1))))) (.glb 3)) (.fld 0 (.var 0) 3))] (.var 4))]
def fd7 : FD := ⟨1, 9, is7⟩
/-- Kit.seam('self', 'column', 'side') -/
def is8 : List IS := [.ret (.o1 .tupleOf (.lc [("k", 3)] (.nm 3) (.seq (.var 1)) [] (.o2 .idx (.o2 .idx (.fld 0 (.var 0) 1) (.var 3)) (.var 2))))]
def fd8 : FD := ⟨3, 4, is8⟩
/-- check_kit(kit) -/
def is9 : List IS := [.if_ (.notE (.o1 (.isI (.cls 0)) (.var 0))) [.raise 4 (.var 0)] []]
def fd9 : FD := ⟨1, 1, is9⟩
/-- columns_of(kit) -/
def is10 : List IS := [.ex (.call 9 [.var 0]),
  .ret (.o1 .listOf (.fld 0 (.var 0) 4))]
def fd10 : FD := ⟨1, 1, is10⟩
/-- is_column('kit', 'thing') -/
def is11 : List IS := [.ex (.call 9 [.var 0]),
  .ret (.andE (.call 4 [.var 1, .fld 0 (.var 0) 0, .o2 .sub (.o1 .len (.fld 0 (.var 0) 1)) (.cst (.int 1))]) (.o2 .isIn (.var 1) (.fld 0 (.var 0) 4)))]
def fd11 : FD := ⟨2, 2, is11⟩
/-- check_column('kit', 'column') -/
def is12 : List IS := [.if_ (.notE (.call 11 [.var 0, .var 1])) [.raise 5 (.var 1)] []]
def fd12 : FD := ⟨2, 2, is12⟩
/-- west_of('kit', 'column') -/
def is13 : List IS := [.ex (.call 12 [.var 0, .var 1]),
  .ret (.meth 0 8 (.var 0) [.var 1, .glb 6])]
def fd13 : FD := ⟨2, 2, is13⟩
/-- east_of('kit', 'column') -/
def is14 : List IS := [.ex (.call 12 [.var 0, .var 1]),
  .ret (.meth 0 8 (.var 0) [.var 1, .glb 4])]
def fd14 : FD := ⟨2, 2, is14⟩
/-- seams_of(kit) -/
def is15 : List IS := [.ex (.call 9 [.var 0]),
  .ret (.o1 .sortedSet (.o2 .add (.fld 0 (.var 0) 5) (.fld 0 (.var 0) 6)))]
def fd15 : FD := ⟨1, 1, is15⟩
/-- after('kit', 'column') -/
def is16 : List IS := [.ex (.call 12 [.var 0, .var 1]),
  .asg (.nm 2) (.meth 0 8 (.var 0) [.var 1, .glb 4]),
  .ret (.lc [("other", 3), ("west", 4)] (.tp [(.nm 3), (.nm 4)]) (.zip [.fld 0 (.var 0) 4, .fld 0 (.var 0) 5]) [.o2 .eq (.var 4) (.var 2)] (.var 3))]
def fd16 : FD := ⟨2, 5, is16⟩
/-- kit_of_tiles('kit', 'some') -/
def is17 : List IS := [.ret (.mk 0 [.fld 0 (.var 0) 0, .lc [("k", 2)] (.nm 2) (.seq (.var 1)) [] (.o2 .idx (.fld 0 (.var 0) 1) (.var 2)), .fld 0 (.var 0) 2, .fld 0 (.var 0) 3])]
def fd17 : FD := ⟨2, 3, is17⟩
/-- _law_pick('row', 'some') -/
def is18 : List IS := [.ret (.o2 .idx (.var 1) (.call 0 [.var 0, .o1 .len (.var 1)]))]
def fd18 : FD := ⟨2, 2, is18⟩
/-- _law_alike('found', 'due') -/
def is19 : List IS := [.if_ (.o1 (.isI .rowT) (.var 1)) [.if_ (.orE (.notE (.o1 (.isI .rowT) (.var 0))) (.o2 .ne (.o1 (.isI .list) (.var 0)) (.o1 (.isI .list) (.var 1)))) [.ret (.cst (.bl false))] [], .if_ (.o2 .ne (.o1 .len (.var 0)) (.o1 .len (.var 1))) [.ret (.cst (.bl false))] [], .ret (.o2 .eq (.lc [("k", 2)] (.nm 2) (.rng [.o1 .len (.var 1)]) [.notE (.call 19 [.o2 .idx (.var 0) (.var 2), .o2 .idx (.var 1) (.var 2)])] (.var 2)) (.lst []))] [],
  .if_ (.o1 (.isI .dict) (.var 1)) [.if_ (.orE (.notE (.o1 (.isI .dict) (.var 0))) (.o2 .ne (.o1 .listOf (.var 0)) (.o1 .listOf (.var 1)))) [.ret (.cst (.bl false))] [], .ret (.o2 .eq (.lc [("key", 3)] (.nm 3) (.seq (.var 1)) [.notE (.call 19 [.o2 .idx (.var 0) (.var 3), .o2 .idx (.var 1) (.var 3)])] (.var 3)) (.lst []))] [],
  .if_ (.orE (.o1 .isNone (.var 1)) (.o1 (.isI .str) (.var 1))) [.ret (.andE (.o2 .eq (.var 0) (.var 1)) (.o2 .eq (.o1 (.isI .str) (.var 0)) (.o1 (.isI .str) (.var 1))))] [],
  .ret (.andE (.o1 (.isI .int) (.var 0)) (.andE (.o2 .eq (.o1 (.isI .bool) (.var 0)) (.o1 (.isI .bool) (.var 1))) (.o2 .eq (.var 0) (.var 1))))]
def fd19 : FD := ⟨2, 4, is19⟩
/-- _law_unlike(things) -/
def is20 : List IS := [.asgO 1 (.lst []),
  .for_ (.nm 2) (.seq (.o1 .sortedL (.o1 .listOf (.var 0)))) [.if_ (.borrow [1] (.orE (.o2 .eq (.var 1) (.lst [])) (.o2 .ne (.o2 .idx (.var 1) (.o1 .neg (.cst (.int 1)))) (.var 2)))) [.app 1 (.var 2)] []] [2],
  .freeze [1],
  .ret (.var 1)]
def fd20 : FD := ⟨1, 3, is20⟩
/-- _law_colours(row) -/
def is21 : List IS := [.ret (.call 18 [.var 0, .lst [.cst (.int 1), .cst (.int 2), .cst (.int 2), .cst (.int 2), .cst (.int 3), .cst (.int 3)]])]
def fd21 : FD := ⟨1, 1, is21⟩
/-- _law_tiles('row', 'many', 'colours') -/
def is22 : List IS := [.ret (.lc [("k", 3)] (.nm 3) (.rng [.var 1]) [] (.o1 .tupleOf (.lc [("side", 4)] (.nm 4) (.rng [.cst (.int 4)]) [] (.call 0 [.var 0, .var 2]))))]
def fd22 : FD := ⟨3, 5, is22⟩
/-- _law_edge('row', 'colours') -/
def is23 : List IS := [.ret (.call 18 [.var 0, .lst [.cst .non, .cst .non, .call 0 [.var 0, .var 1]]])]
def fd23 : FD := ⟨2, 2, is23⟩
/-- _law_side('tiles', 'column', 'side') -/
def is24 : List IS := [.ret (.o1 .tupleOf (.lc [("k", 3)] (.nm 3) (.seq (.var 1)) [] (.o2 .idx (.o2 .idx (.var 0) (.var 3)) (.var 2))))]
def fd24 : FD := ⟨3, 4, is24⟩
/-- _law_column_fits('tiles', 'floor', 'roof', 'column') -/
def is25 : List IS := [.if_ (.andE (.o1 .notNone (.var 1)) (.o2 .ne (.o2 .idx (.o2 .idx (.var 0) (.o2 .idx (.var 3) (.cst (.int 0)))) (.cst (.int 2))) (.var 1))) [.ret (.cst (.bl false))] [],
  .if_ (.andE (.o1 .notNone (.var 2)) (.o2 .ne (.o2 .idx (.o2 .idx (.var 0) (.o2 .idx (.var 3) (.o2 .sub (.o1 .len (.var 3)) (.cst (.int 1))))) (.cst (.int 0))) (.var 2))) [.ret (.cst (.bl false))] [],
  .ret (.o2 .eq (.lc [("k", 4)] (.nm 4) (.rng [.o2 .sub (.o1 .len (.var 3)) (.cst (.int 1))]) [.o2 .ne (.o2 .idx (.o2 .idx (.var 0) (.o2 .idx (.var 3) (.var 4))) (.cst (.int 0))) (.o2 .idx (.o2 .idx (.var 0) (.o2 .idx (.var 3) (.o2 .add (.var 4) (.cst (.int 1))))) (.cst (.int 2)))] (.var 4)) (.lst []))]
def fd25 : FD := ⟨4, 5, is25⟩
/-- _law_columns('height', 'tiles', 'floor', 'roof') -/
def is26 : List IS := [.asg (.nm 4) (.lst [.tup []]),
  .for_ (.nm 5) (.rng [.var 0]) [.asg (.nm 6) (.lst []), .for_ (.nm 7) (.seq (.var 4)) [.asg (.nm 6) (.o2 .add (.var 6) (.lc [("k", 8)] (.nm 8) (.rng [.o1 .len (.var 1)]) [] (.o2 .add (.var 7) (.tup [.var 8]))))] [7], .asg (.nm 4) (.var 6)] [5, 6, 7],
  .ret (.lc [("one", 7)] (.nm 7) (.seq (.var 4)) [.call 25 [.var 1, .var 2, .var 3, .var 7]] (.var 7))]
def fd26 : FD := ⟨4, 9, is26⟩
/-- _law_after('tiles', 'columns', 'column') -/
def is27 : List IS := [.asg (.nm 3) (.call 24 [.var 0, .var 2, .cst (.int 1)]),
  .ret (.lc [("other", 4)] (.nm 4) (.seq (.var 1)) [.o2 .eq (.call 24 [.var 0, .var 4, .cst (.int 3)]) (.var 3)] (.var 4))]
def fd27 : FD := ⟨3, 5, is27⟩
/-- _law_bad_kit(row) -/
def is28 : List IS := [.ret (.call 18 [.var 0, .lst [.cst .non, .cst (.int 3), .tup [.cst (.int 1), .tup []], .cst (.str "kit"), .lst [], .dnew false]])]
def fd28 : FD := ⟨1, 1, is28⟩
/-- _law_drawn('row', 'highest', 'most') -/
def is29 : List IS := [.asg (.nm 3) (.call 21 [.var 0]),
  .asg (.nm 4) (.call 22 [.var 0, .o2 .add (.cst (.int 1)) (.call 0 [.var 0, .var 2]), .var 3]),
  .ret (.tup [.o2 .add (.cst (.int 1)) (.call 0 [.var 0, .var 1]), .var 4, .call 23 [.var 0, .var 3], .call 23 [.var 0, .var 3]])]
def fd29 : FD := ⟨3, 5, is29⟩
/-- _law_wrong_parts('row', 'height', 'tiles', 'floor', 'roof') -/
def is30 : List IS := [.asg (.nm 5) (.call 18 [.var 0, .lst [.cst (.int 0), .cst (.int 5), .cst .non, .cst (.bl true), .cst (.str "2")]]),
  .if_ (.o2 .ne (.o1 .repr (.refused (.mk 0 [.var 5, .cst .non, .cst (.int 9), .cst (.int 9)]))) (.o1 .repr (.tup [.cst (.str "height"), .var 5]))) [.ret (.cst (.bl false))] [],
  .if_ (.o2 .ne (.refused (.mk 0 [.var 1, .call 18 [.var 0, .lst [.cst .non, .cst (.int 4), .o2 .mul (.lst [.tup [.cst (.int 0), .cst (.int 0), .cst (.int 0), .cst (.int 0)]]) (.cst (.int 11)), .dnew false]], .cst (.int 9), .cst (.int 9)])) (.tup [.cst (.str "tiles"), .o1 .neg (.cst (.int 1))])) [.ret (.cst (.bl false))] [],
  .asg (.nm 6) (.call 18 [.var 0, .lst [.tup [.cst (.int 0), .cst (.int 0), .cst (.int 0)], .lst [.cst (.int 0), .cst (.int 0), .cst (.int 0), .cst (.int 0)], .tup [.cst (.int 0), .cst (.int 0), .cst (.int 0), .cst (.int 6)], .tup [.cst (.int 0), .cst (.int 0), .cst (.bl true), .cst (.int 0)], .cst .non, .tup [.cst (.int 0), .cst (.int 0), .cst (.int 0), .o1 .neg (.cst (.int 1))]]]),
  .if_ (.o2 .ne (.refused (.mk 0 [.var 1, .o2 .add (.var 2) (.lst [.var 6]), .cst (.int 9), .cst (.int 9)])) (.tup [.cst (.str "tiles"), .o1 .len (.var 2)])) [.ret (.cst (.bl false))] [],
  .asg (.nm 7) (.call 18 [.var 0, .lst [.cst (.int 6), .o1 .neg (.cst (.int 1)), .cst (.str "0"), .cst (.bl true), .tup [.cst (.int 0)]]]),
  .if_ (.o2 .ne (.o1 .repr (.refused (.mk 0 [.var 1, .var 2, .var 7, .var 7]))) (.o1 .repr (.tup [.cst (.str "floor"), .var 7]))) [.ret (.cst (.bl false))] [],
  .ret (.o2 .eq (.o1 .repr (.refused (.mk 0 [.var 1, .var 2, .var 3, .var 7]))) (.o1 .repr (.tup [.cst (.str "roof"), .var 7])))]
def fd30 : FD := ⟨5, 8, is30⟩
end SW

/-! SwSim: rules by which the evaluator is run on data with unknowns. Own work. -/
namespace SW.K
open PySem (Str)
section
variable {α β : Type} {C : Ctx} {env env' : Env} {r r1 r' : Row} {a b c o e : IE} {es : List IE} {i f m : Nat} {d x y z : D} {ds : List D} {P : Pg} {t : Bool} {s : IS} {ss : List IS}
theorem liftO_some {a : α} : liftO (some a) r = .ok a r := rfl
theorem nextO_some : nextO (some env) r = .next env r := rfl
theorem ended_ret : ended (.ret d r) = .ok d r := rfl
theorem ended_next : ended (.next env r) = .ok .non r := rfl
theorem ended_exn : ended (.exn c1 d r) = .exn c1 d r := rfl
theorem ctx_call {u v} : (ctx P u v).call = u := rfl
theorem ctx_init {u v} : (ctx P u v).init = v := rfl
theorem ctx_word {u v} : (ctx P u v).word = P.word := rfl
theorem ctx_has {u v} : (ctx P u v).has = P.has := rfl
theorem ctx_gl {u v} : (ctx P u v).gl = P.gl := rfl
theorem ctx_dv {u v} : (ctx P u v).dv = P.dv := rfl
theorem ctx_idv {u v} : (ctx P u v).idv = P.idv := rfl
theorem ctx_fuel {u v} : (ctx P u v).fuel = P.fuel := rfl
/-! expressions but comprehensions -/
theorem v_var : ev C (.var i) env r = liftO (env.getD i .no).get r := by rw [ev] <;> rfl
theorem v_cst : ev C (.cst d) env r = .ok d r := by rw [ev] <;> rfl
theorem v_glb : ev C (.glb i) env r = .ok (C.gl i) r := by rw [ev] <;> rfl
theorem v_tup : ev C (.tup es) env r = (evs C es env r).bind fun ds r1 => .ok (.tup ds) r1 := by rw [ev] <;> rfl
theorem v_lst : ev C (.lst es) env r = (evs C es env r).bind fun ds r1 => .ok (.lst ds) r1 := by rw [ev] <;> rfl
theorem v_dnew : ev C (.dnew t) env r = .ok (.dic t []) r := by rw [ev] <;> rfl
theorem v_call : ev C (.call f es) env r = (evs C es env r).bind fun ds r1 => C.call f (ds ++ C.dv f es.length) r1 := by rw [ev] <;> rfl
theorem v_callv (h : (env.getD i .no).get = some (.fn f)) (h2 : C.has f = true) : ev C (.callv i es) env r = (evs C es env r).bind fun ds r1 => C.call f ds r1 := by
  rw [ev, h]
  simp only [h2, if_true]
theorem v_mk : ev C (.mk f es) env r = (evs C es env r).bind fun ds r1 => C.init f (ds ++ C.idv f es.length) r1 := by rw [ev] <;> rfl
theorem v_meth : ev C (.meth f m o es) env r = (ev C o env r).bind fun d r1 => if d.isCls f = true then (evs C es env r1).bind fun ds r2 => C.call m (d :: (ds ++ C.dv m (es.length + 1))) r2 else .bad := by rw [ev] <;> rfl
theorem v_fld : ev C (.fld f o m) env r = (ev C o env r).bind fun d r1 => liftO (fldOf f m d) r1 := by rw [ev] <;> rfl
theorem v_o1 {p : P1} : ev C (.o1 p a) env r = (ev C a env r).bind fun d r1 => liftO (p1 p d) r1 := by rw [ev] <;> rfl
theorem v_o2 {p : P2} : ev C (.o2 p a b) env r = (ev C a env r).bind fun d r1 => (ev C b env r1).bind fun e r2 => liftO (p2 p d e) r2 := by rw [ev] <;> rfl
theorem v_index : ev C (.index a b) env r = (ev C a env r).bind fun d r1 => if d.isLst = true then (ev C b env r1).bind fun e r2 => liftO (p2 .index d e) r2 else .bad := by rw [ev] <;> rfl
theorem v_sl {lo hi : Option IE} : ev C (.sl a lo hi) env r = (ev C a env r).bind fun d r1 => (evO C lo env r1).bind fun l r2 => (evO C hi env r2).bind fun h r3 => liftO (slice d l h) r3 := by rw [ev] <;> rfl
theorem v_chain {p q : P2} : ev C (.chain p q a b c) env r = (ev C a env r).bind fun x r1 => (ev C b env r1).bind fun y r2 => match p2 p x y with
    | some (.bl true) => (ev C c env r2).bind fun z r3 => liftO (p2 q y z) r3
    | some (.bl false) => .ok (.bl false) r2
    | _ => .bad := by rw [ev] <;> rfl
theorem v_and : ev C (.andE a b) env r = (ev C a env r).bind fun d r1 => match d.truth with
    | some true => ev C b env r1
    | some false => .ok d r1
    | none => .bad := by rw [ev] <;> rfl
theorem v_or : ev C (.orE a b) env r = (ev C a env r).bind fun d r1 => match d.truth with
    | some true => .ok d r1
    | some false => ev C b env r1
    | none => .bad := by rw [ev] <;> rfl
theorem v_not : ev C (.notE a) env r = (ev C a env r).bind fun d r1 => match d.truth with
    | some t => .ok (.bl (!t)) r1
    | none => .bad := by rw [ev] <;> rfl
theorem v_ite : ev C (.ite c a b) env r = (ev C c env r).bind fun d r1 => match d.truth with
    | some true => ev C a env r1
    | some false => ev C b env r1
    | none => .bad := by rw [ev] <;> rfl
theorem v_borrow {is : List Nat} : ev C (.borrow is e) env r = unborrow e.isNew is env (ev C e (frzE is env) r) := by rw [ev] <;> rfl
theorem v_refused_ok (h : ev C e env r = .ok d r1) : ev C (.refused e) env r = .ok (.tup [.str (Str.ofString ""), .non]) r1 := by rw [ev, h]
theorem v_refused_exn {n : Nat} {w : Str} (h : ev C e env r = .exn n d r1) (hw : C.word n = some w) : ev C (.refused e) env r = .ok (.tup [.str w, d]) r1 := by
  rw [ev, h]
  dsimp only
  rw [hw]
theorem vs_nil : evs C [] env r = .ok [] r := by rw [evs] <;> rfl
theorem vs_cons : evs C (e :: es) env r = (ev C e env r).bind fun d r1 => (evs C es env r1).bind fun ds r2 => .ok (d :: ds) r2 := by rw [evs] <;> rfl
theorem vo_none : evO C none env r = .ok none r := by rw [evO] <;> rfl
theorem vo_some : evO C (some e) env r = (ev C e env r).bind fun d r1 => match d with
    | .int i => .ok (some i) r1
    | _ => .bad := by rw [evO] <;> rfl
theorem ts_nil : tsts C [] env r = .ok true r := by rw [tsts] <;> rfl
theorem ts_one {u : Bool} (h : ev C e env r = .ok d r1) (hu : d.truth = some u) : tsts C [e] env r = .ok u r1 := by
  rw [tsts, h]
  dsimp only
  rw [hu]
  cases u with
  | true => rw [tsts]
  | false => rfl
theorem vi_seq : evI C (.seq e) env r = (ev C e env r).bind fun d r1 => liftO (seqOf d) r1 := by rw [evI] <;> rfl
theorem vi_rng : evI C (.rng es) env r = (evs C es env r).bind fun ds r1 => liftO (rgO ds) r1 := by rw [evI] <;> rfl
theorem vi_enum : evI C (.enum es) env r = (evs C es env r).bind fun ds r1 => liftO (enO ds) r1 := by rw [evI] <;> rfl
theorem vi_zip : evI C (.zip es) env r = (evs C es env r).bind fun ds r1 => liftO (zpO ds) r1 := by rw [evI] <;> rfl
theorem lcLoop_step {bd : D → Option Env} {ts : Env → Row → R Bool} {e : Env → Row → R D} {x y : D} {xs ys : List D} {e1 : Env} {r r1 r2 r3 : Row} (h1 : bd x = some e1) (h2 : ts e1 r = .ok true r1) (h3 : e e1 r1 = .ok y r2) (h4 : lcLoop bd ts e xs r2 = .ok ys r3) : lcLoop bd ts e (x :: xs) r = .ok (y :: ys) r3 := by
  rw [lcLoop, h1]
  simp only [h2, R.bind, h3, h4]
theorem lcLoop_skip {bd : D → Option Env} {ts : Env → Row → R Bool} {e : Env → Row → R D} {x : D} {xs ys : List D} {e1 : Env} {r r1 r3 : Row} (h1 : bd x = some e1) (h2 : ts e1 r = .ok false r1) (h4 : lcLoop bd ts e xs r1 = .ok ys r3) : lcLoop bd ts e (x :: xs) r = .ok ys r3 := by
  rw [lcLoop, h1]
  simp only [h2, R.bind, h4]
/-- a comprehension that leaves the row alone -/
theorem lcLoop_same {bd : D → Option Env} {ts : Env → Row → R Bool} {e : Env → Row → R D} {p : D → Bool} {g : D → D} : ∀ {xs : List D} {r : Row}, (∀ x ∈ xs, ∃ e1, bd x = some e1 ∧ ts e1 r = .ok (p x) r ∧ (p x = true → e e1 r = .ok (g x) r)) → lcLoop bd ts e xs r = .ok ((xs.filter p).map g) r
  | [], r, _ => rfl
  | x :: xs, r, h => by
    obtain ⟨e1, h1, h2, h3⟩ := h x (by simp)
    have ih := lcLoop_same (p := p) (g := g) (xs := xs) (r := r) fun y hy => h y (by simp [hy])
    cases q : p x with
    | true =>
      rw [List.filter_cons, q]
      rw [q] at h2
      exact lcLoop_step h1 h2 (h3 q) ih
    | false =>
      rw [List.filter_cons, q]
      rw [q] at h2
      exact lcLoop_skip h1 h2 ih
theorem v_lc {own : List (Str × Nat)} {tg : Tg} {it : IT} {ts : List IE} {xs : List D} {p : D → Bool} {g : D → D} (hi : evI C it env r = .ok xs r1) (h : ∀ x ∈ xs, ∃ e1, bindT tg x (killE (own.map (·.2)) env) = some e1 ∧ tsts C ts e1 r1 = .ok (p x) r1 ∧ (p x = true → ev C e e1 r1 = .ok (g x) r1)) :
    ev C (.lc own tg it ts e) env r = .ok (.lst ((xs.filter p).map g)) r1 := by
  rw [ev, hi]
  exact congrArg (fun z => R.bind z fun xs r2 => R.ok (D.lst xs) r2) (lcLoop_same (p := p) (g := g) (bd := fun d => bindT tg d (killE (own.map (·.2)) env)) (ts := fun env r => tsts C ts env r) (e := fun env r => match ev C e env r with
        | .exn _ _ _ => .bad
        | x => x) fun x hx => by
    obtain ⟨e1, h1, h2, h3⟩ := h x hx
    exact ⟨e1, h1, h2, fun q => by rw [h3 q]⟩)
/-- .. without a test -/
theorem v_lcm {own : List (Str × Nat)} {tg : Tg} {it : IT} {xs : List D} {g : D → D} (hi : evI C it env r = .ok xs r1) (h : ∀ x ∈ xs, ∃ e1, bindT tg x (killE (own.map (·.2)) env) = some e1 ∧ ev C e e1 r1 = .ok (g x) r1) :
    ev C (.lc own tg it [] e) env r = .ok (.lst (xs.map g)) r1 := by
  have q := v_lc (p := fun _ => true) (ts := []) hi fun x hx => by
    obtain ⟨e1, h1, h2⟩ := h x hx
    exact ⟨e1, h1, ts_nil, fun _ => h2⟩
  rwa [List.filter_eq_self.mpr fun _ _ => rfl] at q
/-- the same, the items given by their names -/
theorem lcLoop_map {ι : Type} {emb : ι → D} {bd : D → Option Env} {ts : Env → Row → R Bool} {e : Env → Row → R D} {p : ι → Bool} {g : ι → D} : ∀ {xs : List ι} {r : Row}, (∀ x ∈ xs, ∃ e1, bd (emb x) = some e1 ∧ ts e1 r = .ok (p x) r ∧ (p x = true → e e1 r = .ok (g x) r)) → lcLoop bd ts e (xs.map emb) r = .ok ((xs.filter p).map g) r
  | [], r, _ => rfl
  | x :: xs, r, h => by
    obtain ⟨e1, h1, h2, h3⟩ := h x (by simp)
    have ih := lcLoop_map (p := p) (g := g) (emb := emb) (xs := xs) (r := r) fun y hy => h y (by simp [hy])
    rw [List.map_cons]
    cases q : p x with
    | true =>
      rw [List.filter_cons, q]
      rw [q] at h2
      exact lcLoop_step h1 h2 (h3 q) ih
    | false =>
      rw [List.filter_cons, q]
      rw [q] at h2
      exact lcLoop_skip h1 h2 ih
theorem v_lca {ι : Type} {emb : ι → D} {own : List (Str × Nat)} {tg : Tg} {it : IT} {ts : List IE} {xs : List ι} {p : ι → Bool} {g : ι → D} (hi : evI C it env r = .ok (xs.map emb) r1) (h : ∀ x ∈ xs, ∃ e1, bindT tg (emb x) (killE (own.map (·.2)) env) = some e1 ∧ tsts C ts e1 r1 = .ok (p x) r1 ∧ (p x = true → ev C e e1 r1 = .ok (g x) r1)) :
    ev C (.lc own tg it ts e) env r = .ok (.lst ((xs.filter p).map g)) r1 := by
  rw [ev, hi]
  exact congrArg (fun z => R.bind z fun xs r2 => R.ok (D.lst xs) r2) (lcLoop_map (p := p) (g := g) (bd := fun d => bindT tg d (killE (own.map (·.2)) env)) (ts := fun env r => tsts C ts env r) (e := fun env r => match ev C e env r with
        | .exn _ _ _ => .bad
        | x => x) fun x hx => by
    obtain ⟨e1, h1, h2, h3⟩ := h x hx
    exact ⟨e1, h1, h2, fun q => by rw [h3 q]⟩)
theorem v_lcam {ι : Type} {emb : ι → D} {own : List (Str × Nat)} {tg : Tg} {it : IT} {xs : List ι} {g : ι → D} (hi : evI C it env r = .ok (xs.map emb) r1) (h : ∀ x ∈ xs, ∃ e1, bindT tg (emb x) (killE (own.map (·.2)) env) = some e1 ∧ ev C e e1 r1 = .ok (g x) r1) :
    ev C (.lc own tg it [] e) env r = .ok (.lst (xs.map g)) r1 := by
  have q := v_lca (p := fun _ => true) (ts := []) hi fun x hx => by
    obtain ⟨e1, h1, h2⟩ := h x hx
    exact ⟨e1, h1, ts_nil, fun _ => h2⟩
  rwa [List.filter_eq_self.mpr fun _ _ => rfl] at q
inductive All2 {α β : Type} (p : α → β → Prop) : List α → List β → Prop
  | nil : All2 p [] []
  | cons {x : α} {y : β} {xs : List α} {ys : List β} : p x y → All2 p xs ys → All2 p (x :: xs) (y :: ys)
/-- a comprehension that draws: each item has what is asked, the row goes on -/
theorem lcLoop_draw {bd : D → Option Env} {e : Env → Row → R D} {L : Row → Prop} {p : D → D → Prop} : ∀ {xs : List D} {r : Row}, L r → (∀ x ∈ xs, ∀ r, L r → ∃ e1 y r1, bd x = some e1 ∧ e e1 r = .ok y r1 ∧ L r1 ∧ p x y) → ∃ ys r1, lcLoop bd (fun _ r => .ok true r) e xs r = .ok ys r1 ∧ L r1 ∧ All2 p xs ys
  | [], r, l, _ => ⟨[], r, rfl, l, .nil⟩
  | x :: xs, r, l, h => by
    obtain ⟨e1, y, r1, h1, h2, h3, h4⟩ := h x (by simp) r l
    obtain ⟨ys, r2, i1, i2, i3⟩ := lcLoop_draw (L := L) (p := p) (xs := xs) (bd := bd) (e := e) h3 fun y hy => h y (by simp [hy])
    exact ⟨y :: ys, r2, lcLoop_step h1 rfl h2 i1, i2, .cons h4 i3⟩
theorem v_lcd {own : List (Str × Nat)} {tg : Tg} {it : IT} {xs : List D} {L : Row → Prop} {p : D → D → Prop} (hi : evI C it env r = .ok xs r1) (l : L r1) (h : ∀ x ∈ xs, ∀ r, L r → ∃ e1 y r2, bindT tg x (killE (own.map (·.2)) env) = some e1 ∧ ev C e e1 r = .ok y r2 ∧ L r2 ∧ p x y) :
    ∃ ys r2, ev C (.lc own tg it [] e) env r = .ok (.lst ys) r2 ∧ L r2 ∧ All2 p xs ys := by
  obtain ⟨ys, r2, i1, i2, i3⟩ := lcLoop_draw (bd := fun d => bindT tg d (killE (own.map (·.2)) env)) (e := fun env r => match ev C e env r with
        | .exn _ _ _ => .bad
        | x => x) l fun x hx r l => by
    obtain ⟨e1, y, r2, h1, h2, h3, h4⟩ := h x hx r l
    exact ⟨e1, y, r2, h1, by rw [h2], h3, h4⟩
  refine ⟨ys, r2, ?_, i2, i3⟩
  have e1 : (fun env r => tsts C [] env r) = fun _ r => .ok true r := by
    funext env r
    exact ts_nil
  rw [ev, hi, e1]
  exact congrArg (fun z => R.bind z fun xs r2 => R.ok (D.lst xs) r2) i1
theorem rgO1 {i : Int} : rgO [.int i] = rngD 0 i 1 := by rw [rgO]
theorem rgO2 {i j : Int} : rgO [.int i, .int j] = rngD i j 1 := by rw [rgO]
theorem vi_rng1 {n : Int} {l : List D} (h : ev C e env r = .ok (.int n) r1) (hr : rngD 0 n 1 = some l) : evI C (.rng [e]) env r = .ok l r1 := by
  rw [vi_rng, vs_cons, h]
  dsimp only [R.bind]
  rw [vs_nil]
  dsimp only
  rw [rgO1, hr]
  rfl
theorem vn_lst : evN C (.lst es) env r = ev C (.lst es) env r := rfl
/-! statements -/
theorem w_nil : exSs C [] env r = .next env r := by rw [exSs] <;> rfl
theorem w_cons : exSs C (s :: ss) env r = (exS C s env r).then fun e1 r1 => exSs C ss e1 r1 := by rw [exSs] <;> rfl
theorem w_step (h : exS C s env r = .next env' r') : exSs C (s :: ss) env r = exSs C ss env' r' := by rw [exSs, h]
theorem w_stop_ret (h : exS C s env r = .ret d r') : exSs C (s :: ss) env r = .ret d r' := by rw [exSs, h]
theorem w_stop_exn {n : Nat} (h : exS C s env r = .exn n d r') : exSs C (s :: ss) env r = .exn n d r' := by rw [exSs, h]
theorem s_asg {tg : Tg} : exS C (.asg tg e) env r = (ev C e env r).then fun d r1 => nextO (bindT tg d env) r1 := by rw [exS] <;> rfl
theorem s_asgO : exS C (.asgO i e) env r = (evN C e env r).then fun d r1 => nextO (setO env i d) r1 := by rw [exS] <;> rfl
theorem s_setF : exS C (.setF f i m e) env r = (match env.getD i .no with
    | .ow (.ins b _) => if b = f then (ev C e env r).then fun d r1 => nextO (fldO env i m d) r1 else .bad
    | _ => .bad) := by rw [exS] <;> rfl
theorem s_app : exS C (.app i e) env r = if (env.getD i .no).isOwL = true then (ev C e env r).then fun d r1 => nextO (appO env i [d]) r1 else .bad := by rw [exS] <;> rfl
theorem s_ext : exS C (.ext i e) env r = if (env.getD i .no).isOwL = true then (ev C e env r).then fun d r1 => nextO ((seqL d).bind fun ds => appO env i ds) r1 else .bad := by rw [exS] <;> rfl
theorem s_ex : exS C (.ex e) env r = (ev C e env r).then fun _ r1 => .next env r1 := by rw [exS] <;> rfl
theorem s_for {tg : Tg} {it : IT} {body : List IS} {kl : List Nat} : exS C (.for_ tg it body kl) env r = (evI C it env r).then fun ds r1 => forLoop (bindT tg) (fun e r => exSs C body e r) (killE kl) ds env r1 := by rw [exS] <;> rfl
theorem s_if {u v : List IS} : exS C (.if_ e u v) env r = (tst C e env r).then fun t r1 => match t with
    | true => exSs C u env r1
    | false => exSs C v env r1 := by rw [exS] <;> rfl
theorem s_ret : exS C (.ret e) env r = (ev C e env r).then fun d r1 => .ret d r1 := by rw [exS] <;> rfl
theorem s_raise : exS C (.raise f e) env r = (ev C e env r).then fun d r1 => .exn f d r1 := by rw [exS] <;> rfl
theorem s_freeze {is : List Nat} : exS C (.freeze is) env r = .next (frzE is env) r := by rw [exS] <;> rfl
theorem t_is : tst C e env r = (ev C e env r).bind fun d r1 => liftO d.truth r1 := rfl
/-- a test that fails -/
theorem s_skip {u : List IS} (h : ev C e env r = .ok d r1) (ht : d.truth = some false) : exS C (.if_ e u []) env r = .next env r1 := by
  rw [s_if, t_is, h]
  show (liftO d.truth r1).then _ = _
  rw [ht]
  exact w_nil
theorem s_then {u v : List IS} (h : ev C e env r = .ok d r1) (ht : d.truth = some true) : exS C (.if_ e u v) env r = exSs C u env r1 := by
  rw [s_if, t_is, h]
  show (liftO d.truth r1).then _ = _
  rw [ht]
  rfl
theorem s_else {u v : List IS} (h : ev C e env r = .ok d r1) (ht : d.truth = some false) : exS C (.if_ e u v) env r = exSs C v env r1 := by
  rw [s_if, t_is, h]
  show (liftO d.truth r1).then _ = _
  rw [ht]
  rfl
theorem w_asg {tg : Tg} {env1 : Env} (h : ev C e env r = .ok d r1) (hb : bindT tg d env = some env1) : exSs C (.asg tg e :: ss) env r = exSs C ss env1 r1 := by
  rw [w_cons, s_asg, h]
  show (nextO (bindT tg d env) r1).then _ = _
  rw [hb]
  rfl
theorem w_ex (h : ev C e env r = .ok d r1) : exSs C (.ex e :: ss) env r = exSs C ss env r1 := by
  rw [w_cons, s_ex, h]
theorem w_ex_exn {n : Nat} (h : ev C e env r = .exn n d r1) : exSs C (.ex e :: ss) env r = .exn n d r1 := by
  rw [w_cons, s_ex, h]
theorem w_asgO {env1 : Env} (h : evN C e env r = .ok d r1) (hb : setO env i d = some env1) : exSs C (.asgO i e :: ss) env r = exSs C ss env1 r1 := by
  rw [w_cons, s_asgO, h]
  show (nextO (setO env i d) r1).then _ = _
  rw [hb]
  rfl
theorem w_ext {env1 : Env} {xs : List D} (hw : env.getD i .no = .ow (.lst xs)) (h : ev C e env r = .ok (.lst ds) r1) (hl : xs.length + ds.length ≤ LIM) (hb : env.set i (.ow (.lst (xs ++ ds))) = env1) : exSs C (.ext i e :: ss) env r = exSs C ss env1 r1 := by
  rw [w_cons, s_ext, hw, if_pos (show (Sl.ow (D.lst xs)).isOwL = true from rfl), h]
  show (nextO (appO env i ds) r1).then _ = _
  unfold appO
  rw [hw]
  dsimp only
  rw [if_pos hl, hb]
  rfl
theorem w_app {env1 : Env} {xs : List D} (hw : env.getD i .no = .ow (.lst xs)) (h : ev C e env r = .ok d r1) (hl : xs.length + 1 ≤ LIM) (hb : env.set i (.ow (.lst (xs ++ [d]))) = env1) : exSs C (.app i e :: ss) env r = exSs C ss env1 r1 := by
  rw [w_cons, s_app, hw, if_pos (show (Sl.ow (D.lst xs)).isOwL = true from rfl), h]
  show (nextO (appO env i [d]) r1).then _ = _
  unfold appO
  rw [hw]
  dsimp only
  rw [if_pos (show xs.length + [d].length ≤ LIM from hl), hb]
  rfl
theorem w_freeze {is : List Nat} {env1 : Env} (hb : frzE is env = env1) : exSs C (.freeze is :: ss) env r = exSs C ss env1 r := by
  rw [w_cons, s_freeze, hb]
theorem w_setF {env1 : Env} {fs : List D} (hw : env.getD i .no = .ow (.ins f fs)) (h : ev C e env r = .ok d r1) (hl : fs.length = m) (hb : env.set i (.ow (.ins f (fs ++ [d]))) = env1) : exSs C (.setF f i m e :: ss) env r = exSs C ss env1 r1 := by
  rw [w_cons, s_setF, hw]
  dsimp only
  rw [if_pos rfl, h]
  show (nextO (fldO env i m d) r1).then _ = _
  unfold fldO
  rw [hw]
  dsimp only
  rw [if_pos hl, hb]
  rfl
theorem w_for {tg : Tg} {it : IT} {body : List IS} {kl : List Nat} {env1 : Env} {r2 : Row} (hi : evI C it env r = .ok ds r1) (hl : forLoop (bindT tg) (fun e r => exSs C body e r) (killE kl) ds env r1 = .next env1 r2) : exSs C (.for_ tg it body kl :: ss) env r = exSs C ss env1 r2 := by
  rw [w_cons, s_for, hi]
  show (forLoop _ _ _ ds env r1).then _ = _
  rw [hl]
theorem w_ret (h : ev C e env r = .ok d r1) : exSs C (.ret e :: ss) env r = .ret d r1 := by
  rw [w_cons, s_ret, h]
theorem w_ret_exn {n : Nat} (h : ev C e env r = .exn n d r1) : exSs C (.ret e :: ss) env r = .exn n d r1 := by
  rw [w_cons, s_ret, h]
theorem w_skip {u : List IS} (h : ev C e env r = .ok d r1) (ht : d.truth = some false) : exSs C (.if_ e u [] :: ss) env r = exSs C ss env r1 := by
  rw [w_cons, s_skip h ht]
theorem w_then {u v : List IS} {env1 : Env} {r2 : Row} (h : ev C e env r = .ok d r1) (ht : d.truth = some true) (hu : exSs C u env r1 = .next env1 r2) : exSs C (.if_ e u v :: ss) env r = exSs C ss env1 r2 := by
  rw [w_cons, s_then h ht, hu]
theorem w_raise {u v : List IS} {n : Nat} {a : IE} (h : ev C e env r = .ok d r1) (ht : d.truth = some true) (hu : ev C a env r1 = .ok x r') : exSs C (.if_ e (.raise n a :: u) v :: ss) env r = .exn n x r' := by
  rw [w_cons, s_then h ht, w_cons, s_raise, hu]
/-- a loop, its turns told by a relation of what is left -/
theorem for_inv {bd : D → Env → Option Env} {body : Env → Row → RS} {kl : Env → Env} {I : List D → Env → Row → Prop} : ∀ {ds : List D} {env : Env} {r : Row}, I ds env r → (∀ x xs env r, I (x :: xs) env r → ∃ e1 e2 r2, bd x env = some e1 ∧ (body e1 r = .next e2 r2 ∨ body e1 r = .cont e2 r2) ∧ I xs (kl e2) r2) → ∃ env' r', forLoop bd body kl ds env r = .next env' r' ∧ I [] env' r'
  | [], env, r, h, _ => ⟨env, r, rfl, h⟩
  | x :: xs, env, r, h, st => by
    obtain ⟨e1, e2, r2, h1, h2, h3⟩ := st x xs env r h
    obtain ⟨env', r', q1, q2⟩ := for_inv h3 st
    refine ⟨env', r', ?_, q2⟩
    rw [forLoop, h1]
    dsimp only
    rcases h2 with h2 | h2
    · rw [h2]
      exact q1
    · rw [h2]
      exact q1
/-- a loop that folds: the names as a function of what is held; the row stays -/
theorem for_fold {ι σ : Type} {emb : ι → D} {bd : D → Env → Option Env} {body : Env → Row → RS} {kl : Env → Env} {E : σ → Env} {st : σ → ι → σ} {I : List ι → σ → Prop} : ∀ {xs : List ι} {s : σ} {r : Row}, I xs s → (∀ x xs s, I (x :: xs) s → ∃ e1 e2, bd (emb x) (E s) = some e1 ∧ body e1 r = .next e2 r ∧ kl e2 = E (st s x) ∧ I xs (st s x)) → forLoop bd body kl (xs.map emb) (E s) r = .next (E (xs.foldl st s)) r ∧ I [] (xs.foldl st s)
  | [], s, r, h, _ => ⟨rfl, h⟩
  | x :: xs, s, r, h, hs => by
    obtain ⟨e1, e2, h1, h2, h3, h4⟩ := hs x xs s h
    obtain ⟨q1, q2⟩ := for_fold h4 hs
    refine ⟨?_, q2⟩
    rw [List.map_cons, forLoop, h1]
    dsimp only
    rw [h2]
    dsimp only
    rw [h3]
    exact q1
theorem run_at {n : Nat} {fd : FD} (e : P.fn f = some fd) (h : f ≠ fTaken) (hl : ds.length = fd.np) : runF P (n + 1) f ds r = ended (exSs (ctx P (runF P n) (iniF P (runF P n))) fd.body (env0 fd ds) r) := by
  rw [runF, if_neg h, e]
  dsimp only
  rw [if_pos hl]
theorem run_take {n : Nat} : runF P (n + 1) 0 ds r = takeD ds r := by
  rw [runF]
  rfl
theorem ini_at {rf : Nat → List D → Row → R D} {g : Nat} {fd : FD} (e1 : P.ini f = some g) (e2 : P.fn g = some fd) (hl : ds.length + 1 = fd.np) : iniF P rf f ds r = made (exSs (ctx P rf fun _ _ _ => .bad) fd.body (.ow (.ins f []) :: (ds.map .sh ++ List.replicate (fd.sz - fd.np) .no)) r) := by
  unfold iniF
  rw [e1]
  dsimp only
  rw [e2]
  dsimp only
  rw [if_pos hl]
/-! truth, operations -/
theorem truth_bl : (D.bl t).truth = some t := rfl
theorem truth_non : D.non.truth = some false := rfl
theorem p2_lt {i j : Int} : p2 .lt (.int i) (.int j) = some (.bl (decide (i < j))) := rfl
theorem p2_le {i j : Int} : p2 .le (.int i) (.int j) = some (.bl (!decide (j < i))) := rfl
theorem p2_gt {i j : Int} : p2 .gt (.int i) (.int j) = some (.bl (decide (j < i))) := rfl
theorem p2_ge {i j : Int} : p2 .ge (.int i) (.int j) = some (.bl (!decide (i < j))) := rfl
theorem p2_add {i j : Int} : p2 .add (.int i) (.int j) = some (.int (i + j)) := rfl
theorem p2_sub {i j : Int} : p2 .sub (.int i) (.int j) = some (.int (i - j)) := rfl
theorem p2_eq {x y : D} (h : (x.plain && y.plain) = true) : p2 .eq x y = some (.bl (x.eqv y)) := by
  unfold p2
  have z : ∀ a, (D.rep a).plain = false := fun _ => rfl
  split <;> first | rfl | (rw [z] at h; cases h; done) | simp_all
theorem p2_ne {x y : D} (h : (x.plain && y.plain) = true) : p2 .ne x y = some (.bl (!x.eqv y)) := by
  unfold p2
  have z : ∀ a, (D.rep a).plain = false := fun _ => rfl
  split <;> first | rfl | (rw [z] at h; cases h; done) | simp_all
end
end SW.K

/-! SwKit: what the program's kits answer. Own work. -/
namespace SW.K
open PySem (Str)
/-- the constants and defs of kits -/
structure Kits (P : Pg) : Prop where
  f1 : P.fn 1 = some fd1
  f2 : P.fn 2 = some fd2
  f3 : P.fn 3 = some fd3
  f4 : P.fn 4 = some fd4
  f5 : P.fn 5 = some fd5
  f6 : P.fn 6 = some fd6
  f7 : P.fn 7 = some fd7
  f8 : P.fn 8 = some fd8
  f9 : P.fn 9 = some fd9
  i0 : P.ini 0 = some 6
  g0 : P.gl 0 = .int 4
  g1 : P.gl 1 = .int 10
  g2 : P.gl 2 = .int 5
  g3 : P.gl 3 = .int 0
  g4 : P.gl 4 = .int 1
  g5 : P.gl 5 = .int 2
  g6 : P.gl 6 = .int 3
  dv : ∀ f n, P.dv f n = []
  idv : ∀ f n, P.idv f n = []
/-- what isinstance may be asked of -/
def _root_.SW.D.ask : D → Bool
  | .non => true
  | .bl _ => true
  | .int _ => true
  | .str _ => true
  | .tup _ => true
  | .lst _ => true
  | .dic t _ => !t
  | _ => false
def isI : D → Bool
  | .int _ => true
  | _ => false
def isRow : D → Bool
  | .tup _ => true
  | .lst _ => true
  | _ => false
def within (lo hi : Int) : D → Bool
  | .int i => decide (lo ≤ i) && decide (i ≤ hi)
  | _ => false
def wordB (size most : Int) : D → Bool
  | .tup xs => decide ((xs.length : Int) = size) && xs.all (within 0 most)
  | _ => false
def edgeB : D → Bool
  | .non => true
  | d => within 0 5 d
theorem ask_cases {d : D} (h : d.ask = true) : d = .non ∨ (∃ b, d = .bl b) ∨ (∃ i, d = .int i) ∨ (∃ s, d = .str s) ∨ (∃ xs, d = .tup xs) ∨ (∃ xs, d = .lst xs) ∨ ∃ k, d = .dic false k := by
  cases d <;> simp [SW.D.ask] at h ⊢
  exact h
section
variable {P : Pg} (K : Kits P)
include K
theorem is_integer_ok {d : D} (hd : d.ask = true) (n : Nat) (r : Row) : runF P (n + 1) 1 [d] r = .ok (.bl (isI d)) r := by
  rw [run_at K.f1 (by decide) rfl]
  rcases ask_cases hd with rfl | ⟨b, rfl⟩ | ⟨b, rfl⟩ | ⟨b, rfl⟩ | ⟨b, rfl⟩ | ⟨b, rfl⟩ | ⟨b, rfl⟩ <;> rfl
theorem is_within_ok {d : D} {lo hi : Int} (hd : d.ask = true) (n : Nat) (r : Row) : runF P (n + 2) 2 [d, .int lo, .int hi] r = .ok (.bl (within lo hi d)) r := by
  rw [run_at K.f2 (by decide) rfl]
  show ended (exSs _ is2 [.sh d, .sh (.int lo), .sh (.int hi)] r) = _
  simp only [is2, v_var, v_cst, v_glb, v_tup, v_lst, v_dnew, v_call, v_mk, v_meth, v_fld, v_o1, v_o2, v_sl, v_chain, v_and, v_or, v_not, v_ite, vs_nil, vs_cons, vo_none, vo_some, vi_seq, vi_rng, vi_enum, vi_zip, R.bind, R.then, RS.then, liftO, nextO, ended, ctx_call, ctx_init, ctx_word, ctx_has, ctx_gl, ctx_dv, ctx_idv, ctx_fuel, w_nil, w_cons, s_asg, s_ex, s_if, s_ret, s_raise, s_freeze, t_is, truth_bl, truth_non, List.getD_cons_zero, List.getD_cons_succ, Sl.get, List.cons_append, List.nil_append, List.append_nil, List.length_cons, List.length_nil, K.dv, is_integer_ok K hd]
  cases d with
  | int i =>
    simp only [isI, within, p2_le]
    by_cases h : i < lo
    · have h2 : ¬ lo ≤ i := by omega
      simp [h, h2, v_var, v_cst, v_glb, v_tup, v_lst, v_dnew, v_call, v_mk, v_meth, v_fld, v_o1, v_o2, v_sl, v_chain, v_and, v_or, v_not, v_ite, vs_nil, vs_cons, vo_none, vo_some, vi_seq, vi_rng, vi_enum, vi_zip, R.bind, R.then, RS.then, liftO, nextO, ended, ctx_call, ctx_init, ctx_word, ctx_has, ctx_gl, ctx_dv, ctx_idv, ctx_fuel, w_nil, w_cons, s_asg, s_ex, s_if, s_ret, s_raise, s_freeze, t_is, truth_bl, truth_non, List.getD_cons_zero, List.getD_cons_succ, Sl.get, List.cons_append, List.nil_append, List.append_nil, List.length_cons, List.length_nil]
    · have h2 : lo ≤ i := by omega
      by_cases h3 : hi < i
      · have h4 : ¬ i ≤ hi := by omega
        simp [h, h2, h3, h4, v_var, v_cst, v_glb, v_tup, v_lst, v_dnew, v_call, v_mk, v_meth, v_fld, v_o1, v_o2, v_sl, v_chain, v_and, v_or, v_not, v_ite, vs_nil, vs_cons, vo_none, vo_some, vi_seq, vi_rng, vi_enum, vi_zip, R.bind, R.then, RS.then, liftO, nextO, ended, ctx_call, ctx_init, ctx_word, ctx_has, ctx_gl, ctx_dv, ctx_idv, ctx_fuel, w_nil, w_cons, s_asg, s_ex, s_if, s_ret, s_raise, s_freeze, t_is, truth_bl, truth_non, List.getD_cons_zero, List.getD_cons_succ, Sl.get, List.cons_append, List.nil_append, List.append_nil, List.length_cons, List.length_nil]
      · have h4 : i ≤ hi := by omega
        simp [h, h2, h3, h4, v_var, v_cst, v_glb, v_tup, v_lst, v_dnew, v_call, v_mk, v_meth, v_fld, v_o1, v_o2, v_sl, v_chain, v_and, v_or, v_not, v_ite, vs_nil, vs_cons, vo_none, vo_some, vi_seq, vi_rng, vi_enum, vi_zip, R.bind, R.then, RS.then, liftO, nextO, ended, ctx_call, ctx_init, ctx_word, ctx_has, ctx_gl, ctx_dv, ctx_idv, ctx_fuel, w_nil, w_cons, s_asg, s_ex, s_if, s_ret, s_raise, s_freeze, t_is, truth_bl, truth_non, List.getD_cons_zero, List.getD_cons_succ, Sl.get, List.cons_append, List.nil_append, List.append_nil, List.length_cons, List.length_nil]
  | _ => rfl
theorem is_row_ok {d : D} (hd : d.ask = true) (n : Nat) (r : Row) : runF P (n + 1) 3 [d] r = .ok (.bl (isRow d)) r := by
  rw [run_at K.f3 (by decide) rfl]
  rcases ask_cases hd with rfl | ⟨b, rfl⟩ | ⟨b, rfl⟩ | ⟨b, rfl⟩ | ⟨b, rfl⟩ | ⟨b, rfl⟩ | ⟨b, rfl⟩ <;> rfl
theorem blsOf_map : ∀ {xs : List D} {g : D → Bool}, blsOf (xs.map fun x => .bl (g x)) = some (xs.map g)
  | [], g => rfl
  | x :: xs, g => by
    rw [List.map_cons, blsOf, blsOf_map]
    rfl
omit K in
theorem all_id {α : Type} {xs : List α} {g : α → Bool} : (xs.map g).all id = xs.all g := by
  induction xs with
  | nil => rfl
  | cons x xs ih => simp
theorem is_word_ok {d : D} {size most : Int} (hd : d.ask = true) (he : ∀ xs, d = .tup xs → ∀ x ∈ xs, x.ask = true) (n : Nat) (r : Row) : runF P (n + 3) 4 [d, .int size, .int most] r = .ok (.bl (wordB size most d)) r := by
  rw [run_at K.f4 (by decide) rfl]
  show ended (exSs _ is4 [.sh d, .sh (.int size), .sh (.int most), .no] r) = _
  cases d with
  | tup xs =>
    have e1 : ev (ctx P (runF P (n + 2)) (iniF P (runF P (n + 2)))) (.lc [("one", 3)] (.nm 3) (.seq (.var 0)) [] (.call 2 [.var 3, .cst (.int 0), .var 2])) [.sh (.tup xs), .sh (.int size), .sh (.int most), .no] r = .ok (.lst (xs.map fun x => .bl (within 0 most x))) r := by
      refine v_lcm (xs := xs) ?_ fun x hx => ⟨[.sh (.tup xs), .sh (.int size), .sh (.int most), .sh x], rfl, ?_⟩
      · simp only [v_var, v_cst, v_glb, v_tup, v_lst, v_dnew, v_call, v_mk, v_meth, v_fld, v_o1, v_o2, v_sl, v_chain, v_and, v_or, v_not, v_ite, vs_nil, vs_cons, vo_none, vo_some, vi_seq, vi_rng, vi_enum, vi_zip, R.bind, R.then, RS.then, liftO, nextO, ended, ctx_call, ctx_init, ctx_word, ctx_has, ctx_gl, ctx_dv, ctx_idv, ctx_fuel, w_nil, w_cons, s_asg, s_ex, s_if, s_ret, s_raise, s_freeze, t_is, truth_bl, truth_non, List.getD_cons_zero, List.getD_cons_succ, Sl.get, List.cons_append, List.nil_append, List.append_nil, List.length_cons, List.length_nil, seqOf]
      · simp only [v_var, v_cst, v_glb, v_tup, v_lst, v_dnew, v_call, v_mk, v_meth, v_fld, v_o1, v_o2, v_sl, v_chain, v_and, v_or, v_not, v_ite, vs_nil, vs_cons, vo_none, vo_some, vi_seq, vi_rng, vi_enum, vi_zip, R.bind, R.then, RS.then, liftO, nextO, ended, ctx_call, ctx_init, ctx_word, ctx_has, ctx_gl, ctx_dv, ctx_idv, ctx_fuel, w_nil, w_cons, s_asg, s_ex, s_if, s_ret, s_raise, s_freeze, t_is, truth_bl, truth_non, List.getD_cons_zero, List.getD_cons_succ, Sl.get, List.cons_append, List.nil_append, List.append_nil, List.length_cons, List.length_nil, K.dv, is_within_ok K (he xs rfl x hx)]
    have e2 : p1 .all (.lst (xs.map fun x => .bl (within 0 most x))) = some (.bl (xs.all (within 0 most))) := by
      show (blsOf _).map _ = _
      rw [blsOf_map K]
      show some (D.bl ((xs.map (within 0 most)).all id)) = _
      rw [all_id]
    have e3 : p1 .len (.tup xs) = some (.int xs.length) := rfl
    have e4 : p1 (.isI .tuple) (.tup xs) = some (.bl true) := rfl
    have e5 : p2 .eq (.int xs.length) (.int size) = some (.bl (decide ((xs.length : Int) = size))) := by
      rw [p2_eq rfl]
      rfl
    simp only [is4, v_var, v_cst, v_glb, v_tup, v_lst, v_dnew, v_call, v_mk, v_meth, v_fld, v_o1, v_o2, v_sl, v_chain, v_and, v_or, v_not, v_ite, vs_nil, vs_cons, vo_none, vo_some, vi_seq, vi_rng, vi_enum, vi_zip, R.bind, R.then, RS.then, liftO, nextO, ended, ctx_call, ctx_init, ctx_word, ctx_has, ctx_gl, ctx_dv, ctx_idv, ctx_fuel, w_nil, w_cons, s_asg, s_ex, s_if, s_ret, s_raise, s_freeze, t_is, truth_bl, truth_non, List.getD_cons_zero, List.getD_cons_succ, Sl.get, List.cons_append, List.nil_append, List.append_nil, List.length_cons, List.length_nil, e1, e2, e3, e4, e5, wordB]
    by_cases h : (xs.length : Int) = size
    · simp [h, v_var, v_cst, v_glb, v_tup, v_lst, v_dnew, v_call, v_mk, v_meth, v_fld, v_o1, v_o2, v_sl, v_chain, v_and, v_or, v_not, v_ite, vs_nil, vs_cons, vo_none, vo_some, vi_seq, vi_rng, vi_enum, vi_zip, R.bind, R.then, RS.then, liftO, nextO, ended, ctx_call, ctx_init, ctx_word, ctx_has, ctx_gl, ctx_dv, ctx_idv, ctx_fuel, w_nil, w_cons, s_asg, s_ex, s_if, s_ret, s_raise, s_freeze, t_is, truth_bl, truth_non, List.getD_cons_zero, List.getD_cons_succ, Sl.get, List.cons_append, List.nil_append, List.append_nil, List.length_cons, List.length_nil]
    · simp [h, v_var, v_cst, v_glb, v_tup, v_lst, v_dnew, v_call, v_mk, v_meth, v_fld, v_o1, v_o2, v_sl, v_chain, v_and, v_or, v_not, v_ite, vs_nil, vs_cons, vo_none, vo_some, vi_seq, vi_rng, vi_enum, vi_zip, R.bind, R.then, RS.then, liftO, nextO, ended, ctx_call, ctx_init, ctx_word, ctx_has, ctx_gl, ctx_dv, ctx_idv, ctx_fuel, w_nil, w_cons, s_asg, s_ex, s_if, s_ret, s_raise, s_freeze, t_is, truth_bl, truth_non, List.getD_cons_zero, List.getD_cons_succ, Sl.get, List.cons_append, List.nil_append, List.append_nil, List.length_cons, List.length_nil]
  | fn f => cases hd
  | row => cases hd
  | rep d => cases hd
  | ins c fs => cases hd
  | dic t kvs =>
    cases t with
    | true => cases hd
    | false => rfl
  | _ => rfl
theorem is_edge_ok {d : D} (hd : d.ask = true) (n : Nat) (r : Row) : runF P (n + 3) 5 [d] r = .ok (.bl (edgeB d)) r := by
  rw [run_at K.f5 (by decide) rfl]
  show ended (exSs _ is5 [.sh d] r) = _
  by_cases hn : d = .non
  · subst hn
    rfl
  · have e1 : p1 .isNone d = some (.bl false) := by
      cases d <;> first | rfl | exact absurd rfl hn
    have e2 : edgeB d = within 0 5 d := by
      cases d <;> first | rfl | exact absurd rfl hn
    simp only [is5, v_var, v_cst, v_glb, v_tup, v_lst, v_dnew, v_call, v_mk, v_meth, v_fld, v_o1, v_o2, v_sl, v_chain, v_and, v_or, v_not, v_ite, vs_nil, vs_cons, vo_none, vo_some, vi_seq, vi_rng, vi_enum, vi_zip, R.bind, R.then, RS.then, liftO, nextO, ended, ctx_call, ctx_init, ctx_word, ctx_has, ctx_gl, ctx_dv, ctx_idv, ctx_fuel, w_nil, w_cons, s_asg, s_ex, s_if, s_ret, s_raise, s_freeze, t_is, truth_bl, truth_non, List.getD_cons_zero, List.getD_cons_succ, Sl.get, List.cons_append, List.nil_append, List.append_nil, List.length_cons, List.length_nil, e1, K.g2, K.dv, is_within_ok K hd, e2]
omit K in
theorem idx_nat {α : Type} {xs : List α} {k : Nat} : idxI xs (k : Int) = xs[k]? := by
  show (L2.ixN xs.length (k : Int)).bind _ = _
  unfold L2.ixN
  rw [if_pos (by omega)]
  by_cases h : k < xs.length
  · rw [if_pos (by omega)]
    rfl
  · rw [if_neg (by omega), List.getElem?_eq_none (by omega)]
    rfl
omit K in
theorem idx_last {α : Type} {xs : List α} {x : α} : idxI (xs ++ [x]) (-1) = some x := by
  show (L2.ixN _ (-1)).bind _ = _
  unfold L2.ixN
  have l : (xs ++ [x]).length = xs.length + 1 := by simp
  rw [if_neg (by omega), l, if_pos (by omega)]
  have e : (-1 + ((xs.length + 1 : Nat) : Int)).toNat = xs.length := by omega
  rw [e]
  simp
end
/-! ### kits, columns -/
def tI (ns : List Int) : D := .tup (ns.map .int)
def tN (l : List Nat) : D := .tup (l.map fun (k : Nat) => .int k)
def edD : Option Int → D
  | none => .non
  | some c => .int c
def tAt (ts : List (List Int)) (k s : Nat) : Int := (ts.getD k []).getD s 0
def side (ts : List (List Int)) (s : Nat) (col : List Nat) : List Int := col.map fun k => tAt ts k s
/-- what must be on the next tile's south -/
def wish (fl : Option Int) (ts : List (List Int)) (row : List Nat) : Option Int := match row.getLast? with
  | none => fl
  | some k => some (tAt ts k 0)
def okW : Option Int → Int → Bool
  | none, _ => true
  | some w, c => decide (c = w)
def nxt (fl : Option Int) (ts : List (List Int)) (row : List Nat) : List Nat := (List.range ts.length).filter fun k => okW (wish fl ts row) (tAt ts k 2)
def grow (fl : Option Int) (ts : List (List Int)) (rows : List (List Nat)) : List (List Nat) := rows.flatMap fun row => (nxt fl ts row).map fun k => row ++ [k]
def grown (fl : Option Int) (ts : List (List Int)) : Nat → List (List Nat)
  | 0 => [[]]
  | n + 1 => grow fl ts (grown fl ts n)
def roofOk (ro : Option Int) (ts : List (List Int)) (row : List Nat) : Bool := okW ro (tAt ts (row.getLast?.getD 0) 0)
def cols (h : Nat) (ts : List (List Int)) (fl ro : Option Int) : List (List Nat) := (grown fl ts h).filter (roofOk ro ts)
def T4 (ts : List (List Int)) : Prop := ∀ t ∈ ts, t.length = 4
theorem getD_some {α : Type} {l : List α} {k : Nat} {d : α} (h : k < l.length) : l[k]? = some (l.getD k d) := by
  rw [List.getD_eq_getElem?_getD, List.getElem?_eq_getElem h]
  rfl
theorem grown_mem {fl : Option Int} {ts : List (List Int)} : ∀ {n : Nat} {row : List Nat}, row ∈ grown fl ts n → row.length = n ∧ ∀ k ∈ row, k < ts.length
  | 0, row, h => by
    rw [grown, List.mem_singleton] at h
    subst h
    exact ⟨rfl, fun k hk => by cases hk⟩
  | n + 1, row, h => by
    rw [grown, grow, List.mem_flatMap] at h
    obtain ⟨a, ha, h⟩ := h
    rw [List.mem_map] at h
    obtain ⟨k, hk, rfl⟩ := h
    obtain ⟨q1, q2⟩ := grown_mem ha
    refine ⟨by simp [q1], fun j hj => ?_⟩
    rw [List.mem_append] at hj
    rcases hj with hj | hj
    · exact q2 j hj
    · rw [List.mem_singleton] at hj
      subst hj
      exact List.mem_range.mp (List.mem_filter.mp hk).1
theorem cols_mem {h : Nat} {ts : List (List Int)} {fl ro : Option Int} {row : List Nat} (q : row ∈ cols h ts fl ro) : row.length = h ∧ ∀ k ∈ row, k < ts.length := grown_mem (List.mem_filter.mp q).1
/-! data -/
theorem enumD_eq {α : Type} {f : α → D} {d : α} : ∀ {ts : List α} {i : Nat}, enumD i (ts.map f) = (List.range ts.length).map fun (k : Nat) => .tup [.int ((i + k : Nat) : Int), f (ts.getD k d)]
  | [], i => rfl
  | t :: ts, i => by
    rw [List.map_cons, enumD, List.length_cons, List.range_succ_eq_map, List.map_cons, List.map_map]
    have e : ((i : Int) + 1) = ((i + 1 : Nat) : Int) := by omega
    rw [e, enumD_eq (d := d)]
    congr 1
    refine List.map_congr_left fun k _ => ?_
    have e2 : i + 1 + k = i + (k + 1) := by omega
    simp [e2]
theorem rngD_nat {n : Nat} (h : n ≤ LIM) : rngD 0 (n : Int) 1 = some ((List.range n).map fun (k : Nat) => D.int k) := by
  unfold rngD
  have hL : LIM = 16777216 := rfl
  rw [if_pos rfl, if_pos (by omega)]
  simp
theorem eqv_int {i j : Int} : (D.int i).eqv (.int j) = decide (i = j) := by
  rw [D.eqv]
  rfl
theorem idx_tI {ns : List Int} {k : Nat} (h : k < ns.length) : p2 .idx (tI ns) (.int (k : Int)) = some (.int (ns.getD k 0)) := by
  show idxI (ns.map D.int) (k : Int) = _
  rw [idx_nat, List.getElem?_map, getD_some h]
  rfl
theorem idx_tup {ts : List (List Int)} {k : Nat} (h : k < ts.length) : p2 .idx (.tup (ts.map tI)) (.int (k : Int)) = some (tI (ts.getD k [])) := by
  show idxI (ts.map tI) (k : Int) = _
  rw [idx_nat, List.getElem?_map, getD_some h]
  rfl
theorem T4.at {ts : List (List Int)} (h4 : T4 ts) {k : Nat} (h : k < ts.length) : (ts.getD k []).length = 4 := h4 _ (by
  rw [List.getD_eq_getElem?_getD, List.getElem?_eq_getElem h]
  exact List.getElem_mem h)
section
variable {P : Pg} (K : Kits P)
include K
/-- the column's side -/
theorem seam_ok {hD : D} {ts : List (List Int)} {rest : List D} {col : List Nat} {s : Nat} (h4 : T4 ts) (hs : s < 4) (hc : ∀ k ∈ col, k < ts.length) (n : Nat) (r : Row) : runF P (n + 1) 8 [.ins 0 (hD :: .tup (ts.map tI) :: rest), tN col, .int s] r = .ok (tI (side ts s col)) r := by
  rw [run_at K.f8 (by decide) rfl]
  show ended (exSs _ is8 [.sh (.ins 0 (hD :: .tup (ts.map tI) :: rest)), .sh (tN col), .sh (.int s), .no] r) = _
  have e1 : ev (ctx P (runF P n) (iniF P (runF P n))) (.lc [("k", 3)] (.nm 3) (.seq (.var 1)) [] (.o2 .idx (.o2 .idx (.fld 0 (.var 0) 1) (.var 3)) (.var 2))) [.sh (.ins 0 (hD :: .tup (ts.map tI) :: rest)), .sh (tN col), .sh (.int s), .no] r = .ok (.lst (col.map fun k => .int (tAt ts k s))) r := by
    refine v_lcam (emb := fun (k : Nat) => .int k) (xs := col) ?_ fun k hk => ⟨[.sh (.ins 0 (hD :: .tup (ts.map tI) :: rest)), .sh (tN col), .sh (.int s), .sh (.int k)], rfl, ?_⟩
    · simp only [v_var, v_cst, v_glb, v_tup, v_lst, v_dnew, v_call, v_mk, v_meth, v_fld, v_o1, v_o2, v_sl, v_chain, v_and, v_or, v_not, v_ite, vs_nil, vs_cons, vo_none, vo_some, vi_seq, vi_rng, vi_enum, vi_zip, R.bind, R.then, RS.then, liftO, nextO, ended, ctx_call, ctx_init, ctx_word, ctx_has, ctx_gl, ctx_dv, ctx_idv, ctx_fuel, w_nil, w_cons, s_asg, s_ex, s_if, s_ret, s_raise, s_freeze, t_is, truth_bl, truth_non, List.getD_cons_zero, List.getD_cons_succ, Sl.get, List.cons_append, List.nil_append, List.append_nil, List.length_cons, List.length_nil, seqOf, tN]
    · have q1 : fldOf 0 1 (.ins 0 (hD :: .tup (ts.map tI) :: rest)) = some (.tup (ts.map tI)) := rfl
      simp only [v_var, v_cst, v_glb, v_tup, v_lst, v_dnew, v_call, v_mk, v_meth, v_fld, v_o1, v_o2, v_sl, v_chain, v_and, v_or, v_not, v_ite, vs_nil, vs_cons, vo_none, vo_some, vi_seq, vi_rng, vi_enum, vi_zip, R.bind, R.then, RS.then, liftO, nextO, ended, ctx_call, ctx_init, ctx_word, ctx_has, ctx_gl, ctx_dv, ctx_idv, ctx_fuel, w_nil, w_cons, s_asg, s_ex, s_if, s_ret, s_raise, s_freeze, t_is, truth_bl, truth_non, List.getD_cons_zero, List.getD_cons_succ, Sl.get, List.cons_append, List.nil_append, List.append_nil, List.length_cons, List.length_nil, q1, idx_tup (hc k hk), idx_tI (by rw [h4.at (hc k hk)]; exact hs)]
      rfl
  have e2 : p1 .tupleOf (.lst (col.map fun k => .int (tAt ts k s))) = some (tI (side ts s col)) := by
    show some (D.tup _) = some (D.tup _)
    rw [side, List.map_map]
    rfl
  simp only [is8, v_var, v_cst, v_glb, v_tup, v_lst, v_dnew, v_call, v_mk, v_meth, v_fld, v_o1, v_o2, v_sl, v_chain, v_and, v_or, v_not, v_ite, vs_nil, vs_cons, vo_none, vo_some, vi_seq, vi_rng, vi_enum, vi_zip, R.bind, R.then, RS.then, liftO, nextO, ended, ctx_call, ctx_init, ctx_word, ctx_has, ctx_gl, ctx_dv, ctx_idv, ctx_fuel, w_nil, w_cons, s_asg, s_ex, s_if, s_ret, s_raise, s_freeze, t_is, truth_bl, truth_non, List.getD_cons_zero, List.getD_cons_succ, Sl.get, List.cons_append, List.nil_append, List.append_nil, List.length_cons, List.length_nil, e1, e2]
omit K in
theorem edD_isNone {o : Option Int} : p1 .isNone (edD o) = some (.bl o.isNone) := by cases o <;> rfl
omit K in
theorem add_tN {row : List Nat} {k : Nat} (h : row.length + 1 ≤ LIM) : p2 .add (tN row) (.tup [.int k]) = some (tN (row ++ [k])) := by
  show (if (row.map fun (k : Nat) => D.int k).length + [D.int k].length ≤ LIM then some (D.tup ((row.map fun (k : Nat) => D.int k) ++ [D.int k])) else none) = _
  rw [if_pos (by simpa using h)]
  unfold tN
  rw [List.map_append]
  rfl
omit K in
theorem last_tN {row : List Nat} {k : Nat} : p2 .idx (tN (row ++ [k])) (.int (-1)) = some (.int k) := by
  show idxI ((row ++ [k]).map fun (k : Nat) => D.int k) (-1) = _
  rw [List.map_append]
  exact idx_last
omit K in
theorem wish_nil {fl : Option Int} {ts : List (List Int)} : wish fl ts [] = fl := rfl
omit K in
theorem wish_snoc {fl : Option Int} {ts : List (List Int)} {row : List Nat} {k : Nat} : wish fl ts (row ++ [k]) = some (tAt ts k 0) := by
  unfold wish
  rw [List.getLast?_append]
  rfl
theorem wish_ok {h : Nat} {ts : List (List Int)} {fl ro : Option Int} {rest : List D} {row : List Nat} {rowsD : D} {lv : Nat} {x3 x5 x6 x7 x8 : Sl} {C : Ctx} (hg : C.gl 3 = .int 0) (h4 : T4 ts) (hl : row.length = lv) (hk : ∀ k ∈ row, k < ts.length) (r : Row) :
    ev C (.ite (.o2 .eq (.var 2) (.cst (.int 0))) (.fld 0 (.var 0) 2) (.o2 .idx (.o2 .idx (.fld 0 (.var 0) 1) (.o2 .idx (.var 4) (.o1 .neg (.cst (.int 1))))) (.glb 3))) [.sh (.ins 0 (.int h :: .tup (ts.map tI) :: edD fl :: edD ro :: rest)), .sh rowsD, .sh (.int lv), x3, .sh (tN row), x5, x6, x7, x8] r = .ok (edD (wish fl ts row)) r := by
  have q1 : fldOf 0 1 (.ins 0 (.int h :: .tup (ts.map tI) :: edD fl :: edD ro :: rest)) = some (.tup (ts.map tI)) := rfl
  have q2 : fldOf 0 2 (.ins 0 (.int h :: .tup (ts.map tI) :: edD fl :: edD ro :: rest)) = some (edD fl) := rfl
  have q3 : p1 .neg (.int 1) = some (.int (-1)) := rfl
  have q4 : p2 .eq (.int (lv : Int)) (.int 0) = some (.bl (decide ((lv : Int) = 0))) := by rw [p2_eq rfl, eqv_int]
  rcases List.eq_nil_or_concat row with rfl | ⟨row', k, rfl⟩
  · have e : lv = 0 := by rw [← hl]; rfl
    subst e
    simp only [v_var, v_cst, v_glb, v_tup, v_lst, v_dnew, v_call, v_mk, v_meth, v_fld, v_o1, v_o2, v_sl, v_chain, v_and, v_or, v_not, v_ite, vs_nil, vs_cons, vo_none, vo_some, vi_seq, vi_rng, vi_enum, vi_zip, R.bind, R.then, RS.then, liftO, nextO, ended, ctx_call, ctx_init, ctx_word, ctx_has, ctx_gl, ctx_dv, ctx_idv, ctx_fuel, w_nil, w_cons, s_asg, s_ex, s_if, s_ret, s_raise, s_freeze, t_is, truth_bl, truth_non, List.getD_cons_zero, List.getD_cons_succ, Sl.get, List.cons_append, List.nil_append, List.append_nil, List.length_cons, List.length_nil, q1, q2, q4, wish_nil]
    rfl
  · have e : ¬ (lv : Int) = 0 := by
      rw [← hl]
      simp
      omega
    have hk1 : k < ts.length := hk k (by simp)
    simp only [v_var, v_cst, v_glb, v_tup, v_lst, v_dnew, v_call, v_mk, v_meth, v_fld, v_o1, v_o2, v_sl, v_chain, v_and, v_or, v_not, v_ite, vs_nil, vs_cons, vo_none, vo_some, vi_seq, vi_rng, vi_enum, vi_zip, R.bind, R.then, RS.then, liftO, nextO, ended, ctx_call, ctx_init, ctx_word, ctx_has, ctx_gl, ctx_dv, ctx_idv, ctx_fuel, w_nil, w_cons, s_asg, s_ex, s_if, s_ret, s_raise, s_freeze, t_is, truth_bl, truth_non, List.getD_cons_zero, List.getD_cons_succ, Sl.get, List.cons_append, List.nil_append, List.append_nil, List.length_cons, List.length_nil, q1, q2, q3, q4, e, decide_false, List.concat_eq_append, last_tN, idx_tup hk1, hg, wish_snoc]
    have q5 := idx_tI (ns := ts.getD k []) (k := 0) (by rw [h4.at hk1]; omega)
    rw [show ((0 : Nat) : Int) = 0 from rfl] at q5
    rw [q5]
    rfl
omit K in
theorem okW_ev {w : Option Int} {c : Int} : (match w with
    | none => true
    | some x => decide (c = x)) = okW w c := by cases w <;> rfl
theorem nxt_ok {h : Nat} {ts : List (List Int)} {fl ro : Option Int} {rest : List D} {row : List Nat} {rowsD : D} {lv : Nat} {x3 x6 x7 x8 : Sl} {C : Ctx} (hg : C.gl 5 = .int 2) (h4 : T4 ts) (r : Row) :
    ev C (.lc [("k", 7), ("tile", 8)] (.tp [(.nm 7), (.nm 8)]) (.enum [.fld 0 (.var 0) 1]) [.orE (.o1 .isNone (.var 5)) (.o2 .eq (.o2 .idx (.var 8) (.glb 5)) (.var 5))] (.var 7)) [.sh (.ins 0 (.int h :: .tup (ts.map tI) :: edD fl :: edD ro :: rest)), .sh rowsD, .sh (.int lv), x3, .sh (tN row), .sh (edD (wish fl ts row)), x6, x7, x8] r = .ok (.lst ((nxt fl ts row).map fun (k : Nat) => .int k)) r := by
  have q1 : fldOf 0 1 (.ins 0 (.int h :: .tup (ts.map tI) :: edD fl :: edD ro :: rest)) = some (.tup (ts.map tI)) := rfl
  refine v_lca (emb := fun (k : Nat) => .tup [.int k, tI (ts.getD k [])]) (xs := List.range ts.length) (p := fun k => okW (wish fl ts row) (tAt ts k 2)) (g := fun (k : Nat) => .int k) ?_ fun k hk => ⟨_, rfl, ?_, fun _ => rfl⟩
  · simp only [v_var, v_cst, v_glb, v_tup, v_lst, v_dnew, v_call, v_mk, v_meth, v_fld, v_o1, v_o2, v_sl, v_chain, v_and, v_or, v_not, v_ite, vs_nil, vs_cons, vo_none, vo_some, vi_seq, vi_rng, vi_enum, vi_zip, R.bind, R.then, RS.then, liftO, nextO, ended, ctx_call, ctx_init, ctx_word, ctx_has, ctx_gl, ctx_dv, ctx_idv, ctx_fuel, w_nil, w_cons, s_asg, s_ex, s_if, s_ret, s_raise, s_freeze, t_is, truth_bl, truth_non, List.getD_cons_zero, List.getD_cons_succ, Sl.get, List.cons_append, List.nil_append, List.append_nil, List.length_cons, List.length_nil, q1, enO, seqOf, Option.map_some]
    have q := enumD_eq (f := tI) (d := []) (ts := ts) (i := 0)
    rw [show ((0 : Nat) : Int) = 0 from rfl] at q
    rw [q]
    simp
  · have hk1 : k < ts.length := List.mem_range.mp hk
    have q5 := idx_tI (ns := ts.getD k []) (k := 2) (by rw [h4.at hk1]; omega)
    rw [show ((2 : Nat) : Int) = 2 from rfl] at q5
    refine ts_one (d := .bl (okW (wish fl ts row) (tAt ts k 2))) ?_ rfl
    show ev C (.orE (.o1 .isNone (.var 5)) (.o2 .eq (.o2 .idx (.var 8) (.glb 5)) (.var 5))) [_, _, _, _, _, .sh (edD (wish fl ts row)), _, .sh (.int k), .sh (tI (ts.getD k []))] r = _
    cases w : wish fl ts row with
    | none => rfl
    | some c =>
      simp only [v_var, v_cst, v_glb, v_tup, v_lst, v_dnew, v_call, v_mk, v_meth, v_fld, v_o1, v_o2, v_sl, v_chain, v_and, v_or, v_not, v_ite, vs_nil, vs_cons, vo_none, vo_some, vi_seq, vi_rng, vi_enum, vi_zip, R.bind, R.then, RS.then, liftO, nextO, ended, ctx_call, ctx_init, ctx_word, ctx_has, ctx_gl, ctx_dv, ctx_idv, ctx_fuel, w_nil, w_cons, s_asg, s_ex, s_if, s_ret, s_raise, s_freeze, t_is, truth_bl, truth_non, List.getD_cons_zero, List.getD_cons_succ, Sl.get, List.cons_append, List.nil_append, List.append_nil, List.length_cons, List.length_nil, edD_isNone, Option.isNone_some, hg, q5]
      rw [show edD (some c) = .int c from rfl, p2_eq rfl, eqv_int]
      rfl
theorem longer_ok {row some_ : List Nat} {x0 x1 x2 x3 x5 x7 x8 : Sl} {C : Ctx} (hl : row.length + 1 ≤ LIM) (r : Row) :
    ev C (.lc [("k", 7)] (.nm 7) (.seq (.var 6)) [] (.o2 .add (.var 4) (.tup [.var 7]))) [x0, x1, x2, x3, .sh (tN row), x5, .sh (.lst (some_.map fun (k : Nat) => .int k)), x7, x8] r = .ok (.lst (some_.map fun k => tN (row ++ [k]))) r := by
  refine v_lcam (emb := fun (k : Nat) => .int k) (xs := some_) ?_ fun k hk => ⟨_, rfl, ?_⟩
  · simp only [v_var, v_cst, v_glb, v_tup, v_lst, v_dnew, v_call, v_mk, v_meth, v_fld, v_o1, v_o2, v_sl, v_chain, v_and, v_or, v_not, v_ite, vs_nil, vs_cons, vo_none, vo_some, vi_seq, vi_rng, vi_enum, vi_zip, R.bind, R.then, RS.then, liftO, nextO, ended, ctx_call, ctx_init, ctx_word, ctx_has, ctx_gl, ctx_dv, ctx_idv, ctx_fuel, w_nil, w_cons, s_asg, s_ex, s_if, s_ret, s_raise, s_freeze, t_is, truth_bl, truth_non, List.getD_cons_zero, List.getD_cons_succ, Sl.get, List.cons_append, List.nil_append, List.append_nil, List.length_cons, List.length_nil, seqOf]
  · show ev C (.o2 .add (.var 4) (.tup [.var 7])) [_, _, _, _, .sh (tN row), _, _, .sh (.int k), _] r = _
    simp only [v_var, v_cst, v_glb, v_tup, v_lst, v_dnew, v_call, v_mk, v_meth, v_fld, v_o1, v_o2, v_sl, v_chain, v_and, v_or, v_not, v_ite, vs_nil, vs_cons, vo_none, vo_some, vi_seq, vi_rng, vi_enum, vi_zip, R.bind, R.then, RS.then, liftO, nextO, ended, ctx_call, ctx_init, ctx_word, ctx_has, ctx_gl, ctx_dv, ctx_idv, ctx_fuel, w_nil, w_cons, s_asg, s_ex, s_if, s_ret, s_raise, s_freeze, t_is, truth_bl, truth_non, List.getD_cons_zero, List.getD_cons_succ, Sl.get, List.cons_append, List.nil_append, List.append_nil, List.length_cons, List.length_nil, add_tN hl]
abbrev inB : List IS := [.asg (.nm 5) (.ite (.o2 .eq (.var 2) (.cst (.int 0))) (.fld 0 (.var 0) 2) (.o2 .idx (.o2 .idx (.fld 0 (.var 0) 1) (.o2 .idx (.var 4) (.o1 .neg (.cst (.int 1))))) (.glb 3))), .asg (.nm 6) (.lc [("k", 7), ("tile", 8)] (.tp [(.nm 7), (.nm 8)]) (.enum [.fld 0 (.var 0) 1]) [.orE (.o1 .isNone (.var 5)) (.o2 .eq (.o2 .idx (.var 8) (.glb 5)) (.var 5))] (.var 7)), .ext 3 (.lc [("k", 7)] (.nm 7) (.seq (.var 6)) [] (.o2 .add (.var 4) (.tup [.var 7])))]
abbrev outB : List IS := [.asgO 3 (.lst []), .for_ (.nm 4) (.seq (.var 1)) inB [4, 5, 6], .freeze [3], .asg (.nm 1) (.var 3)]
omit K in
theorem foldl_grow {fl : Option Int} {ts : List (List Int)} : ∀ (rows acc : List (List Nat)), rows.foldl (fun acc row => acc ++ (nxt fl ts row).map fun k => row ++ [k]) acc = acc ++ grow fl ts rows := by
  intro rows
  induction rows with
  | nil => intro acc; simp [grow]
  | cons x xs ih => intro acc; rw [List.foldl_cons, ih]; simp [grow]
theorem inner_ok {C : Ctx} {r : Row} (g3 : C.gl 3 = .int 0) (g5 : C.gl 5 = .int 2) {h : Nat} {ts : List (List Int)} {fl ro : Option Int} {rest : List D} (ht : ts.length ≤ 10) (h4 : T4 ts) (lv : Nat) (rows : List (List Nat)) (hr : ∀ row ∈ rows, row.length = lv ∧ ∀ k ∈ row, k < ts.length) (hlv : lv < 4) (hlen : rows.length ≤ 10 ^ lv) :
    ∃ e, exS C (.for_ (.nm 4) (.seq (.var 1)) inB [4, 5, 6])
        [.sh (.ins 0 (.int h :: .tup (ts.map tI) :: edD fl :: edD ro :: rest)), .sh (.lst (rows.map tN)), .sh (.int lv), .ow (.lst []), .no, .no, .no, .no, .no] r = .next e r ∧ e = [.sh (.ins 0 (.int h :: .tup (ts.map tI) :: edD fl :: edD ro :: rest)), .sh (.lst (rows.map tN)), .sh (.int lv), .ow (.lst ((grow fl ts rows).map tN)), .no, .no, .no, .no, .no] := by
  have hL : LIM = 16777216 := rfl
  have hp : (10 : Nat) ^ lv ≤ 1000 := Nat.le_trans (Nat.pow_le_pow_right (by omega) (show lv ≤ 3 by omega)) (by decide)
  rw [s_for]
  simp only [vi_seq, v_var, List.getD_cons_zero, List.getD_cons_succ, Sl.get, liftO, R.bind, R.then, seqOf]
  have q := for_fold (emb := tN) (σ := List (List Nat)) (bd := bindT (.nm 4)) (kl := killE [4, 5, 6]) (r := r) (xs := rows) (s := [])
    (E := fun acc => [.sh (.ins 0 (.int h :: .tup (ts.map tI) :: edD fl :: edD ro :: rest)), .sh (.lst (rows.map tN)), .sh (.int lv), .ow (.lst (acc.map tN)), .no, .no, .no, .no, .no])
    (st := fun acc row => acc ++ (nxt fl ts row).map fun k => row ++ [k]) (I := fun xs acc => acc.length + xs.length * 10 ≤ LIM ∧ ∀ row ∈ xs, row.length = lv ∧ ∀ k ∈ row, k < ts.length)
    (body := fun e r => exSs C inB e r)
    ⟨by simp; omega, hr⟩ fun row xs acc hI => by
      obtain ⟨i1, i2⟩ := hI
      obtain ⟨j1, j2⟩ := i2 row (by simp)
      have nl : (nxt fl ts row).length ≤ 10 := Nat.le_trans (List.length_filter_le _ _) (by rw [List.length_range]; exact ht)
      rw [List.length_cons] at i1
      refine ⟨_, [.sh (.ins 0 (.int h :: .tup (ts.map tI) :: edD fl :: edD ro :: rest)), .sh (.lst (rows.map tN)), .sh (.int lv), .ow (.lst ((acc ++ (nxt fl ts row).map fun k => row ++ [k]).map tN)), .sh (tN row), .sh (edD (wish fl ts row)), .sh (.lst ((nxt fl ts row).map fun (k : Nat) => .int k)), .no, .no], rfl, ?_, rfl, ?_, fun x hx => i2 x (by simp [hx])⟩
      · refine (w_asg (wish_ok K g3 h4 j1 j2 r) rfl).trans ((w_asg (nxt_ok K g5 h4 r) rfl).trans ?_)
        exact (w_ext (xs := acc.map tN) rfl (longer_ok K (by omega) r) (by simp only [List.length_map]; omega) (by simp [List.map_append])).trans w_nil
      · simp only [List.length_append, List.length_map]
        omega
  refine ⟨_, q.1, ?_⟩
  rw [foldl_grow]
  rfl
theorem all_columns_ok {h : Nat} {ts : List (List Int)} {fl ro : Option Int} {rest : List D} (h1 : 1 ≤ h) (h2 : h ≤ 4) (ht : ts.length ≤ 10) (h4 : T4 ts) (n : Nat) (r : Row) :
    runF P (n + 1) 7 [.ins 0 (.int h :: .tup (ts.map tI) :: edD fl :: edD ro :: rest)] r = .ok (.lst ((cols h ts fl ro).map tN)) r := by
  rw [run_at K.f7 (by decide) rfl]
  have hL : LIM = 16777216 := rfl
  generalize hC : ctx P (runF P n) (iniF P (runF P n)) = C
  have g3 : C.gl 3 = .int 0 := by rw [← hC]; exact K.g3
  have g5 : C.gl 5 = .int 2 := by rw [← hC]; exact K.g5
  have e0 : fd7.body = is7 := rfl
  rw [e0, is7]
  show ended (exSs C _ [.sh (.ins 0 (.int h :: .tup (ts.map tI) :: edD fl :: edD ro :: rest)), .no, .no, .no, .no, .no, .no, .no, .no] r) = _
  refine (congrArg ended (w_asg (d := .lst [tN []]) (by simp only [v_lst, vs_cons, vs_nil, v_tup, R.bind]; rfl) rfl)).trans ?_
  have q := for_fold (emb := fun (k : Nat) => D.int k) (σ := Nat × List (List Nat)) (bd := bindT (.nm 2)) (kl := killE [2, 3, 4, 5, 6]) (r := r) (xs := List.range h) (s := (0, [[]]))
    (E := fun s => [.sh (.ins 0 (.int h :: .tup (ts.map tI) :: edD fl :: edD ro :: rest)), .sh (.lst (s.2.map tN)), .no, .no, .no, .no, .no, .no, .no])
    (st := fun s lv => (s.1 + 1, grow fl ts s.2)) (I := fun xs s => xs = (List.range h).drop s.1 ∧ s.1 ≤ h ∧ s.2 = grown fl ts s.1 ∧ s.2.length ≤ 10 ^ s.1)
    (body := fun e r => exSs C outB e r)
    ⟨rfl, Nat.zero_le _, rfl, by simp⟩ fun lv xs s hI => by
      obtain ⟨i1, i2, i3, i4⟩ := hI
      have hlt : s.1 < h := by
        rcases Nat.lt_or_ge s.1 h with q | q
        · exact q
        · rw [List.drop_eq_nil_of_le (by simpa using q)] at i1
          cases i1
      have e1 : lv = s.1 := by
        have := congrArg (fun l => l[0]?) i1
        simp [hlt] at this
        exact this
      subst e1
      have e2 : xs = (List.range h).drop (s.1 + 1) := by
        have := congrArg List.tail i1
        simpa using this
      obtain ⟨e, q1, q2⟩ := inner_ok K (r := r) g3 g5 (h := h) (fl := fl) (ro := ro) (rest := rest) ht h4 s.1 s.2 (fun row hr => by rw [i3] at hr; exact grown_mem hr) (by omega) i4
      subst q2
      refine ⟨_, [.sh (.ins 0 (.int h :: .tup (ts.map tI) :: edD fl :: edD ro :: rest)), .sh (.lst ((grow fl ts s.2).map tN)), .sh (.int s.1), .sh (.lst ((grow fl ts s.2).map tN)), .no, .no, .no, .no, .no], rfl, ?_, rfl, e2, hlt, by rw [i3]; rfl, ?_⟩
      · refine (w_asgO (d := .lst []) (by rw [vn_lst]; simp only [v_lst, vs_nil, R.bind]) rfl).trans ((w_step q1).trans ((w_freeze rfl).trans ?_))
        exact (w_asg (by rw [v_var]; rfl) rfl).trans w_nil
      · have e : (grow fl ts s.2).length ≤ s.2.length * 10 := by
          generalize s.2 = rows
          induction rows with
          | nil => simp [grow]
          | cons x xs ih =>
            have nl : (nxt fl ts x).length ≤ 10 := Nat.le_trans (List.length_filter_le _ _) (by rw [List.length_range]; exact ht)
            simp only [grow, List.flatMap_cons, List.length_append, List.length_map, List.length_cons]
            have ih' : (xs.flatMap fun row => (nxt fl ts row).map fun k => row ++ [k]).length ≤ xs.length * 10 := ih
            omega
        show (grow fl ts s.2).length ≤ 10 ^ (s.1 + 1)
        rw [Nat.pow_succ]
        omega
  have eh : rngD 0 (h : Int) 1 = some ((List.range h).map fun (k : Nat) => D.int k) := rngD_nat (by omega)
  have ei : ∀ e1 : Env, evI C (.rng [.fld 0 (.var 0) 0]) (.sh (.ins 0 (.int h :: .tup (ts.map tI) :: edD fl :: edD ro :: rest)) :: e1) r = .ok ((List.range h).map fun (k : Nat) => D.int k) r := fun e1 => by
    have q1 : fldOf 0 0 (.ins 0 (.int h :: .tup (ts.map tI) :: edD fl :: edD ro :: rest)) = some (.int h) := rfl
    exact vi_rng1 (by simp only [v_var, v_cst, v_glb, v_tup, v_lst, v_dnew, v_call, v_mk, v_meth, v_fld, v_o1, v_o2, v_sl, v_chain, v_and, v_or, v_not, v_ite, vs_nil, vs_cons, vo_none, vo_some, vi_seq, vi_rng, vi_enum, vi_zip, R.bind, R.then, RS.then, liftO, nextO, ended, ctx_call, ctx_init, ctx_word, ctx_has, ctx_gl, ctx_dv, ctx_idv, ctx_fuel, w_nil, w_cons, s_asg, s_ex, s_if, s_ret, s_raise, s_freeze, t_is, truth_bl, truth_non, List.getD_cons_zero, List.getD_cons_succ, Sl.get, List.cons_append, List.nil_append, List.append_nil, List.length_cons, List.length_nil, q1]) eh
  refine (congrArg ended (w_for (ei _) q.1)).trans ?_
  have ef : ∀ n, (List.range n).foldl (fun (s : Nat × List (List Nat)) (_ : Nat) => (s.1 + 1, grow fl ts s.2)) (0, [[]]) = (n, grown fl ts n) := by
    intro n
    induction n with
    | zero => rfl
    | succ n ih => rw [List.range_succ, List.foldl_append, ih]; rfl
  have eg : ((List.range h).foldl (fun (s : Nat × List (List Nat)) (_ : Nat) => (s.1 + 1, grow fl ts s.2)) (0, [[]])).2 = grown fl ts h := by rw [ef]
  rw [eg]
  have key : ev C (.lc [("row", 4)] (.nm 4) (.seq (.var 1)) [.orE (.o1 .isNone (.fld 0 (.var 0) 3)) (.o2 .eq (.o2 .idx (.o2 .idx (.fld 0 (.var 0) 1) (.o2 .idx (.var 4) (.o1 .neg (.cst (.int 1))))) (.glb 3)) (.fld 0 (.var 0) 3))] (.var 4)) [.sh (.ins 0 (.int h :: .tup (ts.map tI) :: edD fl :: edD ro :: rest)), .sh (.lst ((grown fl ts h).map tN)), .no, .no, .no, .no, .no, .no, .no] r = .ok (.lst ((cols h ts fl ro).map tN)) r := by
    refine v_lca (emb := tN) (xs := grown fl ts h) (p := roofOk ro ts) (g := tN) (by simp only [v_var, v_cst, v_glb, v_tup, v_lst, v_dnew, v_call, v_mk, v_meth, v_fld, v_o1, v_o2, v_sl, v_chain, v_and, v_or, v_not, v_ite, vs_nil, vs_cons, vo_none, vo_some, vi_seq, vi_rng, vi_enum, vi_zip, R.bind, R.then, RS.then, liftO, nextO, ended, ctx_call, ctx_init, ctx_word, ctx_has, ctx_gl, ctx_dv, ctx_idv, ctx_fuel, w_nil, w_cons, s_asg, s_ex, s_if, s_ret, s_raise, s_freeze, t_is, truth_bl, truth_non, List.getD_cons_zero, List.getD_cons_succ, Sl.get, List.cons_append, List.nil_append, List.append_nil, List.length_cons, List.length_nil, seqOf]) fun row hrow => ⟨_, rfl, ?_, fun _ => rfl⟩
    obtain ⟨l1, l2⟩ := grown_mem hrow
    refine ts_one (d := .bl (roofOk ro ts row)) ?_ rfl
    show ev C (.orE (.o1 .isNone (.fld 0 (.var 0) 3)) (.o2 .eq (.o2 .idx (.o2 .idx (.fld 0 (.var 0) 1) (.o2 .idx (.var 4) (.o1 .neg (.cst (.int 1))))) (.glb 3)) (.fld 0 (.var 0) 3))) [.sh (.ins 0 (.int h :: .tup (ts.map tI) :: edD fl :: edD ro :: rest)), .sh (.lst ((grown fl ts h).map tN)), .no, .no, .sh (tN row), .no, .no, .no, .no] r = _
    rcases List.eq_nil_or_concat row with rfl | ⟨row', k, rfl⟩
    · simp at l1
      omega
    · have hk1 : k < ts.length := l2 k (by simp)
      have q1 : fldOf 0 1 (.ins 0 (.int h :: .tup (ts.map tI) :: edD fl :: edD ro :: rest)) = some (.tup (ts.map tI)) := rfl
      have q2 : fldOf 0 3 (.ins 0 (.int h :: .tup (ts.map tI) :: edD fl :: edD ro :: rest)) = some (edD ro) := rfl
      have q3 : p1 .neg (.int 1) = some (.int (-1)) := rfl
      have q5 := idx_tI (ns := ts.getD k []) (k := 0) (by rw [h4.at hk1]; omega)
      rw [show ((0 : Nat) : Int) = 0 from rfl] at q5
      cases ro with
      | none =>
        simp only [v_var, v_cst, v_glb, v_tup, v_lst, v_dnew, v_call, v_mk, v_meth, v_fld, v_o1, v_o2, v_sl, v_chain, v_and, v_or, v_not, v_ite, vs_nil, vs_cons, vo_none, vo_some, vi_seq, vi_rng, vi_enum, vi_zip, R.bind, R.then, RS.then, liftO, nextO, ended, ctx_call, ctx_init, ctx_word, ctx_has, ctx_gl, ctx_dv, ctx_idv, ctx_fuel, w_nil, w_cons, s_asg, s_ex, s_if, s_ret, s_raise, s_freeze, t_is, truth_bl, truth_non, List.getD_cons_zero, List.getD_cons_succ, Sl.get, List.cons_append, List.nil_append, List.append_nil, List.length_cons, List.length_nil, q2, edD_isNone, Option.isNone_none]
        rfl
      | some c =>
        simp only [v_var, v_cst, v_glb, v_tup, v_lst, v_dnew, v_call, v_mk, v_meth, v_fld, v_o1, v_o2, v_sl, v_chain, v_and, v_or, v_not, v_ite, vs_nil, vs_cons, vo_none, vo_some, vi_seq, vi_rng, vi_enum, vi_zip, R.bind, R.then, RS.then, liftO, nextO, ended, ctx_call, ctx_init, ctx_word, ctx_has, ctx_gl, ctx_dv, ctx_idv, ctx_fuel, w_nil, w_cons, s_asg, s_ex, s_if, s_ret, s_raise, s_freeze, t_is, truth_bl, truth_non, List.getD_cons_zero, List.getD_cons_succ, Sl.get, List.cons_append, List.nil_append, List.append_nil, List.length_cons, List.length_nil, q1, q2, q3, edD_isNone, Option.isNone_some, List.concat_eq_append, last_tN, idx_tup hk1, g3, q5]
        rw [show edD (some c) = .int c from rfl, p2_eq rfl, eqv_int]
        simp [roofOk, okW, tAt]
  rw [w_ret key]
  rfl
/-! ### Kit(..) -/
omit K in
theorem seqLen {T : D} {xs : List D} (hT : T = .lst xs ∨ T = .tup xs) : p1 .len T = some (.int xs.length) := by rcases hT with rfl | rfl <;> rfl
/-- the tests of the __init__, one by one -/
theorem k1_ev {rf : Nat → List D → Row → R D} {n : Nat} {hD x2 x3 x4 : D} {x0 x5 x6 x7 : Sl} (hr : rf = runF P (n + 3)) (ha : hD.ask = true) (r : Row) :
    ev (ctx P rf fun _ _ _ => .bad) (.notE (.call 2 [.var 1, .cst (.int 1), .glb 0])) [x0, .sh hD, .sh x2, .sh x3, .sh x4, x5, x6, x7] r = .ok (.bl (!within 1 4 hD)) r := by
  subst hr
  simp only [v_var, v_cst, v_glb, v_tup, v_lst, v_dnew, v_call, v_mk, v_meth, v_fld, v_o1, v_o2, v_sl, v_chain, v_and, v_or, v_not, v_ite, vs_nil, vs_cons, vo_none, vo_some, vi_seq, vi_rng, vi_enum, vi_zip, R.bind, R.then, RS.then, liftO, nextO, ended, ctx_call, ctx_init, ctx_word, ctx_has, ctx_gl, ctx_dv, ctx_idv, ctx_fuel, w_nil, w_cons, s_asg, s_ex, s_if, s_ret, s_raise, s_freeze, t_is, truth_bl, truth_non, List.getD_cons_zero, List.getD_cons_succ, Sl.get, List.cons_append, List.nil_append, List.append_nil, List.length_cons, List.length_nil, K.g0, K.dv, is_within_ok K ha]
theorem k2_ev {rf : Nat → List D → Row → R D} {n : Nat} {hD T x3 x4 : D} {x0 x5 x6 x7 : Sl} {xs : List D} (hr : rf = runF P (n + 3)) (hT : T = .lst xs ∨ T = .tup xs) (r : Row) :
    ev (ctx P rf fun _ _ _ => .bad) (.orE (.notE (.call 3 [.var 2])) (.o2 .gt (.o1 .len (.var 2)) (.glb 1))) [x0, .sh hD, .sh T, .sh x3, .sh x4, x5, x6, x7] r = .ok (.bl (decide (10 < (xs.length : Int)))) r := by
  subst hr
  have ha : T.ask = true := by rcases hT with rfl | rfl <;> rfl
  have e : isRow T = true := by rcases hT with rfl | rfl <;> rfl
  simp only [v_var, v_cst, v_glb, v_tup, v_lst, v_dnew, v_call, v_mk, v_meth, v_fld, v_o1, v_o2, v_sl, v_chain, v_and, v_or, v_not, v_ite, vs_nil, vs_cons, vo_none, vo_some, vi_seq, vi_rng, vi_enum, vi_zip, R.bind, R.then, RS.then, liftO, nextO, ended, ctx_call, ctx_init, ctx_word, ctx_has, ctx_gl, ctx_dv, ctx_idv, ctx_fuel, w_nil, w_cons, s_asg, s_ex, s_if, s_ret, s_raise, s_freeze, t_is, truth_bl, truth_non, List.getD_cons_zero, List.getD_cons_succ, Sl.get, List.cons_append, List.nil_append, List.append_nil, List.length_cons, List.length_nil, K.g1, K.dv, is_row_ok K ha, e, Bool.not_true, seqLen hT, p2_gt]
theorem k2_bad {rf : Nat → List D → Row → R D} {n : Nat} {hD T x3 x4 : D} {x0 x5 x6 x7 : Sl} (hr : rf = runF P (n + 3)) (ha : T.ask = true) (hT : isRow T = false) (r : Row) :
    ev (ctx P rf fun _ _ _ => .bad) (.orE (.notE (.call 3 [.var 2])) (.o2 .gt (.o1 .len (.var 2)) (.glb 1))) [x0, .sh hD, .sh T, .sh x3, .sh x4, x5, x6, x7] r = .ok (.bl true) r := by
  subst hr
  simp only [v_var, v_cst, v_glb, v_tup, v_lst, v_dnew, v_call, v_mk, v_meth, v_fld, v_o1, v_o2, v_sl, v_chain, v_and, v_or, v_not, v_ite, vs_nil, vs_cons, vo_none, vo_some, vi_seq, vi_rng, vi_enum, vi_zip, R.bind, R.then, RS.then, liftO, nextO, ended, ctx_call, ctx_init, ctx_word, ctx_has, ctx_gl, ctx_dv, ctx_idv, ctx_fuel, w_nil, w_cons, s_asg, s_ex, s_if, s_ret, s_raise, s_freeze, t_is, truth_bl, truth_non, List.getD_cons_zero, List.getD_cons_succ, Sl.get, List.cons_append, List.nil_append, List.append_nil, List.length_cons, List.length_nil, K.g1, K.dv, is_row_ok K ha, hT, Bool.not_false]
theorem k3_ev {rf : Nat → List D → Row → R D} {n : Nat} {tile x1 x2 x3 x4 : D} {x0 x5 x7 : Sl} (hr : rf = runF P (n + 3)) (ha : tile.ask = true) (he : ∀ xs, tile = .tup xs → ∀ x ∈ xs, x.ask = true) (r : Row) :
    ev (ctx P rf fun _ _ _ => .bad) (.notE (.call 4 [.var 6, .cst (.int 4), .glb 2])) [x0, .sh x1, .sh x2, .sh x3, .sh x4, x5, .sh tile, x7] r = .ok (.bl (!wordB 4 5 tile)) r := by
  subst hr
  simp only [v_var, v_cst, v_glb, v_tup, v_lst, v_dnew, v_call, v_mk, v_meth, v_fld, v_o1, v_o2, v_sl, v_chain, v_and, v_or, v_not, v_ite, vs_nil, vs_cons, vo_none, vo_some, vi_seq, vi_rng, vi_enum, vi_zip, R.bind, R.then, RS.then, liftO, nextO, ended, ctx_call, ctx_init, ctx_word, ctx_has, ctx_gl, ctx_dv, ctx_idv, ctx_fuel, w_nil, w_cons, s_asg, s_ex, s_if, s_ret, s_raise, s_freeze, t_is, truth_bl, truth_non, List.getD_cons_zero, List.getD_cons_succ, Sl.get, List.cons_append, List.nil_append, List.append_nil, List.length_cons, List.length_nil, K.g2, K.dv, is_word_ok K ha he]
theorem k4_ev {rf : Nat → List D → Row → R D} {n : Nat} {x1 x2 x3 x4 : D} {x0 x5 x6 x7 : Sl} (hr : rf = runF P (n + 3)) (ha : x3.ask = true) (r : Row) :
    ev (ctx P rf fun _ _ _ => .bad) (.notE (.call 5 [.var 3])) [x0, .sh x1, .sh x2, .sh x3, .sh x4, x5, x6, x7] r = .ok (.bl (!edgeB x3)) r := by
  subst hr
  simp only [v_var, v_cst, v_glb, v_tup, v_lst, v_dnew, v_call, v_mk, v_meth, v_fld, v_o1, v_o2, v_sl, v_chain, v_and, v_or, v_not, v_ite, vs_nil, vs_cons, vo_none, vo_some, vi_seq, vi_rng, vi_enum, vi_zip, R.bind, R.then, RS.then, liftO, nextO, ended, ctx_call, ctx_init, ctx_word, ctx_has, ctx_gl, ctx_dv, ctx_idv, ctx_fuel, w_nil, w_cons, s_asg, s_ex, s_if, s_ret, s_raise, s_freeze, t_is, truth_bl, truth_non, List.getD_cons_zero, List.getD_cons_succ, Sl.get, List.cons_append, List.nil_append, List.append_nil, List.length_cons, List.length_nil, K.dv, is_edge_ok K ha]
theorem k5_ev {rf : Nat → List D → Row → R D} {n : Nat} {x1 x2 x3 x4 : D} {x0 x5 x6 x7 : Sl} (hr : rf = runF P (n + 3)) (ha : x4.ask = true) (r : Row) :
    ev (ctx P rf fun _ _ _ => .bad) (.notE (.call 5 [.var 4])) [x0, .sh x1, .sh x2, .sh x3, .sh x4, x5, x6, x7] r = .ok (.bl (!edgeB x4)) r := by
  subst hr
  simp only [v_var, v_cst, v_glb, v_tup, v_lst, v_dnew, v_call, v_mk, v_meth, v_fld, v_o1, v_o2, v_sl, v_chain, v_and, v_or, v_not, v_ite, vs_nil, vs_cons, vo_none, vo_some, vi_seq, vi_rng, vi_enum, vi_zip, R.bind, R.then, RS.then, liftO, nextO, ended, ctx_call, ctx_init, ctx_word, ctx_has, ctx_gl, ctx_dv, ctx_idv, ctx_fuel, w_nil, w_cons, s_asg, s_ex, s_if, s_ret, s_raise, s_freeze, t_is, truth_bl, truth_non, List.getD_cons_zero, List.getD_cons_succ, Sl.get, List.cons_append, List.nil_append, List.append_nil, List.length_cons, List.length_nil, K.dv, is_edge_ok K ha]
/-- a tile as it must be -/
structure GoodT (x : D) : Prop where
  ask : x.ask = true
  asks : ∀ xs, x = .tup xs → ∀ y ∈ xs, y.ask = true
theorem k3_loop {rf : Nat → List D → Row → R D} {n : Nat} {hD T x3 x4 : D} {xs : List D} (hr : rf = runF P (n + 3)) (hg : ∀ x ∈ xs, GoodT x ∧ wordB 4 5 x = true) (r : Row) : ∀ i : Int,
    forLoop (bindT (.tp [(.nm 5), (.nm 6)])) (fun e r => exSs (ctx P rf fun _ _ _ => .bad) [.if_ (.notE (.call 4 [.var 6, .cst (.int 4), .glb 2])) [.raise 1 (.var 5)] []] e r) (killE [5, 6]) (enumD i xs) [.ow (.ins 0 []), .sh hD, .sh T, .sh x3, .sh x4, .no, .no, .no] r = .next [.ow (.ins 0 []), .sh hD, .sh T, .sh x3, .sh x4, .no, .no, .no] r := by
  induction xs with
  | nil => intro i; rfl
  | cons x xs ih =>
    intro i
    rw [enumD, forLoop]
    obtain ⟨g, w⟩ := hg x (by simp)
    have b : bindT (.tp [(.nm 5), (.nm 6)]) (.tup [.int i, x]) [.ow (.ins 0 []), .sh hD, .sh T, .sh x3, .sh x4, .no, .no, .no] = some [.ow (.ins 0 []), .sh hD, .sh T, .sh x3, .sh x4, .sh (.int i), .sh x, .no] := rfl
    rw [b]
    dsimp only
    have e := k3_ev K (n := n) (x0 := .ow (.ins 0 [])) (x1 := hD) (x2 := T) (x3 := x3) (x4 := x4) (x5 := .sh (.int i)) (x7 := .no) hr g.ask g.asks r
    rw [w] at e
    rw [w_skip e rfl, w_nil]
    exact ih (fun y hy => hg y (by simp [hy])) (i + 1)
/-- .. and the first that is not -/
theorem k3_bad {rf : Nat → List D → Row → R D} {n : Nat} {hD T x3 x4 y : D} {ys xs : List D} (hr : rf = runF P (n + 3)) (hg : ∀ x ∈ xs, GoodT x ∧ wordB 4 5 x = true) (hy : GoodT y) (hw : wordB 4 5 y = false) (r : Row) : ∀ i : Nat,
    forLoop (bindT (.tp [(.nm 5), (.nm 6)])) (fun e r => exSs (ctx P rf fun _ _ _ => .bad) [.if_ (.notE (.call 4 [.var 6, .cst (.int 4), .glb 2])) [.raise 1 (.var 5)] []] e r) (killE [5, 6]) (enumD i (xs ++ y :: ys)) [.ow (.ins 0 []), .sh hD, .sh T, .sh x3, .sh x4, .no, .no, .no] r = .exn 1 (.int ((i + xs.length : Nat) : Int)) r := by
  induction xs with
  | nil =>
    intro i
    rw [List.nil_append, enumD, forLoop]
    have b : bindT (.tp [(.nm 5), (.nm 6)]) (.tup [.int i, y]) [.ow (.ins 0 []), .sh hD, .sh T, .sh x3, .sh x4, .no, .no, .no] = some [.ow (.ins 0 []), .sh hD, .sh T, .sh x3, .sh x4, .sh (.int i), .sh y, .no] := rfl
    rw [b]
    dsimp only
    have e := k3_ev K (n := n) (x0 := .ow (.ins 0 [])) (x1 := hD) (x2 := T) (x3 := x3) (x4 := x4) (x5 := .sh (.int i)) (x7 := .no) hr hy.ask hy.asks r
    rw [hw] at e
    rw [w_raise e rfl (x := .int i) (r' := r) (by rw [v_var]; rfl)]
    rfl
  | cons x xs ih =>
    intro i
    rw [List.cons_append, enumD, forLoop]
    obtain ⟨g, w⟩ := hg x (by simp)
    have b : bindT (.tp [(.nm 5), (.nm 6)]) (.tup [.int i, x]) [.ow (.ins 0 []), .sh hD, .sh T, .sh x3, .sh x4, .no, .no, .no] = some [.ow (.ins 0 []), .sh hD, .sh T, .sh x3, .sh x4, .sh (.int i), .sh x, .no] := rfl
    rw [b]
    dsimp only
    have e := k3_ev K (n := n) (x0 := .ow (.ins 0 [])) (x1 := hD) (x2 := T) (x3 := x3) (x4 := x4) (x5 := .sh (.int i)) (x7 := .no) hr g.ask g.asks r
    rw [w] at e
    rw [w_skip e rfl, w_nil]
    have q := ih (fun y hy => hg y (by simp [hy])) (i + 1)
    have e1 : ((i + 1 : Nat) : Int) = (i : Int) + 1 := by omega
    rw [e1] at q
    dsimp only
    show forLoop _ _ _ (enumD ((i : Int) + 1) (xs ++ y :: ys)) _ r = _
    refine q.trans ?_
    rw [List.length_cons, show i + 1 + xs.length = i + (xs.length + 1) by omega]
theorem iniK {rf : Nat → List D → Row → R D} {a b c d : D} (r : Row) : iniF P rf 0 [a, b, c, d] r = made (exSs (ctx P rf fun _ _ _ => .bad) is6 [.ow (.ins 0 []), .sh a, .sh b, .sh c, .sh d, .no, .no, .no] r) := ini_at K.i0 K.f6 rfl
theorem enum_ev {C : Ctx} {hD T x3 x4 : D} {x0 x5 x6 x7 : Sl} {xs : List D} (hT : T = .lst xs ∨ T = .tup xs) (r : Row) : evI C (.enum [.var 2]) [x0, .sh hD, .sh T, .sh x3, .sh x4, x5, x6, x7] r = .ok (enumD 0 xs) r := by
  rcases hT with rfl | rfl <;> simp only [v_var, v_cst, v_glb, v_tup, v_lst, v_dnew, v_call, v_mk, v_meth, v_fld, v_o1, v_o2, v_sl, v_chain, v_and, v_or, v_not, v_ite, vs_nil, vs_cons, vo_none, vo_some, vi_seq, vi_rng, vi_enum, vi_zip, R.bind, R.then, RS.then, liftO, nextO, ended, ctx_call, ctx_init, ctx_word, ctx_has, ctx_gl, ctx_dv, ctx_idv, ctx_fuel, w_nil, w_cons, s_asg, s_ex, s_if, s_ret, s_raise, s_freeze, t_is, truth_bl, truth_non, List.getD_cons_zero, List.getD_cons_succ, Sl.get, List.cons_append, List.nil_append, List.append_nil, List.length_cons, List.length_nil, enO, seqOf, Option.map_some]
theorem kit_exn0 {n : Nat} {hD T f g : D} (ha : hD.ask = true) (hw : within 1 4 hD = false) (r : Row) : iniF P (runF P (n + 3)) 0 [hD, T, f, g] r = .exn 0 hD r := by
  rw [iniK K, is6]
  have e := k1_ev K (n := n) (x0 := .ow (.ins 0 [])) (hD := hD) (x2 := T) (x3 := f) (x4 := g) (x5 := .no) (x6 := .no) (x7 := .no) rfl ha r
  rw [hw] at e
  rw [w_raise e rfl (x := hD) (r' := r) (by rw [v_var]; rfl)]
  rfl
theorem kit_exn1 {n : Nat} {hD T f g : D} (ha : hD.ask = true) (hw : within 1 4 hD = true) (hT : (T.ask = true ∧ isRow T = false) ∨ ∃ xs, (T = .lst xs ∨ T = .tup xs) ∧ 10 < xs.length) (r : Row) : iniF P (runF P (n + 3)) 0 [hD, T, f, g] r = .exn 1 (.int (-1)) r := by
  rw [iniK K, is6]
  have e := k1_ev K (n := n) (x0 := .ow (.ins 0 [])) (hD := hD) (x2 := T) (x3 := f) (x4 := g) (x5 := .no) (x6 := .no) (x7 := .no) rfl ha r
  rw [hw] at e
  rw [w_skip e rfl]
  have q : p1 .neg (.int 1) = some (.int (-1)) := rfl
  rcases hT with ⟨h1, h2⟩ | ⟨xs, h1, h2⟩
  · have e2 := k2_bad K (n := n) (x0 := .ow (.ins 0 [])) (hD := hD) (T := T) (x3 := f) (x4 := g) (x5 := .no) (x6 := .no) (x7 := .no) rfl h1 h2 r
    rw [w_raise e2 rfl (x := .int (-1)) (r' := r) (by simp only [v_var, v_cst, v_glb, v_tup, v_lst, v_dnew, v_call, v_mk, v_meth, v_fld, v_o1, v_o2, v_sl, v_chain, v_and, v_or, v_not, v_ite, vs_nil, vs_cons, vo_none, vo_some, vi_seq, vi_rng, vi_enum, vi_zip, R.bind, R.then, RS.then, liftO, nextO, ended, ctx_call, ctx_init, ctx_word, ctx_has, ctx_gl, ctx_dv, ctx_idv, ctx_fuel, w_nil, w_cons, s_asg, s_ex, s_if, s_ret, s_raise, s_freeze, t_is, truth_bl, truth_non, List.getD_cons_zero, List.getD_cons_succ, Sl.get, List.cons_append, List.nil_append, List.append_nil, List.length_cons, List.length_nil, q])]
    rfl
  · have e2 := k2_ev K (n := n) (x0 := .ow (.ins 0 [])) (hD := hD) (T := T) (x3 := f) (x4 := g) (x5 := .no) (x6 := .no) (x7 := .no) rfl h1 r
    have h3 : (10 : Int) < (xs.length : Int) := by omega
    rw [decide_eq_true h3] at e2
    rw [w_raise e2 rfl (x := .int (-1)) (r' := r) (by simp only [v_var, v_cst, v_glb, v_tup, v_lst, v_dnew, v_call, v_mk, v_meth, v_fld, v_o1, v_o2, v_sl, v_chain, v_and, v_or, v_not, v_ite, vs_nil, vs_cons, vo_none, vo_some, vi_seq, vi_rng, vi_enum, vi_zip, R.bind, R.then, RS.then, liftO, nextO, ended, ctx_call, ctx_init, ctx_word, ctx_has, ctx_gl, ctx_dv, ctx_idv, ctx_fuel, w_nil, w_cons, s_asg, s_ex, s_if, s_ret, s_raise, s_freeze, t_is, truth_bl, truth_non, List.getD_cons_zero, List.getD_cons_succ, Sl.get, List.cons_append, List.nil_append, List.append_nil, List.length_cons, List.length_nil, q])]
    rfl
theorem kit_pre {n : Nat} {hD T f g : D} {xs : List D} {ss : List IS} (ha : hD.ask = true) (hw : within 1 4 hD = true) (hT : T = .lst xs ∨ T = .tup xs) (hl : xs.length ≤ 10) (r : Row) :
    exSs (ctx P (runF P (n + 3)) fun _ _ _ => .bad) (.if_ (.notE (.call 2 [.var 1, .cst (.int 1), .glb 0])) [.raise 0 (.var 1)] [] :: .if_ (.orE (.notE (.call 3 [.var 2])) (.o2 .gt (.o1 .len (.var 2)) (.glb 1))) [.raise 1 (.o1 .neg (.cst (.int 1)))] [] :: ss) [.ow (.ins 0 []), .sh hD, .sh T, .sh f, .sh g, .no, .no, .no] r =
    exSs (ctx P (runF P (n + 3)) fun _ _ _ => .bad) ss [.ow (.ins 0 []), .sh hD, .sh T, .sh f, .sh g, .no, .no, .no] r := by
  have e := k1_ev K (n := n) (x0 := .ow (.ins 0 [])) (hD := hD) (x2 := T) (x3 := f) (x4 := g) (x5 := .no) (x6 := .no) (x7 := .no) rfl ha r
  rw [hw] at e
  rw [w_skip e rfl]
  have e2 := k2_ev K (n := n) (x0 := .ow (.ins 0 [])) (hD := hD) (T := T) (x3 := f) (x4 := g) (x5 := .no) (x6 := .no) (x7 := .no) rfl hT r
  have h3 : ¬ (10 : Int) < (xs.length : Int) := by omega
  rw [decide_eq_false h3] at e2
  rw [w_skip e2 rfl]
theorem kit_exnT {n : Nat} {hD T f g y : D} {xs ys : List D} (ha : hD.ask = true) (hw : within 1 4 hD = true) (hT : T = .lst (xs ++ y :: ys) ∨ T = .tup (xs ++ y :: ys)) (hl : (xs ++ y :: ys).length ≤ 10) (hg : ∀ x ∈ xs, GoodT x ∧ wordB 4 5 x = true) (hy : GoodT y) (hb : wordB 4 5 y = false) (r : Row) :
    iniF P (runF P (n + 3)) 0 [hD, T, f, g] r = .exn 1 (.int xs.length) r := by
  rw [iniK K, is6, kit_pre K ha hw hT hl, w_cons, s_for, enum_ev K hT]
  show made ((forLoop _ _ _ (enumD 0 (xs ++ y :: ys)) _ r).then _) = _
  have q := k3_bad K (n := n) (hD := hD) (T := T) (x3 := f) (x4 := g) (ys := ys) rfl hg hy hb r 0
  rw [show ((0 : Nat) : Int) = 0 from rfl] at q
  rw [q, Nat.zero_add]
  rfl
theorem kit_pre2 {n : Nat} {hD T f g : D} {xs : List D} {ss : List IS} (hT : T = .lst xs ∨ T = .tup xs) (hg : ∀ x ∈ xs, GoodT x ∧ wordB 4 5 x = true) (r : Row) :
    exSs (ctx P (runF P (n + 3)) fun _ _ _ => .bad) (.for_ (.tp [(.nm 5), (.nm 6)]) (.enum [.var 2]) [.if_ (.notE (.call 4 [.var 6, .cst (.int 4), .glb 2])) [.raise 1 (.var 5)] []] [5, 6] :: ss) [.ow (.ins 0 []), .sh hD, .sh T, .sh f, .sh g, .no, .no, .no] r =
    exSs (ctx P (runF P (n + 3)) fun _ _ _ => .bad) ss [.ow (.ins 0 []), .sh hD, .sh T, .sh f, .sh g, .no, .no, .no] r :=
  w_for (enum_ev K hT r) (k3_loop K (n := n) rfl hg r 0)
theorem kit_exn2 {n : Nat} {hD T f g : D} {xs : List D} (ha : hD.ask = true) (hw : within 1 4 hD = true) (hT : T = .lst xs ∨ T = .tup xs) (hl : xs.length ≤ 10) (hg : ∀ x ∈ xs, GoodT x ∧ wordB 4 5 x = true) (hf : f.ask = true) (hb : edgeB f = false) (r : Row) :
    iniF P (runF P (n + 3)) 0 [hD, T, f, g] r = .exn 2 f r := by
  rw [iniK K, is6, kit_pre K ha hw hT hl, kit_pre2 K hT hg]
  have e := k4_ev K (n := n) (x0 := .ow (.ins 0 [])) (x1 := hD) (x2 := T) (x3 := f) (x4 := g) (x5 := .no) (x6 := .no) (x7 := .no) rfl hf r
  rw [hb] at e
  rw [w_raise e rfl (x := f) (r' := r) (by rw [v_var]; rfl)]
  rfl
theorem kit_pre3 {n : Nat} {hD T f g : D} {ss : List IS} (hf : f.ask = true) (hb : edgeB f = true) (r : Row) :
    exSs (ctx P (runF P (n + 3)) fun _ _ _ => .bad) (.if_ (.notE (.call 5 [.var 3])) [.raise 2 (.var 3)] [] :: ss) [.ow (.ins 0 []), .sh hD, .sh T, .sh f, .sh g, .no, .no, .no] r =
    exSs (ctx P (runF P (n + 3)) fun _ _ _ => .bad) ss [.ow (.ins 0 []), .sh hD, .sh T, .sh f, .sh g, .no, .no, .no] r := by
  have e := k4_ev K (n := n) (x0 := .ow (.ins 0 [])) (x1 := hD) (x2 := T) (x3 := f) (x4 := g) (x5 := .no) (x6 := .no) (x7 := .no) rfl hf r
  rw [hb] at e
  rw [w_skip e rfl]
theorem kit_exn3 {n : Nat} {hD T f g : D} {xs : List D} (ha : hD.ask = true) (hw : within 1 4 hD = true) (hT : T = .lst xs ∨ T = .tup xs) (hl : xs.length ≤ 10) (hg : ∀ x ∈ xs, GoodT x ∧ wordB 4 5 x = true) (hf : f.ask = true) (hb : edgeB f = true) (hf2 : g.ask = true) (hb2 : edgeB g = false) (r : Row) :
    iniF P (runF P (n + 3)) 0 [hD, T, f, g] r = .exn 3 g r := by
  rw [iniK K, is6, kit_pre K ha hw hT hl, kit_pre2 K hT hg, kit_pre3 K hf hb]
  have e := k5_ev K (n := n) (x0 := .ow (.ins 0 [])) (x1 := hD) (x2 := T) (x3 := f) (x4 := g) (x5 := .no) (x6 := .no) (x7 := .no) rfl hf2 r
  rw [hb2] at e
  rw [w_raise e rfl (x := g) (r' := r) (by rw [v_var]; rfl)]
  rfl
omit K in
theorem noIns_ints {α : Type} (f : α → Int) : ∀ l : List α, noInsAll (l.map fun k => D.int (f k)) = true
  | [] => by rw [List.map_nil, noInsAll]
  | x :: l => by
    rw [List.map_cons, noInsAll, noIns_ints f l, Bool.and_true]
    simp [D.noIns]
omit K in
theorem noIns_tups {α : Type} (f : α → D) (h : ∀ x, (f x).noIns = true) : ∀ l : List α, noInsAll (l.map f) = true
  | [] => by rw [List.map_nil, noInsAll]
  | x :: l => by
    rw [List.map_cons, noInsAll, h x, noIns_tups f h l]
    rfl
omit K in
theorem tN_noIns (l : List Nat) : (tN l).noIns = true := by
  unfold tN
  rw [D.noIns]
  exact noIns_ints (fun k : Nat => (k : Int)) l
omit K in
theorem tI_noIns (l : List Int) : (tI l).noIns = true := by
  unfold tI
  rw [D.noIns]
  exact noIns_ints (fun k : Int => k) l
omit K in
theorem lst_noIns {α : Type} (f : α → D) (h : ∀ x, (f x).noIns = true) (l : List α) : (D.lst (l.map f)).noIns = true := by
  rw [D.noIns]
  exact noIns_tups f h l
def kitD (h : Nat) (ts : List (List Int)) (fl ro : Option Int) : D := .ins 0 [.int h, .tup (ts.map tI), edD fl, edD ro, .lst ((cols h ts fl ro).map tN), .lst ((cols h ts fl ro).map fun c => tI (side ts 3 c)), .lst ((cols h ts fl ro).map fun c => tI (side ts 1 c))]
/-- what a kit may be made of -/
structure KitOk (h : Nat) (ts : List (List Int)) (fl ro : Option Int) : Prop where
  h1 : 1 ≤ h
  h4 : h ≤ 4
  few : ts.length ≤ 10
  four : T4 ts
  col : ∀ t ∈ ts, ∀ c ∈ t, 0 ≤ c ∧ c ≤ 5
  flo : ∀ c, fl = some c → 0 ≤ c ∧ c ≤ 5
  roo : ∀ c, ro = some c → 0 ≤ c ∧ c ≤ 5
omit K in
theorem KitOk.tile {h : Nat} {ts : List (List Int)} {fl ro : Option Int} (k : KitOk h ts fl ro) : ∀ x ∈ ts.map tI, GoodT x ∧ wordB 4 5 x = true := fun x hx => by
  obtain ⟨t, ht, rfl⟩ := List.mem_map.mp hx
  refine ⟨⟨rfl, fun xs e y hy => ?_⟩, ?_⟩
  · cases e
    obtain ⟨c, _, rfl⟩ := List.mem_map.mp hy
    rfl
  · have e : ((t.map D.int).length : Int) = 4 := by rw [List.length_map, k.four t ht]; rfl
    show (decide (((t.map D.int).length : Int) = 4) && (t.map D.int).all (within 0 5)) = true
    rw [decide_eq_true e, Bool.true_and, List.all_eq_true]
    intro y hy
    obtain ⟨c, hc, rfl⟩ := List.mem_map.mp hy
    obtain ⟨q1, q2⟩ := k.col t ht c hc
    show (decide (0 ≤ c) && decide (c ≤ 5)) = true
    simp [q1, q2]
omit K in
theorem edge_ok {o : Option Int} (h : ∀ c, o = some c → 0 ≤ c ∧ c ≤ 5) : (edD o).ask = true ∧ edgeB (edD o) = true := by
  cases o with
  | none => exact ⟨rfl, rfl⟩
  | some c =>
    obtain ⟨q1, q2⟩ := h c rfl
    refine ⟨rfl, ?_⟩
    show (decide (0 ≤ c) && decide (c ≤ 5)) = true
    simp [q1, q2]
omit K in
theorem edD_noIns (o : Option Int) : (edD o).noIns = true := by cases o <;> simp [edD, D.noIns]
omit K in
theorem clear_ins {nw : Bool} {fs : List D} {d : D} {e : Env} (h : d.noIns = true) : clearB nw [0] (.ow (.ins 0 fs) :: e) d = true := by
  cases nw <;> simp [clearB, clearAll, clearNew, D.clear, h]
theorem v_bor {C : Ctx} {e : IE} {fs : List D} {en : Env} {d : D} {r : Row} (h : ev C e (.sh (.ins 0 fs) :: en) r = .ok d r) (hn : d.noIns = true) : ev C (.borrow [0] e) (.ow (.ins 0 fs) :: en) r = .ok d r := by
  rw [v_borrow]
  show unborrow _ _ _ (ev C e (.sh (.ins 0 fs) :: en) r) = _
  rw [h]
  show (if clearB e.isNew [0] (.ow (.ins 0 fs) :: en) d = true then R.ok d r else R.bad) = _
  rw [clear_ins hn, if_pos rfl]
theorem seams_ev {n : Nat} {h : Nat} {ts : List (List Int)} {fl ro : Option Int} {rest : List D} {x1 x2 x3 x4 x5 x6 x7 : Sl} {s i : Nat} (k4 : T4 ts) (hs : s < 4) (hg : P.gl i = .int s) (r : Row) :
    ev (ctx P (runF P (n + 3)) fun _ _ _ => .bad) (.lc [("column", 7)] (.nm 7) (.seq (.fld 0 (.var 0) 4)) [] (.meth 0 8 (.var 0) [.var 7, .glb i])) [.sh (.ins 0 (.int h :: .tup (ts.map tI) :: edD fl :: edD ro :: .lst ((cols h ts fl ro).map tN) :: rest)), x1, x2, x3, x4, x5, x6, x7] r =
      .ok (.lst ((cols h ts fl ro).map fun c => tI (side ts s c))) r := by
  have q1 : fldOf 0 4 (.ins 0 (.int h :: .tup (ts.map tI) :: edD fl :: edD ro :: .lst ((cols h ts fl ro).map tN) :: rest)) = some (.lst ((cols h ts fl ro).map tN)) := rfl
  refine v_lcam (emb := tN) (xs := cols h ts fl ro) (by simp only [v_var, v_cst, v_glb, v_tup, v_lst, v_dnew, v_call, v_mk, v_meth, v_fld, v_o1, v_o2, v_sl, v_chain, v_and, v_or, v_not, v_ite, vs_nil, vs_cons, vo_none, vo_some, vi_seq, vi_rng, vi_enum, vi_zip, R.bind, R.then, RS.then, liftO, nextO, ended, ctx_call, ctx_init, ctx_word, ctx_has, ctx_gl, ctx_dv, ctx_idv, ctx_fuel, w_nil, w_cons, s_asg, s_ex, s_if, s_ret, s_raise, s_freeze, t_is, truth_bl, truth_non, List.getD_cons_zero, List.getD_cons_succ, Sl.get, List.cons_append, List.nil_append, List.append_nil, List.length_cons, List.length_nil, q1, seqOf]) fun c hc => ⟨[.sh (.ins 0 (.int h :: .tup (ts.map tI) :: edD fl :: edD ro :: .lst ((cols h ts fl ro).map tN) :: rest)), x1, x2, x3, x4, x5, x6, .sh (tN c)], rfl, ?_⟩
  have q2 : D.isCls 0 (.ins 0 (.int h :: .tup (ts.map tI) :: edD fl :: edD ro :: .lst ((cols h ts fl ro).map tN) :: rest)) = true := rfl
  simp only [v_var, v_cst, v_glb, v_tup, v_lst, v_dnew, v_call, v_mk, v_meth, v_fld, v_o1, v_o2, v_sl, v_chain, v_and, v_or, v_not, v_ite, vs_nil, vs_cons, vo_none, vo_some, vi_seq, vi_rng, vi_enum, vi_zip, R.bind, R.then, RS.then, liftO, nextO, ended, ctx_call, ctx_init, ctx_word, ctx_has, ctx_gl, ctx_dv, ctx_idv, ctx_fuel, w_nil, w_cons, s_asg, s_ex, s_if, s_ret, s_raise, s_freeze, t_is, truth_bl, truth_non, List.getD_cons_zero, List.getD_cons_succ, Sl.get, List.cons_append, List.nil_append, List.append_nil, List.length_cons, List.length_nil, q2, if_true, hg, K.dv, seam_ok K k4 hs (cols_mem hc).2]
theorem kit_ok {n : Nat} {h : Nat} {ts : List (List Int)} {fl ro : Option Int} {T : D} (k : KitOk h ts fl ro) (hT : T = .lst (ts.map tI) ∨ T = .tup (ts.map tI)) (r : Row) : iniF P (runF P (n + 3)) 0 [.int h, T, edD fl, edD ro] r = .ok (kitD h ts fl ro) r := by
  have hw : within 1 4 (.int (h : Int)) = true := by
    have h1 := k.h1
    have h4 := k.h4
    show (decide ((1 : Int) ≤ (h : Int)) && decide ((h : Int) ≤ 4)) = true
    rw [decide_eq_true (by omega), decide_eq_true (by omega)]
    rfl
  rw [iniK K, is6, kit_pre K rfl hw hT (by rw [List.length_map]; exact k.few), kit_pre2 K hT k.tile, kit_pre3 K (edge_ok k.flo).1 (edge_ok k.flo).2]
  have e := k5_ev K (n := n) (x0 := .ow (.ins 0 [])) (x1 := .int h) (x2 := T) (x3 := edD fl) (x4 := edD ro) (x5 := .no) (x6 := .no) (x7 := .no) rfl (edge_ok k.roo).1 r
  rw [(edge_ok k.roo).2] at e
  rw [w_skip e rfl]
  have eT : p1 .tupleOf T = some (.tup (ts.map tI)) := by rcases hT with rfl | rfl <;> rfl
  have m1 : ev (ctx P (runF P (n + 3)) fun _ _ _ => .bad) (.meth 0 7 (.var 0) []) [.sh (.ins 0 (.int h :: .tup (ts.map tI) :: edD fl :: edD ro :: [])), .sh (.int h), .sh T, .sh (edD fl), .sh (edD ro), .no, .no, .no] r = .ok (.lst ((cols h ts fl ro).map tN)) r := by
    have q2 : D.isCls 0 (.ins 0 (.int h :: .tup (ts.map tI) :: edD fl :: edD ro :: [])) = true := rfl
    simp only [v_var, v_cst, v_glb, v_tup, v_lst, v_dnew, v_call, v_mk, v_meth, v_fld, v_o1, v_o2, v_sl, v_chain, v_and, v_or, v_not, v_ite, vs_nil, vs_cons, vo_none, vo_some, vi_seq, vi_rng, vi_enum, vi_zip, R.bind, R.then, RS.then, liftO, nextO, ended, ctx_call, ctx_init, ctx_word, ctx_has, ctx_gl, ctx_dv, ctx_idv, ctx_fuel, w_nil, w_cons, s_asg, s_ex, s_if, s_ret, s_raise, s_freeze, t_is, truth_bl, truth_non, List.getD_cons_zero, List.getD_cons_succ, Sl.get, List.cons_append, List.nil_append, List.append_nil, List.length_cons, List.length_nil, q2, if_true, K.dv, all_columns_ok K k.h1 k.h4 k.few k.four]
  refine (congrArg made ((w_setF (f := 0) (fs := []) rfl (d := .int h) (r1 := r) (by rw [v_var]; rfl) rfl rfl).trans ((w_setF (f := 0) (fs := [.int h]) rfl (d := .tup (ts.map tI)) (r1 := r) (by simp only [List.set_cons_zero, v_var, v_cst, v_glb, v_tup, v_lst, v_dnew, v_call, v_mk, v_meth, v_fld, v_o1, v_o2, v_sl, v_chain, v_and, v_or, v_not, v_ite, vs_nil, vs_cons, vo_none, vo_some, vi_seq, vi_rng, vi_enum, vi_zip, R.bind, R.then, RS.then, liftO, nextO, ended, ctx_call, ctx_init, ctx_word, ctx_has, ctx_gl, ctx_dv, ctx_idv, ctx_fuel, w_nil, w_cons, s_asg, s_ex, s_if, s_ret, s_raise, s_freeze, t_is, truth_bl, truth_non, List.getD_cons_zero, List.getD_cons_succ, Sl.get, List.cons_append, List.nil_append, List.append_nil, List.length_cons, List.length_nil, eT]) rfl rfl).trans
    ((w_setF (f := 0) (fs := [.int h, .tup (ts.map tI)]) rfl (d := edD fl) (r1 := r) (by rw [v_var]; rfl) rfl rfl).trans ((w_setF (f := 0) (fs := [.int h, .tup (ts.map tI), edD fl]) rfl (d := edD ro) (r1 := r) (by rw [v_var]; rfl) rfl rfl).trans
    ((w_setF (f := 0) (fs := [.int h, .tup (ts.map tI), edD fl, edD ro]) rfl (v_bor K m1 (lst_noIns _ tN_noIns _)) rfl rfl).trans
    ((w_setF (f := 0) (fs := [.int h, .tup (ts.map tI), edD fl, edD ro, .lst ((cols h ts fl ro).map tN)]) rfl (v_bor K (seams_ev K (n := n) (rest := []) (s := 3) (i := 6) k.four (by omega) K.g6 r) (lst_noIns _ (fun _ => tI_noIns _) _)) rfl rfl).trans
    ((w_setF (f := 0) (fs := [.int h, .tup (ts.map tI), edD fl, edD ro, .lst ((cols h ts fl ro).map tN), .lst ((cols h ts fl ro).map fun c => tI (side ts 3 c))]) rfl (v_bor K (seams_ev K (n := n) (rest := [.lst ((cols h ts fl ro).map fun c => tI (side ts 3 c))]) (s := 1) (i := 4) k.four (by omega) K.g4 r) (lst_noIns _ (fun _ => tI_noIns _) _)) rfl rfl).trans w_nil)))))))).trans ?_
  rfl
end
end SW.K

/-! SwKit2: what the laws' own small defs answer. Own work. -/
namespace SW.K
open PySem (Str)
structure Laws (P : Pg) : Prop extends Kits P where
  f18 : P.fn 18 = some fd18
  f19 : P.fn 19 = some fd19
  f20 : P.fn 20 = some fd20
  f21 : P.fn 21 = some fd21
  f22 : P.fn 22 = some fd22
  f23 : P.fn 23 = some fd23
  f24 : P.fn 24 = some fd24
  f25 : P.fn 25 = some fd25
  f26 : P.fn 26 = some fd26
  f28 : P.fn 28 = some fd28
  f29 : P.fn 29 = some fd29
/-! ### draws -/
theorem take_ok {r : Row} {many : Int} (h0 : 0 < many) : 0 ≤ (r.take many).1 ∧ (r.take many).1 < many ∧ (r.take many).2.live = r.live := by
  unfold Row.take
  split
  · exact ⟨Int.emod_nonneg _ (by omega), Int.emod_lt_of_pos _ h0, rfl⟩
  · split
    · exact ⟨Int.emod_nonneg _ (by omega), Int.emod_lt_of_pos _ h0, rfl⟩
    · exact ⟨Int.emod_nonneg _ (by omega), Int.emod_lt_of_pos _ h0, rfl⟩
theorem draw_ok {P : Pg} {r : Row} {many : Int} (hr : r.live = true) (h0 : 0 < many) (h1 : many < 1073741824) : ∃ (v : Nat) (r' : Row), (∀ n, runF P (n + 1) 0 [.row, .int many] r = .ok (.int v) r') ∧ r'.live = true ∧ (v : Int) < many := by
  obtain ⟨q1, q2, q3⟩ := take_ok (r := r) h0
  refine ⟨(r.take many).1.toNat, (r.take many).2, fun n => ?_, by rw [q3, hr], by omega⟩
  rw [run_take]
  unfold takeD
  dsimp only
  rw [if_pos ⟨hr, h0, h1⟩, Int.toNat_of_nonneg q1]
section
variable {P : Pg} (K : Laws P)
include K
theorem pick_ok {r : Row} {xs : List D} (hr : r.live = true) (h0 : xs ≠ []) (h1 : xs.length < 1000) : ∃ (x : D) (r' : Row), (∀ n, runF P (n + 2) 18 [.row, .lst xs] r = .ok x r') ∧ r'.live = true ∧ x ∈ xs := by
  have hp : 0 < xs.length := List.length_pos_iff.mpr h0
  obtain ⟨v, r', q1, q2, q3⟩ := draw_ok (P := P) hr (many := xs.length) (by omega) (by omega)
  have hv : v < xs.length := by omega
  refine ⟨xs[v], r', fun n => ?_, q2, List.getElem_mem hv⟩
  rw [run_at K.f18 (by decide) rfl]
  show ended (exSs _ is18 [.sh .row, .sh (.lst xs)] r) = _
  have e1 : p1 .len (.lst xs) = some (.int xs.length) := rfl
  have e2 : p2 .idx (.lst xs) (.int (v : Int)) = some xs[v] := by
    show idxI xs (v : Int) = _
    rw [idx_nat, List.getElem?_eq_getElem hv]
  simp only [is18, v_var, v_cst, v_glb, v_tup, v_lst, v_dnew, v_call, v_mk, v_meth, v_fld, v_o1, v_o2, v_sl, v_chain, v_and, v_or, v_not, v_ite, vs_nil, vs_cons, vo_none, vo_some, vi_seq, vi_rng, vi_enum, vi_zip, R.bind, R.then, RS.then, liftO, nextO, ended, ctx_call, ctx_init, ctx_word, ctx_has, ctx_gl, ctx_dv, ctx_idv, ctx_fuel, w_nil, w_cons, s_asg, s_ex, s_if, s_ret, s_raise, s_freeze, t_is, truth_bl, truth_non, List.getD_cons_zero, List.getD_cons_succ, Sl.get, List.cons_append, List.nil_append, List.append_nil, List.length_cons, List.length_nil, K.dv, e1, q1, e2]
/-! ### equal things are alike -/
omit K in
def okA : Nat → D → Bool
  | _, .non => true
  | _, .bl _ => true
  | _, .int _ => true
  | _, .str _ => true
  | n + 1, .tup xs => decide (xs.length ≤ LIM) && xs.all (okA n)
  | n + 1, .lst xs => decide (xs.length ≤ LIM) && xs.all (okA n)
  | _, _ => false
omit K in
theorem eqvAll_refl {xs : List D} (h : ∀ x ∈ xs, x.eqv x = true) : eqvAll xs xs = true := by
  induction xs with
  | nil => rw [eqvAll]
  | cons x xs ih =>
    rw [eqvAll, h x (by simp), ih fun y hy => h y (by simp [hy])]
    rfl
omit K in
theorem bl_ne (b : Bool) : p2 .ne (.bl b) (.bl b) = some (.bl false) := by cases b <;> (rw [p2_ne rfl, D.eqv]; rfl)
omit K in
theorem bl_eq (b : Bool) : p2 .eq (.bl b) (.bl b) = some (.bl true) := by cases b <;> (rw [p2_eq rfl, D.eqv]; rfl)
omit K in
theorem int_ne (i : Int) : p2 .ne (.int i) (.int i) = some (.bl false) := by
  rw [p2_ne rfl, eqv_int, decide_eq_true rfl]
  rfl
omit K in
theorem nil_eq : p2 .eq (.lst []) (.lst []) = some (.bl true) := by rw [p2_eq rfl, D.eqv, eqvAll]
omit K in
theorem seqIdx {T : D} {xs : List D} {k : Nat} (hT : T = .lst xs ∨ T = .tup xs) (hk : k < xs.length) : p2 .idx T (.int (k : Int)) = some (xs[k]) := by
  rcases hT with rfl | rfl
  · show idxI xs (k : Int) = _
    rw [idx_nat, List.getElem?_eq_getElem hk]
  · show idxI xs (k : Int) = _
    rw [idx_nat, List.getElem?_eq_getElem hk]
theorem alike_seq {k : Nat} (ih : ∀ d, okA k d = true → ∀ n r, runF P (n + k + 1) 19 [d, d] r = .ok (.bl true) r) {T : D} {xs : List D} (hT : T = .lst xs ∨ T = .tup xs) (hl : xs.length ≤ LIM) (ha : ∀ x ∈ xs, okA k x = true) (n : Nat) (r : Row) : runF P (n + (k + 1) + 1) 19 [T, T] r = .ok (.bl true) r := by
  rw [run_at K.f19 (by decide) rfl]
  show ended (exSs _ is19 [.sh T, .sh T, .no, .no] r) = _
  have e1 : p1 (.isI .rowT) T = some (.bl true) := by rcases hT with rfl | rfl <;> rfl
  obtain ⟨b, e2⟩ : ∃ b, p1 (.isI .list) T = some (.bl b) := by rcases hT with rfl | rfl <;> exact ⟨_, rfl⟩
  have e3 := seqLen hT
  have e4 : ev (ctx P (runF P (n + (k + 1))) (iniF P (runF P (n + (k + 1))))) (.lc [("k", 2)] (.nm 2) (.rng [.o1 .len (.var 1)]) [.notE (.call 19 [.o2 .idx (.var 0) (.var 2), .o2 .idx (.var 1) (.var 2)])] (.var 2)) [.sh T, .sh T, .no, .no] r = .ok (.lst []) r := by
    have q := v_lca (C := ctx P (runF P (n + (k + 1))) (iniF P (runF P (n + (k + 1))))) (env := [.sh T, .sh T, .no, .no]) (r := r) (r1 := r) (own := [("k", 2)]) (tg := .nm 2) (it := .rng [.o1 .len (.var 1)]) (ts := [.notE (.call 19 [.o2 .idx (.var 0) (.var 2), .o2 .idx (.var 1) (.var 2)])]) (e := .var 2) (emb := fun (k : Nat) => .int k) (xs := List.range xs.length) (p := fun _ => false) (g := fun (k : Nat) => .int k)
      (vi_rng1 (by simp only [v_var, v_cst, v_glb, v_tup, v_lst, v_dnew, v_call, v_mk, v_meth, v_fld, v_o1, v_o2, v_sl, v_chain, v_and, v_or, v_not, v_ite, vs_nil, vs_cons, vo_none, vo_some, vi_seq, vi_rng, vi_enum, vi_zip, R.bind, R.then, RS.then, liftO, nextO, ended, ctx_call, ctx_init, ctx_word, ctx_has, ctx_gl, ctx_dv, ctx_idv, ctx_fuel, w_nil, w_cons, s_asg, s_ex, s_if, s_ret, s_raise, s_freeze, t_is, truth_bl, truth_non, List.getD_cons_zero, List.getD_cons_succ, Sl.get, List.cons_append, List.nil_append, List.append_nil, List.length_cons, List.length_nil, e3]) (rngD_nat hl)) fun j hj => ⟨[.sh T, .sh T, .sh (.int j), .no], rfl, ?_, fun z => by cases z⟩
    · rw [q, List.filter_eq_nil_iff.mpr (by simp)]
      rfl
    · have hj1 : j < xs.length := List.mem_range.mp hj
      refine ts_one (d := .bl false) ?_ rfl
      have q := ih xs[j] (ha _ (List.getElem_mem hj1)) n r
      rw [show n + k + 1 = n + (k + 1) by omega] at q
      simp only [v_var, v_cst, v_glb, v_tup, v_lst, v_dnew, v_call, v_mk, v_meth, v_fld, v_o1, v_o2, v_sl, v_chain, v_and, v_or, v_not, v_ite, vs_nil, vs_cons, vo_none, vo_some, vi_seq, vi_rng, vi_enum, vi_zip, R.bind, R.then, RS.then, liftO, nextO, ended, ctx_call, ctx_init, ctx_word, ctx_has, ctx_gl, ctx_dv, ctx_idv, ctx_fuel, w_nil, w_cons, s_asg, s_ex, s_if, s_ret, s_raise, s_freeze, t_is, truth_bl, truth_non, List.getD_cons_zero, List.getD_cons_succ, Sl.get, List.cons_append, List.nil_append, List.append_nil, List.length_cons, List.length_nil, seqIdx hT hj1, K.dv, q, Bool.not_true]
  simp only [is19, v_var, v_cst, v_glb, v_tup, v_lst, v_dnew, v_call, v_mk, v_meth, v_fld, v_o1, v_o2, v_sl, v_chain, v_and, v_or, v_not, v_ite, vs_nil, vs_cons, vo_none, vo_some, vi_seq, vi_rng, vi_enum, vi_zip, R.bind, R.then, RS.then, liftO, nextO, ended, ctx_call, ctx_init, ctx_word, ctx_has, ctx_gl, ctx_dv, ctx_idv, ctx_fuel, w_nil, w_cons, s_asg, s_ex, s_if, s_ret, s_raise, s_freeze, t_is, truth_bl, truth_non, List.getD_cons_zero, List.getD_cons_succ, Sl.get, List.cons_append, List.nil_append, List.append_nil, List.length_cons, List.length_nil, e1, e2, e3, e4, Bool.not_true, bl_ne, int_ne, nil_eq]
omit K in
def atomB : D → Bool
  | .non => true
  | .bl _ => true
  | .int _ => true
  | .str _ => true
  | _ => false
theorem alike_atom {d : D} (h : atomB d = true) (n : Nat) (r : Row) : runF P (n + 1) 19 [d, d] r = .ok (.bl true) r := by
  rw [run_at K.f19 (by decide) rfl]
  show ended (exSs _ is19 [.sh d, .sh d, .no, .no] r) = _
  have e1 : p1 (.isI .rowT) d = some (.bl false) := by cases d <;> first | rfl | cases h
  have e2 : p1 (.isI .dict) d = some (.bl false) := by cases d <;> first | rfl | cases h
  have e7 : p2 .eq d d = some (.bl true) := by
    cases d <;> first | (cases h; done) | (rw [p2_eq rfl, D.eqv]; done) | (rw [p2_eq rfl, D.eqv]; simp)
  obtain ⟨b, e3⟩ : ∃ b, p1 (.isI .str) d = some (.bl b) := by cases d <;> first | exact ⟨_, rfl⟩ | cases h
  obtain ⟨b2, e6⟩ : ∃ b, p1 .isNone d = some (.bl b) := by cases d <;> first | exact ⟨_, rfl⟩ | cases h
  obtain ⟨b3, e5⟩ : ∃ b, p1 (.isI .bool) d = some (.bl b) := by cases d <;> first | exact ⟨_, rfl⟩ | cases h
  have e4 : b2 = false → b = false → p1 (.isI .int) d = some (.bl true) := fun h1 h2 => by
    subst h1 h2
    cases d with
    | non => cases e6
    | str s => cases e3
    | bl b => rfl
    | int i => rfl
    | _ => cases h
  cases b2 with
  | true => simp only [is19, v_var, v_cst, v_glb, v_tup, v_lst, v_dnew, v_call, v_mk, v_meth, v_fld, v_o1, v_o2, v_sl, v_chain, v_and, v_or, v_not, v_ite, vs_nil, vs_cons, vo_none, vo_some, vi_seq, vi_rng, vi_enum, vi_zip, R.bind, R.then, RS.then, liftO, nextO, ended, ctx_call, ctx_init, ctx_word, ctx_has, ctx_gl, ctx_dv, ctx_idv, ctx_fuel, w_nil, w_cons, s_asg, s_ex, s_if, s_ret, s_raise, s_freeze, t_is, truth_bl, truth_non, List.getD_cons_zero, List.getD_cons_succ, Sl.get, List.cons_append, List.nil_append, List.append_nil, List.length_cons, List.length_nil, e1, e2, e3, e6, e7, bl_eq]
  | false =>
    cases b with
    | true => simp only [is19, v_var, v_cst, v_glb, v_tup, v_lst, v_dnew, v_call, v_mk, v_meth, v_fld, v_o1, v_o2, v_sl, v_chain, v_and, v_or, v_not, v_ite, vs_nil, vs_cons, vo_none, vo_some, vi_seq, vi_rng, vi_enum, vi_zip, R.bind, R.then, RS.then, liftO, nextO, ended, ctx_call, ctx_init, ctx_word, ctx_has, ctx_gl, ctx_dv, ctx_idv, ctx_fuel, w_nil, w_cons, s_asg, s_ex, s_if, s_ret, s_raise, s_freeze, t_is, truth_bl, truth_non, List.getD_cons_zero, List.getD_cons_succ, Sl.get, List.cons_append, List.nil_append, List.append_nil, List.length_cons, List.length_nil, e1, e2, e3, e6, e7, bl_eq]
    | false => simp only [is19, v_var, v_cst, v_glb, v_tup, v_lst, v_dnew, v_call, v_mk, v_meth, v_fld, v_o1, v_o2, v_sl, v_chain, v_and, v_or, v_not, v_ite, vs_nil, vs_cons, vo_none, vo_some, vi_seq, vi_rng, vi_enum, vi_zip, R.bind, R.then, RS.then, liftO, nextO, ended, ctx_call, ctx_init, ctx_word, ctx_has, ctx_gl, ctx_dv, ctx_idv, ctx_fuel, w_nil, w_cons, s_asg, s_ex, s_if, s_ret, s_raise, s_freeze, t_is, truth_bl, truth_non, List.getD_cons_zero, List.getD_cons_succ, Sl.get, List.cons_append, List.nil_append, List.append_nil, List.length_cons, List.length_nil, e1, e2, e3, e4 rfl rfl, e5, e6, e7, bl_eq]
theorem alike_ok : ∀ (k : Nat) (d : D), okA k d = true → ∀ n r, runF P (n + k + 1) 19 [d, d] r = .ok (.bl true) r := by
  intro k
  induction k with
  | zero =>
    intro d h n r
    exact alike_atom K (by cases d <;> first | rfl | cases h) n r
  | succ k ih =>
    intro d h n r
    cases d with
    | tup xs =>
      simp only [okA, Bool.and_eq_true, decide_eq_true_eq, List.all_eq_true] at h
      exact alike_seq K ih (.inr rfl) h.1 h.2 n r
    | lst xs =>
      simp only [okA, Bool.and_eq_true, decide_eq_true_eq, List.all_eq_true] at h
      exact alike_seq K ih (.inl rfl) h.1 h.2 n r
    | non => exact alike_atom K rfl _ r
    | bl b => exact alike_atom K rfl _ r
    | int i => exact alike_atom K rfl _ r
    | str s => exact alike_atom K rfl _ r
    | _ => cases h
/-! ### sides, what fits -/
omit K in
theorem seq_tile {T : D} {ts : List (List Int)} {k : Nat} (hT : T = .lst (ts.map tI) ∨ T = .tup (ts.map tI)) (h : k < ts.length) : p2 .idx T (.int (k : Int)) = some (tI (ts.getD k [])) := by
  rw [seqIdx hT (by simpa using h), List.getElem_map]
  have e : ts.getD k [] = ts[k] := by
    rw [List.getD_eq_getElem?_getD, List.getElem?_eq_getElem h]
    rfl
  rw [e]
omit K in
theorem idx_s {ts : List (List Int)} {k s : Nat} (h4 : T4 ts) (h : k < ts.length) (hs : s < 4) : p2 .idx (tI (ts.getD k [])) (.int (s : Int)) = some (.int (tAt ts k s)) := idx_tI (by rw [h4.at h]; exact hs)
theorem lside_ok {T : D} {ts : List (List Int)} {col : List Nat} {s : Nat} (hT : T = .lst (ts.map tI) ∨ T = .tup (ts.map tI)) (h4 : T4 ts) (hs : s < 4) (hc : ∀ k ∈ col, k < ts.length) (n : Nat) (r : Row) : runF P (n + 1) 24 [T, tN col, .int s] r = .ok (tI (side ts s col)) r := by
  rw [run_at K.f24 (by decide) rfl]
  show ended (exSs _ is24 [.sh T, .sh (tN col), .sh (.int s), .no] r) = _
  have e1 : ev (ctx P (runF P n) (iniF P (runF P n))) (.lc [("k", 3)] (.nm 3) (.seq (.var 1)) [] (.o2 .idx (.o2 .idx (.var 0) (.var 3)) (.var 2))) [.sh T, .sh (tN col), .sh (.int s), .no] r = .ok (.lst (col.map fun k => .int (tAt ts k s))) r := by
    refine v_lcam (emb := fun (k : Nat) => .int k) (xs := col) ?_ fun k hk => ⟨[.sh T, .sh (tN col), .sh (.int s), .sh (.int k)], rfl, ?_⟩
    · simp only [v_var, v_cst, v_glb, v_tup, v_lst, v_dnew, v_call, v_mk, v_meth, v_fld, v_o1, v_o2, v_sl, v_chain, v_and, v_or, v_not, v_ite, vs_nil, vs_cons, vo_none, vo_some, vi_seq, vi_rng, vi_enum, vi_zip, R.bind, R.then, RS.then, liftO, nextO, ended, ctx_call, ctx_init, ctx_word, ctx_has, ctx_gl, ctx_dv, ctx_idv, ctx_fuel, w_nil, w_cons, s_asg, s_ex, s_if, s_ret, s_raise, s_freeze, t_is, truth_bl, truth_non, List.getD_cons_zero, List.getD_cons_succ, Sl.get, List.cons_append, List.nil_append, List.append_nil, List.length_cons, List.length_nil, seqOf, tN]
    · simp only [v_var, v_cst, v_glb, v_tup, v_lst, v_dnew, v_call, v_mk, v_meth, v_fld, v_o1, v_o2, v_sl, v_chain, v_and, v_or, v_not, v_ite, vs_nil, vs_cons, vo_none, vo_some, vi_seq, vi_rng, vi_enum, vi_zip, R.bind, R.then, RS.then, liftO, nextO, ended, ctx_call, ctx_init, ctx_word, ctx_has, ctx_gl, ctx_dv, ctx_idv, ctx_fuel, w_nil, w_cons, s_asg, s_ex, s_if, s_ret, s_raise, s_freeze, t_is, truth_bl, truth_non, List.getD_cons_zero, List.getD_cons_succ, Sl.get, List.cons_append, List.nil_append, List.append_nil, List.length_cons, List.length_nil, seq_tile hT (hc k hk), idx_s h4 (hc k hk) hs]
  have e2 : p1 .tupleOf (.lst (col.map fun k => .int (tAt ts k s))) = some (tI (side ts s col)) := by
    show some (D.tup _) = some (D.tup _)
    rw [side, List.map_map]
    rfl
  simp only [is24, v_var, v_cst, v_glb, v_tup, v_lst, v_dnew, v_call, v_mk, v_meth, v_fld, v_o1, v_o2, v_sl, v_chain, v_and, v_or, v_not, v_ite, vs_nil, vs_cons, vo_none, vo_some, vi_seq, vi_rng, vi_enum, vi_zip, R.bind, R.then, RS.then, liftO, nextO, ended, ctx_call, ctx_init, ctx_word, ctx_has, ctx_gl, ctx_dv, ctx_idv, ctx_fuel, w_nil, w_cons, s_asg, s_ex, s_if, s_ret, s_raise, s_freeze, t_is, truth_bl, truth_non, List.getD_cons_zero, List.getD_cons_succ, Sl.get, List.cons_append, List.nil_append, List.append_nil, List.length_cons, List.length_nil, e1, e2]
omit K in
theorem plain_tI (l : List Int) : (tI l).plain = true := by
  show (l.map D.int).all (D.plainN 7) = true
  rw [List.all_eq_true]
  intro x hx
  obtain ⟨c, _, rfl⟩ := List.mem_map.mp hx
  rfl
omit K in
theorem eq_tI (a b : List Int) : p2 .eq (tI a) (tI b) = some (.bl (a == b)) := by
  rw [p2_eq (by rw [plain_tI, plain_tI]; rfl)]
  exact congrArg (fun z => some (D.bl z)) (eqv_toT a b)
def fitsB (fl ro : Option Int) (ts : List (List Int)) (col : List Nat) : Bool := okW fl (tAt ts (col.getD 0 0) 2) && (okW ro (tAt ts (col.getD (col.length - 1) 0) 0) && (List.range (col.length - 1)).all fun k => decide (tAt ts (col.getD k 0) 0 = tAt ts (col.getD (k + 1) 0) 2))
omit K in
theorem idx_tN {col : List Nat} {k : Nat} (h : k < col.length) : p2 .idx (tN col) (.int (k : Int)) = some (.int (col.getD k 0)) := by
  show idxI (col.map fun (k : Nat) => D.int k) (k : Int) = _
  rw [idx_nat, List.getElem?_map, getD_some h]
  rfl
omit K in
theorem ne_int (i j : Int) : p2 .ne (.int i) (.int j) = some (.bl (!decide (i = j))) := by rw [p2_ne rfl, eqv_int]
omit K in
theorem eq_nilB {α : Type} (l : List α) (f : α → Int) : p2 .eq (.lst (l.map fun x => .int (f x))) (.lst []) = some (.bl l.isEmpty) := by
  have e : (D.lst (l.map fun x => D.int (f x))).plain = true := by
    show (l.map fun x => D.int (f x)).all (D.plainN 7) = true
    rw [List.all_eq_true]
    intro x hx
    obtain ⟨c, _, rfl⟩ := List.mem_map.mp hx
    rfl
  rw [p2_eq (by rw [e]; rfl), D.eqv]
  cases l <;> simp [eqvAll]
omit K in
theorem edge_ne (o : Option Int) (c : Int) (C : Ctx) {a b : IE} {env : Env} {r : Row} (ha : ev C a env r = .ok (edD o) r) (hb : ev C b env r = .ok (.int c) r) : ev C (.andE (.o1 .notNone a) (.o2 .ne b a)) env r = .ok (.bl (!okW o c)) r := by
  cases o with
  | none =>
    have e1 : p1 .notNone (edD none) = some (.bl false) := rfl
    simp only [v_var, v_cst, v_glb, v_tup, v_lst, v_dnew, v_call, v_mk, v_meth, v_fld, v_o1, v_o2, v_sl, v_chain, v_and, v_or, v_not, v_ite, vs_nil, vs_cons, vo_none, vo_some, vi_seq, vi_rng, vi_enum, vi_zip, R.bind, R.then, RS.then, liftO, nextO, ended, ctx_call, ctx_init, ctx_word, ctx_has, ctx_gl, ctx_dv, ctx_idv, ctx_fuel, w_nil, w_cons, s_asg, s_ex, s_if, s_ret, s_raise, s_freeze, t_is, truth_bl, truth_non, List.getD_cons_zero, List.getD_cons_succ, Sl.get, List.cons_append, List.nil_append, List.append_nil, List.length_cons, List.length_nil, ha, e1]
    rfl
  | some w =>
    have e1 : p1 .notNone (edD (some w)) = some (.bl true) := rfl
    simp only [v_var, v_cst, v_glb, v_tup, v_lst, v_dnew, v_call, v_mk, v_meth, v_fld, v_o1, v_o2, v_sl, v_chain, v_and, v_or, v_not, v_ite, vs_nil, vs_cons, vo_none, vo_some, vi_seq, vi_rng, vi_enum, vi_zip, R.bind, R.then, RS.then, liftO, nextO, ended, ctx_call, ctx_init, ctx_word, ctx_has, ctx_gl, ctx_dv, ctx_idv, ctx_fuel, w_nil, w_cons, s_asg, s_ex, s_if, s_ret, s_raise, s_freeze, t_is, truth_bl, truth_non, List.getD_cons_zero, List.getD_cons_succ, Sl.get, List.cons_append, List.nil_append, List.append_nil, List.length_cons, List.length_nil, ha, hb, e1]
    rw [show edD (some w) = .int w from rfl, ne_int]
    rfl
theorem fits_ok {T : D} {ts : List (List Int)} {col : List Nat} {fl ro : Option Int} (hT : T = .lst (ts.map tI) ∨ T = .tup (ts.map tI)) (h4 : T4 ts) (hc : ∀ k ∈ col, k < ts.length) (h0 : col ≠ []) (hl : col.length ≤ LIM) (n : Nat) (r : Row) :
    runF P (n + 1) 25 [T, edD fl, edD ro, tN col] r = .ok (.bl (fitsB fl ro ts col)) r := by
  rw [run_at K.f25 (by decide) rfl]
  have hp : 0 < col.length := List.length_pos_iff.mpr h0
  have at_ : ∀ k, k < col.length → col.getD k 0 < ts.length := fun k hk => hc _ (by
    rw [List.getD_eq_getElem?_getD, List.getElem?_eq_getElem hk]
    exact List.getElem_mem hk)
  show ended (exSs _ is25 [.sh T, .sh (edD fl), .sh (edD ro), .sh (tN col), .no] r) = _
  generalize ctx P (runF P n) (iniF P (runF P n)) = C
  have e0 := idx_tN (col := col) (k := 0) hp
  rw [show ((0 : Nat) : Int) = 0 from rfl] at e0
  have el : p1 .len (tN col) = some (.int col.length) := by
    show some (D.int _) = _
    rw [List.length_map]
  have el1 : ((col.length : Int) - 1) = ((col.length - 1 : Nat) : Int) := by omega
  have eN := idx_tN (col := col) (k := col.length - 1) (by omega)
  have q2 := idx_s h4 (at_ 0 hp) (s := 2) (by omega)
  rw [show ((2 : Nat) : Int) = 2 from rfl] at q2
  have q0 : ∀ k, k < col.length → p2 .idx (tI (ts.getD (col.getD k 0) [])) (.int 0) = some (.int (tAt ts (col.getD k 0) 0)) := fun k hk => idx_s (s := 0) h4 (at_ k hk) (by omega)
  have q2' : ∀ k, k < col.length → p2 .idx (tI (ts.getD (col.getD k 0) [])) (.int 2) = some (.int (tAt ts (col.getD k 0) 2)) := fun k hk => idx_s (s := 2) h4 (at_ k hk) (by omega)
  have t1 : ev C (.andE (.o1 .notNone (.var 1)) (.o2 .ne (.o2 .idx (.o2 .idx (.var 0) (.o2 .idx (.var 3) (.cst (.int 0)))) (.cst (.int 2))) (.var 1))) [.sh T, .sh (edD fl), .sh (edD ro), .sh (tN col), .no] r = .ok (.bl (!okW fl (tAt ts (col.getD 0 0) 2))) r :=
    edge_ne fl _ C (by simp only [v_var, v_cst, v_glb, v_tup, v_lst, v_dnew, v_call, v_mk, v_meth, v_fld, v_o1, v_o2, v_sl, v_chain, v_and, v_or, v_not, v_ite, vs_nil, vs_cons, vo_none, vo_some, vi_seq, vi_rng, vi_enum, vi_zip, R.bind, R.then, RS.then, liftO, nextO, ended, ctx_call, ctx_init, ctx_word, ctx_has, ctx_gl, ctx_dv, ctx_idv, ctx_fuel, w_nil, w_cons, s_asg, s_ex, s_if, s_ret, s_raise, s_freeze, t_is, truth_bl, truth_non, List.getD_cons_zero, List.getD_cons_succ, Sl.get, List.cons_append, List.nil_append, List.append_nil, List.length_cons, List.length_nil]) (by simp only [v_var, v_cst, v_glb, v_tup, v_lst, v_dnew, v_call, v_mk, v_meth, v_fld, v_o1, v_o2, v_sl, v_chain, v_and, v_or, v_not, v_ite, vs_nil, vs_cons, vo_none, vo_some, vi_seq, vi_rng, vi_enum, vi_zip, R.bind, R.then, RS.then, liftO, nextO, ended, ctx_call, ctx_init, ctx_word, ctx_has, ctx_gl, ctx_dv, ctx_idv, ctx_fuel, w_nil, w_cons, s_asg, s_ex, s_if, s_ret, s_raise, s_freeze, t_is, truth_bl, truth_non, List.getD_cons_zero, List.getD_cons_succ, Sl.get, List.cons_append, List.nil_append, List.append_nil, List.length_cons, List.length_nil, e0, seq_tile hT (at_ 0 hp), q2])
  have t2 : ev C (.andE (.o1 .notNone (.var 2)) (.o2 .ne (.o2 .idx (.o2 .idx (.var 0) (.o2 .idx (.var 3) (.o2 .sub (.o1 .len (.var 3)) (.cst (.int 1))))) (.cst (.int 0))) (.var 2))) [.sh T, .sh (edD fl), .sh (edD ro), .sh (tN col), .no] r = .ok (.bl (!okW ro (tAt ts (col.getD (col.length - 1) 0) 0))) r :=
    edge_ne ro _ C (by simp only [v_var, v_cst, v_glb, v_tup, v_lst, v_dnew, v_call, v_mk, v_meth, v_fld, v_o1, v_o2, v_sl, v_chain, v_and, v_or, v_not, v_ite, vs_nil, vs_cons, vo_none, vo_some, vi_seq, vi_rng, vi_enum, vi_zip, R.bind, R.then, RS.then, liftO, nextO, ended, ctx_call, ctx_init, ctx_word, ctx_has, ctx_gl, ctx_dv, ctx_idv, ctx_fuel, w_nil, w_cons, s_asg, s_ex, s_if, s_ret, s_raise, s_freeze, t_is, truth_bl, truth_non, List.getD_cons_zero, List.getD_cons_succ, Sl.get, List.cons_append, List.nil_append, List.append_nil, List.length_cons, List.length_nil]) (by simp only [v_var, v_cst, v_glb, v_tup, v_lst, v_dnew, v_call, v_mk, v_meth, v_fld, v_o1, v_o2, v_sl, v_chain, v_and, v_or, v_not, v_ite, vs_nil, vs_cons, vo_none, vo_some, vi_seq, vi_rng, vi_enum, vi_zip, R.bind, R.then, RS.then, liftO, nextO, ended, ctx_call, ctx_init, ctx_word, ctx_has, ctx_gl, ctx_dv, ctx_idv, ctx_fuel, w_nil, w_cons, s_asg, s_ex, s_if, s_ret, s_raise, s_freeze, t_is, truth_bl, truth_non, List.getD_cons_zero, List.getD_cons_succ, Sl.get, List.cons_append, List.nil_append, List.append_nil, List.length_cons, List.length_nil, el, p2_sub, el1, eN, seq_tile hT (at_ (col.length - 1) (by omega)), q0 (col.length - 1) (by omega)])
  have t3 : ev C (.lc [("k", 4)] (.nm 4) (.rng [.o2 .sub (.o1 .len (.var 3)) (.cst (.int 1))]) [.o2 .ne (.o2 .idx (.o2 .idx (.var 0) (.o2 .idx (.var 3) (.var 4))) (.cst (.int 0))) (.o2 .idx (.o2 .idx (.var 0) (.o2 .idx (.var 3) (.o2 .add (.var 4) (.cst (.int 1))))) (.cst (.int 2)))] (.var 4)) [.sh T, .sh (edD fl), .sh (edD ro), .sh (tN col), .no] r =
      .ok (.lst (((List.range (col.length - 1)).filter fun k => !decide (tAt ts (col.getD k 0) 0 = tAt ts (col.getD (k + 1) 0) 2)).map fun (k : Nat) => .int k)) r := by
    refine v_lca (emb := fun (k : Nat) => .int k) (xs := List.range (col.length - 1)) (vi_rng1 (n := ((col.length - 1 : Nat) : Int)) (by simp only [v_var, v_cst, v_glb, v_tup, v_lst, v_dnew, v_call, v_mk, v_meth, v_fld, v_o1, v_o2, v_sl, v_chain, v_and, v_or, v_not, v_ite, vs_nil, vs_cons, vo_none, vo_some, vi_seq, vi_rng, vi_enum, vi_zip, R.bind, R.then, RS.then, liftO, nextO, ended, ctx_call, ctx_init, ctx_word, ctx_has, ctx_gl, ctx_dv, ctx_idv, ctx_fuel, w_nil, w_cons, s_asg, s_ex, s_if, s_ret, s_raise, s_freeze, t_is, truth_bl, truth_non, List.getD_cons_zero, List.getD_cons_succ, Sl.get, List.cons_append, List.nil_append, List.append_nil, List.length_cons, List.length_nil, el, p2_sub, el1]) (rngD_nat (by omega))) fun k hk => ⟨[.sh T, .sh (edD fl), .sh (edD ro), .sh (tN col), .sh (.int k)], rfl, ?_, fun _ => rfl⟩
    have hk1 : k < col.length - 1 := List.mem_range.mp hk
    have e1 := idx_tN (col := col) (k := k) (by omega)
    have e2 := idx_tN (col := col) (k := k + 1) (by omega)
    have e3 : ((k : Int) + 1) = ((k + 1 : Nat) : Int) := by omega
    refine ts_one (d := .bl (!decide (tAt ts (col.getD k 0) 0 = tAt ts (col.getD (k + 1) 0) 2))) ?_ rfl
    simp only [v_var, v_cst, v_glb, v_tup, v_lst, v_dnew, v_call, v_mk, v_meth, v_fld, v_o1, v_o2, v_sl, v_chain, v_and, v_or, v_not, v_ite, vs_nil, vs_cons, vo_none, vo_some, vi_seq, vi_rng, vi_enum, vi_zip, R.bind, R.then, RS.then, liftO, nextO, ended, ctx_call, ctx_init, ctx_word, ctx_has, ctx_gl, ctx_dv, ctx_idv, ctx_fuel, w_nil, w_cons, s_asg, s_ex, s_if, s_ret, s_raise, s_freeze, t_is, truth_bl, truth_non, List.getD_cons_zero, List.getD_cons_succ, Sl.get, List.cons_append, List.nil_append, List.append_nil, List.length_cons, List.length_nil, e1, p2_add, e3, e2, seq_tile hT (at_ k (by omega)), seq_tile hT (at_ (k + 1) (by omega)), q0 k (by omega), q2' (k + 1) (by omega), ne_int]
  rw [is25]
  unfold fitsB
  cases b1 : okW fl (tAt ts (col.getD 0 0) 2) with
  | false =>
    rw [b1] at t1
    rw [w_cons, s_then t1 rfl, w_cons, s_ret, v_cst]
    rfl
  | true =>
    rw [b1] at t1
    rw [w_skip t1 rfl]
    cases b2 : okW ro (tAt ts (col.getD (col.length - 1) 0) 0) with
    | false =>
      rw [b2] at t2
      rw [w_cons, s_then t2 rfl, w_cons, s_ret, v_cst]
      rfl
    | true =>
      rw [b2] at t2
      rw [w_skip t2 rfl]
      have t4 : p2 .eq (.lst (((List.range (col.length - 1)).filter fun k => !decide (tAt ts (col.getD k 0) 0 = tAt ts (col.getD (k + 1) 0) 2)).map fun (k : Nat) => .int k)) (.lst []) = some (.bl ((List.range (col.length - 1)).all fun k => decide (tAt ts (col.getD k 0) 0 = tAt ts (col.getD (k + 1) 0) 2))) := by
        refine (eq_nilB _ fun (k : Nat) => (k : Int)).trans ?_
        congr 2
        rw [Bool.eq_iff_iff, List.isEmpty_iff, List.filter_eq_nil_iff, List.all_eq_true]
        simp
      rw [w_ret (d := .bl ((List.range (col.length - 1)).all fun k => decide (tAt ts (col.getD k 0) 0 = tAt ts (col.getD (k + 1) 0) 2))) (r1 := r) (by simp only [v_var, v_cst, v_glb, v_tup, v_lst, v_dnew, v_call, v_mk, v_meth, v_fld, v_o1, v_o2, v_sl, v_chain, v_and, v_or, v_not, v_ite, vs_nil, vs_cons, vo_none, vo_some, vi_seq, vi_rng, vi_enum, vi_zip, R.bind, R.then, RS.then, liftO, nextO, ended, ctx_call, ctx_init, ctx_word, ctx_has, ctx_gl, ctx_dv, ctx_idv, ctx_fuel, w_nil, w_cons, s_asg, s_ex, s_if, s_ret, s_raise, s_freeze, t_is, truth_bl, truth_non, List.getD_cons_zero, List.getD_cons_succ, Sl.get, List.cons_append, List.nil_append, List.append_nil, List.length_cons, List.length_nil, t3, t4])]
      rfl
end
end SW.K

/-! SwKit3: the laws' own columns; draws of kits. Own work. -/
namespace SW.K
open PySem (Str)
def allT (m : Nat) : Nat → List (List Nat)
  | 0 => [[]]
  | n + 1 => (allT m n).flatMap fun o => (List.range m).map fun k => o ++ [k]
theorem allT_mem {m : Nat} : ∀ {n : Nat} {row : List Nat}, row ∈ allT m n → row.length = n ∧ ∀ k ∈ row, k < m
  | 0, row, h => by
    rw [allT, List.mem_singleton] at h
    subst h
    exact ⟨rfl, fun k hk => by cases hk⟩
  | n + 1, row, h => by
    rw [allT, List.mem_flatMap] at h
    obtain ⟨a, ha, h⟩ := h
    rw [List.mem_map] at h
    obtain ⟨k, hk, rfl⟩ := h
    obtain ⟨q1, q2⟩ := allT_mem ha
    refine ⟨by simp [q1], fun j hj => ?_⟩
    rw [List.mem_append] at hj
    rcases hj with hj | hj
    · exact q2 j hj
    · rw [List.mem_singleton] at hj
      subst hj
      exact List.mem_range.mp hk
theorem flat_len {α β : Type} {f : α → List β} {c : Nat} : ∀ {l : List α}, (∀ x ∈ l, (f x).length ≤ c) → (l.flatMap f).length ≤ l.length * c
  | [], _ => by simp
  | x :: l, h => by
    have h1 := h x (by simp)
    have h2 := flat_len (l := l) fun y hy => h y (by simp [hy])
    rw [List.flatMap_cons, List.length_append, List.length_cons, Nat.succ_mul]
    omega
theorem allT_len {m : Nat} : ∀ n, (allT m n).length ≤ m ^ n
  | 0 => by simp [allT]
  | n + 1 => by
    rw [allT, Nat.pow_succ]
    exact Nat.le_trans (flat_len (c := m) fun x _ => by simp) (Nat.mul_le_mul_right _ (allT_len n))
/-- fits but for the roof, grown from the west .. below -/
def fitsL (fl : Option Int) (ts : List (List Int)) (col : List Nat) : Bool := (col.isEmpty || okW fl (tAt ts (col.getD 0 0) 2)) && (List.range (col.length - 1)).all fun k => decide (tAt ts (col.getD k 0) 0 = tAt ts (col.getD (k + 1) 0) 2)
theorem getD_snoc_lt {l : List Nat} {k j : Nat} (h : j < l.length) : (l ++ [k]).getD j 0 = l.getD j 0 := by
  rw [List.getD_eq_getElem?_getD, List.getD_eq_getElem?_getD, List.getElem?_append_left h]
theorem getD_snoc_last {l : List Nat} {k : Nat} : (l ++ [k]).getD l.length 0 = k := by
  rw [List.getD_eq_getElem?_getD, List.getElem?_append_right (Nat.le_refl _)]
  simp
theorem fitsL_snoc {fl : Option Int} {ts : List (List Int)} {row : List Nat} {k : Nat} : fitsL fl ts (row ++ [k]) = (fitsL fl ts row && okW (wish fl ts row) (tAt ts k 2)) := by
  rcases List.eq_nil_or_concat row with rfl | ⟨row', j, rfl⟩
  · simp [fitsL, wish, List.getD]
  · rw [List.concat_eq_append, wish_snoc]
    have e0 : ((row' ++ [j]) ++ [k]).getD 0 0 = (row' ++ [j]).getD 0 0 := getD_snoc_lt (by simp)
    have el : ((row' ++ [j]) ++ [k]).length - 1 = row'.length + 1 := by simp
    have el2 : (row' ++ [j]).length - 1 = row'.length := by simp
    have em1 : ((row' ++ [j]) ++ [k]).isEmpty = false := by simp
    have em2 : (row' ++ [j]).isEmpty = false := by simp
    unfold fitsL
    rw [e0, el, el2, em1, em2, List.range_succ, List.all_append]
    have ea : ((List.range row'.length).all fun x => decide (tAt ts (((row' ++ [j]) ++ [k]).getD x 0) 0 = tAt ts (((row' ++ [j]) ++ [k]).getD (x + 1) 0) 2)) = (List.range row'.length).all fun x => decide (tAt ts ((row' ++ [j]).getD x 0) 0 = tAt ts ((row' ++ [j]).getD (x + 1) 0) 2) := by
      rw [Bool.eq_iff_iff, List.all_eq_true, List.all_eq_true]
      refine forall_congr' fun x => forall_congr' fun hx => ?_
      have hx1 : x < row'.length := List.mem_range.mp hx
      have a1 : ((row' ++ [j]) ++ [k]).getD x 0 = (row' ++ [j]).getD x 0 := getD_snoc_lt (by rw [List.length_append, List.length_singleton]; omega)
      have a2 : ((row' ++ [j]) ++ [k]).getD (x + 1) 0 = (row' ++ [j]).getD (x + 1) 0 := getD_snoc_lt (by rw [List.length_append, List.length_singleton]; omega)
      rw [a1, a2]
    have eb : ((row' ++ [j]) ++ [k]).getD row'.length 0 = j := by rw [getD_snoc_lt (by simp), getD_snoc_last]
    have ec : ((row' ++ [j]) ++ [k]).getD (row'.length + 1) 0 = k := by
      have := getD_snoc_last (l := row' ++ [j]) (k := k)
      simpa using this
    rw [ea]
    simp only [List.all_cons, List.all_nil, eb, ec, okW, Bool.and_true, Bool.false_or]
    rw [Bool.and_assoc]
    congr 2
    exact decide_eq_decide.mpr ⟨fun h => h.symm, fun h => h.symm⟩
theorem filter_flat {α β : Type} {f : α → List β} {p : β → Bool} : ∀ {l : List α}, (l.flatMap f).filter p = l.flatMap fun x => (f x).filter p
  | [] => rfl
  | x :: l => by rw [List.flatMap_cons, List.filter_append, filter_flat, List.flatMap_cons]
theorem flat_filter {α β : Type} {f : α → List β} {p : α → Bool} : ∀ {l : List α}, (∀ x ∈ l, p x = false → f x = []) → l.flatMap f = (l.filter p).flatMap f
  | [], _ => rfl
  | x :: l, h => by
    have ih := flat_filter (f := f) (p := p) (l := l) fun y hy => h y (by simp [hy])
    rw [List.flatMap_cons, List.filter_cons, ih]
    cases e : p x with
    | true => rw [if_pos rfl, List.flatMap_cons]
    | false => rw [h x (by simp) e]; rfl
theorem flat_congr {α β : Type} {f g : α → List β} : ∀ {l : List α}, (∀ x ∈ l, f x = g x) → l.flatMap f = l.flatMap g
  | [], _ => rfl
  | x :: l, h => by rw [List.flatMap_cons, List.flatMap_cons, h x (by simp), flat_congr fun y hy => h y (by simp [hy])]
theorem grown_eq {fl : Option Int} {ts : List (List Int)} : ∀ n, grown fl ts n = (allT ts.length n).filter (fitsL fl ts)
  | 0 => by simp [grown, allT, fitsL]
  | n + 1 => by
    rw [grown, grown_eq n, allT, filter_flat, grow]
    rw [flat_filter (f := fun x => ((List.range ts.length).map fun k => x ++ [k]).filter (fitsL fl ts)) (p := fitsL fl ts) (l := allT ts.length n) fun x _ hx => ?_]
    · refine flat_congr fun x hx => ?_
      have hx2 := (List.mem_filter.mp hx).2
      rw [nxt, List.filter_map]
      congr 1
      refine List.filter_congr fun k _ => ?_
      show _ = fitsL fl ts (x ++ [k])
      rw [fitsL_snoc, hx2, Bool.true_and]
    · rw [List.filter_eq_nil_iff]
      intro y hy
      obtain ⟨k, _, rfl⟩ := List.mem_map.mp hy
      rw [fitsL_snoc, hx]
      simp
theorem cols_eq {h : Nat} {ts : List (List Int)} {fl ro : Option Int} (h1 : 1 ≤ h) : cols h ts fl ro = (allT ts.length h).filter (fitsB fl ro ts) := by
  rw [cols, grown_eq, List.filter_filter]
  refine List.filter_congr fun row hr => ?_
  obtain ⟨l1, _⟩ := allT_mem hr
  have hne : row.isEmpty = false := by
    cases row with
    | nil => simp at l1; omega
    | cons _ _ => rfl
  have e1 : row.getLast?.getD 0 = row.getD (row.length - 1) 0 := by
    rw [List.getLast?_eq_getElem?, List.getD_eq_getElem?_getD]
  unfold fitsB fitsL roofOk
  rw [e1, hne]
  cases okW fl (tAt ts (row.getD 0 0) 2) <;> cases okW ro (tAt ts (row.getD (row.length - 1) 0) 0) <;> simp
section
variable {P : Pg} (K : Laws P)
include K
omit K in
theorem add_lst {a b : List D} (h : a.length + b.length ≤ LIM) : p2 .add (.lst a) (.lst b) = some (.lst (a ++ b)) := by
  show (if _ then some _ else none) = _
  rw [if_pos h]
theorem lcols_ok {h : Nat} {T : D} {ts : List (List Int)} {fl ro : Option Int} (h1 : 1 ≤ h) (h2 : h ≤ 4) (ht : ts.length ≤ 10) (hT : T = .lst (ts.map tI) ∨ T = .tup (ts.map tI)) (h4 : T4 ts) (n : Nat) (r : Row) :
    runF P (n + 2) 26 [.int h, T, edD fl, edD ro] r = .ok (.lst ((cols h ts fl ro).map tN)) r := by
  rw [run_at K.f26 (by decide) rfl]
  have hL : LIM = 16777216 := rfl
  show ended (exSs _ is26 [.sh (.int h), .sh T, .sh (edD fl), .sh (edD ro), .no, .no, .no, .no, .no] r) = _
  have hg : ∀ row, row ∈ allT ts.length h → runF P (n + 1) 25 [T, edD fl, edD ro, tN row] r = .ok (.bl (fitsB fl ro ts row)) r := fun row hr => by
    obtain ⟨l1, l2⟩ := allT_mem hr
    exact fits_ok K hT h4 l2 (by intro z; rw [z] at l1; simp at l1; omega) (by omega) n r
  have dv : (ctx P (runF P (n + 1)) (iniF P (runF P (n + 1)))).dv = P.dv := rfl
  have cl : (ctx P (runF P (n + 1)) (iniF P (runF P (n + 1)))).call = runF P (n + 1) := rfl
  generalize ctx P (runF P (n + 1)) (iniF P (runF P (n + 1))) = C at dv cl
  have inner : ∀ (lv : Nat) (rows : List (List Nat)) (x5 : Sl), (∀ row ∈ rows, row.length = lv ∧ ∀ k ∈ row, k < ts.length) → lv < 4 → rows.length ≤ 1000 →
      exS C (.for_ (.nm 7) (.seq (.var 4)) [.asg (.nm 6) (.o2 .add (.var 6) (.lc [("k", 8)] (.nm 8) (.rng [.o1 .len (.var 1)]) [] (.o2 .add (.var 7) (.tup [.var 8]))))] [7])
        [.sh (.int h), .sh T, .sh (edD fl), .sh (edD ro), .sh (.lst (rows.map tN)), x5, .sh (.lst []), .no, .no] r = .next [.sh (.int h), .sh T, .sh (edD fl), .sh (edD ro), .sh (.lst (rows.map tN)), x5, .sh (.lst ((rows.flatMap fun o => (List.range ts.length).map fun k => o ++ [k]).map tN)), .no, .no] r := by
    intro lv rows x5 hr hlv hlen
    rw [s_for]
    simp only [vi_seq, v_var, List.getD_cons_zero, List.getD_cons_succ, Sl.get, liftO, R.bind, R.then, seqOf]
    have q := for_fold (emb := tN) (σ := List (List Nat)) (bd := bindT (.nm 7)) (kl := killE [7]) (r := r) (xs := rows) (s := [])
      (E := fun acc => [.sh (.int h), .sh T, .sh (edD fl), .sh (edD ro), .sh (.lst (rows.map tN)), x5, .sh (.lst (acc.map tN)), .no, .no])
      (st := fun acc row => acc ++ (List.range ts.length).map fun k => row ++ [k]) (I := fun xs acc => acc.length + xs.length * 10 ≤ LIM ∧ ∀ row ∈ xs, row.length = lv ∧ ∀ k ∈ row, k < ts.length)
      (body := fun e r => exSs C [.asg (.nm 6) (.o2 .add (.var 6) (.lc [("k", 8)] (.nm 8) (.rng [.o1 .len (.var 1)]) [] (.o2 .add (.var 7) (.tup [.var 8]))))] e r)
      ⟨by simp; omega, hr⟩ fun row xs acc hI => by
        obtain ⟨i1, i2⟩ := hI
        obtain ⟨j1, j2⟩ := i2 row (by simp)
        rw [List.length_cons] at i1
        have el : p1 .len T = some (.int ts.length) := by
          rw [seqLen hT, List.length_map]
        have e1 : ev C (.lc [("k", 8)] (.nm 8) (.rng [.o1 .len (.var 1)]) [] (.o2 .add (.var 7) (.tup [.var 8]))) [.sh (.int h), .sh T, .sh (edD fl), .sh (edD ro), .sh (.lst (rows.map tN)), x5, .sh (.lst (acc.map tN)), .sh (tN row), .no] r = .ok (.lst ((List.range ts.length).map fun k => tN (row ++ [k]))) r := by
          refine v_lcam (emb := fun (k : Nat) => .int k) (xs := List.range ts.length) (vi_rng1 (n := (ts.length : Int)) (by simp only [v_var, v_cst, v_glb, v_tup, v_lst, v_dnew, v_call, v_mk, v_meth, v_fld, v_o1, v_o2, v_sl, v_chain, v_and, v_or, v_not, v_ite, vs_nil, vs_cons, vo_none, vo_some, vi_seq, vi_rng, vi_enum, vi_zip, R.bind, R.then, RS.then, liftO, nextO, ended, ctx_call, ctx_init, ctx_word, ctx_has, ctx_gl, ctx_dv, ctx_idv, ctx_fuel, w_nil, w_cons, s_asg, s_ex, s_if, s_ret, s_raise, s_freeze, t_is, truth_bl, truth_non, List.getD_cons_zero, List.getD_cons_succ, Sl.get, List.cons_append, List.nil_append, List.append_nil, List.length_cons, List.length_nil, el]) (rngD_nat (by omega))) fun k hk => ⟨[.sh (.int h), .sh T, .sh (edD fl), .sh (edD ro), .sh (.lst (rows.map tN)), x5, .sh (.lst (acc.map tN)), .sh (tN row), .sh (.int k)], rfl, ?_⟩
          simp only [v_var, v_cst, v_glb, v_tup, v_lst, v_dnew, v_call, v_mk, v_meth, v_fld, v_o1, v_o2, v_sl, v_chain, v_and, v_or, v_not, v_ite, vs_nil, vs_cons, vo_none, vo_some, vi_seq, vi_rng, vi_enum, vi_zip, R.bind, R.then, RS.then, liftO, nextO, ended, ctx_call, ctx_init, ctx_word, ctx_has, ctx_gl, ctx_dv, ctx_idv, ctx_fuel, w_nil, w_cons, s_asg, s_ex, s_if, s_ret, s_raise, s_freeze, t_is, truth_bl, truth_non, List.getD_cons_zero, List.getD_cons_succ, Sl.get, List.cons_append, List.nil_append, List.append_nil, List.length_cons, List.length_nil, add_tN (row := row) (k := k) (by omega)]
        refine ⟨_, [.sh (.int h), .sh T, .sh (edD fl), .sh (edD ro), .sh (.lst (rows.map tN)), x5, .sh (.lst ((acc ++ (List.range ts.length).map fun k => row ++ [k]).map tN)), .sh (tN row), .no], rfl, ?_, rfl, ?_, fun x hx => i2 x (by simp [hx])⟩
        · refine (w_asg (d := .lst ((acc ++ (List.range ts.length).map fun k => row ++ [k]).map tN)) (r1 := r) ?_ rfl).trans w_nil
          have e2 := add_lst (a := acc.map tN) (b := (List.range ts.length).map fun k => tN (row ++ [k])) (by simp only [List.length_map, List.length_range]; omega)
          have e3 : acc.map tN ++ ((List.range ts.length).map fun k => tN (row ++ [k])) = (acc ++ (List.range ts.length).map fun k => row ++ [k]).map tN := by
            rw [List.map_append, List.map_map]
            rfl
          rw [e3] at e2
          rw [v_o2, v_var]
          show (ev C _ _ r).bind _ = _
          refine (congrArg (fun z => R.bind z fun e r2 => liftO (p2 .add (.lst (acc.map tN)) e) r2) e1).trans ?_
          show liftO (p2 .add _ _) r = _
          rw [e2]
          rfl
        · simp only [List.length_append, List.length_map, List.length_range]
          omega
    have e : ∀ (rows acc : List (List Nat)), rows.foldl (fun acc row => acc ++ (List.range ts.length).map fun k => row ++ [k]) acc = acc ++ rows.flatMap fun o => (List.range ts.length).map fun k => o ++ [k] := by
      intro rows
      induction rows with
      | nil => intro acc; simp
      | cons x xs ih => intro acc; rw [List.foldl_cons, ih]; simp
    have q1 := q.1
    rw [e] at q1
    exact q1
  rw [is26]
  refine (congrArg ended (w_asg (d := .lst [tN []]) (r1 := r) (by simp only [v_lst, vs_cons, vs_nil, v_tup, R.bind]; rfl) rfl)).trans ?_
  have q := for_fold (emb := fun (k : Nat) => D.int k) (σ := Nat × List (List Nat)) (bd := bindT (.nm 5)) (kl := killE [5, 6, 7]) (r := r) (xs := List.range h) (s := (0, [[]]))
    (E := fun s => [.sh (.int h), .sh T, .sh (edD fl), .sh (edD ro), .sh (.lst (s.2.map tN)), .no, .no, .no, .no])
    (st := fun s lv => (s.1 + 1, s.2.flatMap fun o => (List.range ts.length).map fun k => o ++ [k])) (I := fun xs s => s.1 + xs.length = h ∧ s.2 = allT ts.length s.1)
    (body := fun e r => exSs C [.asg (.nm 6) (.lst []), .for_ (.nm 7) (.seq (.var 4)) [.asg (.nm 6) (.o2 .add (.var 6) (.lc [("k", 8)] (.nm 8) (.rng [.o1 .len (.var 1)]) [] (.o2 .add (.var 7) (.tup [.var 8]))))] [7], .asg (.nm 4) (.var 6)] e r)
    ⟨by simp, rfl⟩ fun lv xs s hI => by
      obtain ⟨i1, i3⟩ := hI
      rw [List.length_cons] at i1
      have hlt : s.1 < h := by omega
      have hp : (allT ts.length s.1).length ≤ 1000 := Nat.le_trans (allT_len _) (Nat.le_trans (Nat.pow_le_pow_left ht _) (Nat.le_trans (Nat.pow_le_pow_right (by omega) (show s.1 ≤ 3 by omega)) (by decide)))
      have q1 := inner s.1 s.2 (.sh (.int lv)) (fun row hr => by rw [i3] at hr; exact allT_mem hr) (by omega) (by rw [i3]; exact hp)
      refine ⟨_, [.sh (.int h), .sh T, .sh (edD fl), .sh (edD ro), .sh (.lst ((s.2.flatMap fun o => (List.range ts.length).map fun k => o ++ [k]).map tN)), .sh (.int lv), .sh (.lst ((s.2.flatMap fun o => (List.range ts.length).map fun k => o ++ [k]).map tN)), .no, .no], rfl, ?_, rfl, by show s.1 + 1 + xs.length = h; omega, by rw [i3]; rfl⟩
      refine (w_asg (d := .lst []) (r1 := r) (by simp only [v_lst, vs_nil, R.bind]) rfl).trans ((w_step q1).trans ?_)
      exact (w_asg (by rw [v_var]; rfl) rfl).trans w_nil
  have eh : rngD 0 (h : Int) 1 = some ((List.range h).map fun (k : Nat) => D.int k) := rngD_nat (by omega)
  refine (congrArg ended (w_for (vi_rng1 (n := (h : Int)) (r1 := r) (by rw [v_var]; rfl) eh) q.1)).trans ?_
  have eg : ∀ n, (List.range n).foldl (fun (s : Nat × List (List Nat)) (_ : Nat) => (s.1 + 1, s.2.flatMap fun o => (List.range ts.length).map fun k => o ++ [k])) (0, [[]]) = (n, allT ts.length n) := by
    intro n
    induction n with
    | zero => rfl
    | succ n ih => rw [List.range_succ, List.foldl_append, ih]; rfl
  rw [eg]
  have key : ev C (.lc [("one", 7)] (.nm 7) (.seq (.var 4)) [.call 25 [.var 1, .var 2, .var 3, .var 7]] (.var 7)) [.sh (.int h), .sh T, .sh (edD fl), .sh (edD ro), .sh (.lst ((allT ts.length h).map tN)), .no, .no, .no, .no] r = .ok (.lst ((cols h ts fl ro).map tN)) r := by
    rw [cols_eq h1]
    refine v_lca (emb := tN) (xs := allT ts.length h) (p := fitsB fl ro ts) (g := tN) (by simp only [v_var, v_cst, v_glb, v_tup, v_lst, v_dnew, v_call, v_mk, v_meth, v_fld, v_o1, v_o2, v_sl, v_chain, v_and, v_or, v_not, v_ite, vs_nil, vs_cons, vo_none, vo_some, vi_seq, vi_rng, vi_enum, vi_zip, R.bind, R.then, RS.then, liftO, nextO, ended, ctx_call, ctx_init, ctx_word, ctx_has, ctx_gl, ctx_dv, ctx_idv, ctx_fuel, w_nil, w_cons, s_asg, s_ex, s_if, s_ret, s_raise, s_freeze, t_is, truth_bl, truth_non, List.getD_cons_zero, List.getD_cons_succ, Sl.get, List.cons_append, List.nil_append, List.append_nil, List.length_cons, List.length_nil, seqOf]) fun row hrow => ⟨[.sh (.int h), .sh T, .sh (edD fl), .sh (edD ro), .sh (.lst ((allT ts.length h).map tN)), .no, .no, .sh (tN row), .no], rfl, ?_, fun _ => by rw [v_var]; rfl⟩
    refine ts_one (d := .bl (fitsB fl ro ts row)) ?_ rfl
    simp only [v_var, v_cst, v_glb, v_tup, v_lst, v_dnew, v_call, v_mk, v_meth, v_fld, v_o1, v_o2, v_sl, v_chain, v_and, v_or, v_not, v_ite, vs_nil, vs_cons, vo_none, vo_some, vi_seq, vi_rng, vi_enum, vi_zip, R.bind, R.then, RS.then, liftO, nextO, ended, ctx_call, ctx_init, ctx_word, ctx_has, ctx_gl, ctx_dv, ctx_idv, ctx_fuel, w_nil, w_cons, s_asg, s_ex, s_if, s_ret, s_raise, s_freeze, t_is, truth_bl, truth_non, List.getD_cons_zero, List.getD_cons_succ, Sl.get, List.cons_append, List.nil_append, List.append_nil, List.length_cons, List.length_nil, dv, cl, K.dv, hg row hrow]
  rw [w_ret key]
  rfl
end
end SW.K

/-! SwKit4: draws of kits; seams; the other defs of kits. Own work. -/
namespace SW.K
open PySem (Str)
theorem all2_map {ι α : Type} {p : ι → D → Prop} {f : α → D} {Q : α → Prop} (h : ∀ x y, p x y → ∃ a, y = f a ∧ Q a) : ∀ {xs : List ι} {ys : List D}, All2 p xs ys → ∃ as : List α, ys = as.map f ∧ as.length = xs.length ∧ ∀ a ∈ as, Q a
  | _, _, .nil => ⟨[], rfl, rfl, fun a ha => by cases ha⟩
  | _, _, .cons hp a => by
    obtain ⟨as, e1, e2, e3⟩ := all2_map h a
    obtain ⟨b, q1, q2⟩ := h _ _ hp
    refine ⟨b :: as, by rw [q1, e1]; rfl, by simp [e2], fun x hx => ?_⟩
    rcases List.mem_cons.mp hx with rfl | hx
    · exact q2
    · exact e3 x hx
section
variable {P : Pg} (K : Laws P)
include K
theorem colours_ok {r : Row} (hr : r.live = true) : ∃ (c : Nat) (r' : Row), (∀ n, runF P (n + 3) 21 [.row] r = .ok (.int c) r') ∧ r'.live = true ∧ 1 ≤ c ∧ c ≤ 3 := by
  obtain ⟨x, r', q1, q2, q3⟩ := pick_ok K (xs := [.int 1, .int 2, .int 2, .int 2, .int 3, .int 3]) hr (by simp) (by simp)
  have hx : ∃ c : Nat, x = .int c ∧ 1 ≤ c ∧ c ≤ 3 := by
    simp only [List.mem_cons, List.not_mem_nil, or_false] at q3
    rcases q3 with rfl | rfl | rfl | rfl | rfl | rfl
    · exact ⟨1, rfl, by omega, by omega⟩
    · exact ⟨2, rfl, by omega, by omega⟩
    · exact ⟨2, rfl, by omega, by omega⟩
    · exact ⟨2, rfl, by omega, by omega⟩
    · exact ⟨3, rfl, by omega, by omega⟩
    · exact ⟨3, rfl, by omega, by omega⟩
  obtain ⟨c, rfl, c1, c2⟩ := hx
  refine ⟨c, r', fun n => ?_, q2, c1, c2⟩
  rw [run_at K.f21 (by decide) rfl]
  show ended (exSs _ is21 [.sh .row] r) = _
  simp only [is21, v_var, v_cst, v_glb, v_tup, v_lst, v_dnew, v_call, v_mk, v_meth, v_fld, v_o1, v_o2, v_sl, v_chain, v_and, v_or, v_not, v_ite, vs_nil, vs_cons, vo_none, vo_some, vi_seq, vi_rng, vi_enum, vi_zip, R.bind, R.then, RS.then, liftO, nextO, ended, ctx_call, ctx_init, ctx_word, ctx_has, ctx_gl, ctx_dv, ctx_idv, ctx_fuel, w_nil, w_cons, s_asg, s_ex, s_if, s_ret, s_raise, s_freeze, t_is, truth_bl, truth_non, List.getD_cons_zero, List.getD_cons_succ, Sl.get, List.cons_append, List.nil_append, List.append_nil, List.length_cons, List.length_nil, K.dv, q1]
theorem edge_draw {r : Row} {c : Nat} (hr : r.live = true) (h1 : 1 ≤ c) (h3 : c ≤ 1000) : ∃ (o : Option Int) (r' : Row), (∀ n, runF P (n + 3) 23 [.row, .int c] r = .ok (edD o) r') ∧ r'.live = true ∧ ∀ x, o = some x → 0 ≤ x ∧ x < c := by
  obtain ⟨v, r1, p1', p2', p3'⟩ := draw_ok (P := P) hr (many := (c : Int)) (by omega) (by omega)
  obtain ⟨x, r', q1, q2, q3⟩ := pick_ok K (xs := [.non, .non, .int v]) p2' (by simp) (by simp)
  have hx : ∃ o : Option Int, x = edD o ∧ ∀ y, o = some y → 0 ≤ y ∧ y < c := by
    simp only [List.mem_cons, List.not_mem_nil, or_false] at q3
    rcases q3 with rfl | rfl | rfl
    · exact ⟨none, rfl, fun y hy => by cases hy⟩
    · exact ⟨none, rfl, fun y hy => by cases hy⟩
    · refine ⟨some v, rfl, fun y hy => ?_⟩
      cases hy
      exact ⟨by omega, p3'⟩
  obtain ⟨o, rfl, ho⟩ := hx
  refine ⟨o, r', fun n => ?_, q2, ho⟩
  rw [run_at K.f23 (by decide) rfl]
  show ended (exSs _ is23 [.sh .row, .sh (.int c)] r) = _
  have q0 : ∀ n, runF P (n + 2) 0 [.row, .int (c : Int)] r = .ok (.int v) r1 := fun n => p1' (n + 1)
  simp only [is23, v_var, v_cst, v_glb, v_tup, v_lst, v_dnew, v_call, v_mk, v_meth, v_fld, v_o1, v_o2, v_sl, v_chain, v_and, v_or, v_not, v_ite, vs_nil, vs_cons, vo_none, vo_some, vi_seq, vi_rng, vi_enum, vi_zip, R.bind, R.then, RS.then, liftO, nextO, ended, ctx_call, ctx_init, ctx_word, ctx_has, ctx_gl, ctx_dv, ctx_idv, ctx_fuel, w_nil, w_cons, s_asg, s_ex, s_if, s_ret, s_raise, s_freeze, t_is, truth_bl, truth_non, List.getD_cons_zero, List.getD_cons_succ, Sl.get, List.cons_append, List.nil_append, List.append_nil, List.length_cons, List.length_nil, K.dv, q0, q1]
theorem tiles_ok {r : Row} {m c : Nat} (hr : r.live = true) (hm : m ≤ 1000) (h1 : 1 ≤ c) (h3 : c ≤ 1000) (n : Nat) : ∃ (ts : List (List Int)) (r' : Row), runF P (n + 2) 22 [.row, .int m, .int c] r = .ok (.lst (ts.map tI)) r' ∧ r'.live = true ∧ ts.length = m ∧ T4 ts ∧ ∀ t ∈ ts, ∀ x ∈ t, 0 ≤ x ∧ x < c := by
  have hL : LIM = 16777216 := rfl
  have cl : (ctx P (runF P (n + 1)) (iniF P (runF P (n + 1)))).call = runF P (n + 1) := rfl
  have dv : (ctx P (runF P (n + 1)) (iniF P (runF P (n + 1)))).dv = P.dv := rfl
  rw [run_at K.f22 (by decide) rfl]
  show ∃ (ts : List (List Int)) (r' : Row), ended (exSs _ is22 [.sh .row, .sh (.int m), .sh (.int c), .no, .no] r) = _ ∧ _
  generalize ctx P (runF P (n + 1)) (iniF P (runF P (n + 1))) = C at cl dv
  have inner : ∀ (x3 : Sl) (r : Row), r.live = true → ∃ (t : List Int) (r' : Row), ev C (.o1 .tupleOf (.lc [("side", 4)] (.nm 4) (.rng [.cst (.int 4)]) [] (.call 0 [.var 0, .var 2]))) [.sh .row, .sh (.int m), .sh (.int c), x3, .no] r = .ok (tI t) r' ∧ r'.live = true ∧ t.length = 4 ∧ ∀ x ∈ t, 0 ≤ x ∧ x < c := by
    intro x3 r hr
    obtain ⟨ys, r', i1, i2, i3⟩ := v_lcd (C := C) (own := [("side", 4)]) (tg := .nm 4) (it := .rng [.cst (.int 4)]) (e := .call 0 [.var 0, .var 2]) (env := [.sh .row, .sh (.int m), .sh (.int c), x3, .no]) (r := r) (r1 := r) (L := fun r => r.live = true) (p := fun _ y => ∃ v : Int, y = .int v ∧ 0 ≤ v ∧ v < c)
      (vi_rng1 (n := 4) (by rw [v_cst]) (rngD_nat (n := 4) (by omega))) hr fun x _ r hr => by
        obtain ⟨v, r1, p1', p2', p3'⟩ := draw_ok (P := P) hr (many := (c : Int)) (by omega) (by omega)
        refine ⟨[.sh .row, .sh (.int m), .sh (.int c), x3, .sh x], .int v, r1, rfl, ?_, p2', v, rfl, by omega, p3'⟩
        simp only [v_var, v_cst, v_glb, v_tup, v_lst, v_dnew, v_call, v_mk, v_meth, v_fld, v_o1, v_o2, v_sl, v_chain, v_and, v_or, v_not, v_ite, vs_nil, vs_cons, vo_none, vo_some, vi_seq, vi_rng, vi_enum, vi_zip, R.bind, R.then, RS.then, liftO, nextO, ended, ctx_call, ctx_init, ctx_word, ctx_has, ctx_gl, ctx_dv, ctx_idv, ctx_fuel, w_nil, w_cons, s_asg, s_ex, s_if, s_ret, s_raise, s_freeze, t_is, truth_bl, truth_non, List.getD_cons_zero, List.getD_cons_succ, Sl.get, List.cons_append, List.nil_append, List.append_nil, List.length_cons, List.length_nil, cl, dv, K.dv, p1']
    obtain ⟨t, e1, e2, e3⟩ := all2_map (f := D.int) (Q := fun v => 0 ≤ v ∧ v < c) (fun x y h => h) i3
    subst e1
    refine ⟨t, r', ?_, i2, by simpa using e2, e3⟩
    rw [v_o1, i1]
    rfl
  obtain ⟨ys, r', i1, i2, i3⟩ := v_lcd (C := C) (own := [("k", 3)]) (tg := .nm 3) (it := .rng [.var 1]) (e := .o1 .tupleOf (.lc [("side", 4)] (.nm 4) (.rng [.cst (.int 4)]) [] (.call 0 [.var 0, .var 2]))) (env := [.sh .row, .sh (.int m), .sh (.int c), .no, .no]) (r := r) (r1 := r) (L := fun r => r.live = true) (p := fun _ y => ∃ t : List Int, y = tI t ∧ t.length = 4 ∧ ∀ x ∈ t, 0 ≤ x ∧ x < c)
    (vi_rng1 (n := (m : Int)) (by rw [v_var]; rfl) (rngD_nat (by omega))) hr fun x _ r hr => by
      obtain ⟨t, r1, q1, q2, q3, q4⟩ := inner (.sh x) r hr
      exact ⟨[.sh .row, .sh (.int m), .sh (.int c), .sh x, .no], tI t, r1, rfl, q1, q2, t, rfl, q3, q4⟩
  obtain ⟨ts, e1, e2, e3⟩ := all2_map (f := tI) (Q := fun t => t.length = 4 ∧ ∀ x ∈ t, 0 ≤ x ∧ x < (c : Int)) (fun x y h => h) i3
  subst e1
  refine ⟨ts, r', ?_, i2, by simpa using e2, fun t ht => (e3 t ht).1, fun t ht => (e3 t ht).2⟩
  rw [is22, w_ret i1]
  rfl
/-- what is drawn -/
structure Drawn (most : Nat) (highest : Nat) (h : Nat) (ts : List (List Int)) (fl ro : Option Int) : Prop where
  h1 : 1 ≤ h
  h2 : h ≤ highest
  t1 : 1 ≤ ts.length
  t2 : ts.length ≤ most
  four : T4 ts
  col : ∀ t ∈ ts, ∀ c ∈ t, 0 ≤ c ∧ c < 3
  flo : ∀ c, fl = some c → 0 ≤ c ∧ c < 3
  roo : ∀ c, ro = some c → 0 ≤ c ∧ c < 3
omit K in
theorem Drawn.kit {most highest h : Nat} {ts : List (List Int)} {fl ro : Option Int} (d : Drawn most highest h ts fl ro) (hh : highest ≤ 4) (hm : most ≤ 10) : KitOk h ts fl ro where
  h1 := d.h1
  h4 := Nat.le_trans d.h2 hh
  few := Nat.le_trans d.t2 hm
  four := d.four
  col := fun t ht c hc => by
    have := d.col t ht c hc
    omega
  flo := fun c hc => by
    have := d.flo c hc
    omega
  roo := fun c hc => by
    have := d.roo c hc
    omega
theorem drawn_ok {r : Row} {most highest : Nat} (hr : r.live = true) (m1 : 1 ≤ most) (m2 : most ≤ 500) (k1 : 1 ≤ highest) (k2 : highest ≤ 500) (n : Nat) : ∃ (h : Nat) (ts : List (List Int)) (fl ro : Option Int) (r' : Row), runF P (n + 4) 29 [.row, .int highest, .int most] r = .ok (.tup [.int h, .lst (ts.map tI), edD fl, edD ro]) r' ∧ r'.live = true ∧ Drawn most highest h ts fl ro := by
  obtain ⟨c, r1, a1, a2, a3, a4⟩ := colours_ok K hr
  obtain ⟨v, r2, b1, b2, b3⟩ := draw_ok (P := P) a2 (many := (most : Int)) (by omega) (by omega)
  obtain ⟨ts, r3, c1, c2, c3, c4, c5⟩ := tiles_ok K (m := 1 + v) (c := c) b2 (by omega) a3 (by omega) (n + 1)
  obtain ⟨w, r4, d1, d2, d3⟩ := draw_ok (P := P) c2 (many := (highest : Int)) (by omega) (by omega)
  obtain ⟨fl, r5, e1, e2, e3⟩ := edge_draw K d2 a3 (by omega)
  obtain ⟨ro, r6, f1, f2, f3⟩ := edge_draw K e2 a3 (by omega)
  have ev1 : ((1 : Int) + (v : Int)) = ((1 + v : Nat) : Int) := by omega
  have ev2 : ((1 : Int) + (w : Int)) = ((1 + w : Nat) : Int) := by omega
  refine ⟨1 + w, ts, fl, ro, r6, ?_, f2, by omega, by omega, by omega, by omega, c4, fun t ht x hx => ?_, fun x hx => ?_, fun x hx => ?_⟩
  · rw [run_at K.f29 (by decide) rfl]
    show ended (exSs _ is29 [.sh .row, .sh (.int highest), .sh (.int most), .no, .no] r) = _
    have b1' : runF P (n + 3) 0 [.row, .int (most : Int)] r1 = .ok (.int v) r2 := b1 (n + 2)
    have d1' : runF P (n + 3) 0 [.row, .int (highest : Int)] r3 = .ok (.int w) r4 := d1 (n + 2)
    have c1' : runF P (n + 3) 22 [.row, .int ((1 + v : Nat) : Int), .int (c : Int)] r2 = .ok (.lst (ts.map tI)) r3 := c1
    rw [is29, w_asg (d := .int c) (r1 := r1) (by simp only [v_var, v_cst, v_glb, v_tup, v_lst, v_dnew, v_call, v_mk, v_meth, v_fld, v_o1, v_o2, v_sl, v_chain, v_and, v_or, v_not, v_ite, vs_nil, vs_cons, vo_none, vo_some, vi_seq, vi_rng, vi_enum, vi_zip, R.bind, R.then, RS.then, liftO, nextO, ended, ctx_call, ctx_init, ctx_word, ctx_has, ctx_gl, ctx_dv, ctx_idv, ctx_fuel, w_nil, w_cons, s_asg, s_ex, s_if, s_ret, s_raise, s_freeze, t_is, truth_bl, truth_non, List.getD_cons_zero, List.getD_cons_succ, Sl.get, List.cons_append, List.nil_append, List.append_nil, List.length_cons, List.length_nil, K.dv, a1]) rfl]
    refine (congrArg ended (w_asg (d := .lst (ts.map tI)) (r1 := r3) (by simp only [List.set_cons_zero, List.set_cons_succ, v_var, v_cst, v_glb, v_tup, v_lst, v_dnew, v_call, v_mk, v_meth, v_fld, v_o1, v_o2, v_sl, v_chain, v_and, v_or, v_not, v_ite, vs_nil, vs_cons, vo_none, vo_some, vi_seq, vi_rng, vi_enum, vi_zip, R.bind, R.then, RS.then, liftO, nextO, ended, ctx_call, ctx_init, ctx_word, ctx_has, ctx_gl, ctx_dv, ctx_idv, ctx_fuel, w_nil, w_cons, s_asg, s_ex, s_if, s_ret, s_raise, s_freeze, t_is, truth_bl, truth_non, List.getD_cons_zero, List.getD_cons_succ, Sl.get, List.cons_append, List.nil_append, List.append_nil, List.length_cons, List.length_nil, K.dv, b1', p2_add, ev1, c1']) rfl)).trans ?_
    refine (congrArg ended (w_ret (d := .tup [.int ((1 + w : Nat) : Int), .lst (ts.map tI), edD fl, edD ro]) (r1 := r6) (by simp only [List.set_cons_zero, List.set_cons_succ, v_var, v_cst, v_glb, v_tup, v_lst, v_dnew, v_call, v_mk, v_meth, v_fld, v_o1, v_o2, v_sl, v_chain, v_and, v_or, v_not, v_ite, vs_nil, vs_cons, vo_none, vo_some, vi_seq, vi_rng, vi_enum, vi_zip, R.bind, R.then, RS.then, liftO, nextO, ended, ctx_call, ctx_init, ctx_word, ctx_has, ctx_gl, ctx_dv, ctx_idv, ctx_fuel, w_nil, w_cons, s_asg, s_ex, s_if, s_ret, s_raise, s_freeze, t_is, truth_bl, truth_non, List.getD_cons_zero, List.getD_cons_succ, Sl.get, List.cons_append, List.nil_append, List.append_nil, List.length_cons, List.length_nil, K.dv, d1', p2_add, ev2, e1, f1]))).trans rfl
  · have := c5 t ht x hx
    omega
  · have := e3 x hx
    omega
  · have := f3 x hx
    omega
end
end SW.K

/-! SwKit5: without doubles, ascending; seams. Own work. -/
namespace SW.K
open PySem (Str)
open PySem.Spec PyProof.Rows L2
abbrev cd (l : List Int) : Int := TS.code 64 l
/-- of one length, small -/
structure Sm (d : Nat) (ls : List (List Int)) : Prop where
  len : ∀ l ∈ ls, l.length = d
  bd : ∀ l ∈ ls, TS.Bd 64 l
def ddst (acc : List (List Int)) (x : List Int) : List (List Int) := if acc.getLast? = some x then acc else acc ++ [x]
structure DdI (d : Nat) (m : List (List Int)) (xs acc : List (List Int)) : Prop where
  p1 : acc.Pairwise fun a b => cd a < cd b
  p2 : xs.Pairwise fun a b => cd a ≤ cd b
  le : ∀ a ∈ acc, ∀ x ∈ xs, cd a ≤ cd x
  last : ∀ l, acc.getLast? = some l → ∀ a ∈ acc, cd a ≤ cd l
  mem : ∀ y, (y ∈ acc ∨ y ∈ xs) ↔ y ∈ m
  num : acc.length + xs.length ≤ m.length
theorem DdI.step {d : Nat} {m xs acc : List (List Int)} {x : List Int} (sm : Sm d m) (h : DdI d m (x :: xs) acc) : DdI d m xs (ddst acc x) := by
  obtain ⟨x1, x2⟩ := List.pairwise_cons.mp h.p2
  have hxm : x ∈ m := (h.mem x).mp (.inr (by simp))
  have num := h.num
  rw [List.length_cons] at num
  unfold ddst
  by_cases c : acc.getLast? = some x
  · rw [if_pos c]
    refine ⟨h.p1, x2, fun a ha y hy => h.le a ha y (by simp [hy]), h.last, fun y => ?_, by omega⟩
    rw [← h.mem y]
    constructor
    · rintro (q | q)
      · exact .inl q
      · exact .inr (by simp [q])
    · rintro (q | q)
      · exact .inl q
      · rcases List.mem_cons.mp q with rfl | q
        · exact .inl (List.mem_of_getLast? c)
        · exact .inr q
  · rw [if_neg c]
    have lt : ∀ a ∈ acc, cd a < cd x := fun a ha => by
      cases e : acc.getLast? with
      | none =>
        rw [List.getLast?_eq_none_iff] at e
        rw [e] at ha
        cases ha
      | some l =>
        have h1 := h.last l e a ha
        have hl := List.mem_of_getLast? e
        have h2 := h.le l hl x (by simp)
        have hlm := (h.mem l).mp (.inl hl)
        have ne : l ≠ x := fun z => c (by rw [e, z])
        have ne2 : cd l ≠ cd x := fun z => ne (code_inj (by rw [sm.len _ hlm, sm.len _ hxm]) (sm.bd _ hlm) (sm.bd _ hxm) z)
        omega
    refine ⟨List.pairwise_append.mpr ⟨h.p1, by simp, fun a ha b hb => ?_⟩, x2, fun a ha y hy => ?_, fun l hl a ha => ?_, fun y => ?_, by simp; omega⟩
    · rw [List.mem_singleton] at hb
      subst hb
      exact lt a ha
    · rcases List.mem_append.mp ha with q | q
      · exact h.le a q y (by simp [hy])
      · rw [List.mem_singleton] at q
        subst q
        exact x1 y hy
    · rw [List.getLast?_append] at hl
      simp at hl
      subst hl
      rcases List.mem_append.mp ha with q | q
      · exact Int.le_of_lt (lt a q)
      · rw [List.mem_singleton] at q
        subst q
        exact Int.le_refl _
    · rw [← h.mem y]
      constructor
      · rintro (q | q)
        · rcases List.mem_append.mp q with q | q
          · exact .inl q
          · exact .inr (by simpa using .inl (List.mem_singleton.mp q))
        · exact .inr (by simp [q])
      · rintro (q | q)
        · exact .inl (by simp [q])
        · rcases List.mem_cons.mp q with rfl | q
          · exact .inl (by simp)
          · exact .inr q
theorem DdI.go {d : Nat} {m : List (List Int)} (sm : Sm d m) : ∀ {xs acc : List (List Int)}, DdI d m xs acc → DdI d m [] (xs.foldl ddst acc)
  | [], _, h => h
  | _ :: xs, _, h => DdI.go sm (xs := xs) (h.step sm)
/-- sorted by code -/
def srt (ls : List (List Int)) : List (List Int) := ls.mergeSort fun a b => decide (cd a ≤ cd b)
theorem srt_perm (ls : List (List Int)) : (srt ls).Perm ls := List.mergeSort_perm _ _
theorem srt_pw (ls : List (List Int)) : (srt ls).Pairwise fun a b => cd a ≤ cd b := by
  have q := List.pairwise_mergeSort (le := fun a b : List Int => decide (cd a ≤ cd b)) (fun a b c h1 h2 => by simp at h1 h2 ⊢; omega) (fun a b => by simp; omega) ls
  exact q.imp fun h => by simpa using h
/-- ascending, without doubles -/
def uniq (ls : List (List Int)) : List (List Int) := (srt ls).foldl ddst []
theorem uniq_I {d : Nat} {ls : List (List Int)} (sm : Sm d ls) : DdI d (srt ls) [] (uniq ls) := by
  have sm2 : Sm d (srt ls) := ⟨fun l hl => sm.len l ((srt_perm ls).mem_iff.mp hl), fun l hl => sm.bd l ((srt_perm ls).mem_iff.mp hl)⟩
  exact DdI.go sm2 ⟨by simp, srt_pw ls, fun a ha => (by cases ha), fun l hl => (by cases hl), fun y => by simp, by simp⟩
theorem uniq_mem {d : Nat} {ls : List (List Int)} (sm : Sm d ls) {y : List Int} : y ∈ uniq ls ↔ y ∈ ls := by
  have h := (uniq_I sm).mem y
  rw [(srt_perm ls).mem_iff] at h
  rw [← h]
  simp
theorem uniq_nodup {d : Nat} {ls : List (List Int)} (sm : Sm d ls) : (uniq ls).Nodup := (uniq_I sm).p1.imp fun h e => by
  rw [e] at h
  omega
theorem uniq_len {d : Nat} {ls : List (List Int)} (sm : Sm d ls) : (uniq ls).length ≤ ls.length := by
  have := (uniq_I sm).num
  rw [(srt_perm ls).length_eq] at this
  simpa using this
theorem sort_uniq {d : Nat} {ls : List (List Int)} (sm : Sm d ls) : D.sort (nubD (ls.map tI)) = (uniq ls).map tI := by
  have e : nubD (ls.map toT) = (nubI ls).map toT := nub_toT ls
  show D.sort (nubD (ls.map toT)) = (uniq ls).map toT
  rw [e]
  refine sort_small (d := d) ?_ ((uniq_I sm).p1.imp fun h => Int.le_of_lt h) (fun x hx => sm.len x (mem_nubI.mp hx)) fun x hx => sm.bd x (mem_nubI.mp hx)
  refine (List.perm_ext_iff_of_nodup (uniq_nodup sm) nubI_nodup).mpr fun x => ?_
  rw [uniq_mem sm, mem_nubI]
theorem sort_srt {d : Nat} {ls : List (List Int)} (sm : Sm d ls) : D.sort (ls.map tI) = (srt ls).map tI := sort_small (srt_perm ls) (srt_pw ls) sm.len sm.bd
theorem alike_tI : ∀ {a b : List Int}, (tI a).alike (tI b) = true := fun {a b} => by
  show ((a.map D.int).zip (b.map D.int)).all (fun p => D.alikeN 7 p.1 p.2) = true
  rw [List.all_eq_true]
  intro p hp
  obtain ⟨q1, q2⟩ := List.of_mem_zip hp
  obtain ⟨x, _, hx⟩ := List.mem_map.mp q1
  obtain ⟨y, _, hy⟩ := List.mem_map.mp q2
  rw [← hx, ← hy]
  rfl
theorem sorted_tI {d : Nat} {ls : List (List Int)} (sm : Sm d ls) (hd : 1 ≤ d) : p1 .sortedL (.lst (ls.map tI)) = some (.lst ((srt ls).map tI)) := by
  have h1 : alikeL (ls.map tI) = true := by
    unfold alikeL
    rw [List.all_eq_true]
    intro a ha
    obtain ⟨x, hx, rfl⟩ := List.mem_map.mp ha
    rw [plain_tI, Bool.true_and, List.all_eq_true]
    intro b hb
    obtain ⟨y, hy, rfl⟩ := List.mem_map.mp hb
    exact alike_tI
  have h2 : sortable (ls.map tI) = true := by
    unfold sortable
    rw [Bool.or_eq_true]
    left
    rw [List.all_eq_true]
    intro a ha
    obtain ⟨x, hx, rfl⟩ := List.mem_map.mp ha
    have := sm.len x hx
    cases x with
    | nil => simp at this; omega
    | cons y ys => rfl
  show (if (alikeL (ls.map tI) && sortable (ls.map tI)) = true then some (D.lst (D.sort (ls.map tI))) else none) = _
  rw [h1, h2, sort_srt sm]
  rfl
theorem small_tI {l : List Int} (h : TS.Bd 64 l) : smallT (tI l) = some l := by
  have e : ∀ l : List Int, intsOf (l.map D.int) = some l := by
    intro l
    induction l with
    | nil => rfl
    | cons x l ih => rw [List.map_cons, intsOf, ih]; rfl
  show (match intsOf (l.map D.int) with
    | some ns => if ns.all (fun m => decide (0 ≤ m) && decide (m < 64)) then some ns else none
    | none => none) = _
  rw [e]
  dsimp only
  rw [if_pos]
  rw [List.all_eq_true]
  intro m hm
  have := h m hm
  simp
  omega
theorem smallAll_tI : ∀ {ls : List (List Int)}, (∀ l ∈ ls, TS.Bd 64 l) → smallAll (ls.map tI) = some ls
  | [], _ => rfl
  | l :: ls, h => by rw [List.map_cons, smallAll, small_tI (h l (by simp)), smallAll_tI fun x hx => h x (by simp [hx])]
theorem set_tI {d : Nat} {ls : List (List Int)} (sm : Sm d ls) (hd : 1 ≤ d) (hf : (nubI ls).length < 63) : p1 .sortedSet (.lst (ls.map tI)) = some (.lst ((uniq ls).map tI)) := by
  have h1 : setOk (ls.map tI) = true := by
    unfold setOk
    rw [smallAll_tI sm.bd]
    dsimp only
    rw [Bool.and_eq_true]
    refine ⟨?_, by simpa using hf⟩
    rw [List.all_eq_true]
    intro l hl
    have e1 := sm.len l hl
    have e2 : (ls.headD []).length = d := by
      cases ls with
      | nil => cases hl
      | cons x xs => exact sm.len x (by simp)
    rw [e1, e2]
    simp [hd]
  show (if setOk (ls.map tI) = true then some (D.lst (D.sort (nubD (ls.map tI)))) else none) = _
  rw [h1, if_pos rfl, sort_uniq sm]
theorem allT_all {m : Nat} : ∀ {n : Nat} {row : List Nat}, row.length = n → (∀ k ∈ row, k < m) → row ∈ allT m n := by
  intro n
  induction n with
  | zero =>
    intro row h1 _
    rw [List.length_eq_zero_iff] at h1
    subst h1
    simp [allT]
  | succ n ih =>
    intro row h1 h2
    rcases List.eq_nil_or_concat row with rfl | ⟨row', k, rfl⟩
    · simp at h1
    · rw [List.concat_eq_append] at h1 h2 ⊢
      rw [allT, List.mem_flatMap]
      refine ⟨row', ih (by simpa using h1) fun j hj => h2 j (by simp [hj]), List.mem_map.mpr ⟨k, List.mem_range.mpr (h2 k (by simp)), rfl⟩⟩
theorem nub_few {ls : List (List Int)} {h c : Nat} (hl : ∀ l ∈ ls, l.length = h ∧ ∀ x ∈ l, 0 ≤ x ∧ x < (c : Int)) : (nubI ls).length ≤ c ^ h := by
  refine Nat.le_trans (len_sub (U := (allT c h).map fun l => l.map fun (k : Nat) => (k : Int)) nubI_nodup fun x hx => ?_) (by rw [List.length_map]; exact allT_len h)
  obtain ⟨q1, q2⟩ := hl x (mem_nubI.mp hx)
  refine List.mem_map.mpr ⟨x.map Int.toNat, allT_all (by simpa using q1) fun k hk => ?_, ?_⟩
  · obtain ⟨y, hy, rfl⟩ := List.mem_map.mp hk
    have := q2 y hy
    omega
  · rw [List.map_map]
    refine (List.map_congr_left fun y hy => ?_).trans (List.map_id x)
    have := q2 y hy
    show ((y.toNat : Nat) : Int) = y
    omega
section
variable {P : Pg} (K : Laws P)
include K
theorem unlike_ok {d : Nat} {ls : List (List Int)} (sm : Sm d ls) (hd : 1 ≤ d) (hl : ls.length ≤ 100000) (n : Nat) (r : Row) : runF P (n + 1) 20 [.lst (ls.map tI)] r = .ok (.lst ((uniq ls).map tI)) r := by
  have hL : LIM = 16777216 := rfl
  rw [run_at K.f20 (by decide) rfl]
  show ended (exSs _ is20 [.sh (.lst (ls.map tI)), .no, .no] r) = _
  generalize ctx P (runF P n) (iniF P (runF P n)) = C
  rw [is20]
  refine (congrArg ended (w_asgO (d := .lst []) (r1 := r) (by rw [vn_lst]; simp only [v_lst, vs_nil, R.bind]) rfl)).trans ?_
  have hi : evI C (.seq (.o1 .sortedL (.o1 .listOf (.var 0)))) [.sh (.lst (ls.map tI)), .ow (.lst []), .no] r = .ok ((srt ls).map tI) r := by
    have e1 : p1 .listOf (.lst (ls.map tI)) = some (.lst (ls.map tI)) := rfl
    simp only [v_var, v_cst, v_glb, v_tup, v_lst, v_dnew, v_call, v_mk, v_meth, v_fld, v_o1, v_o2, v_sl, v_chain, v_and, v_or, v_not, v_ite, vs_nil, vs_cons, vo_none, vo_some, vi_seq, vi_rng, vi_enum, vi_zip, R.bind, R.then, RS.then, liftO, nextO, ended, ctx_call, ctx_init, ctx_word, ctx_has, ctx_gl, ctx_dv, ctx_idv, ctx_fuel, w_nil, w_cons, s_asg, s_ex, s_if, s_ret, s_raise, s_freeze, t_is, truth_bl, truth_non, List.getD_cons_zero, List.getD_cons_succ, Sl.get, List.cons_append, List.nil_append, List.append_nil, List.length_cons, List.length_nil, e1, sorted_tI sm hd, seqOf]
  have q := for_fold (emb := tI) (σ := List (List Int)) (bd := bindT (.nm 2)) (kl := killE [2]) (r := r) (xs := srt ls) (s := [])
    (E := fun acc => [.sh (.lst (ls.map tI)), .ow (.lst (acc.map tI)), .no]) (st := ddst) (I := fun xs acc => acc.length + xs.length ≤ 100000)
    (body := fun e r => exSs C [.if_ (.borrow [1] (.orE (.o2 .eq (.var 1) (.lst [])) (.o2 .ne (.o2 .idx (.var 1) (.o1 .neg (.cst (.int 1)))) (.var 2)))) [.app 1 (.var 2)] []] e r)
    (by rw [(srt_perm ls).length_eq]; simpa using hl) fun x xs acc hI => by
      rw [List.length_cons] at hI
      have pl : (D.lst (acc.map tI)).plain = true := by
        show (acc.map tI).all (D.plainN 7) = true
        rw [List.all_eq_true]
        intro y hy
        obtain ⟨l, _, rfl⟩ := List.mem_map.mp hy
        show (l.map D.int).all (D.plainN 6) = true
        rw [List.all_eq_true]
        intro z hz
        obtain ⟨c, _, rfl⟩ := List.mem_map.mp hz
        rfl
      have e1 : p2 .eq (.lst (acc.map tI)) (.lst []) = some (.bl acc.isEmpty) := by
        rw [p2_eq (by rw [pl]; rfl), D.eqv]
        cases acc <;> simp [eqvAll]
      have e2 : p1 .neg (.int 1) = some (.int (-1)) := rfl
      have key : ev C (.borrow [1] (.orE (.o2 .eq (.var 1) (.lst [])) (.o2 .ne (.o2 .idx (.var 1) (.o1 .neg (.cst (.int 1)))) (.var 2)))) [.sh (.lst (ls.map tI)), .ow (.lst (acc.map tI)), .sh (tI x)] r = .ok (.bl (!decide (acc.getLast? = some x))) r := by
        rw [v_borrow]
        show unborrow _ _ _ (ev C (.orE (.o2 .eq (.var 1) (.lst [])) (.o2 .ne (.o2 .idx (.var 1) (.o1 .neg (.cst (.int 1)))) (.var 2))) [.sh (.lst (ls.map tI)), .sh (.lst (acc.map tI)), .sh (tI x)] r) = _
        have e3 : ev C (.orE (.o2 .eq (.var 1) (.lst [])) (.o2 .ne (.o2 .idx (.var 1) (.o1 .neg (.cst (.int 1)))) (.var 2))) [.sh (.lst (ls.map tI)), .sh (.lst (acc.map tI)), .sh (tI x)] r = .ok (.bl (!decide (acc.getLast? = some x))) r := by
          rcases List.eq_nil_or_concat acc with rfl | ⟨acc', y, rfl⟩
          · simp only [v_var, v_cst, v_glb, v_tup, v_lst, v_dnew, v_call, v_mk, v_meth, v_fld, v_o1, v_o2, v_sl, v_chain, v_and, v_or, v_not, v_ite, vs_nil, vs_cons, vo_none, vo_some, vi_seq, vi_rng, vi_enum, vi_zip, R.bind, R.then, RS.then, liftO, nextO, ended, ctx_call, ctx_init, ctx_word, ctx_has, ctx_gl, ctx_dv, ctx_idv, ctx_fuel, w_nil, w_cons, s_asg, s_ex, s_if, s_ret, s_raise, s_freeze, t_is, truth_bl, truth_non, List.getD_cons_zero, List.getD_cons_succ, Sl.get, List.cons_append, List.nil_append, List.append_nil, List.length_cons, List.length_nil, e1]
            rfl
          · have e4 : p2 .idx (.lst ((acc' ++ [y]).map tI)) (.int (-1)) = some (tI y) := by
              show idxI ((acc' ++ [y]).map tI) (-1) = _
              rw [List.map_append]
              exact idx_last
            have e5 : (acc' ++ [y]).isEmpty = false := by simp
            have e6 : p2 .ne (tI y) (tI x) = some (.bl (!(y == x))) := by
              rw [p2_ne (by rw [plain_tI, plain_tI]; rfl)]
              exact congrArg (fun z => some (D.bl (!z))) (eqv_toT y x)
            have e7 : (y == x) = decide ((acc' ++ [y]).getLast? = some x) := by
              rw [List.getLast?_append]
              by_cases c : y = x <;> simp [c]
            rw [List.concat_eq_append] at e1 ⊢
            simp only [v_var, v_cst, v_glb, v_tup, v_lst, v_dnew, v_call, v_mk, v_meth, v_fld, v_o1, v_o2, v_sl, v_chain, v_and, v_or, v_not, v_ite, vs_nil, vs_cons, vo_none, vo_some, vi_seq, vi_rng, vi_enum, vi_zip, R.bind, R.then, RS.then, liftO, nextO, ended, ctx_call, ctx_init, ctx_word, ctx_has, ctx_gl, ctx_dv, ctx_idv, ctx_fuel, w_nil, w_cons, s_asg, s_ex, s_if, s_ret, s_raise, s_freeze, t_is, truth_bl, truth_non, List.getD_cons_zero, List.getD_cons_succ, Sl.get, List.cons_append, List.nil_append, List.append_nil, List.length_cons, List.length_nil, e1, e2, e4, e5, e6]
            rw [e7]
        rw [e3]
        rfl
      refine ⟨_, [.sh (.lst (ls.map tI)), .ow (.lst ((ddst acc x).map tI)), .sh (tI x)], rfl, ?_, rfl, ?_⟩
      · by_cases c : acc.getLast? = some x
        · rw [decide_eq_true c] at key
          have e : ddst acc x = acc := if_pos c
          rw [e]
          exact (w_skip key rfl).trans w_nil
        · rw [decide_eq_false c] at key
          have e : ddst acc x = acc ++ [x] := if_neg c
          rw [e, List.map_append]
          refine (w_then key rfl ((w_app (xs := acc.map tI) rfl (by rw [v_var]; rfl) (by rw [List.length_map]; omega) rfl).trans w_nil)).trans w_nil
      · unfold ddst
        split
        · omega
        · simp
          omega
  refine (congrArg ended (w_for hi q.1)).trans ((congrArg ended (w_freeze rfl)).trans ((congrArg ended (w_ret (by rw [v_var]; rfl))).trans ?_))
  rfl
end
end SW.K

/-! SwKit6: the other defs of kits. Own work. -/
namespace SW.K
open PySem (Str)
structure Kits2 (P : Pg) : Prop extends Laws P where
  f10 : P.fn 10 = some fd10
  f11 : P.fn 11 = some fd11
  f12 : P.fn 12 = some fd12
  f13 : P.fn 13 = some fd13
  f14 : P.fn 14 = some fd14
  f15 : P.fn 15 = some fd15
  f16 : P.fn 16 = some fd16
  f17 : P.fn 17 = some fd17
  f27 : P.fn 27 = some fd27
def notKit (d : D) : Prop := p1 (.isI (.cls 0)) d = some (.bl false)
theorem kitD_is {h : Nat} {ts : List (List Int)} {fl ro : Option Int} : p1 (.isI (.cls 0)) (kitD h ts fl ro) = some (.bl true) := rfl
section
variable {P : Pg} (K : Kits P) {h : Nat} {ts : List (List Int)} {fl ro : Option Int}
include K
theorem check_ok (n : Nat) (r : Row) : runF P (n + 1) 9 [kitD h ts fl ro] r = .ok .non r := by
  rw [run_at K.f9 (by decide) rfl]
  show ended (exSs _ is9 [.sh (kitD h ts fl ro)] r) = _
  simp only [is9, v_var, v_cst, v_glb, v_tup, v_lst, v_dnew, v_call, v_mk, v_meth, v_fld, v_o1, v_o2, v_sl, v_chain, v_and, v_or, v_not, v_ite, vs_nil, vs_cons, vo_none, vo_some, vi_seq, vi_rng, vi_enum, vi_zip, R.bind, R.then, RS.then, liftO, nextO, ended, ctx_call, ctx_init, ctx_word, ctx_has, ctx_gl, ctx_dv, ctx_idv, ctx_fuel, w_nil, w_cons, s_asg, s_ex, s_if, s_ret, s_raise, s_freeze, t_is, truth_bl, truth_non, List.getD_cons_zero, List.getD_cons_succ, Sl.get, List.cons_append, List.nil_append, List.append_nil, List.length_cons, List.length_nil, kitD_is, Bool.not_true]
theorem check_bad {d : D} (hd : notKit d) (n : Nat) (r : Row) : runF P (n + 1) 9 [d] r = .exn 4 d r := by
  rw [run_at K.f9 (by decide) rfl]
  show ended (exSs _ is9 [.sh d] r) = _
  unfold notKit at hd
  simp only [is9, v_var, v_cst, v_glb, v_tup, v_lst, v_dnew, v_call, v_mk, v_meth, v_fld, v_o1, v_o2, v_sl, v_chain, v_and, v_or, v_not, v_ite, vs_nil, vs_cons, vo_none, vo_some, vi_seq, vi_rng, vi_enum, vi_zip, R.bind, R.then, RS.then, liftO, nextO, ended, ctx_call, ctx_init, ctx_word, ctx_has, ctx_gl, ctx_dv, ctx_idv, ctx_fuel, w_nil, w_cons, s_asg, s_ex, s_if, s_ret, s_raise, s_freeze, t_is, truth_bl, truth_non, List.getD_cons_zero, List.getD_cons_succ, Sl.get, List.cons_append, List.nil_append, List.append_nil, List.length_cons, List.length_nil, hd, Bool.not_false]
end
/-- what is asked to be a column -/
inductive Thing : D → Prop
  | tup (l : List Int) : Thing (tI l)
  | non : Thing .non
  | int (i : Int) : Thing (.int i)
  | lst (l : List Int) : Thing (.lst (l.map .int))
theorem Thing.ask {d : D} (t : Thing d) : d.ask = true := by cases t <;> rfl
theorem Thing.asks {d : D} (t : Thing d) : ∀ xs, d = .tup xs → ∀ x ∈ xs, x.ask = true := fun xs e x hx => by
  cases t with
  | tup l =>
    cases e
    obtain ⟨c, _, rfl⟩ := List.mem_map.mp hx
    rfl
  | _ => cases e
theorem Thing.plain {d : D} (t : Thing d) : d.plain = true := by
  cases t with
  | tup l => exact plain_tI l
  | lst l => exact plain_tI l
  | _ => rfl
def inC (cs : List (List Nat)) (d : D) : Bool := (cs.map tN).any fun z => z.eqv d
theorem tN_tI (l : List Nat) : tN l = tI (l.map fun (k : Nat) => (k : Int)) := by
  unfold tN tI
  rw [List.map_map]
  rfl
theorem plain_tN (cs : List (List Nat)) : plainAll (cs.map tN) = true := by
  show (cs.map tN).all (D.plainN 7) = true
  rw [List.all_eq_true]
  intro y hy
  obtain ⟨l, _, rfl⟩ := List.mem_map.mp hy
  show (l.map fun (k : Nat) => D.int k).all (D.plainN 6) = true
  rw [List.all_eq_true]
  intro z hz
  obtain ⟨c, _, rfl⟩ := List.mem_map.mp hz
  rfl
theorem isIn_cols {cs : List (List Nat)} {d : D} (t : Thing d) : p2 .isIn d (.lst (cs.map tN)) = some (.bl (inC cs d)) := by
  show (if (d.plain && plainAll (cs.map tN)) = true then some (D.bl ((cs.map tN).any fun z => z.eqv d)) else none) = _
  rw [t.plain, plain_tN]
  rfl
theorem notIn_cols {cs : List (List Nat)} {d : D} (t : Thing d) : p2 .notIn d (.lst (cs.map tN)) = some (.bl (!inC cs d)) := by
  show (if (d.plain && plainAll (cs.map tN)) = true then some (D.bl (!(cs.map tN).any fun z => z.eqv d)) else none) = _
  rw [t.plain, plain_tN]
  rfl
theorem inC_iff {cs : List (List Nat)} {d : D} (t : Thing d) : inC cs d = true ↔ ∃ c ∈ cs, d = tN c := by
  unfold inC
  rw [List.any_eq_true]
  constructor
  · rintro ⟨z, hz, e⟩
    obtain ⟨c, hc, rfl⟩ := List.mem_map.mp hz
    refine ⟨c, hc, ?_⟩
    cases t with
    | tup l =>
      rw [tN_tI] at e ⊢
      have q : D.eqv (tI (c.map fun (k : Nat) => (k : Int))) (tI l) = ((c.map fun (k : Nat) => (k : Int)) == l) := eqv_toT _ _
      rw [q] at e
      rw [eq_of_beq e]
    | non => simp [tN, D.eqv] at e
    | int i => simp [tN, D.eqv] at e
    | lst l => simp [tN, D.eqv] at e
  · rintro ⟨c, hc, rfl⟩
    refine ⟨tN c, List.mem_map.mpr ⟨c, hc, rfl⟩, ?_⟩
    rw [tN_tI]
    exact (eqv_toT _ _).trans (beq_self_eq_true _)
theorem word_col {h m : Nat} {c : List Nat} (h1 : c.length = h) (h2 : ∀ k ∈ c, k < m) : wordB h ((m : Int) - 1) (tN c) = true := by
  have e : ((c.map fun (k : Nat) => D.int k).length : Int) = (h : Int) := by rw [List.length_map, h1]
  show (decide (((c.map fun (k : Nat) => D.int k).length : Int) = h) && (c.map fun (k : Nat) => D.int k).all (within 0 ((m : Int) - 1))) = true
  rw [decide_eq_true e, Bool.true_and, List.all_eq_true]
  intro y hy
  obtain ⟨k, hk, rfl⟩ := List.mem_map.mp hy
  have := h2 k hk
  show (decide ((0 : Int) ≤ (k : Int)) && decide ((k : Int) ≤ (m : Int) - 1)) = true
  rw [decide_eq_true (by omega), decide_eq_true (by omega)]
  rfl
section
variable {P : Pg} (K : Kits2 P) {h : Nat} {ts : List (List Int)} {fl ro : Option Int}
include K
theorem columns_of_ok (n : Nat) (r : Row) : runF P (n + 2) 10 [kitD h ts fl ro] r = .ok (.lst ((cols h ts fl ro).map tN)) r := by
  rw [run_at K.f10 (by decide) rfl]
  show ended (exSs _ is10 [.sh (kitD h ts fl ro)] r) = _
  have e1 : fldOf 0 4 (kitD h ts fl ro) = some (.lst ((cols h ts fl ro).map tN)) := rfl
  have e2 : p1 .listOf (.lst ((cols h ts fl ro).map tN)) = some (.lst ((cols h ts fl ro).map tN)) := rfl
  simp only [is10, v_var, v_cst, v_glb, v_tup, v_lst, v_dnew, v_call, v_mk, v_meth, v_fld, v_o1, v_o2, v_sl, v_chain, v_and, v_or, v_not, v_ite, vs_nil, vs_cons, vo_none, vo_some, vi_seq, vi_rng, vi_enum, vi_zip, R.bind, R.then, RS.then, liftO, nextO, ended, ctx_call, ctx_init, ctx_word, ctx_has, ctx_gl, ctx_dv, ctx_idv, ctx_fuel, w_nil, w_cons, s_asg, s_ex, s_if, s_ret, s_raise, s_freeze, t_is, truth_bl, truth_non, List.getD_cons_zero, List.getD_cons_succ, Sl.get, List.cons_append, List.nil_append, List.append_nil, List.length_cons, List.length_nil, K.dv, check_ok K.toKits, e1, e2]
theorem columns_of_bad {d : D} (hd : notKit d) (n : Nat) (r : Row) : runF P (n + 2) 10 [d] r = .exn 4 d r := by
  rw [run_at K.f10 (by decide) rfl]
  show ended (exSs _ is10 [.sh d] r) = _
  simp only [is10, v_var, v_cst, v_glb, v_tup, v_lst, v_dnew, v_call, v_mk, v_meth, v_fld, v_o1, v_o2, v_sl, v_chain, v_and, v_or, v_not, v_ite, vs_nil, vs_cons, vo_none, vo_some, vi_seq, vi_rng, vi_enum, vi_zip, R.bind, R.then, RS.then, liftO, nextO, ended, ctx_call, ctx_init, ctx_word, ctx_has, ctx_gl, ctx_dv, ctx_idv, ctx_fuel, w_nil, w_cons, s_asg, s_ex, s_if, s_ret, s_raise, s_freeze, t_is, truth_bl, truth_non, List.getD_cons_zero, List.getD_cons_succ, Sl.get, List.cons_append, List.nil_append, List.append_nil, List.length_cons, List.length_nil, K.dv, check_bad K.toKits hd]
theorem seams_of_bad {d : D} (hd : notKit d) (n : Nat) (r : Row) : runF P (n + 2) 15 [d] r = .exn 4 d r := by
  rw [run_at K.f15 (by decide) rfl]
  show ended (exSs _ is15 [.sh d] r) = _
  simp only [is15, v_var, v_cst, v_glb, v_tup, v_lst, v_dnew, v_call, v_mk, v_meth, v_fld, v_o1, v_o2, v_sl, v_chain, v_and, v_or, v_not, v_ite, vs_nil, vs_cons, vo_none, vo_some, vi_seq, vi_rng, vi_enum, vi_zip, R.bind, R.then, RS.then, liftO, nextO, ended, ctx_call, ctx_init, ctx_word, ctx_has, ctx_gl, ctx_dv, ctx_idv, ctx_fuel, w_nil, w_cons, s_asg, s_ex, s_if, s_ret, s_raise, s_freeze, t_is, truth_bl, truth_non, List.getD_cons_zero, List.getD_cons_succ, Sl.get, List.cons_append, List.nil_append, List.append_nil, List.length_cons, List.length_nil, K.dv, check_bad K.toKits hd]
theorem is_column_bad {d x : D} (hd : notKit d) (n : Nat) (r : Row) : runF P (n + 2) 11 [d, x] r = .exn 4 d r := by
  rw [run_at K.f11 (by decide) rfl]
  show ended (exSs _ is11 [.sh d, .sh x] r) = _
  simp only [is11, v_var, v_cst, v_glb, v_tup, v_lst, v_dnew, v_call, v_mk, v_meth, v_fld, v_o1, v_o2, v_sl, v_chain, v_and, v_or, v_not, v_ite, vs_nil, vs_cons, vo_none, vo_some, vi_seq, vi_rng, vi_enum, vi_zip, R.bind, R.then, RS.then, liftO, nextO, ended, ctx_call, ctx_init, ctx_word, ctx_has, ctx_gl, ctx_dv, ctx_idv, ctx_fuel, w_nil, w_cons, s_asg, s_ex, s_if, s_ret, s_raise, s_freeze, t_is, truth_bl, truth_non, List.getD_cons_zero, List.getD_cons_succ, Sl.get, List.cons_append, List.nil_append, List.append_nil, List.length_cons, List.length_nil, K.dv, check_bad K.toKits hd]
theorem is_column_ok {x : D} (t : Thing x) (n : Nat) (r : Row) : runF P (n + 4) 11 [kitD h ts fl ro, x] r = .ok (.bl (inC (cols h ts fl ro) x)) r := by
  rw [run_at K.f11 (by decide) rfl]
  show ended (exSs _ is11 [.sh (kitD h ts fl ro), .sh x] r) = _
  have e0 : fldOf 0 0 (kitD h ts fl ro) = some (.int h) := rfl
  have e1 : fldOf 0 1 (kitD h ts fl ro) = some (.tup (ts.map tI)) := rfl
  have e4 : fldOf 0 4 (kitD h ts fl ro) = some (.lst ((cols h ts fl ro).map tN)) := rfl
  have e2 : p1 .len (.tup (ts.map tI)) = some (.int ts.length) := by
    show some (D.int _) = _
    rw [List.length_map]
  have key : wordB h ((ts.length : Int) - 1) x = false → inC (cols h ts fl ro) x = false := fun hw => by
    cases e : inC (cols h ts fl ro) x with
    | false => rfl
    | true =>
      obtain ⟨c, hc, rfl⟩ := (inC_iff t).mp e
      obtain ⟨q1, q2⟩ := cols_mem hc
      rw [word_col q1 q2] at hw
      cases hw
  simp only [is11, v_var, v_cst, v_glb, v_tup, v_lst, v_dnew, v_call, v_mk, v_meth, v_fld, v_o1, v_o2, v_sl, v_chain, v_and, v_or, v_not, v_ite, vs_nil, vs_cons, vo_none, vo_some, vi_seq, vi_rng, vi_enum, vi_zip, R.bind, R.then, RS.then, liftO, nextO, ended, ctx_call, ctx_init, ctx_word, ctx_has, ctx_gl, ctx_dv, ctx_idv, ctx_fuel, w_nil, w_cons, s_asg, s_ex, s_if, s_ret, s_raise, s_freeze, t_is, truth_bl, truth_non, List.getD_cons_zero, List.getD_cons_succ, Sl.get, List.cons_append, List.nil_append, List.append_nil, List.length_cons, List.length_nil, K.dv, check_ok K.toKits, e0, e1, e2, e4, p2_sub, is_word_ok K.toKits t.ask t.asks, isIn_cols t]
  cases hw : wordB h ((ts.length : Int) - 1) x with
  | true => rfl
  | false => rw [key hw]
theorem check_column_ok {x : D} (t : Thing x) (hx : inC (cols h ts fl ro) x = true) (n : Nat) (r : Row) : runF P (n + 5) 12 [kitD h ts fl ro, x] r = .ok .non r := by
  rw [run_at K.f12 (by decide) rfl]
  show ended (exSs _ is12 [.sh (kitD h ts fl ro), .sh x] r) = _
  simp only [is12, v_var, v_cst, v_glb, v_tup, v_lst, v_dnew, v_call, v_mk, v_meth, v_fld, v_o1, v_o2, v_sl, v_chain, v_and, v_or, v_not, v_ite, vs_nil, vs_cons, vo_none, vo_some, vi_seq, vi_rng, vi_enum, vi_zip, R.bind, R.then, RS.then, liftO, nextO, ended, ctx_call, ctx_init, ctx_word, ctx_has, ctx_gl, ctx_dv, ctx_idv, ctx_fuel, w_nil, w_cons, s_asg, s_ex, s_if, s_ret, s_raise, s_freeze, t_is, truth_bl, truth_non, List.getD_cons_zero, List.getD_cons_succ, Sl.get, List.cons_append, List.nil_append, List.append_nil, List.length_cons, List.length_nil, K.dv, is_column_ok K t, hx, Bool.not_true]
theorem check_column_bad {x : D} (t : Thing x) (hx : inC (cols h ts fl ro) x = false) (n : Nat) (r : Row) : runF P (n + 5) 12 [kitD h ts fl ro, x] r = .exn 5 x r := by
  rw [run_at K.f12 (by decide) rfl]
  show ended (exSs _ is12 [.sh (kitD h ts fl ro), .sh x] r) = _
  simp only [is12, v_var, v_cst, v_glb, v_tup, v_lst, v_dnew, v_call, v_mk, v_meth, v_fld, v_o1, v_o2, v_sl, v_chain, v_and, v_or, v_not, v_ite, vs_nil, vs_cons, vo_none, vo_some, vi_seq, vi_rng, vi_enum, vi_zip, R.bind, R.then, RS.then, liftO, nextO, ended, ctx_call, ctx_init, ctx_word, ctx_has, ctx_gl, ctx_dv, ctx_idv, ctx_fuel, w_nil, w_cons, s_asg, s_ex, s_if, s_ret, s_raise, s_freeze, t_is, truth_bl, truth_non, List.getD_cons_zero, List.getD_cons_succ, Sl.get, List.cons_append, List.nil_append, List.append_nil, List.length_cons, List.length_nil, K.dv, is_column_ok K t, hx, Bool.not_false]
omit K in
theorem thing_col (c : List Nat) : Thing (tN c) := by
  rw [tN_tI]
  exact .tup _
omit K in
theorem in_col {cs : List (List Nat)} {c : List Nat} (hc : c ∈ cs) : inC cs (tN c) = true := (inC_iff (thing_col c)).mpr ⟨c, hc, rfl⟩
omit K in
theorem kit_cls : D.isCls 0 (kitD h ts fl ro) = true := rfl
theorem seam_kit {c : List Nat} {s : Nat} (h4 : T4 ts) (hc : c ∈ cols h ts fl ro) (hs : s < 4) (n : Nat) (r : Row) : runF P (n + 1) 8 [kitD h ts fl ro, tN c, .int s] r = .ok (tI (side ts s c)) r := seam_ok K.toKits h4 hs (cols_mem hc).2 n r
theorem west_of_ok {c : List Nat} (h4 : T4 ts) (hc : c ∈ cols h ts fl ro) (n : Nat) (r : Row) : runF P (n + 6) 13 [kitD h ts fl ro, tN c] r = .ok (tI (side ts 3 c)) r := by
  rw [run_at K.f13 (by decide) rfl]
  show ended (exSs _ is13 [.sh (kitD h ts fl ro), .sh (tN c)] r) = _
  have q := seam_kit K h4 hc (s := 3) (by omega) (n + 4) r
  rw [show ((3 : Nat) : Int) = 3 from rfl] at q
  simp only [is13, v_var, v_cst, v_glb, v_tup, v_lst, v_dnew, v_call, v_mk, v_meth, v_fld, v_o1, v_o2, v_sl, v_chain, v_and, v_or, v_not, v_ite, vs_nil, vs_cons, vo_none, vo_some, vi_seq, vi_rng, vi_enum, vi_zip, R.bind, R.then, RS.then, liftO, nextO, ended, ctx_call, ctx_init, ctx_word, ctx_has, ctx_gl, ctx_dv, ctx_idv, ctx_fuel, w_nil, w_cons, s_asg, s_ex, s_if, s_ret, s_raise, s_freeze, t_is, truth_bl, truth_non, List.getD_cons_zero, List.getD_cons_succ, Sl.get, List.cons_append, List.nil_append, List.append_nil, List.length_cons, List.length_nil, K.dv, check_column_ok K (thing_col c) (in_col hc), kit_cls, if_true, K.g6, q]
theorem east_of_ok {c : List Nat} (h4 : T4 ts) (hc : c ∈ cols h ts fl ro) (n : Nat) (r : Row) : runF P (n + 6) 14 [kitD h ts fl ro, tN c] r = .ok (tI (side ts 1 c)) r := by
  rw [run_at K.f14 (by decide) rfl]
  show ended (exSs _ is14 [.sh (kitD h ts fl ro), .sh (tN c)] r) = _
  have q := seam_kit K h4 hc (s := 1) (by omega) (n + 4) r
  rw [show ((1 : Nat) : Int) = 1 from rfl] at q
  simp only [is14, v_var, v_cst, v_glb, v_tup, v_lst, v_dnew, v_call, v_mk, v_meth, v_fld, v_o1, v_o2, v_sl, v_chain, v_and, v_or, v_not, v_ite, vs_nil, vs_cons, vo_none, vo_some, vi_seq, vi_rng, vi_enum, vi_zip, R.bind, R.then, RS.then, liftO, nextO, ended, ctx_call, ctx_init, ctx_word, ctx_has, ctx_gl, ctx_dv, ctx_idv, ctx_fuel, w_nil, w_cons, s_asg, s_ex, s_if, s_ret, s_raise, s_freeze, t_is, truth_bl, truth_non, List.getD_cons_zero, List.getD_cons_succ, Sl.get, List.cons_append, List.nil_append, List.append_nil, List.length_cons, List.length_nil, K.dv, check_column_ok K (thing_col c) (in_col hc), kit_cls, if_true, K.g4, q]
omit K in
/-- the columns on the east of one -/
def onEast (ts : List (List Int)) (cs : List (List Nat)) (c : List Nat) : List (List Nat) := cs.filter fun o => side ts 3 o == side ts 1 c
omit K in
theorem zip_cols (cs : List (List Nat)) (f : List Nat → D) : zipD2 (cs.map tN) (cs.map f) = cs.map fun c => .tup [tN c, f c] := by
  induction cs with
  | nil => rfl
  | cons c cs ih => rw [List.map_cons, List.map_cons, zipD2, ih, List.map_cons]
theorem after_ok {c : List Nat} (h4 : T4 ts) (hc : c ∈ cols h ts fl ro) (n : Nat) (r : Row) : runF P (n + 6) 16 [kitD h ts fl ro, tN c] r = .ok (.lst ((onEast ts (cols h ts fl ro) c).map tN)) r := by
  rw [run_at K.f16 (by decide) rfl]
  show ended (exSs _ is16 [.sh (kitD h ts fl ro), .sh (tN c), .no, .no, .no] r) = _
  have q := seam_kit K h4 hc (s := 1) (by omega) (n + 4) r
  rw [show ((1 : Nat) : Int) = 1 from rfl] at q
  have s1 : ev (ctx P (runF P (n + 5)) (iniF P (runF P (n + 5)))) (.call 12 [.var 0, .var 1]) [.sh (kitD h ts fl ro), .sh (tN c), .no, .no, .no] r = .ok .non r := by
    simp only [v_var, v_cst, v_glb, v_tup, v_lst, v_dnew, v_call, v_mk, v_meth, v_fld, v_o1, v_o2, v_sl, v_chain, v_and, v_or, v_not, v_ite, vs_nil, vs_cons, vo_none, vo_some, vi_seq, vi_rng, vi_enum, vi_zip, R.bind, R.then, RS.then, liftO, nextO, ended, ctx_call, ctx_init, ctx_word, ctx_has, ctx_gl, ctx_dv, ctx_idv, ctx_fuel, w_nil, w_cons, s_asg, s_ex, s_if, s_ret, s_raise, s_freeze, t_is, truth_bl, truth_non, List.getD_cons_zero, List.getD_cons_succ, Sl.get, List.cons_append, List.nil_append, List.append_nil, List.length_cons, List.length_nil, K.dv, check_column_ok K (thing_col c) (in_col hc)]
  have s2 : ev (ctx P (runF P (n + 5)) (iniF P (runF P (n + 5)))) (.meth 0 8 (.var 0) [.var 1, .glb 4]) [.sh (kitD h ts fl ro), .sh (tN c), .no, .no, .no] r = .ok (tI (side ts 1 c)) r := by
    simp only [v_var, v_cst, v_glb, v_tup, v_lst, v_dnew, v_call, v_mk, v_meth, v_fld, v_o1, v_o2, v_sl, v_chain, v_and, v_or, v_not, v_ite, vs_nil, vs_cons, vo_none, vo_some, vi_seq, vi_rng, vi_enum, vi_zip, R.bind, R.then, RS.then, liftO, nextO, ended, ctx_call, ctx_init, ctx_word, ctx_has, ctx_gl, ctx_dv, ctx_idv, ctx_fuel, w_nil, w_cons, s_asg, s_ex, s_if, s_ret, s_raise, s_freeze, t_is, truth_bl, truth_non, List.getD_cons_zero, List.getD_cons_succ, Sl.get, List.cons_append, List.nil_append, List.append_nil, List.length_cons, List.length_nil, K.dv, kit_cls, if_true, K.g4, q]
  rw [is16, w_ex s1]
  refine (congrArg ended (w_asg s2 rfl)).trans ?_
  have e4 : fldOf 0 4 (kitD h ts fl ro) = some (.lst ((cols h ts fl ro).map tN)) := rfl
  have e5 : fldOf 0 5 (kitD h ts fl ro) = some (.lst ((cols h ts fl ro).map fun c => tI (side ts 3 c))) := rfl
  have ez : zpO [.lst ((cols h ts fl ro).map tN), .lst ((cols h ts fl ro).map fun c => tI (side ts 3 c))] = some ((cols h ts fl ro).map fun c => .tup [tN c, tI (side ts 3 c)]) := by
    show some (zipD2 _ _) = _
    rw [zip_cols]
  have s3 : ev (ctx P (runF P (n + 5)) (iniF P (runF P (n + 5)))) (.lc [("other", 3), ("west", 4)] (.tp [(.nm 3), (.nm 4)]) (.zip [.fld 0 (.var 0) 4, .fld 0 (.var 0) 5]) [.o2 .eq (.var 4) (.var 2)] (.var 3)) [.sh (kitD h ts fl ro), .sh (tN c), .sh (tI (side ts 1 c)), .no, .no] r = .ok (.lst ((onEast ts (cols h ts fl ro) c).map tN)) r := by
    refine v_lca (emb := fun c => .tup [tN c, tI (side ts 3 c)]) (xs := cols h ts fl ro) (p := fun o => side ts 3 o == side ts 1 c) (g := tN) (by simp only [v_var, v_cst, v_glb, v_tup, v_lst, v_dnew, v_call, v_mk, v_meth, v_fld, v_o1, v_o2, v_sl, v_chain, v_and, v_or, v_not, v_ite, vs_nil, vs_cons, vo_none, vo_some, vi_seq, vi_rng, vi_enum, vi_zip, R.bind, R.then, RS.then, liftO, nextO, ended, ctx_call, ctx_init, ctx_word, ctx_has, ctx_gl, ctx_dv, ctx_idv, ctx_fuel, w_nil, w_cons, s_asg, s_ex, s_if, s_ret, s_raise, s_freeze, t_is, truth_bl, truth_non, List.getD_cons_zero, List.getD_cons_succ, Sl.get, List.cons_append, List.nil_append, List.append_nil, List.length_cons, List.length_nil, e4, e5, ez]) fun o ho => ⟨[.sh (kitD h ts fl ro), .sh (tN c), .sh (tI (side ts 1 c)), .sh (tN o), .sh (tI (side ts 3 o))], rfl, ?_, fun _ => by rw [v_var]; rfl⟩
    refine ts_one (d := .bl (side ts 3 o == side ts 1 c)) ?_ rfl
    simp only [v_var, v_cst, v_glb, v_tup, v_lst, v_dnew, v_call, v_mk, v_meth, v_fld, v_o1, v_o2, v_sl, v_chain, v_and, v_or, v_not, v_ite, vs_nil, vs_cons, vo_none, vo_some, vi_seq, vi_rng, vi_enum, vi_zip, R.bind, R.then, RS.then, liftO, nextO, ended, ctx_call, ctx_init, ctx_word, ctx_has, ctx_gl, ctx_dv, ctx_idv, ctx_fuel, w_nil, w_cons, s_asg, s_ex, s_if, s_ret, s_raise, s_freeze, t_is, truth_bl, truth_non, List.getD_cons_zero, List.getD_cons_succ, Sl.get, List.cons_append, List.nil_append, List.append_nil, List.length_cons, List.length_nil, eq_tI]
  exact (congrArg ended (w_ret s3)).trans rfl
theorem after_bad {x : D} (t : Thing x) (hx : inC (cols h ts fl ro) x = false) (n : Nat) (r : Row) : runF P (n + 6) 16 [kitD h ts fl ro, x] r = .exn 5 x r := by
  rw [run_at K.f16 (by decide) rfl]
  show ended (exSs _ is16 [.sh (kitD h ts fl ro), .sh x, .no, .no, .no] r) = _
  have s1 : ev (ctx P (runF P (n + 5)) (iniF P (runF P (n + 5)))) (.call 12 [.var 0, .var 1]) [.sh (kitD h ts fl ro), .sh x, .no, .no, .no] r = .exn 5 x r := by
    simp only [v_var, v_cst, v_glb, v_tup, v_lst, v_dnew, v_call, v_mk, v_meth, v_fld, v_o1, v_o2, v_sl, v_chain, v_and, v_or, v_not, v_ite, vs_nil, vs_cons, vo_none, vo_some, vi_seq, vi_rng, vi_enum, vi_zip, R.bind, R.then, RS.then, liftO, nextO, ended, ctx_call, ctx_init, ctx_word, ctx_has, ctx_gl, ctx_dv, ctx_idv, ctx_fuel, w_nil, w_cons, s_asg, s_ex, s_if, s_ret, s_raise, s_freeze, t_is, truth_bl, truth_non, List.getD_cons_zero, List.getD_cons_succ, Sl.get, List.cons_append, List.nil_append, List.append_nil, List.length_cons, List.length_nil, K.dv, check_column_bad K t hx]
  rw [is16, w_ex_exn s1]
  rfl
theorem lafter_ok {T : D} {c : List Nat} (hT : T = .lst (ts.map tI) ∨ T = .tup (ts.map tI)) (h4 : T4 ts) (hc : c ∈ cols h ts fl ro) (n : Nat) (r : Row) : runF P (n + 2) 27 [T, .lst ((cols h ts fl ro).map tN), tN c] r = .ok (.lst ((onEast ts (cols h ts fl ro) c).map tN)) r := by
  rw [run_at K.f27 (by decide) rfl]
  show ended (exSs _ is27 [.sh T, .sh (.lst ((cols h ts fl ro).map tN)), .sh (tN c), .no, .no] r) = _
  have q1 := lside_ok K.toLaws hT h4 (s := 1) (by omega) (cols_mem hc).2 n r
  rw [show ((1 : Nat) : Int) = 1 from rfl] at q1
  have q3 : ∀ o ∈ cols h ts fl ro, runF P (n + 1) 24 [T, tN o, .int 3] r = .ok (tI (side ts 3 o)) r := fun o ho => lside_ok K.toLaws hT h4 (s := 3) (by omega) (cols_mem ho).2 n r
  rw [is27]
  refine (congrArg ended (w_asg (d := tI (side ts 1 c)) (r1 := r) (by simp only [v_var, v_cst, v_glb, v_tup, v_lst, v_dnew, v_call, v_mk, v_meth, v_fld, v_o1, v_o2, v_sl, v_chain, v_and, v_or, v_not, v_ite, vs_nil, vs_cons, vo_none, vo_some, vi_seq, vi_rng, vi_enum, vi_zip, R.bind, R.then, RS.then, liftO, nextO, ended, ctx_call, ctx_init, ctx_word, ctx_has, ctx_gl, ctx_dv, ctx_idv, ctx_fuel, w_nil, w_cons, s_asg, s_ex, s_if, s_ret, s_raise, s_freeze, t_is, truth_bl, truth_non, List.getD_cons_zero, List.getD_cons_succ, Sl.get, List.cons_append, List.nil_append, List.append_nil, List.length_cons, List.length_nil, K.dv, q1]) rfl)).trans ?_
  have s3 : ev (ctx P (runF P (n + 1)) (iniF P (runF P (n + 1)))) (.lc [("other", 4)] (.nm 4) (.seq (.var 1)) [.o2 .eq (.call 24 [.var 0, .var 4, .cst (.int 3)]) (.var 3)] (.var 4)) [.sh T, .sh (.lst ((cols h ts fl ro).map tN)), .sh (tN c), .sh (tI (side ts 1 c)), .no] r = .ok (.lst ((onEast ts (cols h ts fl ro) c).map tN)) r := by
    refine v_lca (emb := tN) (xs := cols h ts fl ro) (p := fun o => side ts 3 o == side ts 1 c) (g := tN) (by simp only [v_var, v_cst, v_glb, v_tup, v_lst, v_dnew, v_call, v_mk, v_meth, v_fld, v_o1, v_o2, v_sl, v_chain, v_and, v_or, v_not, v_ite, vs_nil, vs_cons, vo_none, vo_some, vi_seq, vi_rng, vi_enum, vi_zip, R.bind, R.then, RS.then, liftO, nextO, ended, ctx_call, ctx_init, ctx_word, ctx_has, ctx_gl, ctx_dv, ctx_idv, ctx_fuel, w_nil, w_cons, s_asg, s_ex, s_if, s_ret, s_raise, s_freeze, t_is, truth_bl, truth_non, List.getD_cons_zero, List.getD_cons_succ, Sl.get, List.cons_append, List.nil_append, List.append_nil, List.length_cons, List.length_nil, seqOf]) fun o ho => ⟨[.sh T, .sh (.lst ((cols h ts fl ro).map tN)), .sh (tN c), .sh (tI (side ts 1 c)), .sh (tN o)], rfl, ?_, fun _ => by rw [v_var]; rfl⟩
    refine ts_one (d := .bl (side ts 3 o == side ts 1 c)) ?_ rfl
    simp only [v_var, v_cst, v_glb, v_tup, v_lst, v_dnew, v_call, v_mk, v_meth, v_fld, v_o1, v_o2, v_sl, v_chain, v_and, v_or, v_not, v_ite, vs_nil, vs_cons, vo_none, vo_some, vi_seq, vi_rng, vi_enum, vi_zip, R.bind, R.then, RS.then, liftO, nextO, ended, ctx_call, ctx_init, ctx_word, ctx_has, ctx_gl, ctx_dv, ctx_idv, ctx_fuel, w_nil, w_cons, s_asg, s_ex, s_if, s_ret, s_raise, s_freeze, t_is, truth_bl, truth_non, List.getD_cons_zero, List.getD_cons_succ, Sl.get, List.cons_append, List.nil_append, List.append_nil, List.length_cons, List.length_nil, K.dv, q3 o ho, eq_tI]
  exact (congrArg ended (w_ret s3)).trans rfl
theorem bad_kit_ok {r : Row} (hr : r.live = true) : ∃ (d : D) (r' : Row), (∀ n, runF P (n + 3) 28 [.row] r = .ok d r') ∧ r'.live = true ∧ notKit d ∧ (D.tup [.str "kit", d]).reprOk = true := by
  obtain ⟨x, r', q1, q2, q3⟩ := pick_ok K.toLaws (xs := [.non, .int 3, .tup [.int 1, .tup []], .str "kit", .lst [], .dic false []]) hr (by simp) (by simp)
  refine ⟨x, r', fun n => ?_, q2, ?_, ?_⟩
  · rw [run_at K.f28 (by decide) rfl]
    show ended (exSs _ is28 [.sh .row] r) = _
    simp only [is28, v_var, v_cst, v_glb, v_tup, v_lst, v_dnew, v_call, v_mk, v_meth, v_fld, v_o1, v_o2, v_sl, v_chain, v_and, v_or, v_not, v_ite, vs_nil, vs_cons, vo_none, vo_some, vi_seq, vi_rng, vi_enum, vi_zip, R.bind, R.then, RS.then, liftO, nextO, ended, ctx_call, ctx_init, ctx_word, ctx_has, ctx_gl, ctx_dv, ctx_idv, ctx_fuel, w_nil, w_cons, s_asg, s_ex, s_if, s_ret, s_raise, s_freeze, t_is, truth_bl, truth_non, List.getD_cons_zero, List.getD_cons_succ, Sl.get, List.cons_append, List.nil_append, List.append_nil, List.length_cons, List.length_nil, K.dv, q1]
  · simp only [List.mem_cons, List.not_mem_nil, or_false] at q3
    rcases q3 with rfl | rfl | rfl | rfl | rfl | rfl <;> rfl
  · simp only [List.mem_cons, List.not_mem_nil, or_false] at q3
    rcases q3 with rfl | rfl | rfl | rfl | rfl | rfl <;> decide
omit K in
theorem tAt_in {ts : List (List Int)} {k s : Nat} (h4 : T4 ts) (hk : k < ts.length) (hs : s < 4) : tAt ts k s ∈ ts.getD k [] ∧ ts.getD k [] ∈ ts := by
  have e : ts.getD k [] = ts[k] := by
    rw [List.getD_eq_getElem?_getD, List.getElem?_eq_getElem hk]
    rfl
  have hm : ts.getD k [] ∈ ts := by
    rw [e]
    exact List.getElem_mem hk
  refine ⟨?_, hm⟩
  have hl := h4 _ hm
  unfold tAt
  clear e
  generalize ts.getD k [] = t at hl
  rw [List.getD_eq_getElem?_getD, List.getElem?_eq_getElem (by rw [hl]; exact hs)]
  exact List.getElem_mem _
omit K in
theorem side_in {ts : List (List Int)} {s : Nat} {col : List Nat} {c : Nat} (h4 : T4 ts) (hc : ∀ t ∈ ts, ∀ x ∈ t, 0 ≤ x ∧ x < (c : Int)) (hs : s < 4) (hk : ∀ k ∈ col, k < ts.length) : ∀ x ∈ side ts s col, 0 ≤ x ∧ x < (c : Int) := fun x hx => by
  obtain ⟨k, h, rfl⟩ := List.mem_map.mp hx
  obtain ⟨q1, q2⟩ := tAt_in h4 (hk k h) hs
  exact hc _ q2 _ q1
omit K in
theorem cols_len {h : Nat} {ts : List (List Int)} {fl ro : Option Int} (h4 : h ≤ 4) (h1 : 1 ≤ h) (ht : ts.length ≤ 10) : (cols h ts fl ro).length ≤ 10000 := by
  rw [cols_eq h1]
  exact Nat.le_trans (List.length_filter_le _ _) (Nat.le_trans (allT_len h) (Nat.le_trans (Nat.pow_le_pow_left ht _) (Nat.le_trans (Nat.pow_le_pow_right (by omega) h4) (by decide))))
omit K in
/-- all seams, as they stand -/
def seams (h : Nat) (ts : List (List Int)) (fl ro : Option Int) : List (List Int) := (cols h ts fl ro).map (side ts 3) ++ (cols h ts fl ro).map (side ts 1)
omit K in
theorem seams_sm {h : Nat} {ts : List (List Int)} {fl ro : Option Int} (h4 : T4 ts) (hc : ∀ t ∈ ts, ∀ x ∈ t, 0 ≤ x ∧ x < ((3 : Nat) : Int)) : ∀ l ∈ seams h ts fl ro, l.length = h ∧ ∀ x ∈ l, 0 ≤ x ∧ x < ((3 : Nat) : Int) := fun l hl => by
  rcases List.mem_append.mp hl with q | q
  · obtain ⟨c, hcc, rfl⟩ := List.mem_map.mp q
    obtain ⟨a, b⟩ := cols_mem hcc
    exact ⟨by rw [side, List.length_map, a], side_in h4 hc (by omega) b⟩
  · obtain ⟨c, hcc, rfl⟩ := List.mem_map.mp q
    obtain ⟨a, b⟩ := cols_mem hcc
    exact ⟨by rw [side, List.length_map, a], side_in h4 hc (by omega) b⟩
omit K in
theorem seams_Sm {h : Nat} {ts : List (List Int)} {fl ro : Option Int} (h4 : T4 ts) (hc : ∀ t ∈ ts, ∀ x ∈ t, 0 ≤ x ∧ x < ((3 : Nat) : Int)) : Sm h (seams h ts fl ro) := ⟨fun l hl => (seams_sm h4 hc l hl).1, fun l hl m hm => by
  have := (seams_sm h4 hc l hl).2 m hm
  omega⟩
omit K in
theorem seams_D {h : Nat} {ts : List (List Int)} {fl ro : Option Int} : ((cols h ts fl ro).map fun c => tI (side ts 3 c)) ++ ((cols h ts fl ro).map fun c => tI (side ts 1 c)) = (seams h ts fl ro).map tI := by
  unfold seams
  rw [List.map_append, List.map_map, List.map_map]
  rfl
theorem seams_of_ok (h1 : 1 ≤ h) (h3 : h ≤ 3) (ht : ts.length ≤ 10) (h4 : T4 ts) (hc : ∀ t ∈ ts, ∀ x ∈ t, 0 ≤ x ∧ x < ((3 : Nat) : Int)) (n : Nat) (r : Row) : runF P (n + 2) 15 [kitD h ts fl ro] r = .ok (.lst ((uniq (seams h ts fl ro)).map tI)) r := by
  have hL : LIM = 16777216 := rfl
  rw [run_at K.f15 (by decide) rfl]
  show ended (exSs _ is15 [.sh (kitD h ts fl ro)] r) = _
  have e5 : fldOf 0 5 (kitD h ts fl ro) = some (.lst ((cols h ts fl ro).map fun c => tI (side ts 3 c))) := rfl
  have e6 : fldOf 0 6 (kitD h ts fl ro) = some (.lst ((cols h ts fl ro).map fun c => tI (side ts 1 c))) := rfl
  have cl := cols_len (h := h) (ts := ts) (fl := fl) (ro := ro) (by omega) h1 ht
  have ea := add_lst (a := (cols h ts fl ro).map fun c => tI (side ts 3 c)) (b := (cols h ts fl ro).map fun c => tI (side ts 1 c)) (by rw [List.length_map, List.length_map]; omega)
  rw [seams_D] at ea
  have es := set_tI (seams_Sm (h := h) (fl := fl) (ro := ro) h4 hc) h1 (Nat.lt_of_le_of_lt (nub_few (seams_sm h4 hc)) (Nat.lt_of_le_of_lt (Nat.pow_le_pow_right (by omega) h3) (by decide)))
  simp only [is15, v_var, v_cst, v_glb, v_tup, v_lst, v_dnew, v_call, v_mk, v_meth, v_fld, v_o1, v_o2, v_sl, v_chain, v_and, v_or, v_not, v_ite, vs_nil, vs_cons, vo_none, vo_some, vi_seq, vi_rng, vi_enum, vi_zip, R.bind, R.then, RS.then, liftO, nextO, ended, ctx_call, ctx_init, ctx_word, ctx_has, ctx_gl, ctx_dv, ctx_idv, ctx_fuel, w_nil, w_cons, s_asg, s_ex, s_if, s_ret, s_raise, s_freeze, t_is, truth_bl, truth_non, List.getD_cons_zero, List.getD_cons_succ, Sl.get, List.cons_append, List.nil_append, List.append_nil, List.length_cons, List.length_nil, K.dv, check_ok K.toKits, e5, e6, ea, es]
omit K in
/-- the tiles of some numbers -/
theorem KitOk.sub {ks : List Nat} (k : KitOk h ts fl ro) (hk : ∀ j ∈ ks, j < ts.length) (hl : ks.length ≤ 10) : KitOk h (ks.map fun j => ts.getD j []) fl ro := by
  have mem : ∀ t ∈ ks.map (fun j => ts.getD j []), t ∈ ts := fun t ht => by
    obtain ⟨j, hj, rfl⟩ := List.mem_map.mp ht
    rw [List.getD_eq_getElem?_getD, List.getElem?_eq_getElem (hk j hj)]
    exact List.getElem_mem _
  exact ⟨k.h1, k.h4, by rw [List.length_map]; exact hl, fun t ht => k.four t (mem t ht), fun t ht => k.col t (mem t ht), k.flo, k.roo⟩
theorem kit_of_tiles_ok {ks : List Nat} {T : D} (hT : T = .tup (ks.map fun (j : Nat) => .int j) ∨ T = .lst (ks.map fun (j : Nat) => .int j)) (k : KitOk h ts fl ro) (hk : ∀ j ∈ ks, j < ts.length) (hl : ks.length ≤ 10) (n : Nat) (r : Row) :
    runF P (n + 4) 17 [kitD h ts fl ro, T] r = .ok (kitD h (ks.map fun j => ts.getD j []) fl ro) r := by
  rw [run_at K.f17 (by decide) rfl]
  show ended (exSs _ is17 [.sh (kitD h ts fl ro), .sh T, .no] r) = _
  have e0 : fldOf 0 0 (kitD h ts fl ro) = some (.int h) := rfl
  have e1 : fldOf 0 1 (kitD h ts fl ro) = some (.tup (ts.map tI)) := rfl
  have e2 : fldOf 0 2 (kitD h ts fl ro) = some (edD fl) := rfl
  have e3 : fldOf 0 3 (kitD h ts fl ro) = some (edD ro) := rfl
  have s1 : ev (ctx P (runF P (n + 3)) (iniF P (runF P (n + 3)))) (.lc [("k", 2)] (.nm 2) (.seq (.var 1)) [] (.o2 .idx (.fld 0 (.var 0) 1) (.var 2))) [.sh (kitD h ts fl ro), .sh T, .no] r = .ok (.lst (ks.map fun j => tI (ts.getD j []))) r := by
    refine v_lcam (emb := fun (j : Nat) => .int j) (xs := ks) (by rcases hT with rfl | rfl <;> simp only [v_var, v_cst, v_glb, v_tup, v_lst, v_dnew, v_call, v_mk, v_meth, v_fld, v_o1, v_o2, v_sl, v_chain, v_and, v_or, v_not, v_ite, vs_nil, vs_cons, vo_none, vo_some, vi_seq, vi_rng, vi_enum, vi_zip, R.bind, R.then, RS.then, liftO, nextO, ended, ctx_call, ctx_init, ctx_word, ctx_has, ctx_gl, ctx_dv, ctx_idv, ctx_fuel, w_nil, w_cons, s_asg, s_ex, s_if, s_ret, s_raise, s_freeze, t_is, truth_bl, truth_non, List.getD_cons_zero, List.getD_cons_succ, Sl.get, List.cons_append, List.nil_append, List.append_nil, List.length_cons, List.length_nil, seqOf]) fun j hj => ⟨[.sh (kitD h ts fl ro), .sh T, .sh (.int j)], rfl, ?_⟩
    simp only [v_var, v_cst, v_glb, v_tup, v_lst, v_dnew, v_call, v_mk, v_meth, v_fld, v_o1, v_o2, v_sl, v_chain, v_and, v_or, v_not, v_ite, vs_nil, vs_cons, vo_none, vo_some, vi_seq, vi_rng, vi_enum, vi_zip, R.bind, R.then, RS.then, liftO, nextO, ended, ctx_call, ctx_init, ctx_word, ctx_has, ctx_gl, ctx_dv, ctx_idv, ctx_fuel, w_nil, w_cons, s_asg, s_ex, s_if, s_ret, s_raise, s_freeze, t_is, truth_bl, truth_non, List.getD_cons_zero, List.getD_cons_succ, Sl.get, List.cons_append, List.nil_append, List.append_nil, List.length_cons, List.length_nil, e1, seq_tile (.inr rfl) (hk j hj)]
  have q := kit_ok K.toKits (n := n) (T := .lst (ks.map fun j => tI (ts.getD j []))) (k.sub hk hl) (.inl (by rw [List.map_map]; rfl)) r
  simp only [is17, v_var, v_cst, v_glb, v_tup, v_lst, v_dnew, v_call, v_mk, v_meth, v_fld, v_o1, v_o2, v_sl, v_chain, v_and, v_or, v_not, v_ite, vs_nil, vs_cons, vo_none, vo_some, vi_seq, vi_rng, vi_enum, vi_zip, R.bind, R.then, RS.then, liftO, nextO, ended, ctx_call, ctx_init, ctx_word, ctx_has, ctx_gl, ctx_dv, ctx_idv, ctx_fuel, w_nil, w_cons, s_asg, s_ex, s_if, s_ret, s_raise, s_freeze, t_is, truth_bl, truth_non, List.getD_cons_zero, List.getD_cons_succ, Sl.get, List.cons_append, List.nil_append, List.append_nil, List.length_cons, List.length_nil, e0, e2, e3, s1, K.idv, q]
end
end SW.K

namespace K00
open PySem PySem.Spec PyProof.Rows L2 SW
def top (i : Nat) : Stmt := PySem.Challenge.pw_stripwalls_k00_kits.main.body.getD i (.Pass ⟨0, 0, 0, 0⟩)
def inC (i j : Nat) : Stmt := match top i with
  | .ClassDef (body := b) .. => b.getD j (.Pass ⟨0, 0, 0, 0⟩)
  | s => s
def d1 : He.DefD := ⟨("is_integer", none), "is_integer", "is_integer", defArgs (top 1), defBody (top 1), defScope (top 1), [], []⟩
def d2 : He.DefD := ⟨("is_within", none), "is_within", "is_within", defArgs (top 2), defBody (top 2), defScope (top 2), [], []⟩
def d3 : He.DefD := ⟨("is_row", none), "is_row", "is_row", defArgs (top 3), defBody (top 3), defScope (top 3), [], []⟩
def d4 : He.DefD := ⟨("is_word", none), "is_word", "is_word", defArgs (top 4), defBody (top 4), defScope (top 4), [], []⟩
def d5 : He.DefD := ⟨("is_edge", none), "is_edge", "is_edge", defArgs (top 21), defBody (top 21), defScope (top 21), [], []⟩
def d6 : He.DefD := ⟨("Kit", some "__init__"), "__init__", "Kit.__init__", defArgs (inC 22 0), defBody (inC 22 0), defScope (inC 22 0), [.non, .non], []⟩
def d7 : He.DefD := ⟨("Kit", some "all_columns"), "all_columns", "Kit.all_columns", defArgs (inC 22 1), defBody (inC 22 1), defScope (inC 22 1), [], []⟩
def d8 : He.DefD := ⟨("Kit", some "seam"), "seam", "Kit.seam", defArgs (inC 22 2), defBody (inC 22 2), defScope (inC 22 2), [], []⟩
def d9 : He.DefD := ⟨("check_kit", none), "check_kit", "check_kit", defArgs (top 23), defBody (top 23), defScope (top 23), [], []⟩
def d10 : He.DefD := ⟨("columns_of", none), "columns_of", "columns_of", defArgs (top 24), defBody (top 24), defScope (top 24), [], []⟩
def d11 : He.DefD := ⟨("is_column", none), "is_column", "is_column", defArgs (top 25), defBody (top 25), defScope (top 25), [], []⟩
def d12 : He.DefD := ⟨("check_column", none), "check_column", "check_column", defArgs (top 26), defBody (top 26), defScope (top 26), [], []⟩
def d13 : He.DefD := ⟨("west_of", none), "west_of", "west_of", defArgs (top 27), defBody (top 27), defScope (top 27), [], []⟩
def d14 : He.DefD := ⟨("east_of", none), "east_of", "east_of", defArgs (top 28), defBody (top 28), defScope (top 28), [], []⟩
def d15 : He.DefD := ⟨("seams_of", none), "seams_of", "seams_of", defArgs (top 29), defBody (top 29), defScope (top 29), [], []⟩
def d16 : He.DefD := ⟨("after", none), "after", "after", defArgs (top 30), defBody (top 30), defScope (top 30), [], []⟩
def d17 : He.DefD := ⟨("kit_of_tiles", none), "kit_of_tiles", "kit_of_tiles", defArgs (top 31), defBody (top 31), defScope (top 31), [], []⟩
def d0 : He.DefD := ⟨("_law_taken", none), "_law_taken", "_law_taken", defArgs (top 33), defBody (top 33), defScope (top 33), [], []⟩
def d18 : He.DefD := ⟨("_law_pick", none), "_law_pick", "_law_pick", defArgs (top 34), defBody (top 34), defScope (top 34), [], []⟩
def d19 : He.DefD := ⟨("_law_alike", none), "_law_alike", "_law_alike", defArgs (top 35), defBody (top 35), defScope (top 35), [], []⟩
def d20 : He.DefD := ⟨("_law_unlike", none), "_law_unlike", "_law_unlike", defArgs (top 36), defBody (top 36), defScope (top 36), [], []⟩
def d21 : He.DefD := ⟨("_law_colours", none), "_law_colours", "_law_colours", defArgs (top 37), defBody (top 37), defScope (top 37), [], []⟩
def d22 : He.DefD := ⟨("_law_tiles", none), "_law_tiles", "_law_tiles", defArgs (top 38), defBody (top 38), defScope (top 38), [], []⟩
def d23 : He.DefD := ⟨("_law_edge", none), "_law_edge", "_law_edge", defArgs (top 39), defBody (top 39), defScope (top 39), [], []⟩
def d24 : He.DefD := ⟨("_law_side", none), "_law_side", "_law_side", defArgs (top 40), defBody (top 40), defScope (top 40), [], []⟩
def d25 : He.DefD := ⟨("_law_column_fits", none), "_law_column_fits", "_law_column_fits", defArgs (top 41), defBody (top 41), defScope (top 41), [], []⟩
def d26 : He.DefD := ⟨("_law_columns", none), "_law_columns", "_law_columns", defArgs (top 42), defBody (top 42), defScope (top 42), [], []⟩
def d27 : He.DefD := ⟨("_law_after", none), "_law_after", "_law_after", defArgs (top 43), defBody (top 43), defScope (top 43), [], []⟩
def d28 : He.DefD := ⟨("_law_bad_kit", none), "_law_bad_kit", "_law_bad_kit", defArgs (top 44), defBody (top 44), defScope (top 44), [], []⟩
def d29 : He.DefD := ⟨("_law_drawn", none), "_law_drawn", "_law_drawn", defArgs (top 45), defBody (top 45), defScope (top 45), [], []⟩
def d30 : He.DefD := ⟨("_law_wrong_parts", none), "_law_wrong_parts", "_law_wrong_parts", defArgs (top 46), defBody (top 46), defScope (top 46), [], []⟩
def d31 : He.DefD := ⟨("law", none), "law", "law", defArgs (top 48), defBody (top 48), defScope (top 48), [], []⟩
def dR : He.DefD := ⟨("_law_refused", none), "_law_refused", "_law_refused", defArgs (top 47), defBody (top 47), defScope (top 47), [], []⟩
def x0 : He.DefD := ⟨("BadHeight", some "__init__"), "__init__", "StripError.__init__", defArgs (inC 6 0), defBody (inC 6 0), defScope (inC 6 0), [.non], []⟩
def x1 : He.DefD := ⟨("BadTiles", some "__init__"), "__init__", "StripError.__init__", defArgs (inC 6 0), defBody (inC 6 0), defScope (inC 6 0), [.non], []⟩
def x2 : He.DefD := ⟨("BadFloor", some "__init__"), "__init__", "StripError.__init__", defArgs (inC 6 0), defBody (inC 6 0), defScope (inC 6 0), [.non], []⟩
def x3 : He.DefD := ⟨("BadRoof", some "__init__"), "__init__", "StripError.__init__", defArgs (inC 6 0), defBody (inC 6 0), defScope (inC 6 0), [.non], []⟩
def x4 : He.DefD := ⟨("BadKit", some "__init__"), "__init__", "StripError.__init__", defArgs (inC 6 0), defBody (inC 6 0), defScope (inC 6 0), [.non], []⟩
def x5 : He.DefD := ⟨("BadColumn", some "__init__"), "__init__", "StripError.__init__", defArgs (inC 6 0), defBody (inC 6 0), defScope (inC 6 0), [.non], []⟩
def fn : List He.DefD := [d1, d2, d3, d4, d5, d6, d7, d8, d9, d10, d11, d12, d13, d14, d15, d16, d17, d0, d18, d19, d20, d21, d22, d23, d24, d25, d26, d27, d28, d29, d30, d31, dR, x0, x1, x2, x3, x4, x5]
def lamP : List (He.Defn × Str) := [(("_law_wrong_parts", none), "_law_wrong_parts"), (("law", none), "law")]
def clsN : List Str := ["Kit"]
def fldN : Nat → List Str
  | 0 => ["height", "tiles", "floor", "roof", "columns", "wests", "easts"]
  | _ => []
def exN : List (Nat × Str) := [(0, "BadHeight"), (1, "BadTiles"), (2, "BadFloor"), (3, "BadRoof"), (4, "BadKit"), (5, "BadColumn")]
def fnP : List (Nat × He.Defn) := [(1, ("is_integer", none)), (2, ("is_within", none)), (3, ("is_row", none)), (4, ("is_word", none)), (5, ("is_edge", none)), (6, ("Kit", some "__init__")), (7, ("Kit", some "all_columns")), (8, ("Kit", some "seam")), (9, ("check_kit", none)), (10, ("columns_of", none)), (11, ("is_column", none)), (12, ("check_column", none)), (13, ("west_of", none)), (14, ("east_of", none)), (15, ("seams_of", none)), (16, ("after", none)), (17, ("kit_of_tiles", none)), (0, ("_law_taken", none)), (18, ("_law_pick", none)), (19, ("_law_alike", none)), (20, ("_law_unlike", none)), (21, ("_law_colours", none)), (22, ("_law_tiles", none)), (23, ("_law_edge", none)), (24, ("_law_side", none)), (25, ("_law_column_fits", none)), (26, ("_law_columns", none)), (27, ("_law_after", none)), (28, ("_law_bad_kit", none)), (29, ("_law_drawn", none)), (30, ("_law_wrong_parts", none)), (31, ("law", none))]
def loose0 : List Str := ["is_integer", "is_within", "is_row", "is_word", "StripError", "BadHeight", "BadTiles", "BadFloor", "BadRoof", "BadKit", "BadColumn", "MOST_HEIGHT", "MOST_TILES", "MOST_COLOUR", "NORTH", "EAST"]
def loose16 : List Str := ["SOUTH", "WEST", "is_edge", "Kit", "check_kit", "columns_of", "is_column", "check_column", "west_of", "east_of", "seams_of", "after", "kit_of_tiles", "_law_taken", "_law_pick", "_law_alike"]
def loose32 : List Str := ["_law_unlike", "_law_colours", "_law_tiles", "_law_edge", "_law_side", "_law_column_fits", "_law_columns", "_law_after", "_law_bad_kit", "_law_drawn", "_law_wrong_parts", "_law_refused"]
def loose : List Str := loose0 ++ loose16 ++ loose32
def lawI : Nat := 48
def arL : List (Nat × Nat) := [(1, 1), (2, 3), (3, 1), (4, 3), (5, 1), (7, 1), (8, 3), (9, 1), (10, 1), (11, 2), (12, 2), (13, 2), (14, 2), (15, 1), (16, 2), (17, 2), (0, 2), (18, 2), (19, 2), (20, 1), (21, 1), (22, 3), (23, 2), (24, 3), (25, 4), (26, 4), (27, 3), (28, 1), (29, 3), (30, 5)]
def gdL : List Nat := [30, 31]
def carF (c n : Nat) : Bool := match c with
  | 0 => n == 4
  | _ => false
def TX : Txt := ⟨[("is_integer", 1), ("is_within", 2), ("is_row", 3), ("is_word", 4), ("is_edge", 5), ("check_kit", 9), ("columns_of", 10), ("is_column", 11), ("check_column", 12), ("west_of", 13), ("east_of", 14), ("seams_of", 15), ("after", 16), ("kit_of_tiles", 17), ("_law_taken", 0), ("_law_pick", 18), ("_law_alike", 19), ("_law_unlike", 20), ("_law_colours", 21), ("_law_tiles", 22), ("_law_edge", 23), ("_law_side", 24), ("_law_column_fits", 25), ("_law_columns", 26), ("_law_after", 27), ("_law_bad_kit", 28), ("_law_drawn", 29), ("_law_wrong_parts", 30)], arOf arL, fun f => gdL.contains f, [("Kit", 0)], carF, [(0, "all_columns", 7), (0, "seam", 8)], ["MOST_HEIGHT", "MOST_TILES", "MOST_COLOUR", "NORTH", "EAST", "SOUTH", "WEST", "MOST_TILES", "MOST_TILES", "MOST_TILES", "MOST_TILES", "MOST_TILES", "MOST_TILES", "MOST_TILES", "columns_of", "seams_of"], [("BadHeight", 0), ("BadTiles", 1), ("BadFloor", 2), ("BadRoof", 3), ("BadKit", 4), ("BadColumn", 5)], fldN, "_law_refused", "ask"⟩
def N1 : List Str := ["thing"]
def s1 : Stt := ⟨N1, d1.scope, true, [], false, false, false⟩
def N2 : List Str := ["thing", "least", "most"]
def s2 : Stt := ⟨N2, d2.scope, true, [], false, false, false⟩
def N3 : List Str := ["thing"]
def s3 : Stt := ⟨N3, d3.scope, true, [], false, false, false⟩
def N4 : List Str := ["thing", "size", "most", "one"]
def s4 : Stt := ⟨N4, d4.scope, true, ["most"], false, false, false⟩
def N5 : List Str := ["thing"]
def s5 : Stt := ⟨N5, d5.scope, true, [], false, false, false⟩
def N6 : List Str := ["self", "height", "tiles", "floor", "roof", "index", "tile", "column"]
def s6 : Stt := ⟨N6, d6.scope, true, ["self"], true, false, false⟩
def N7 : List Str := ["self", "rows", "level", "longer", "row", "wish", "some", "k", "tile"]
def s7 : Stt := ⟨N7, d7.scope, true, ["row", "self", "wish"], false, false, false⟩
def N8 : List Str := ["self", "column", "side", "k"]
def s8 : Stt := ⟨N8, d8.scope, true, ["self", "side"], false, false, false⟩
def N9 : List Str := ["kit"]
def s9 : Stt := ⟨N9, d9.scope, true, [], false, false, false⟩
def N10 : List Str := ["kit"]
def s10 : Stt := ⟨N10, d10.scope, true, [], false, false, false⟩
def N11 : List Str := ["kit", "thing"]
def s11 : Stt := ⟨N11, d11.scope, true, [], false, false, false⟩
def N12 : List Str := ["kit", "column"]
def s12 : Stt := ⟨N12, d12.scope, true, [], false, false, false⟩
def N13 : List Str := ["kit", "column"]
def s13 : Stt := ⟨N13, d13.scope, true, [], false, false, false⟩
def N14 : List Str := ["kit", "column"]
def s14 : Stt := ⟨N14, d14.scope, true, [], false, false, false⟩
def N15 : List Str := ["kit"]
def s15 : Stt := ⟨N15, d15.scope, true, [], false, false, false⟩
def N16 : List Str := ["kit", "column", "seam", "other", "west"]
def s16 : Stt := ⟨N16, d16.scope, true, ["seam"], false, false, false⟩
def N17 : List Str := ["kit", "some", "k"]
def s17 : Stt := ⟨N17, d17.scope, true, ["kit"], false, false, false⟩
def N0 : List Str := ["row", "many", "found", "cell"]
def N18 : List Str := ["row", "some"]
def s18 : Stt := ⟨N18, d18.scope, true, [], false, false, false⟩
def N19 : List Str := ["found", "due", "k", "key"]
def s19 : Stt := ⟨N19, d19.scope, true, ["due", "found"], false, false, false⟩
def N20 : List Str := ["things", "found", "one"]
def s20 : Stt := ⟨N20, d20.scope, true, [], false, false, false⟩
def N21 : List Str := ["row"]
def s21 : Stt := ⟨N21, d21.scope, true, [], false, false, false⟩
def N22 : List Str := ["row", "many", "colours", "k", "side"]
def s22 : Stt := ⟨N22, d22.scope, true, ["colours", "row"], false, false, false⟩
def N23 : List Str := ["row", "colours"]
def s23 : Stt := ⟨N23, d23.scope, true, [], false, false, false⟩
def N24 : List Str := ["tiles", "column", "side", "k"]
def s24 : Stt := ⟨N24, d24.scope, true, ["side", "tiles"], false, false, false⟩
def N25 : List Str := ["tiles", "floor", "roof", "column", "k"]
def s25 : Stt := ⟨N25, d25.scope, true, ["column", "tiles"], false, false, false⟩
def N26 : List Str := ["height", "tiles", "floor", "roof", "found", "level", "longer", "one", "k"]
def s26 : Stt := ⟨N26, d26.scope, true, ["floor", "one", "roof", "tiles"], false, false, false⟩
def N27 : List Str := ["tiles", "columns", "column", "seam", "other"]
def s27 : Stt := ⟨N27, d27.scope, true, ["seam", "tiles"], false, false, false⟩
def N28 : List Str := ["row"]
def s28 : Stt := ⟨N28, d28.scope, true, [], false, false, false⟩
def N29 : List Str := ["row", "highest", "most", "colours", "tiles"]
def s29 : Stt := ⟨N29, d29.scope, true, [], false, false, false⟩
def N30 : List Str := ["row", "height", "tiles", "floor", "roof", "odd", "bad", "edge"]
def s30 : Stt := ⟨N30, d30.scope, true, ["bad", "edge", "floor", "height", "odd", "row", "tiles"], false, true, true⟩
def N31 : List Str := ["script", "row", "kit", "columns", "seams", "column", "odd", "thing", "some", "less", "wrong", "ask", "height", "tiles", "floor", "roof", "turn", "k", "one", "level"]
def s31 : Stt := ⟨N31, d31.scope, true, ["ask", "height", "kit", "row", "thing", "tiles", "wrong"], false, true, true⟩
/-- law(script) -/
def is31 : List IS := [.asg (.tp [(.nm 12), (.nm 13), (.nm 14), (.nm 15)]) (.call 29 [.var 1, .cst (.int 3), .cst (.int 5)]),
  .asg (.nm 2) (.mk 0 [.var 12, .call 18 [.var 1, .lst [.var 13, .o1 .tupleOf (.var 13)]], .var 14, .var 15]),
  .if_ (.notE (.call 19 [.lst [.fld 0 (.var 2) 0, .fld 0 (.var 2) 1, .fld 0 (.var 2) 2, .fld 0 (.var 2) 3], .lst [.var 12, .o1 .tupleOf (.var 13), .var 14, .var 15]])) [.ret (.cst (.bl false))] [],
  .asg (.nm 3) (.call 26 [.var 12, .var 13, .var 14, .var 15]),
  .if_ (.notE (.call 19 [.call 10 [.var 2], .var 3])) [.ret (.cst (.bl false))] [],
  .asg (.nm 4) (.o2 .add (.lc [("one", 18)] (.nm 18) (.seq (.var 3)) [] (.call 24 [.var 13, .var 18, .cst (.int 3)])) (.lc [("one", 18)] (.nm 18) (.seq (.var 3)) [] (.call 24 [.var 13, .var 18, .cst (.int 1)]))),
  .if_ (.notE (.call 19 [.call 15 [.var 2], .call 20 [.var 4]])) [.ret (.cst (.bl false))] [],
  .for_ (.nm 5) (.seq (.var 3)) [.if_ (.notE (.call 19 [.lst [.call 13 [.var 2, .var 5], .call 14 [.var 2, .var 5]], .lst [.call 24 [.var 13, .var 5, .cst (.int 3)], .call 24 [.var 13, .var 5, .cst (.int 1)]]])) [.ret (.cst (.bl false))] [], .if_ (.notE (.call 19 [.call 16 [.var 2, .var 5], .call 27 [.var 13, .var 3, .var 5]])) [.ret (.cst (.bl false))] []] [5],
  .asg (.nm 6) (.lc [("turn", 16)] (.nm 16) (.rng [.cst (.int 6)]) [] (.o1 .tupleOf (.lc [("level", 19)] (.nm 19) (.rng [.var 12]) [] (.call 0 [.var 1, .o1 .len (.var 13)])))),
  .asg (.nm 6) (.o2 .add (.var 6) (.lst [.cst .non, .tup [], .cst (.int 0), .o2 .mul (.lst [.cst (.int 0)]) (.var 12), .o2 .mul (.tup [.o1 .len (.var 13)]) (.var 12), .o2 .mul (.tup [.cst (.int 0)]) (.o2 .add (.var 12) (.cst (.int 1)))])),
  .for_ (.nm 7) (.seq (.o2 .add (.var 6) (.lc [("one", 18)] (.nm 18) (.seq (.sl (.var 3) none (some (.cst (.int 2))))) [] (.o1 .listOf (.var 18))))) [.if_ (.orE (.andE (.o2 .isNotB (.call 11 [.var 2, .var 7]) (.cst (.bl true))) (.o2 .isIn (.var 7) (.var 3))) (.andE (.o2 .isB (.call 11 [.var 2, .var 7]) (.cst (.bl true))) (.o2 .notIn (.var 7) (.var 3)))) [.ret (.cst (.bl false))] [], .if_ (.andE (.o2 .notIn (.var 7) (.var 3)) (.o2 .ne (.o1 .repr (.refused (.call 16 [.var 2, .var 7]))) (.o1 .repr (.tup [.cst (.str "column"), .var 7])))) [.ret (.cst (.bl false))] []] [7],
  .asg (.nm 8) (.lc [("k", 17)] (.nm 17) (.rng [.o1 .len (.var 13)]) [.o2 .eq (.call 0 [.var 1, .cst (.int 2)]) (.cst (.int 0))] (.var 17)),
  .asg (.nm 9) (.call 17 [.var 2, .o1 .tupleOf (.var 8)]),
  .if_ (.notE (.call 19 [.lst [.fld 0 (.var 9) 0, .fld 0 (.var 9) 1, .fld 0 (.var 9) 2, .fld 0 (.var 9) 3], .lst [.var 12, .o1 .tupleOf (.lc [("k", 17)] (.nm 17) (.seq (.var 8)) [] (.o2 .idx (.var 13) (.var 17))), .var 14, .var 15]])) [.ret (.cst (.bl false))] [],
  .if_ (.notE (.call 19 [.call 10 [.var 9], .call 26 [.var 12, .fld 0 (.var 9) 1, .var 14, .var 15]])) [.ret (.cst (.bl false))] [],
  .asg (.nm 10) (.call 28 [.var 1]),
  .for_ (.nm 11) (.seq (.lst [.glb 14, .glb 15])) [.if_ (.o2 .ne (.o1 .repr (.refused (.callv 11 [.var 10]))) (.o1 .repr (.tup [.cst (.str "kit"), .var 10]))) [.ret (.cst (.bl false))] []] [11],
  .if_ (.o2 .ne (.o1 .repr (.refused (.call 11 [.var 10, .tup []]))) (.o1 .repr (.tup [.cst (.str "kit"), .var 10]))) [.ret (.cst (.bl false))] [],
  .ret (.call 30 [.var 1, .var 12, .var 13, .var 14, .var 15])]
def fd31 : FD := ⟨1, 20, is31⟩
def fnT : List (Nat × FD) := [(1, fd1), (2, fd2), (3, fd3), (4, fd4), (5, fd5), (6, fd6), (7, fd7), (8, fd8), (9, fd9), (10, fd10), (11, fd11), (12, fd12), (13, fd13), (14, fd14), (15, fd15), (16, fd16), (17, fd17), (18, fd18), (19, fd19), (20, fd20), (21, fd21), (22, fd22), (23, fd23), (24, fd24), (25, fd25), (26, fd26), (27, fd27), (28, fd28), (29, fd29), (30, fd30)]
def iniN : Nat → Option Nat
  | 0 => some 6
  | _ => none
def wsL : List (Str × Nat × Str) := [("BadHeight", 0, "height"), ("BadTiles", 1, "tiles"), ("BadFloor", 2, "floor"), ("BadRoof", 3, "roof"), ("BadKit", 4, "kit"), ("BadColumn", 5, "column")]
def glF : Nat → D
  | 0 => .int 4
  | 1 => .int 10
  | 2 => .int 5
  | 3 => .int 0
  | 4 => .int 1
  | 5 => .int 2
  | 6 => .int 3
  | 7 => .int 10
  | 8 => .int 10
  | 9 => .int 10
  | 10 => .int 10
  | 11 => .int 10
  | 12 => .int 10
  | 13 => .int 10
  | 14 => .fn 10
  | 15 => .fn 15
  | _ => .non
def hasL : List Nat := [10, 15]
def PG : Pg := ⟨fun f => fnT.lookup f, iniN, wordOf wsL, 100000, fun f => hasL.contains f, glF, fun _ _ => [], fun _ _ => []⟩
def tb : Tb := ⟨fnP, clsN, fldN, exN, lamP⟩
theorem sc1 : FnScope N1 ["thing"] d1.scope := ⟨rfl, rfl, rfl, by decide +kernel, rfl, by decide +kernel, by decide +kernel⟩
theorem m1 : mSs TX 40 s1 d1.body is1 = true := by decide +kernel
theorem sc2 : FnScope N2 ["thing", "least", "most"] d2.scope := ⟨rfl, rfl, rfl, by decide +kernel, rfl, by decide +kernel, by decide +kernel⟩
theorem m2 : mSs TX 40 s2 d2.body is2 = true := by decide +kernel
theorem sc3 : FnScope N3 ["thing"] d3.scope := ⟨rfl, rfl, rfl, by decide +kernel, rfl, by decide +kernel, by decide +kernel⟩
theorem m3 : mSs TX 40 s3 d3.body is3 = true := by decide +kernel
theorem sc4 : FnScope N4 ["thing", "size", "most"] d4.scope := ⟨rfl, rfl, rfl, by decide +kernel, rfl, by decide +kernel, by decide +kernel⟩
theorem m4 : mSs TX 40 s4 d4.body is4 = true := by decide +kernel
theorem sc5 : FnScope N5 ["thing"] d5.scope := ⟨rfl, rfl, rfl, by decide +kernel, rfl, by decide +kernel, by decide +kernel⟩
theorem m5 : mSs TX 40 s5 d5.body is5 = true := by decide +kernel
theorem sc6 : FnScope N6 ["self", "height", "tiles", "floor", "roof"] d6.scope := ⟨rfl, rfl, rfl, by decide +kernel, rfl, by decide +kernel, by decide +kernel⟩
theorem m6 : mSs TX 40 s6 d6.body is6 = true := by decide +kernel
theorem sc7 : FnScope N7 ["self"] d7.scope := ⟨rfl, rfl, rfl, by decide +kernel, rfl, by decide +kernel, by decide +kernel⟩
theorem m7 : mSs TX 40 s7 d7.body is7 = true := by decide +kernel
theorem sc8 : FnScope N8 ["self", "column", "side"] d8.scope := ⟨rfl, rfl, rfl, by decide +kernel, rfl, by decide +kernel, by decide +kernel⟩
theorem m8 : mSs TX 40 s8 d8.body is8 = true := by decide +kernel
theorem sc9 : FnScope N9 ["kit"] d9.scope := ⟨rfl, rfl, rfl, by decide +kernel, rfl, by decide +kernel, by decide +kernel⟩
theorem m9 : mSs TX 40 s9 d9.body is9 = true := by decide +kernel
theorem sc10 : FnScope N10 ["kit"] d10.scope := ⟨rfl, rfl, rfl, by decide +kernel, rfl, by decide +kernel, by decide +kernel⟩
theorem m10 : mSs TX 40 s10 d10.body is10 = true := by decide +kernel
theorem sc11 : FnScope N11 ["kit", "thing"] d11.scope := ⟨rfl, rfl, rfl, by decide +kernel, rfl, by decide +kernel, by decide +kernel⟩
theorem m11 : mSs TX 40 s11 d11.body is11 = true := by decide +kernel
theorem sc12 : FnScope N12 ["kit", "column"] d12.scope := ⟨rfl, rfl, rfl, by decide +kernel, rfl, by decide +kernel, by decide +kernel⟩
theorem m12 : mSs TX 40 s12 d12.body is12 = true := by decide +kernel
theorem sc13 : FnScope N13 ["kit", "column"] d13.scope := ⟨rfl, rfl, rfl, by decide +kernel, rfl, by decide +kernel, by decide +kernel⟩
theorem m13 : mSs TX 40 s13 d13.body is13 = true := by decide +kernel
theorem sc14 : FnScope N14 ["kit", "column"] d14.scope := ⟨rfl, rfl, rfl, by decide +kernel, rfl, by decide +kernel, by decide +kernel⟩
theorem m14 : mSs TX 40 s14 d14.body is14 = true := by decide +kernel
theorem sc15 : FnScope N15 ["kit"] d15.scope := ⟨rfl, rfl, rfl, by decide +kernel, rfl, by decide +kernel, by decide +kernel⟩
theorem m15 : mSs TX 40 s15 d15.body is15 = true := by decide +kernel
theorem sc16 : FnScope N16 ["kit", "column"] d16.scope := ⟨rfl, rfl, rfl, by decide +kernel, rfl, by decide +kernel, by decide +kernel⟩
theorem m16 : mSs TX 40 s16 d16.body is16 = true := by decide +kernel
theorem sc17 : FnScope N17 ["kit", "some"] d17.scope := ⟨rfl, rfl, rfl, by decide +kernel, rfl, by decide +kernel, by decide +kernel⟩
theorem m17 : mSs TX 40 s17 d17.body is17 = true := by decide +kernel
theorem sc0 : FnScope N0 ["row", "many"] d0.scope := ⟨rfl, rfl, rfl, by decide +kernel, rfl, by decide +kernel, by decide +kernel⟩
theorem sc18 : FnScope N18 ["row", "some"] d18.scope := ⟨rfl, rfl, rfl, by decide +kernel, rfl, by decide +kernel, by decide +kernel⟩
theorem m18 : mSs TX 40 s18 d18.body is18 = true := by decide +kernel
theorem sc19 : FnScope N19 ["found", "due"] d19.scope := ⟨rfl, rfl, rfl, by decide +kernel, rfl, by decide +kernel, by decide +kernel⟩
theorem m19 : mSs TX 40 s19 d19.body is19 = true := by decide +kernel
theorem sc20 : FnScope N20 ["things"] d20.scope := ⟨rfl, rfl, rfl, by decide +kernel, rfl, by decide +kernel, by decide +kernel⟩
theorem m20 : mSs TX 40 s20 d20.body is20 = true := by decide +kernel
theorem sc21 : FnScope N21 ["row"] d21.scope := ⟨rfl, rfl, rfl, by decide +kernel, rfl, by decide +kernel, by decide +kernel⟩
theorem m21 : mSs TX 40 s21 d21.body is21 = true := by decide +kernel
theorem sc22 : FnScope N22 ["row", "many", "colours"] d22.scope := ⟨rfl, rfl, rfl, by decide +kernel, rfl, by decide +kernel, by decide +kernel⟩
theorem m22 : mSs TX 40 s22 d22.body is22 = true := by decide +kernel
theorem sc23 : FnScope N23 ["row", "colours"] d23.scope := ⟨rfl, rfl, rfl, by decide +kernel, rfl, by decide +kernel, by decide +kernel⟩
theorem m23 : mSs TX 40 s23 d23.body is23 = true := by decide +kernel
theorem sc24 : FnScope N24 ["tiles", "column", "side"] d24.scope := ⟨rfl, rfl, rfl, by decide +kernel, rfl, by decide +kernel, by decide +kernel⟩
theorem m24 : mSs TX 40 s24 d24.body is24 = true := by decide +kernel
theorem sc25 : FnScope N25 ["tiles", "floor", "roof", "column"] d25.scope := ⟨rfl, rfl, rfl, by decide +kernel, rfl, by decide +kernel, by decide +kernel⟩
theorem m25 : mSs TX 40 s25 d25.body is25 = true := by decide +kernel
theorem sc26 : FnScope N26 ["height", "tiles", "floor", "roof"] d26.scope := ⟨rfl, rfl, rfl, by decide +kernel, rfl, by decide +kernel, by decide +kernel⟩
theorem m26 : mSs TX 40 s26 d26.body is26 = true := by decide +kernel
theorem sc27 : FnScope N27 ["tiles", "columns", "column"] d27.scope := ⟨rfl, rfl, rfl, by decide +kernel, rfl, by decide +kernel, by decide +kernel⟩
theorem m27 : mSs TX 40 s27 d27.body is27 = true := by decide +kernel
theorem sc28 : FnScope N28 ["row"] d28.scope := ⟨rfl, rfl, rfl, by decide +kernel, rfl, by decide +kernel, by decide +kernel⟩
theorem m28 : mSs TX 40 s28 d28.body is28 = true := by decide +kernel
theorem sc29 : FnScope N29 ["row", "highest", "most"] d29.scope := ⟨rfl, rfl, rfl, by decide +kernel, rfl, by decide +kernel, by decide +kernel⟩
theorem m29 : mSs TX 40 s29 d29.body is29 = true := by decide +kernel
theorem sc30 : FnScope N30 ["row", "height", "tiles", "floor", "roof"] d30.scope := ⟨rfl, rfl, rfl, by decide +kernel, rfl, by decide +kernel, by decide +kernel⟩
theorem m30 : mSs TX 40 s30 d30.body is30 = true := by decide +kernel
theorem sc31 : FnScope N31 ["script"] d31.scope := ⟨rfl, rfl, rfl, by decide +kernel, rfl, by decide +kernel, by decide +kernel⟩
theorem m31 : mSs TX 40 s31 d31.body.tail is31 = true := by decide +kernel
section
variable {w : World} {K : PySem.W.Frag} {mg : Str → Option Value} {base : Heap}
abbrev Pr : Program := PySem.Challenge.pw_stripwalls_k00_kits
theorem b1 {fda : FuncData} (F : FunD K d1.name d1.qual d1.params d1.body d1.scope (d1.dvs K) (d1.kws K) (He.fAd K d1.at_) fda) : ∃ ds, Vals [] ds ∧ Binds K fda ["thing"] ds := ⟨[], .nil, FunD.bindsN F fun _ _ _ _ _ _ us hl => match us, hl with | [_], _ => rfl⟩
theorem b2 {fda : FuncData} (F : FunD K d2.name d2.qual d2.params d2.body d2.scope (d2.dvs K) (d2.kws K) (He.fAd K d2.at_) fda) : ∃ ds, Vals [] ds ∧ Binds K fda ["thing", "least", "most"] ds := ⟨[], .nil, FunD.bindsN F fun _ _ _ _ _ _ us hl => match us, hl with | [_, _, _], _ => rfl⟩
theorem b3 {fda : FuncData} (F : FunD K d3.name d3.qual d3.params d3.body d3.scope (d3.dvs K) (d3.kws K) (He.fAd K d3.at_) fda) : ∃ ds, Vals [] ds ∧ Binds K fda ["thing"] ds := ⟨[], .nil, FunD.bindsN F fun _ _ _ _ _ _ us hl => match us, hl with | [_], _ => rfl⟩
theorem b4 {fda : FuncData} (F : FunD K d4.name d4.qual d4.params d4.body d4.scope (d4.dvs K) (d4.kws K) (He.fAd K d4.at_) fda) : ∃ ds, Vals [] ds ∧ Binds K fda ["thing", "size", "most"] ds := ⟨[], .nil, FunD.bindsN F fun _ _ _ _ _ _ us hl => match us, hl with | [_, _, _], _ => rfl⟩
theorem b5 {fda : FuncData} (F : FunD K d5.name d5.qual d5.params d5.body d5.scope (d5.dvs K) (d5.kws K) (He.fAd K d5.at_) fda) : ∃ ds, Vals [] ds ∧ Binds K fda ["thing"] ds := ⟨[], .nil, FunD.bindsN F fun _ _ _ _ _ _ us hl => match us, hl with | [_], _ => rfl⟩
theorem b6 {fda : FuncData} (F : FunD K d6.name d6.qual d6.params d6.body d6.scope (d6.dvs K) (d6.kws K) (He.fAd K d6.at_) fda) : ∃ ds, Vals [] ds ∧ Binds K fda ["self", "height", "tiles", "floor", "roof"] ds := FunD.binds1 F 5 2 (fun h => by cases h) rfl fun T kV doc pm an cdv ct us its h1 h2 => match us, h1, its, h2 with | [_, _, _, _, _], _, [_, _], _ => ⟨_, rfl, rfl⟩
theorem b7 {fda : FuncData} (F : FunD K d7.name d7.qual d7.params d7.body d7.scope (d7.dvs K) (d7.kws K) (He.fAd K d7.at_) fda) : ∃ ds, Vals [] ds ∧ Binds K fda ["self"] ds := ⟨[], .nil, FunD.bindsN F fun _ _ _ _ _ _ us hl => match us, hl with | [_], _ => rfl⟩
theorem b8 {fda : FuncData} (F : FunD K d8.name d8.qual d8.params d8.body d8.scope (d8.dvs K) (d8.kws K) (He.fAd K d8.at_) fda) : ∃ ds, Vals [] ds ∧ Binds K fda ["self", "column", "side"] ds := ⟨[], .nil, FunD.bindsN F fun _ _ _ _ _ _ us hl => match us, hl with | [_, _, _], _ => rfl⟩
theorem b9 {fda : FuncData} (F : FunD K d9.name d9.qual d9.params d9.body d9.scope (d9.dvs K) (d9.kws K) (He.fAd K d9.at_) fda) : ∃ ds, Vals [] ds ∧ Binds K fda ["kit"] ds := ⟨[], .nil, FunD.bindsN F fun _ _ _ _ _ _ us hl => match us, hl with | [_], _ => rfl⟩
theorem b10 {fda : FuncData} (F : FunD K d10.name d10.qual d10.params d10.body d10.scope (d10.dvs K) (d10.kws K) (He.fAd K d10.at_) fda) : ∃ ds, Vals [] ds ∧ Binds K fda ["kit"] ds := ⟨[], .nil, FunD.bindsN F fun _ _ _ _ _ _ us hl => match us, hl with | [_], _ => rfl⟩
theorem b11 {fda : FuncData} (F : FunD K d11.name d11.qual d11.params d11.body d11.scope (d11.dvs K) (d11.kws K) (He.fAd K d11.at_) fda) : ∃ ds, Vals [] ds ∧ Binds K fda ["kit", "thing"] ds := ⟨[], .nil, FunD.bindsN F fun _ _ _ _ _ _ us hl => match us, hl with | [_, _], _ => rfl⟩
theorem b12 {fda : FuncData} (F : FunD K d12.name d12.qual d12.params d12.body d12.scope (d12.dvs K) (d12.kws K) (He.fAd K d12.at_) fda) : ∃ ds, Vals [] ds ∧ Binds K fda ["kit", "column"] ds := ⟨[], .nil, FunD.bindsN F fun _ _ _ _ _ _ us hl => match us, hl with | [_, _], _ => rfl⟩
theorem b13 {fda : FuncData} (F : FunD K d13.name d13.qual d13.params d13.body d13.scope (d13.dvs K) (d13.kws K) (He.fAd K d13.at_) fda) : ∃ ds, Vals [] ds ∧ Binds K fda ["kit", "column"] ds := ⟨[], .nil, FunD.bindsN F fun _ _ _ _ _ _ us hl => match us, hl with | [_, _], _ => rfl⟩
theorem b14 {fda : FuncData} (F : FunD K d14.name d14.qual d14.params d14.body d14.scope (d14.dvs K) (d14.kws K) (He.fAd K d14.at_) fda) : ∃ ds, Vals [] ds ∧ Binds K fda ["kit", "column"] ds := ⟨[], .nil, FunD.bindsN F fun _ _ _ _ _ _ us hl => match us, hl with | [_, _], _ => rfl⟩
theorem b15 {fda : FuncData} (F : FunD K d15.name d15.qual d15.params d15.body d15.scope (d15.dvs K) (d15.kws K) (He.fAd K d15.at_) fda) : ∃ ds, Vals [] ds ∧ Binds K fda ["kit"] ds := ⟨[], .nil, FunD.bindsN F fun _ _ _ _ _ _ us hl => match us, hl with | [_], _ => rfl⟩
theorem b16 {fda : FuncData} (F : FunD K d16.name d16.qual d16.params d16.body d16.scope (d16.dvs K) (d16.kws K) (He.fAd K d16.at_) fda) : ∃ ds, Vals [] ds ∧ Binds K fda ["kit", "column"] ds := ⟨[], .nil, FunD.bindsN F fun _ _ _ _ _ _ us hl => match us, hl with | [_, _], _ => rfl⟩
theorem b17 {fda : FuncData} (F : FunD K d17.name d17.qual d17.params d17.body d17.scope (d17.dvs K) (d17.kws K) (He.fAd K d17.at_) fda) : ∃ ds, Vals [] ds ∧ Binds K fda ["kit", "some"] ds := ⟨[], .nil, FunD.bindsN F fun _ _ _ _ _ _ us hl => match us, hl with | [_, _], _ => rfl⟩
theorem b0 {fda : FuncData} (F : FunD K d0.name d0.qual d0.params d0.body d0.scope (d0.dvs K) (d0.kws K) (He.fAd K d0.at_) fda) : Binds K fda ["row", "many"] [] := FunD.bindsN F fun _ _ _ _ _ _ us hl => match us, hl with | [_, _], _ => rfl
theorem b18 {fda : FuncData} (F : FunD K d18.name d18.qual d18.params d18.body d18.scope (d18.dvs K) (d18.kws K) (He.fAd K d18.at_) fda) : ∃ ds, Vals [] ds ∧ Binds K fda ["row", "some"] ds := ⟨[], .nil, FunD.bindsN F fun _ _ _ _ _ _ us hl => match us, hl with | [_, _], _ => rfl⟩
theorem b19 {fda : FuncData} (F : FunD K d19.name d19.qual d19.params d19.body d19.scope (d19.dvs K) (d19.kws K) (He.fAd K d19.at_) fda) : ∃ ds, Vals [] ds ∧ Binds K fda ["found", "due"] ds := ⟨[], .nil, FunD.bindsN F fun _ _ _ _ _ _ us hl => match us, hl with | [_, _], _ => rfl⟩
theorem b20 {fda : FuncData} (F : FunD K d20.name d20.qual d20.params d20.body d20.scope (d20.dvs K) (d20.kws K) (He.fAd K d20.at_) fda) : ∃ ds, Vals [] ds ∧ Binds K fda ["things"] ds := ⟨[], .nil, FunD.bindsN F fun _ _ _ _ _ _ us hl => match us, hl with | [_], _ => rfl⟩
theorem b21 {fda : FuncData} (F : FunD K d21.name d21.qual d21.params d21.body d21.scope (d21.dvs K) (d21.kws K) (He.fAd K d21.at_) fda) : ∃ ds, Vals [] ds ∧ Binds K fda ["row"] ds := ⟨[], .nil, FunD.bindsN F fun _ _ _ _ _ _ us hl => match us, hl with | [_], _ => rfl⟩
theorem b22 {fda : FuncData} (F : FunD K d22.name d22.qual d22.params d22.body d22.scope (d22.dvs K) (d22.kws K) (He.fAd K d22.at_) fda) : ∃ ds, Vals [] ds ∧ Binds K fda ["row", "many", "colours"] ds := ⟨[], .nil, FunD.bindsN F fun _ _ _ _ _ _ us hl => match us, hl with | [_, _, _], _ => rfl⟩
theorem b23 {fda : FuncData} (F : FunD K d23.name d23.qual d23.params d23.body d23.scope (d23.dvs K) (d23.kws K) (He.fAd K d23.at_) fda) : ∃ ds, Vals [] ds ∧ Binds K fda ["row", "colours"] ds := ⟨[], .nil, FunD.bindsN F fun _ _ _ _ _ _ us hl => match us, hl with | [_, _], _ => rfl⟩
theorem b24 {fda : FuncData} (F : FunD K d24.name d24.qual d24.params d24.body d24.scope (d24.dvs K) (d24.kws K) (He.fAd K d24.at_) fda) : ∃ ds, Vals [] ds ∧ Binds K fda ["tiles", "column", "side"] ds := ⟨[], .nil, FunD.bindsN F fun _ _ _ _ _ _ us hl => match us, hl with | [_, _, _], _ => rfl⟩
theorem b25 {fda : FuncData} (F : FunD K d25.name d25.qual d25.params d25.body d25.scope (d25.dvs K) (d25.kws K) (He.fAd K d25.at_) fda) : ∃ ds, Vals [] ds ∧ Binds K fda ["tiles", "floor", "roof", "column"] ds := ⟨[], .nil, FunD.bindsN F fun _ _ _ _ _ _ us hl => match us, hl with | [_, _, _, _], _ => rfl⟩
theorem b26 {fda : FuncData} (F : FunD K d26.name d26.qual d26.params d26.body d26.scope (d26.dvs K) (d26.kws K) (He.fAd K d26.at_) fda) : ∃ ds, Vals [] ds ∧ Binds K fda ["height", "tiles", "floor", "roof"] ds := ⟨[], .nil, FunD.bindsN F fun _ _ _ _ _ _ us hl => match us, hl with | [_, _, _, _], _ => rfl⟩
theorem b27 {fda : FuncData} (F : FunD K d27.name d27.qual d27.params d27.body d27.scope (d27.dvs K) (d27.kws K) (He.fAd K d27.at_) fda) : ∃ ds, Vals [] ds ∧ Binds K fda ["tiles", "columns", "column"] ds := ⟨[], .nil, FunD.bindsN F fun _ _ _ _ _ _ us hl => match us, hl with | [_, _, _], _ => rfl⟩
theorem b28 {fda : FuncData} (F : FunD K d28.name d28.qual d28.params d28.body d28.scope (d28.dvs K) (d28.kws K) (He.fAd K d28.at_) fda) : ∃ ds, Vals [] ds ∧ Binds K fda ["row"] ds := ⟨[], .nil, FunD.bindsN F fun _ _ _ _ _ _ us hl => match us, hl with | [_], _ => rfl⟩
theorem b29 {fda : FuncData} (F : FunD K d29.name d29.qual d29.params d29.body d29.scope (d29.dvs K) (d29.kws K) (He.fAd K d29.at_) fda) : ∃ ds, Vals [] ds ∧ Binds K fda ["row", "highest", "most"] ds := ⟨[], .nil, FunD.bindsN F fun _ _ _ _ _ _ us hl => match us, hl with | [_, _, _], _ => rfl⟩
theorem b30 {fda : FuncData} (F : FunD K d30.name d30.qual d30.params d30.body d30.scope (d30.dvs K) (d30.kws K) (He.fAd K d30.at_) fda) : ∃ ds, Vals [] ds ∧ Binds K fda ["row", "height", "tiles", "floor", "roof"] ds := ⟨[], .nil, FunD.bindsN F fun _ _ _ _ _ _ us hl => match us, hl with | [_, _, _, _, _], _ => rfl⟩
theorem b31 {fda : FuncData} (F : FunD K d31.name d31.qual d31.params d31.body d31.scope (d31.dvs K) (d31.kws K) (He.fAd K d31.at_) fda) : Binds K fda ["script"] [] := FunD.bindsN F fun _ _ _ _ _ _ us hl => match us, hl with | [_], _ => rfl
theorem D1 (c : He.SaysD [] fn K) (hx : exB tb K = true) (TT : ∀ q ∈ tb.lam, LamX.TabB base mg (He.cT K q.1).1 (He.cT K q.1).2) (p a : Addr) (H : Hp) : DefF TX ((tb.wd K).at p a H) Pr w K mg base 1 (TX.gdf 1) false fd1 fun m fda ps => TX.ar 1 m = true → BindF ((tb.wd K).at p a H) K fda ps (PG.dv 1 m) :=
  defF_of (d := d1) (s := s1) (ps := ["thing"]) (n := 40) (c.def_ 0 rfl) rfl sc1 rfl (fun z => by first | exact z | (cases z; done) | rfl) rfl (fun z => by cases z) ⟨rfl, rfl, by decide⟩ m1 (fun fda F => b1 F) (fun _ _ => rfl)
theorem D2 (c : He.SaysD [] fn K) (hx : exB tb K = true) (TT : ∀ q ∈ tb.lam, LamX.TabB base mg (He.cT K q.1).1 (He.cT K q.1).2) (p a : Addr) (H : Hp) : DefF TX ((tb.wd K).at p a H) Pr w K mg base 2 (TX.gdf 2) false fd2 fun m fda ps => TX.ar 2 m = true → BindF ((tb.wd K).at p a H) K fda ps (PG.dv 2 m) :=
  defF_of (d := d2) (s := s2) (ps := ["thing", "least", "most"]) (n := 40) (c.def_ 1 rfl) rfl sc2 rfl (fun z => by first | exact z | (cases z; done) | rfl) rfl (fun z => by cases z) ⟨rfl, rfl, by decide⟩ m2 (fun fda F => b2 F) (fun _ _ => rfl)
theorem D3 (c : He.SaysD [] fn K) (hx : exB tb K = true) (TT : ∀ q ∈ tb.lam, LamX.TabB base mg (He.cT K q.1).1 (He.cT K q.1).2) (p a : Addr) (H : Hp) : DefF TX ((tb.wd K).at p a H) Pr w K mg base 3 (TX.gdf 3) false fd3 fun m fda ps => TX.ar 3 m = true → BindF ((tb.wd K).at p a H) K fda ps (PG.dv 3 m) :=
  defF_of (d := d3) (s := s3) (ps := ["thing"]) (n := 40) (c.def_ 2 rfl) rfl sc3 rfl (fun z => by first | exact z | (cases z; done) | rfl) rfl (fun z => by cases z) ⟨rfl, rfl, by decide⟩ m3 (fun fda F => b3 F) (fun _ _ => rfl)
theorem D4 (c : He.SaysD [] fn K) (hx : exB tb K = true) (TT : ∀ q ∈ tb.lam, LamX.TabB base mg (He.cT K q.1).1 (He.cT K q.1).2) (p a : Addr) (H : Hp) : DefF TX ((tb.wd K).at p a H) Pr w K mg base 4 (TX.gdf 4) false fd4 fun m fda ps => TX.ar 4 m = true → BindF ((tb.wd K).at p a H) K fda ps (PG.dv 4 m) :=
  defF_of (d := d4) (s := s4) (ps := ["thing", "size", "most"]) (n := 40) (c.def_ 3 rfl) rfl sc4 rfl (fun z => by first | exact z | (cases z; done) | rfl) rfl (fun z => by cases z) ⟨rfl, rfl, by decide⟩ m4 (fun fda F => b4 F) (fun _ _ => rfl)
theorem D5 (c : He.SaysD [] fn K) (hx : exB tb K = true) (TT : ∀ q ∈ tb.lam, LamX.TabB base mg (He.cT K q.1).1 (He.cT K q.1).2) (p a : Addr) (H : Hp) : DefF TX ((tb.wd K).at p a H) Pr w K mg base 5 (TX.gdf 5) false fd5 fun m fda ps => TX.ar 5 m = true → BindF ((tb.wd K).at p a H) K fda ps (PG.dv 5 m) :=
  defF_of (d := d5) (s := s5) (ps := ["thing"]) (n := 40) (c.def_ 4 rfl) rfl sc5 rfl (fun z => by first | exact z | (cases z; done) | rfl) rfl (fun z => by cases z) ⟨rfl, rfl, by decide⟩ m5 (fun fda F => b5 F) (fun _ _ => rfl)
theorem D6 (c : He.SaysD [] fn K) (hx : exB tb K = true) (TT : ∀ q ∈ tb.lam, LamX.TabB base mg (He.cT K q.1).1 (He.cT K q.1).2) (p a : Addr) (H : Hp) : DefF TX ((tb.wd K).at p a H) Pr w K mg base 6 false true fd6 fun m fda ps => TX.car 0 m = true → BindF ((tb.wd K).at p a H) K fda ps (PG.idv 0 m) :=
  defF_of (d := d6) (s := s6) (ps := ["self", "height", "tiles", "floor", "roof"]) (n := 40) (c.def_ 5 rfl) rfl sc6 rfl (fun z => by first | exact z | (cases z; done) | rfl) rfl (fun z => by cases z) ⟨rfl, rfl, by decide⟩ m6 (fun fda F => b6 F) (fun _ _ => rfl)
theorem D7 (c : He.SaysD [] fn K) (hx : exB tb K = true) (TT : ∀ q ∈ tb.lam, LamX.TabB base mg (He.cT K q.1).1 (He.cT K q.1).2) (p a : Addr) (H : Hp) : DefF TX ((tb.wd K).at p a H) Pr w K mg base 7 (TX.gdf 7) false fd7 fun m fda ps => TX.ar 7 m = true → BindF ((tb.wd K).at p a H) K fda ps (PG.dv 7 m) :=
  defF_of (d := d7) (s := s7) (ps := ["self"]) (n := 40) (c.def_ 6 rfl) rfl sc7 rfl (fun z => by first | exact z | (cases z; done) | rfl) rfl (fun z => by cases z) ⟨rfl, rfl, by decide⟩ m7 (fun fda F => b7 F) (fun _ _ => rfl)
theorem D8 (c : He.SaysD [] fn K) (hx : exB tb K = true) (TT : ∀ q ∈ tb.lam, LamX.TabB base mg (He.cT K q.1).1 (He.cT K q.1).2) (p a : Addr) (H : Hp) : DefF TX ((tb.wd K).at p a H) Pr w K mg base 8 (TX.gdf 8) false fd8 fun m fda ps => TX.ar 8 m = true → BindF ((tb.wd K).at p a H) K fda ps (PG.dv 8 m) :=
  defF_of (d := d8) (s := s8) (ps := ["self", "column", "side"]) (n := 40) (c.def_ 7 rfl) rfl sc8 rfl (fun z => by first | exact z | (cases z; done) | rfl) rfl (fun z => by cases z) ⟨rfl, rfl, by decide⟩ m8 (fun fda F => b8 F) (fun _ _ => rfl)
theorem D9 (c : He.SaysD [] fn K) (hx : exB tb K = true) (TT : ∀ q ∈ tb.lam, LamX.TabB base mg (He.cT K q.1).1 (He.cT K q.1).2) (p a : Addr) (H : Hp) : DefF TX ((tb.wd K).at p a H) Pr w K mg base 9 (TX.gdf 9) false fd9 fun m fda ps => TX.ar 9 m = true → BindF ((tb.wd K).at p a H) K fda ps (PG.dv 9 m) :=
  defF_of (d := d9) (s := s9) (ps := ["kit"]) (n := 40) (c.def_ 8 rfl) rfl sc9 rfl (fun z => by first | exact z | (cases z; done) | rfl) rfl (fun z => by cases z) ⟨rfl, rfl, by decide⟩ m9 (fun fda F => b9 F) (fun _ _ => rfl)
theorem D10 (c : He.SaysD [] fn K) (hx : exB tb K = true) (TT : ∀ q ∈ tb.lam, LamX.TabB base mg (He.cT K q.1).1 (He.cT K q.1).2) (p a : Addr) (H : Hp) : DefF TX ((tb.wd K).at p a H) Pr w K mg base 10 (TX.gdf 10) false fd10 fun m fda ps => TX.ar 10 m = true → BindF ((tb.wd K).at p a H) K fda ps (PG.dv 10 m) :=
  defF_of (d := d10) (s := s10) (ps := ["kit"]) (n := 40) (c.def_ 9 rfl) rfl sc10 rfl (fun z => by first | exact z | (cases z; done) | rfl) rfl (fun z => by cases z) ⟨rfl, rfl, by decide⟩ m10 (fun fda F => b10 F) (fun _ _ => rfl)
theorem D11 (c : He.SaysD [] fn K) (hx : exB tb K = true) (TT : ∀ q ∈ tb.lam, LamX.TabB base mg (He.cT K q.1).1 (He.cT K q.1).2) (p a : Addr) (H : Hp) : DefF TX ((tb.wd K).at p a H) Pr w K mg base 11 (TX.gdf 11) false fd11 fun m fda ps => TX.ar 11 m = true → BindF ((tb.wd K).at p a H) K fda ps (PG.dv 11 m) :=
  defF_of (d := d11) (s := s11) (ps := ["kit", "thing"]) (n := 40) (c.def_ 10 rfl) rfl sc11 rfl (fun z => by first | exact z | (cases z; done) | rfl) rfl (fun z => by cases z) ⟨rfl, rfl, by decide⟩ m11 (fun fda F => b11 F) (fun _ _ => rfl)
theorem D12 (c : He.SaysD [] fn K) (hx : exB tb K = true) (TT : ∀ q ∈ tb.lam, LamX.TabB base mg (He.cT K q.1).1 (He.cT K q.1).2) (p a : Addr) (H : Hp) : DefF TX ((tb.wd K).at p a H) Pr w K mg base 12 (TX.gdf 12) false fd12 fun m fda ps => TX.ar 12 m = true → BindF ((tb.wd K).at p a H) K fda ps (PG.dv 12 m) :=
  defF_of (d := d12) (s := s12) (ps := ["kit", "column"]) (n := 40) (c.def_ 11 rfl) rfl sc12 rfl (fun z => by first | exact z | (cases z; done) | rfl) rfl (fun z => by cases z) ⟨rfl, rfl, by decide⟩ m12 (fun fda F => b12 F) (fun _ _ => rfl)
theorem D13 (c : He.SaysD [] fn K) (hx : exB tb K = true) (TT : ∀ q ∈ tb.lam, LamX.TabB base mg (He.cT K q.1).1 (He.cT K q.1).2) (p a : Addr) (H : Hp) : DefF TX ((tb.wd K).at p a H) Pr w K mg base 13 (TX.gdf 13) false fd13 fun m fda ps => TX.ar 13 m = true → BindF ((tb.wd K).at p a H) K fda ps (PG.dv 13 m) :=
  defF_of (d := d13) (s := s13) (ps := ["kit", "column"]) (n := 40) (c.def_ 12 rfl) rfl sc13 rfl (fun z => by first | exact z | (cases z; done) | rfl) rfl (fun z => by cases z) ⟨rfl, rfl, by decide⟩ m13 (fun fda F => b13 F) (fun _ _ => rfl)
theorem D14 (c : He.SaysD [] fn K) (hx : exB tb K = true) (TT : ∀ q ∈ tb.lam, LamX.TabB base mg (He.cT K q.1).1 (He.cT K q.1).2) (p a : Addr) (H : Hp) : DefF TX ((tb.wd K).at p a H) Pr w K mg base 14 (TX.gdf 14) false fd14 fun m fda ps => TX.ar 14 m = true → BindF ((tb.wd K).at p a H) K fda ps (PG.dv 14 m) :=
  defF_of (d := d14) (s := s14) (ps := ["kit", "column"]) (n := 40) (c.def_ 13 rfl) rfl sc14 rfl (fun z => by first | exact z | (cases z; done) | rfl) rfl (fun z => by cases z) ⟨rfl, rfl, by decide⟩ m14 (fun fda F => b14 F) (fun _ _ => rfl)
theorem D15 (c : He.SaysD [] fn K) (hx : exB tb K = true) (TT : ∀ q ∈ tb.lam, LamX.TabB base mg (He.cT K q.1).1 (He.cT K q.1).2) (p a : Addr) (H : Hp) : DefF TX ((tb.wd K).at p a H) Pr w K mg base 15 (TX.gdf 15) false fd15 fun m fda ps => TX.ar 15 m = true → BindF ((tb.wd K).at p a H) K fda ps (PG.dv 15 m) :=
  defF_of (d := d15) (s := s15) (ps := ["kit"]) (n := 40) (c.def_ 14 rfl) rfl sc15 rfl (fun z => by first | exact z | (cases z; done) | rfl) rfl (fun z => by cases z) ⟨rfl, rfl, by decide⟩ m15 (fun fda F => b15 F) (fun _ _ => rfl)
theorem D16 (c : He.SaysD [] fn K) (hx : exB tb K = true) (TT : ∀ q ∈ tb.lam, LamX.TabB base mg (He.cT K q.1).1 (He.cT K q.1).2) (p a : Addr) (H : Hp) : DefF TX ((tb.wd K).at p a H) Pr w K mg base 16 (TX.gdf 16) false fd16 fun m fda ps => TX.ar 16 m = true → BindF ((tb.wd K).at p a H) K fda ps (PG.dv 16 m) :=
  defF_of (d := d16) (s := s16) (ps := ["kit", "column"]) (n := 40) (c.def_ 15 rfl) rfl sc16 rfl (fun z => by first | exact z | (cases z; done) | rfl) rfl (fun z => by cases z) ⟨rfl, rfl, by decide⟩ m16 (fun fda F => b16 F) (fun _ _ => rfl)
theorem D17 (c : He.SaysD [] fn K) (hx : exB tb K = true) (TT : ∀ q ∈ tb.lam, LamX.TabB base mg (He.cT K q.1).1 (He.cT K q.1).2) (p a : Addr) (H : Hp) : DefF TX ((tb.wd K).at p a H) Pr w K mg base 17 (TX.gdf 17) false fd17 fun m fda ps => TX.ar 17 m = true → BindF ((tb.wd K).at p a H) K fda ps (PG.dv 17 m) :=
  defF_of (d := d17) (s := s17) (ps := ["kit", "some"]) (n := 40) (c.def_ 16 rfl) rfl sc17 rfl (fun z => by first | exact z | (cases z; done) | rfl) rfl (fun z => by cases z) ⟨rfl, rfl, by decide⟩ m17 (fun fda F => b17 F) (fun _ _ => rfl)
theorem D18 (c : He.SaysD [] fn K) (hx : exB tb K = true) (TT : ∀ q ∈ tb.lam, LamX.TabB base mg (He.cT K q.1).1 (He.cT K q.1).2) (p a : Addr) (H : Hp) : DefF TX ((tb.wd K).at p a H) Pr w K mg base 18 (TX.gdf 18) false fd18 fun m fda ps => TX.ar 18 m = true → BindF ((tb.wd K).at p a H) K fda ps (PG.dv 18 m) :=
  defF_of (d := d18) (s := s18) (ps := ["row", "some"]) (n := 40) (c.def_ 18 rfl) rfl sc18 rfl (fun z => by first | exact z | (cases z; done) | rfl) rfl (fun z => by cases z) ⟨rfl, rfl, by decide⟩ m18 (fun fda F => b18 F) (fun _ _ => rfl)
theorem D19 (c : He.SaysD [] fn K) (hx : exB tb K = true) (TT : ∀ q ∈ tb.lam, LamX.TabB base mg (He.cT K q.1).1 (He.cT K q.1).2) (p a : Addr) (H : Hp) : DefF TX ((tb.wd K).at p a H) Pr w K mg base 19 (TX.gdf 19) false fd19 fun m fda ps => TX.ar 19 m = true → BindF ((tb.wd K).at p a H) K fda ps (PG.dv 19 m) :=
  defF_of (d := d19) (s := s19) (ps := ["found", "due"]) (n := 40) (c.def_ 19 rfl) rfl sc19 rfl (fun z => by first | exact z | (cases z; done) | rfl) rfl (fun z => by cases z) ⟨rfl, rfl, by decide⟩ m19 (fun fda F => b19 F) (fun _ _ => rfl)
theorem D20 (c : He.SaysD [] fn K) (hx : exB tb K = true) (TT : ∀ q ∈ tb.lam, LamX.TabB base mg (He.cT K q.1).1 (He.cT K q.1).2) (p a : Addr) (H : Hp) : DefF TX ((tb.wd K).at p a H) Pr w K mg base 20 (TX.gdf 20) false fd20 fun m fda ps => TX.ar 20 m = true → BindF ((tb.wd K).at p a H) K fda ps (PG.dv 20 m) :=
  defF_of (d := d20) (s := s20) (ps := ["things"]) (n := 40) (c.def_ 20 rfl) rfl sc20 rfl (fun z => by first | exact z | (cases z; done) | rfl) rfl (fun z => by cases z) ⟨rfl, rfl, by decide⟩ m20 (fun fda F => b20 F) (fun _ _ => rfl)
theorem D21 (c : He.SaysD [] fn K) (hx : exB tb K = true) (TT : ∀ q ∈ tb.lam, LamX.TabB base mg (He.cT K q.1).1 (He.cT K q.1).2) (p a : Addr) (H : Hp) : DefF TX ((tb.wd K).at p a H) Pr w K mg base 21 (TX.gdf 21) false fd21 fun m fda ps => TX.ar 21 m = true → BindF ((tb.wd K).at p a H) K fda ps (PG.dv 21 m) :=
  defF_of (d := d21) (s := s21) (ps := ["row"]) (n := 40) (c.def_ 21 rfl) rfl sc21 rfl (fun z => by first | exact z | (cases z; done) | rfl) rfl (fun z => by cases z) ⟨rfl, rfl, by decide⟩ m21 (fun fda F => b21 F) (fun _ _ => rfl)
theorem D22 (c : He.SaysD [] fn K) (hx : exB tb K = true) (TT : ∀ q ∈ tb.lam, LamX.TabB base mg (He.cT K q.1).1 (He.cT K q.1).2) (p a : Addr) (H : Hp) : DefF TX ((tb.wd K).at p a H) Pr w K mg base 22 (TX.gdf 22) false fd22 fun m fda ps => TX.ar 22 m = true → BindF ((tb.wd K).at p a H) K fda ps (PG.dv 22 m) :=
  defF_of (d := d22) (s := s22) (ps := ["row", "many", "colours"]) (n := 40) (c.def_ 22 rfl) rfl sc22 rfl (fun z => by first | exact z | (cases z; done) | rfl) rfl (fun z => by cases z) ⟨rfl, rfl, by decide⟩ m22 (fun fda F => b22 F) (fun _ _ => rfl)
theorem D23 (c : He.SaysD [] fn K) (hx : exB tb K = true) (TT : ∀ q ∈ tb.lam, LamX.TabB base mg (He.cT K q.1).1 (He.cT K q.1).2) (p a : Addr) (H : Hp) : DefF TX ((tb.wd K).at p a H) Pr w K mg base 23 (TX.gdf 23) false fd23 fun m fda ps => TX.ar 23 m = true → BindF ((tb.wd K).at p a H) K fda ps (PG.dv 23 m) :=
  defF_of (d := d23) (s := s23) (ps := ["row", "colours"]) (n := 40) (c.def_ 23 rfl) rfl sc23 rfl (fun z => by first | exact z | (cases z; done) | rfl) rfl (fun z => by cases z) ⟨rfl, rfl, by decide⟩ m23 (fun fda F => b23 F) (fun _ _ => rfl)
theorem D24 (c : He.SaysD [] fn K) (hx : exB tb K = true) (TT : ∀ q ∈ tb.lam, LamX.TabB base mg (He.cT K q.1).1 (He.cT K q.1).2) (p a : Addr) (H : Hp) : DefF TX ((tb.wd K).at p a H) Pr w K mg base 24 (TX.gdf 24) false fd24 fun m fda ps => TX.ar 24 m = true → BindF ((tb.wd K).at p a H) K fda ps (PG.dv 24 m) :=
  defF_of (d := d24) (s := s24) (ps := ["tiles", "column", "side"]) (n := 40) (c.def_ 24 rfl) rfl sc24 rfl (fun z => by first | exact z | (cases z; done) | rfl) rfl (fun z => by cases z) ⟨rfl, rfl, by decide⟩ m24 (fun fda F => b24 F) (fun _ _ => rfl)
theorem D25 (c : He.SaysD [] fn K) (hx : exB tb K = true) (TT : ∀ q ∈ tb.lam, LamX.TabB base mg (He.cT K q.1).1 (He.cT K q.1).2) (p a : Addr) (H : Hp) : DefF TX ((tb.wd K).at p a H) Pr w K mg base 25 (TX.gdf 25) false fd25 fun m fda ps => TX.ar 25 m = true → BindF ((tb.wd K).at p a H) K fda ps (PG.dv 25 m) :=
  defF_of (d := d25) (s := s25) (ps := ["tiles", "floor", "roof", "column"]) (n := 40) (c.def_ 25 rfl) rfl sc25 rfl (fun z => by first | exact z | (cases z; done) | rfl) rfl (fun z => by cases z) ⟨rfl, rfl, by decide⟩ m25 (fun fda F => b25 F) (fun _ _ => rfl)
theorem D26 (c : He.SaysD [] fn K) (hx : exB tb K = true) (TT : ∀ q ∈ tb.lam, LamX.TabB base mg (He.cT K q.1).1 (He.cT K q.1).2) (p a : Addr) (H : Hp) : DefF TX ((tb.wd K).at p a H) Pr w K mg base 26 (TX.gdf 26) false fd26 fun m fda ps => TX.ar 26 m = true → BindF ((tb.wd K).at p a H) K fda ps (PG.dv 26 m) :=
  defF_of (d := d26) (s := s26) (ps := ["height", "tiles", "floor", "roof"]) (n := 40) (c.def_ 26 rfl) rfl sc26 rfl (fun z => by first | exact z | (cases z; done) | rfl) rfl (fun z => by cases z) ⟨rfl, rfl, by decide⟩ m26 (fun fda F => b26 F) (fun _ _ => rfl)
theorem D27 (c : He.SaysD [] fn K) (hx : exB tb K = true) (TT : ∀ q ∈ tb.lam, LamX.TabB base mg (He.cT K q.1).1 (He.cT K q.1).2) (p a : Addr) (H : Hp) : DefF TX ((tb.wd K).at p a H) Pr w K mg base 27 (TX.gdf 27) false fd27 fun m fda ps => TX.ar 27 m = true → BindF ((tb.wd K).at p a H) K fda ps (PG.dv 27 m) :=
  defF_of (d := d27) (s := s27) (ps := ["tiles", "columns", "column"]) (n := 40) (c.def_ 27 rfl) rfl sc27 rfl (fun z => by first | exact z | (cases z; done) | rfl) rfl (fun z => by cases z) ⟨rfl, rfl, by decide⟩ m27 (fun fda F => b27 F) (fun _ _ => rfl)
theorem D28 (c : He.SaysD [] fn K) (hx : exB tb K = true) (TT : ∀ q ∈ tb.lam, LamX.TabB base mg (He.cT K q.1).1 (He.cT K q.1).2) (p a : Addr) (H : Hp) : DefF TX ((tb.wd K).at p a H) Pr w K mg base 28 (TX.gdf 28) false fd28 fun m fda ps => TX.ar 28 m = true → BindF ((tb.wd K).at p a H) K fda ps (PG.dv 28 m) :=
  defF_of (d := d28) (s := s28) (ps := ["row"]) (n := 40) (c.def_ 28 rfl) rfl sc28 rfl (fun z => by first | exact z | (cases z; done) | rfl) rfl (fun z => by cases z) ⟨rfl, rfl, by decide⟩ m28 (fun fda F => b28 F) (fun _ _ => rfl)
theorem D29 (c : He.SaysD [] fn K) (hx : exB tb K = true) (TT : ∀ q ∈ tb.lam, LamX.TabB base mg (He.cT K q.1).1 (He.cT K q.1).2) (p a : Addr) (H : Hp) : DefF TX ((tb.wd K).at p a H) Pr w K mg base 29 (TX.gdf 29) false fd29 fun m fda ps => TX.ar 29 m = true → BindF ((tb.wd K).at p a H) K fda ps (PG.dv 29 m) :=
  defF_of (d := d29) (s := s29) (ps := ["row", "highest", "most"]) (n := 40) (c.def_ 29 rfl) rfl sc29 rfl (fun z => by first | exact z | (cases z; done) | rfl) rfl (fun z => by cases z) ⟨rfl, rfl, by decide⟩ m29 (fun fda F => b29 F) (fun _ _ => rfl)
theorem D30 (c : He.SaysD [] fn K) (hx : exB tb K = true) (TT : ∀ q ∈ tb.lam, LamX.TabB base mg (He.cT K q.1).1 (He.cT K q.1).2) (p a : Addr) (H : Hp) : DefF TX ((tb.wd K).at p a H) Pr w K mg base 30 (TX.gdf 30) false fd30 fun m fda ps => TX.ar 30 m = true → BindF ((tb.wd K).at p a H) K fda ps (PG.dv 30 m) :=
  defF_of (d := d30) (s := s30) (ps := ["row", "height", "tiles", "floor", "roof"]) (n := 40) (c.def_ 30 rfl) rfl sc30 rfl (fun z => by first | exact z | (cases z; done) | rfl) rfl (fun _ => ⟨rfl, fun fda F => ⟨(lamF_of hx (p := (("_law_wrong_parts", none), "_law_wrong_parts")) (by simp [tb, lamP]) F (TT (("_law_wrong_parts", none), "_law_wrong_parts") (by simp [tb, lamP]))).ex⟩⟩) ⟨rfl, rfl, by decide⟩ m30 (fun fda F => b30 F) (fun _ _ => rfl)
theorem tk_walk {X : Cx} (hN : X.N = [("row" : Str), ("many" : Str), ("found" : Str), ("cell" : Str)]) (hv : ∀ x ∈ X.N, Vis X.env.scope x) (hl : ∀ x ∈ X.N, Loc X.env.scope x) (hf : ∀ x, X.fn x = true) (g1 : Gl X "int") (g2 : Gl X "len") (m1 : X.mg "int" = none) (m2 : X.mg "len" = none) :
    PSs X d0.body (tTk X.K (fun xs H Q => ∃ p ys, xs = [.ref p] ∧ (SqL X.K H p ys ∨ SqT X.K H p ys) ∧ Q (.int ys.length) H)) := by
  have nd : X.N.Nodup := by rw [hN]; decide
  have n0 : X.N[0]? = some ("row" : Str) := by rw [hN]; rfl
  have n1 : X.N[1]? = some ("many" : Str) := by rw [hN]; rfl
  have n2 : X.N[2]? = some ("found" : Str) := by rw [hN]; rfl
  have n3 : X.N[3]? = some ("cell" : Str) := by rw [hN]; rfl
  have v0 : Vis X.env.scope ("row" : Str) := hv _ (by rw [hN]; decide)
  have v1 : Vis X.env.scope ("many" : Str) := hv _ (by rw [hN]; decide)
  have v2 : Vis X.env.scope ("found" : Str) := hv _ (by rw [hN]; decide)
  have v3 : Vis X.env.scope ("cell" : Str) := hv _ (by rw [hN]; decide)
  have l2 : Loc X.env.scope ("found" : Str) := hl _ (by rw [hN]; decide)
  have l3 : Loc X.env.scope ("cell" : Str) := hl _ (by rw [hN]; decide)
  have rw_ : ∀ {k : Int} {p q r : Pos}, PE X (.Subscript (.Name "row" p) (.Constant (.int k) 0 q) r) (tRw X.K k) := pe_ix ix_list (pv 0 n0 v0) pe_int (fun _ _ => rfl)
  have int_ : ∀ {a : Expr} {t : TE} {p q : Pos}, PE X a t → starEach [a] X.env = (false, eval a X.env) :: starEach [] X.env → PE X (.Call (.Name "int" p) [a] [] q) (tInt t) := fun h hs => pe_callTy call_int1 g1 m1 boot_int (pa_cons h pa_nil hs) (he := hs)
  refine pss_cons (ps_if (pt_cmpR op_gt rw_ pe_int (nomark _)) (pss_cons (ps_set nd n2 l2 (pe_op op_mod (int_ rw_ rfl) (pv 1 n1 v1)) rfl (.inl (hf _))) (pss_cons (ps_asg (pe_op op_fdivW rw_ (pv 1 n1 v1)) (pg_sub (pv 0 n0 v0) pe_int set_list)) (pss_one (ps_ret (pv 2 n2 v2))))) pss_nil) ?_
  refine pss_cons (ps_asg (pe_op op_add rw_ pe_int) (pg_sub (pv 0 n0 v0) pe_int set_list)) ?_
  refine pss_cons (ps_if (pt_cmpR op_gt rw_ (pe_callB call_len_seq g2 m2 PySem.boot_len (pa_cons rw_ pa_nil)) (nomark _)) (pss_cons (ps_asg (pe_op op_mod (int_ (pe_op op_add (pe_op op_mulW rw_ pe_int) pe_int) rfl) pe_int) (pg_sub (pv 0 n0 v0) pe_int set_list)) (pss_one (ps_ret (pe_op op_mod (int_ (pe_op op_fdivW rw_ pe_int) rfl) (pv 1 n1 v1))))) pss_nil) ?_
  refine pss_cons (ps_set nd n3 l3 (pe_ix ix_list rw_ (pe_op op_sub rw_ pe_int) (fun _ _ => rfl)) rfl (.inl (hf _))) ?_
  refine pss_cons (ps_asg (pe_op op_mod (int_ (pe_op op_add (pe_op op_add (pe_op op_mulW rw_ pe_int) (pv 3 n3 v3)) pe_int) rfl) pe_int) (pg_sub (pv 0 n0 v0) pe_int set_list)) ?_
  refine pss_cons (ps_if (pt_cmpR op_ge (pv 3 n3 v3) (pe_op op_pow pe_int pe_int) (nomark _)) (pss_one (ps_asg (pe_op op_fdivW (pv 3 n3 v3) (pv 1 n1 v1)) (pg_sub (pv 0 n0 v0) pe_int set_list))) pss_nil) ?_
  exact pss_one (ps_ret (pe_op op_mod (int_ (pv 3 n3 v3) rfl) (pv 1 n1 v1)))

theorem tkF (c : He.SaysD [] fn K) (m1 : mg "int" = none) (m2 : mg "len" = none) (p a : Addr) (H : Hp) : ∃ fda ps, ps.length = 2 ∧ (∀ m, TX.ar fTaken m = true → BindF ((tb.wd K).at p a H) K fda ps (PG.dv fTaken m)) ∧ FnX Pr w K mg base false 1 (((tb.wd K).at p a H).fnA fTaken) fda ps (spF ((tb.wd K).at p a H) 2 takeD) := by
  obtain ⟨fda, F⟩ := c.def_ 17 (d := d0) rfl
  refine ⟨fda, ["row", "many"], rfl, fun m _ => ⟨[], [], b0 F, .nil, .nil⟩, fn_taken (W := (tb.wd K).at p a H) F sc0 rfl rfl (fun _ _ _ h => h) fun cdv A outer s H' E => ?_⟩
  refine tk_walk rfl (fun x hx => ?_) (fun x hx => ?_) (fun _ => rfl) (by show d0.scope.names.lookup _ = _; decide +kernel) (by show d0.scope.names.lookup _ = _; decide +kernel) m1 m2
  · have q : ∀ x ∈ N0, d0.scope.names.lookup x = some .local := by decide +kernel
    exact .inl (q x hx)
  · have q : ∀ x ∈ N0, d0.scope.names.lookup x = some .local := by decide +kernel
    exact .inl (q x hx)
theorem rfD {h : Heap} (c : He.SaysD [] fn K) (hx : exB tb K = true) (X : K.In h) (G : h.Ns mainGlobals mg) (hm : mg "_law_refused" = some (.ref (He.fAd K dR.at_))) : RefD (tb.wd K) K mg wsL "_law_refused" "ask" :=
  refD_of (c.def_ 32 (d := dR) rfl) ⟨rfl, rfl, rfl, rfl⟩ hm (by decide +kernel) (fun _ _ _ _ _ _ us hl => match us, hl with | [_], _ => rfl) ⟨rfl, rfl, rfl, by decide +kernel, rfl, by decide +kernel, by decide +kernel⟩ (.inl (by decide +kernel)) (by decide +kernel) (exf_of hx X G (by decide +kernel))
theorem sx : FnScope ["self", "value"] ["self", "value"] x0.scope := ⟨rfl, rfl, rfl, by decide +kernel, rfl, by decide +kernel, by decide +kernel⟩
theorem xe0 (c : He.SaysD [] fn K) : ∃ fd ps, FnOk Pr w K mg base (CX Pr w) 1 (He.fAd K x0.at_) fd ps (spX K) ∧ Binds K fd ps [] := by
  obtain ⟨fda, F⟩ := c.def_ 33 (d := x0) rfl
  obtain ⟨ds, v, b⟩ : ∃ ds, Vals [] ds ∧ Binds K fda ["self", "value"] ds := FunD.binds1 F 2 1 (fun h => by cases h) rfl fun T kV doc pm an cdv ct us its h1 h2 => match us, h1, its, h2 with | [_, _], _, [_], _ => ⟨_, rfl, rfl⟩
  cases v
  exact ⟨fda, _, err_ok F sx, b⟩
theorem xe1 (c : He.SaysD [] fn K) : ∃ fd ps, FnOk Pr w K mg base (CX Pr w) 1 (He.fAd K x1.at_) fd ps (spX K) ∧ Binds K fd ps [] := by
  obtain ⟨fda, F⟩ := c.def_ 34 (d := x1) rfl
  obtain ⟨ds, v, b⟩ : ∃ ds, Vals [] ds ∧ Binds K fda ["self", "value"] ds := FunD.binds1 F 2 1 (fun h => by cases h) rfl fun T kV doc pm an cdv ct us its h1 h2 => match us, h1, its, h2 with | [_, _], _, [_], _ => ⟨_, rfl, rfl⟩
  cases v
  exact ⟨fda, _, err_ok F sx, b⟩
theorem xe2 (c : He.SaysD [] fn K) : ∃ fd ps, FnOk Pr w K mg base (CX Pr w) 1 (He.fAd K x2.at_) fd ps (spX K) ∧ Binds K fd ps [] := by
  obtain ⟨fda, F⟩ := c.def_ 35 (d := x2) rfl
  obtain ⟨ds, v, b⟩ : ∃ ds, Vals [] ds ∧ Binds K fda ["self", "value"] ds := FunD.binds1 F 2 1 (fun h => by cases h) rfl fun T kV doc pm an cdv ct us its h1 h2 => match us, h1, its, h2 with | [_, _], _, [_], _ => ⟨_, rfl, rfl⟩
  cases v
  exact ⟨fda, _, err_ok F sx, b⟩
theorem xe3 (c : He.SaysD [] fn K) : ∃ fd ps, FnOk Pr w K mg base (CX Pr w) 1 (He.fAd K x3.at_) fd ps (spX K) ∧ Binds K fd ps [] := by
  obtain ⟨fda, F⟩ := c.def_ 36 (d := x3) rfl
  obtain ⟨ds, v, b⟩ : ∃ ds, Vals [] ds ∧ Binds K fda ["self", "value"] ds := FunD.binds1 F 2 1 (fun h => by cases h) rfl fun T kV doc pm an cdv ct us its h1 h2 => match us, h1, its, h2 with | [_, _], _, [_], _ => ⟨_, rfl, rfl⟩
  cases v
  exact ⟨fda, _, err_ok F sx, b⟩
theorem xe4 (c : He.SaysD [] fn K) : ∃ fd ps, FnOk Pr w K mg base (CX Pr w) 1 (He.fAd K x4.at_) fd ps (spX K) ∧ Binds K fd ps [] := by
  obtain ⟨fda, F⟩ := c.def_ 37 (d := x4) rfl
  obtain ⟨ds, v, b⟩ : ∃ ds, Vals [] ds ∧ Binds K fda ["self", "value"] ds := FunD.binds1 F 2 1 (fun h => by cases h) rfl fun T kV doc pm an cdv ct us its h1 h2 => match us, h1, its, h2 with | [_, _], _, [_], _ => ⟨_, rfl, rfl⟩
  cases v
  exact ⟨fda, _, err_ok F sx, b⟩
theorem xe5 (c : He.SaysD [] fn K) : ∃ fd ps, FnOk Pr w K mg base (CX Pr w) 1 (He.fAd K x5.at_) fd ps (spX K) ∧ Binds K fd ps [] := by
  obtain ⟨fda, F⟩ := c.def_ 38 (d := x5) rfl
  obtain ⟨ds, v, b⟩ : ∃ ds, Vals [] ds ∧ Binds K fda ["self", "value"] ds := FunD.binds1 F 2 1 (fun h => by cases h) rfl fun T kV doc pm an cdv ct us its h1 h2 => match us, h1, its, h2 with | [_, _], _, [_], _ => ⟨_, rfl, rfl⟩
  cases v
  exact ⟨fda, _, err_ok F sx, b⟩
theorem pgF {h : Heap} (c : He.SaysD [] fn K) (hx : exB tb K = true) (hn : nmB TX tb glF K = true) (X : K.In h) (G : h.Ns mainGlobals mg) (hr : (He.Fa.glo "_law_refused").ok K = true) (TT : ∀ q ∈ tb.lam, LamX.TabB base mg (He.cT K q.1).1 (He.cT K q.1).2) (p a : Addr) (H : Hp) : PgF TX ((tb.wd K).at p a H) PG Pr w K mg base where
  fx := (facts_of hx).at p a H
  hK := rfl
  bl := (nmF_of hn X G).bl
  nm := (nmF_of hn X G).nm
  ar := fun f n hn2 => by
    have key : ∀ q ∈ arL, q.1 = fTaken ∨ ∃ fd, PG.fn q.1 = some fd ∧ DefF TX ((tb.wd K).at p a H) Pr w K mg base q.1 (TX.gdf q.1) false fd fun m fda ps => TX.ar q.1 m = true → BindF ((tb.wd K).at p a H) K fda ps (PG.dv q.1 m) := List.forall_mem_cons.mpr ⟨.inr ⟨fd1, rfl, D1 c hx TT p a H⟩, List.forall_mem_cons.mpr ⟨.inr ⟨fd2, rfl, D2 c hx TT p a H⟩, List.forall_mem_cons.mpr ⟨.inr ⟨fd3, rfl, D3 c hx TT p a H⟩, List.forall_mem_cons.mpr ⟨.inr ⟨fd4, rfl, D4 c hx TT p a H⟩, List.forall_mem_cons.mpr ⟨.inr ⟨fd5, rfl, D5 c hx TT p a H⟩, List.forall_mem_cons.mpr ⟨.inr ⟨fd7, rfl, D7 c hx TT p a H⟩, List.forall_mem_cons.mpr ⟨.inr ⟨fd8, rfl, D8 c hx TT p a H⟩, List.forall_mem_cons.mpr ⟨.inr ⟨fd9, rfl, D9 c hx TT p a H⟩, List.forall_mem_cons.mpr ⟨.inr ⟨fd10, rfl, D10 c hx TT p a H⟩, List.forall_mem_cons.mpr ⟨.inr ⟨fd11, rfl, D11 c hx TT p a H⟩, List.forall_mem_cons.mpr ⟨.inr ⟨fd12, rfl, D12 c hx TT p a H⟩, List.forall_mem_cons.mpr ⟨.inr ⟨fd13, rfl, D13 c hx TT p a H⟩, List.forall_mem_cons.mpr ⟨.inr ⟨fd14, rfl, D14 c hx TT p a H⟩, List.forall_mem_cons.mpr ⟨.inr ⟨fd15, rfl, D15 c hx TT p a H⟩, List.forall_mem_cons.mpr ⟨.inr ⟨fd16, rfl, D16 c hx TT p a H⟩, List.forall_mem_cons.mpr ⟨.inr ⟨fd17, rfl, D17 c hx TT p a H⟩, List.forall_mem_cons.mpr ⟨.inl rfl, List.forall_mem_cons.mpr ⟨.inr ⟨fd18, rfl, D18 c hx TT p a H⟩, List.forall_mem_cons.mpr ⟨.inr ⟨fd19, rfl, D19 c hx TT p a H⟩, List.forall_mem_cons.mpr ⟨.inr ⟨fd20, rfl, D20 c hx TT p a H⟩, List.forall_mem_cons.mpr ⟨.inr ⟨fd21, rfl, D21 c hx TT p a H⟩, List.forall_mem_cons.mpr ⟨.inr ⟨fd22, rfl, D22 c hx TT p a H⟩, List.forall_mem_cons.mpr ⟨.inr ⟨fd23, rfl, D23 c hx TT p a H⟩, List.forall_mem_cons.mpr ⟨.inr ⟨fd24, rfl, D24 c hx TT p a H⟩, List.forall_mem_cons.mpr ⟨.inr ⟨fd25, rfl, D25 c hx TT p a H⟩, List.forall_mem_cons.mpr ⟨.inr ⟨fd26, rfl, D26 c hx TT p a H⟩, List.forall_mem_cons.mpr ⟨.inr ⟨fd27, rfl, D27 c hx TT p a H⟩, List.forall_mem_cons.mpr ⟨.inr ⟨fd28, rfl, D28 c hx TT p a H⟩, List.forall_mem_cons.mpr ⟨.inr ⟨fd29, rfl, D29 c hx TT p a H⟩, List.forall_mem_cons.mpr ⟨.inr ⟨fd30, rfl, D30 c hx TT p a H⟩, List.forall_mem_nil _⟩⟩⟩⟩⟩⟩⟩⟩⟩⟩⟩⟩⟩⟩⟩⟩⟩⟩⟩⟩⟩⟩⟩⟩⟩⟩⟩⟩⟩⟩
    exact key _ (arOf_mem hn2)
  tk := tkF c ((nmF_of hn X G).bl "int" (by decide)) ((nmF_of hn X G).bl "len" (by decide)) p a H
  has := fun f hh => by
    have key : ∀ f ∈ hasL, TX.gdf f = false ∧ f ≠ fTaken ∧ PySem.W.keepIn K (.ref (((tb.wd K).at p a H).fnA f)) = true ∧ ∃ fd m, PG.fn f = some fd ∧ TX.ar f m = true ∧ PG.dv f m = [] := List.forall_mem_cons.mpr ⟨⟨rfl, by decide, ((nmF_of hn X G).nm "columns_of" 10 (by simp [TX])).2, fd10, 1, rfl, rfl, rfl⟩, List.forall_mem_cons.mpr ⟨⟨rfl, by decide, ((nmF_of hn X G).nm "seams_of" 15 (by simp [TX])).2, fd15, 1, rfl, rfl, rfl⟩, List.forall_mem_nil _⟩⟩
    exact key f (by simpa using (show hasL.contains f = true from hh))
  mkc := (nmF_of hn X G).mkc
  ini := fun x c' n h1 h2 => by
    have hcc := ((nmF_of hn X G).mkc x c' h1).2
    match c' with
    | 0 => exact ⟨6, fd6, rfl, rfl, by decide, mk_of hx (c := 0) (by decide), D6 c hx TT p a H⟩
    | _ + 1 => exact absurd hcc (by simp [tb, clsN])
  mt := fun c' m f hm => by
    obtain ⟨q1, q2, q3, q4⟩ := (nmF_of hn X G).mt c' m f hm
    exact ⟨q1, q2, q3, q4⟩
  gl := fun i x hi => by
    obtain ⟨v, u, q1, q2, q3⟩ := (nmF_of hn X G).gl i x hi
    exact ⟨v, u, q1, q2, q3 p a H⟩
  fld := rfl
  ex := fun x c' hxc => by
    obtain ⟨q1, q2⟩ := (nmF_of hn X G).ex x c' hxc
    have key : ∀ c2 ∈ exN.map (·.1), ∃ fd ps, FnOk Pr w K mg base (CX Pr w) 1 (He.fAd K ((exN.lookup c2).getD "", some "__init__")) fd ps (spX K) ∧ Binds K fd ps [] := List.forall_mem_cons.mpr ⟨xe0 c, List.forall_mem_cons.mpr ⟨xe1 c, List.forall_mem_cons.mpr ⟨xe2 c, List.forall_mem_cons.mpr ⟨xe3 c, List.forall_mem_cons.mpr ⟨xe4 c, List.forall_mem_cons.mpr ⟨xe5 c, List.forall_mem_nil _⟩⟩⟩⟩⟩⟩
    have q := exc_of (P := Pr) (w := w) (base := base) (c := c') hx X G q2 (key c' q2)
    rw [q1] at q
    exact q
  ref := ⟨wsL, (rfD c hx X G (He.glo_ok X G hr)).at p a H, rfl⟩
end
abbrev R : PySem.W.OpenRow := PySem.W.OpenLaw.row PySem.Challenge.rw_stripwalls_k00_kits
def exA (K : PySem.W.Frag) : Bool := exB tb K && (nmB TX tb glF K && ((He.Fa.glo "_law_refused").ok K && (He.Fa.glo "law").ok K))
abbrev hk : PySem.W.Hook := He.hookX 6 [] fn [] (tb.lam.map (·.1)) exA
def ob (s : PySem.W.SharedT) : He.AlX := He.obsX 6 [] fn [] (tb.lam.map (·.1)) exA (HandSHeadRun.getT s)
theorem ob_eq (s : PySem.W.SharedT) : ob s = hk.obs s.abs := He.obsX_eq (HandSHeadRun.getT_eq s)
theorem run (w : World) : HandSHeadRun.RunEq R (PySem.W.view R.prog [lawI]) hk ob 30000 loose w := by
  intro os
  kernel_rfl
def dep : Nat := 12
/-- what is left: the evaluator's answer -/
def LawOk : Prop := ∀ ns : List Int, ns.length ≤ 63 → ∃ r', ended (exSs (ctx PG (runF PG dep) (iniF PG (runF PG dep))) is31 (envL 20) ⟨true, ns, 0, 307, 0⟩) = .ok (.bl true) r'
theorem law_prom (ok : LawOk) {w : World} {mg : Str → Option Value} {fa : Addr} {h : Heap} (G : h.Ns mainGlobals mg) (hmg : mg "law" = some (.ref fa)) {K : PySem.W.Frag} (KX : K.In h) (c : He.SaysX [] fn [] (tb.lam.map (·.1)) exA w h K) :
    ∃ (K : PySem.W.Frag) (fd : FuncData) (tabs : List (Addr × Addr)) (sp : Sp), K.In h ∧ (∀ p ∈ tabs, h.get? p.2 = some { cls := .none, data := .fields #[] }) ∧ (∀ p ∈ tabs, K.lookup p.2 = none) ∧ (∀ p ∈ tabs, PySem.W.CodeHd h p.1 p.2) ∧
      (∀ (s : Shared) (u : Value), BindsTo s fd ⟨[u], []⟩ [("script", u)]) ∧
      (∀ (H : Hp) (a : Addr) (ns : List Int), ns.length ≤ 63 → (∀ z ∈ ns, Builtin.Int.intBits z ≤ 1048576) → (∀ p ∈ tabs, H p.2 = some (.tbl #[])) → SqL K H a (ns.map V.int) → sp [.ref a] H (fun v _ => v = .bl true) fun _ _ _ => False) ∧
      ∀ base : Heap, K.In base → base.Ns mainGlobals mg → (∀ p ∈ tabs, LamX.TabB base mg p.1 p.2) → FnX Pr w K mg base true (7 * (dep + 1)) fa fd ["script"] sp := by
  have hm := c.more
  unfold exA at hm
  obtain ⟨hx, hm⟩ := and_t hm
  obtain ⟨hn, hm⟩ := and_t hm
  obtain ⟨hr, hl⟩ := and_t hm
  obtain ⟨fda, F⟩ := c.t.d.def_ 31 (d := d31) rfl
  have e : fa = He.fAd K d31.at_ := by
    have q := hmg.symm.trans (He.glo_ok KX G hl)
    cases q
    rfl
  subst e
  have mem : ∀ p ∈ tb.lam.map (fun p => He.cT K p.1), ∃ q ∈ tb.lam.map (·.1), p = He.cT K q := fun p hp => by
    obtain ⟨q, hq, rfl⟩ := List.mem_map.mp hp
    exact ⟨q.1, List.mem_map.mpr ⟨q, hq, rfl⟩, rfl⟩
  refine ⟨K, fda, tb.lam.map fun p => He.cT K p.1, spLaw (tb.wd K), KX, fun p hp => ?_, fun p hp => ?_, fun p hp => ?_, fun s u => FunD.bindsA (ps := ["script"]) F (fun _ _ _ _ _ _ us hl => match us, hl with | [_], _ => rfl) s [u] rfl, fun H a ns h1 h2 h3 h4 => ?_, fun base KB GB TT => ?_⟩
  · obtain ⟨q, hq, rfl⟩ := mem p hp
    exact c.empty q hq
  · obtain ⟨q, hq, rfl⟩ := mem p hp
    exact c.out q hq
  · obtain ⟨q, hq, rfl⟩ := mem p hp
    exact PySem.W.codeHd_of_K KX (c.hd q hq)
  · refine ⟨a, ns, rfl, h1, h2, tabs_of fun p hp => ?_, h4, fun _ => rfl⟩
    obtain ⟨q, hq, rfl⟩ := List.mem_map.mp hp
    exact h3 _ (List.mem_map.mpr ⟨q, hq, rfl⟩)
  · have TT2 : ∀ q ∈ tb.lam, LamX.TabB base mg (He.cT K q.1).1 (He.cT K q.1).2 := fun q hq => TT _ (List.mem_map.mpr ⟨q, hq, rfl⟩)
    exact law_run (s := s31) (N' := N31.drop 2) (sx := "script") (rx := "row") (d := dep) (fun p a H => pgF c.t.d hx hn KB GB hr TT2 p a H) F rfl sc31 rfl (fun _ => ⟨(lamF_of hx (p := (("law", none), "law")) (by simp [tb, lamP]) F (TT2 (("law", none), "law") (by simp [tb, lamP]))).ex⟩) m31 (by decide) rfl (by decide) (by unfold L2.Loc; decide +kernel) ok
end K00
open PySem PySem.W PySem.Calls PyProof.Rows
theorem K00.holds (ok : K00.LawOk) : PySem.Challenge.rw_stripwalls_k00_kits.Holds := by
  w_on; o_law
  refine HandSHeadRun.head_any (r := OpenLaw.row PySem.Challenge.rw_stripwalls_k00_kits) (q := view (OpenLaw.row PySem.Challenge.rw_stripwalls_k00_kits).prog [K00.lawI]) (H := K00.hk) (ob := K00.ob) (M := 30000) (loose := K00.loose) (d := HandSHeadRun.topDef (OpenLaw.row PySem.Challenge.rw_stripwalls_k00_kits).prog K00.lawI) (kwd := []) K00.ob_eq
    (by kernel_rfl) (fun s => by kernel_rfl) K00.run (by kernel_rfl) (by kernel_rfl) (by kernel_rfl) (by rfl) (by first | assumption | decide +kernel) (by decide +kernel) ⟨rfl, rfl, rfl, rfl, rfl, by decide +kernel⟩ ?hw ?hc
  case hw => w_witness2
  case hc =>
    refine SW.walk_end (l := PySem.Challenge.rw_stripwalls_k00_kits) (n := 63) (k := 7 * (K00.dep + 1)) (x := "script") rfl (by decide) (by kernel_rfl) ⟨rfl, by decide, by decide⟩ ?F
    intro w mg fa h Y G hmg0
    obtain ⟨K, KX, c⟩ := Y
    have hmg : mg ("law" : PySem.Str) = some (.ref fa) := by
      have e : (HandSHeadRun.topDef (OpenLaw.row PySem.Challenge.rw_stripwalls_k00_kits).prog K00.lawI).name = ("law" : PySem.Str) := by kernel_rfl
      rw [← e]
      exact hmg0
    exact K00.law_prom ok G hmg KX c

/-! Law00: the law of kits is true by the evaluator. Own work. -/
namespace SW.K
open PySem (Str)
structure Law00 (P : Pg) : Prop extends Kits2 P where
  f30 : P.fn 30 = some fd30
  w0 : P.word 0 = some "height"
  w1 : P.word 1 = some "tiles"
  w2 : P.word 2 = some "floor"
  w3 : P.word 3 = some "roof"
  w4 : P.word 4 = some "kit"
  w5 : P.word 5 = some "column"
  h10 : P.has 10 = true
  h15 : P.has 15 = true
  g14 : P.gl 14 = .fn 10
  g15 : P.gl 15 = .fn 15
theorem mul_lst {a : List D} {b : Int} (h : a.length * b.toNat ≤ LIM) (hb : -(2 ^ 63) ≤ b ∧ b < 2 ^ 63) : p2 .mul (.lst a) (.int b) = some (.lst (List.replicate b.toNat a).flatten) := by
  show (if a.length * b.toNat ≤ LIM ∧ -(2 ^ 63) ≤ b ∧ b < 2 ^ 63 then some (D.lst (List.replicate b.toNat a).flatten) else none) = _
  rw [if_pos ⟨h, hb⟩]
theorem rep_of {d : D} (h : d.reprOk = true) : p1 .repr d = some (.rep d) := by
  show (if d.reprOk = true then some (D.rep d) else none) = _
  rw [if_pos h]
theorem rep_ne (d : D) : p2 .ne (.rep d) (.rep d) = some (.bl false) := by
  unfold p2
  exact if_pos rfl
theorem rep_eq (d : D) : p2 .eq (.rep d) (.rep d) = some (.bl true) := by
  unfold p2
  exact if_pos rfl
section
variable {P : Pg} (K : Law00 P) {h : Nat} {ts : List (List Int)} {fl ro : Option Int}
include K
theorem wrong_ok {r : Row} (hr : r.live = true) (k : KitOk h ts fl ro) (hl : ts.length ≤ 5) (n : Nat) : ∃ r', runF P (n + 5) 30 [.row, .int h, .lst (ts.map tI), edD fl, edD ro] r = .ok (.bl true) r' := by
  obtain ⟨odd, r1, a1, a2, a3⟩ := pick_ok K.toLaws (xs := [.int 0, .int 5, .non, .bl true, .str "2"]) hr (by simp) (by simp)
  obtain ⟨T, r2, b1, b2, b3⟩ := pick_ok K.toLaws (xs := [.non, .int 4, .lst ((List.replicate 11 [D.tup [.int 0, .int 0, .int 0, .int 0]]).flatten), .dic false []]) a2 (by simp) (by simp)
  obtain ⟨bad, r3, c1, c2, c3⟩ := pick_ok K.toLaws (xs := [.tup [.int 0, .int 0, .int 0], .lst [.int 0, .int 0, .int 0, .int 0], .tup [.int 0, .int 0, .int 0, .int 6], .tup [.int 0, .int 0, .bl true, .int 0], .non, .tup [.int 0, .int 0, .int 0, .int (-1)]]) b2 (by simp) (by simp)
  obtain ⟨edge, r4, e1, e2, e3⟩ := pick_ok K.toLaws (xs := [.int 6, .int (-1), .str "0", .bl true, .tup [.int 0]]) c2 (by simp) (by simp)
  have hodd : odd.ask = true ∧ within 1 4 odd = false ∧ (D.tup [.str "height", odd]).reprOk = true := by
    simp only [List.mem_cons, List.not_mem_nil, or_false] at a3
    rcases a3 with rfl | rfl | rfl | rfl | rfl <;> decide
  have hT : (T.ask = true ∧ isRow T = false) ∨ ∃ xs, (T = .lst xs ∨ T = .tup xs) ∧ 10 < xs.length := by
    simp only [List.mem_cons, List.not_mem_nil, or_false] at b3
    rcases b3 with rfl | rfl | rfl | rfl
    · exact .inl ⟨rfl, rfl⟩
    · exact .inl ⟨rfl, rfl⟩
    · exact .inr ⟨_, .inl rfl, by simp⟩
    · exact .inl ⟨rfl, rfl⟩
  have hbad : GoodT bad ∧ wordB 4 5 bad = false := by
    simp only [List.mem_cons, List.not_mem_nil, or_false] at c3
    rcases c3 with rfl | rfl | rfl | rfl | rfl | rfl
    all_goals exact ⟨⟨rfl, fun xs e x hx => by
      first
      | (cases e; done)
      | (cases e
         simp only [List.mem_cons, List.not_mem_nil, or_false] at hx
         rcases hx with rfl | rfl | rfl | rfl <;> rfl)
      | (cases e
         simp only [List.mem_cons, List.not_mem_nil, or_false] at hx
         rcases hx with rfl | rfl | rfl <;> rfl)⟩, by decide⟩
  have hedge : edge.ask = true ∧ edgeB edge = false ∧ (D.tup [.str "floor", edge]).reprOk = true ∧ (D.tup [.str "roof", edge]).reprOk = true := by
    simp only [List.mem_cons, List.not_mem_nil, or_false] at e3
    rcases e3 with rfl | rfl | rfl | rfl | rfl <;> decide
  have hw : within 1 4 (.int (h : Int)) = true := by
    have h1 := k.h1
    have h4 := k.h4
    show (decide ((1 : Int) ≤ (h : Int)) && decide ((h : Int) ≤ 4)) = true
    rw [decide_eq_true (by omega), decide_eq_true (by omega)]
    rfl
  have hl2 : (ts.map tI).length ≤ 10 := by rw [List.length_map]; omega
  refine ⟨r4, ?_⟩
  rw [run_at K.f30 (by decide) rfl]
  show ended (exSs _ is30 [.sh .row, .sh (.int h), .sh (.lst (ts.map tI)), .sh (edD fl), .sh (edD ro), .no, .no, .no] r) = _
  have X0 : iniF P (runF P (n + 4)) 0 [odd, .non, .int 9, .int 9] r1 = .exn 0 odd r1 := kit_exn0 K.toKits (n := n + 1) (T := .non) (f := .int 9) (g := .int 9) hodd.1 hodd.2.1 r1
  have X1 : iniF P (runF P (n + 4)) 0 [.int h, T, .int 9, .int 9] r2 = .exn 1 (.int (-1)) r2 := kit_exn1 K.toKits (n := n + 1) (hD := .int h) (T := T) (f := .int 9) (g := .int 9) rfl hw hT r2
  have XT : iniF P (runF P (n + 4)) 0 [.int h, .lst (ts.map tI ++ [bad]), .int 9, .int 9] r3 = .exn 1 (.int (ts.map tI).length) r3 := kit_exnT K.toKits (n := n + 1) (hD := .int h) (T := .lst (ts.map tI ++ [bad])) (f := .int 9) (g := .int 9) (y := bad) (xs := ts.map tI) (ys := []) rfl hw (.inl rfl) (by rw [List.length_append, List.length_map]; simp; omega) k.tile hbad.1 hbad.2 r3
  have X2 : iniF P (runF P (n + 4)) 0 [.int h, .lst (ts.map tI), edge, edge] r4 = .exn 2 edge r4 := kit_exn2 K.toKits (n := n + 1) (hD := .int h) (T := .lst (ts.map tI)) (f := edge) (g := edge) rfl hw (.inl rfl) hl2 k.tile hedge.1 hedge.2.1 r4
  have X3 : iniF P (runF P (n + 4)) 0 [.int h, .lst (ts.map tI), edD fl, edge] r4 = .exn 3 edge r4 := kit_exn3 K.toKits (n := n + 1) (hD := .int h) (T := .lst (ts.map tI)) (f := edD fl) (g := edge) rfl hw (.inl rfl) hl2 k.tile (edge_ok k.flo).1 (edge_ok k.flo).2 hedge.1 hedge.2.1 r4
  have A1 : runF P (n + 4) 18 [.row, .lst [.int 0, .int 5, .non, .bl true, .str "2"]] r = .ok odd r1 := a1 (n + 2)
  have B1 : runF P (n + 4) 18 [.row, .lst [.non, .int 4, .lst ((List.replicate 11 [D.tup [.int 0, .int 0, .int 0, .int 0]]).flatten), .dic false []]] r1 = .ok T r2 := b1 (n + 2)
  have C1 : runF P (n + 4) 18 [.row, .lst [.tup [.int 0, .int 0, .int 0], .lst [.int 0, .int 0, .int 0, .int 0], .tup [.int 0, .int 0, .int 0, .int 6], .tup [.int 0, .int 0, .bl true, .int 0], .non, .tup [.int 0, .int 0, .int 0, .int (-1)]]] r2 = .ok bad r3 := c1 (n + 2)
  have E1 : runF P (n + 4) 18 [.row, .lst [.int 6, .int (-1), .str "0", .bl true, .tup [.int 0]]] r3 = .ok edge r4 := e1 (n + 2)
  have M11 : p2 .mul (.lst [.tup [.int 0, .int 0, .int 0, .int 0]]) (.int 11) = some (.lst ((List.replicate 11 [D.tup [.int 0, .int 0, .int 0, .int 0]]).flatten)) := by
    exact mul_lst (b := 11) (by decide) (by decide)
  have N1 : p1 .neg (.int 1) = some (.int (-1)) := rfl
  have L1 : p1 .len (.lst (ts.map tI)) = some (.int ts.length) := by rw [seqLen (.inl rfl), List.length_map]
  have hL : LIM = 16777216 := rfl
  have AD := add_lst (a := ts.map tI) (b := [bad]) (by rw [List.length_map]; simp; omega)
  generalize hC : ctx P (runF P (n + 4)) (iniF P (runF P (n + 4))) = C
  have dv : ∀ f n, C.dv f n = [] := by rw [← hC]; exact K.dv
  have idv : ∀ f n, C.idv f n = [] := by rw [← hC]; exact K.idv
  have cl : C.call = runF P (n + 4) := by rw [← hC]; rfl
  have ci : C.init = iniF P (runF P (n + 4)) := by rw [← hC]; rfl
  have W : C.word = P.word := by rw [← hC]; rfl
  rw [is30]
  refine (congrArg ended (w_asg (d := odd) (r1 := r1) (by simp only [v_var, v_cst, v_glb, v_tup, v_lst, v_dnew, v_call, v_mk, v_meth, v_fld, v_o1, v_o2, v_sl, v_chain, v_and, v_or, v_not, v_ite, vs_nil, vs_cons, vo_none, vo_some, vi_seq, vi_rng, vi_enum, vi_zip, R.bind, R.then, RS.then, liftO, nextO, ended, ctx_call, ctx_init, ctx_word, ctx_has, ctx_gl, ctx_dv, ctx_idv, ctx_fuel, w_nil, w_cons, s_asg, s_ex, s_if, s_ret, s_raise, s_freeze, t_is, truth_bl, truth_non, List.getD_cons_zero, List.getD_cons_succ, Sl.get, List.cons_append, List.nil_append, List.append_nil, List.length_cons, List.length_nil, List.set_cons_zero, List.set_cons_succ, dv, cl, A1]) rfl)).trans ?_
  have S0 : ev C (.refused (.mk 0 [.var 5, .cst .non, .cst (.int 9), .cst (.int 9)])) [.sh .row, .sh (.int h), .sh (.lst (ts.map tI)), .sh (edD fl), .sh (edD ro), .sh odd, .no, .no] r1 = .ok (.tup [.str "height", odd]) r1 :=
    v_refused_exn (n := 0) (by simp only [v_var, v_cst, v_glb, v_tup, v_lst, v_dnew, v_call, v_mk, v_meth, v_fld, v_o1, v_o2, v_sl, v_chain, v_and, v_or, v_not, v_ite, vs_nil, vs_cons, vo_none, vo_some, vi_seq, vi_rng, vi_enum, vi_zip, R.bind, R.then, RS.then, liftO, nextO, ended, ctx_call, ctx_init, ctx_word, ctx_has, ctx_gl, ctx_dv, ctx_idv, ctx_fuel, w_nil, w_cons, s_asg, s_ex, s_if, s_ret, s_raise, s_freeze, t_is, truth_bl, truth_non, List.getD_cons_zero, List.getD_cons_succ, Sl.get, List.cons_append, List.nil_append, List.append_nil, List.length_cons, List.length_nil, List.set_cons_zero, List.set_cons_succ, idv, ci, X0]) (by rw [W]; exact K.w0)
  refine (congrArg ended (w_skip (d := .bl false) (r1 := r1) (by rw [v_o2, v_o1]; show R.bind (R.bind (ev C (.refused _) [.sh .row, .sh (.int h), .sh (.lst (ts.map tI)), .sh (edD fl), .sh (edD ro), .sh odd, .no, .no] r1) _) _ = _; simp only [S0, v_var, v_cst, v_glb, v_tup, v_lst, v_dnew, v_call, v_mk, v_meth, v_fld, v_o1, v_o2, v_sl, v_chain, v_and, v_or, v_not, v_ite, vs_nil, vs_cons, vo_none, vo_some, vi_seq, vi_rng, vi_enum, vi_zip, R.bind, R.then, RS.then, liftO, nextO, ended, ctx_call, ctx_init, ctx_word, ctx_has, ctx_gl, ctx_dv, ctx_idv, ctx_fuel, w_nil, w_cons, s_asg, s_ex, s_if, s_ret, s_raise, s_freeze, t_is, truth_bl, truth_non, List.getD_cons_zero, List.getD_cons_succ, Sl.get, List.cons_append, List.nil_append, List.append_nil, List.length_cons, List.length_nil, List.set_cons_zero, List.set_cons_succ, rep_of hodd.2.2, rep_ne]) rfl)).trans ?_
  have S1 : ev C (.refused (.mk 0 [.var 1, .call 18 [.var 0, .lst [.cst .non, .cst (.int 4), .o2 .mul (.lst [.tup [.cst (.int 0), .cst (.int 0), .cst (.int 0), .cst (.int 0)]]) (.cst (.int 11)), .dnew false]], .cst (.int 9), .cst (.int 9)])) [.sh .row, .sh (.int h), .sh (.lst (ts.map tI)), .sh (edD fl), .sh (edD ro), .sh odd, .no, .no] r1 = .ok (.tup [.str "tiles", .int (-1)]) r2 :=
    v_refused_exn (n := 1) (by simp only [v_var, v_cst, v_glb, v_tup, v_lst, v_dnew, v_call, v_mk, v_meth, v_fld, v_o1, v_o2, v_sl, v_chain, v_and, v_or, v_not, v_ite, vs_nil, vs_cons, vo_none, vo_some, vi_seq, vi_rng, vi_enum, vi_zip, R.bind, R.then, RS.then, liftO, nextO, ended, ctx_call, ctx_init, ctx_word, ctx_has, ctx_gl, ctx_dv, ctx_idv, ctx_fuel, w_nil, w_cons, s_asg, s_ex, s_if, s_ret, s_raise, s_freeze, t_is, truth_bl, truth_non, List.getD_cons_zero, List.getD_cons_succ, Sl.get, List.cons_append, List.nil_append, List.append_nil, List.length_cons, List.length_nil, List.set_cons_zero, List.set_cons_succ, idv, dv, cl, ci, M11, B1, X1]) (by rw [W]; exact K.w1)
  have Q1 : p2 .ne (.tup [.str "tiles", .int (-1)]) (.tup [.str "tiles", .int (-1)]) = some (.bl false) := by
    rw [p2_ne rfl]
    have e : D.eqv (.tup [.str "tiles", .int (-1)]) (.tup [.str "tiles", .int (-1)]) = true := by simp [D.eqv, eqvAll]
    rw [e]
    rfl
  refine (congrArg ended (w_skip (d := .bl false) (r1 := r2) (by rw [v_o2]; show R.bind (ev C (.refused _) [.sh .row, .sh (.int h), .sh (.lst (ts.map tI)), .sh (edD fl), .sh (edD ro), .sh odd, .no, .no] r1) _ = _; simp only [S1, v_var, v_cst, v_glb, v_tup, v_lst, v_dnew, v_call, v_mk, v_meth, v_fld, v_o1, v_o2, v_sl, v_chain, v_and, v_or, v_not, v_ite, vs_nil, vs_cons, vo_none, vo_some, vi_seq, vi_rng, vi_enum, vi_zip, R.bind, R.then, RS.then, liftO, nextO, ended, ctx_call, ctx_init, ctx_word, ctx_has, ctx_gl, ctx_dv, ctx_idv, ctx_fuel, w_nil, w_cons, s_asg, s_ex, s_if, s_ret, s_raise, s_freeze, t_is, truth_bl, truth_non, List.getD_cons_zero, List.getD_cons_succ, Sl.get, List.cons_append, List.nil_append, List.append_nil, List.length_cons, List.length_nil, List.set_cons_zero, List.set_cons_succ, N1, Q1]) rfl)).trans ?_
  refine (congrArg ended (w_asg (d := bad) (r1 := r3) (by simp only [List.set_cons_zero, List.set_cons_succ, v_var, v_cst, v_glb, v_tup, v_lst, v_dnew, v_call, v_mk, v_meth, v_fld, v_o1, v_o2, v_sl, v_chain, v_and, v_or, v_not, v_ite, vs_nil, vs_cons, vo_none, vo_some, vi_seq, vi_rng, vi_enum, vi_zip, R.bind, R.then, RS.then, liftO, nextO, ended, ctx_call, ctx_init, ctx_word, ctx_has, ctx_gl, ctx_dv, ctx_idv, ctx_fuel, w_nil, w_cons, s_asg, s_ex, s_if, s_ret, s_raise, s_freeze, t_is, truth_bl, truth_non, List.getD_cons_zero, List.getD_cons_succ, Sl.get, List.cons_append, List.nil_append, List.append_nil, List.length_cons, List.length_nil, List.set_cons_zero, List.set_cons_succ, dv, cl, N1, C1]) rfl)).trans ?_
  have S2 : ev C (.refused (.mk 0 [.var 1, .o2 .add (.var 2) (.lst [.var 6]), .cst (.int 9), .cst (.int 9)])) [.sh .row, .sh (.int h), .sh (.lst (ts.map tI)), .sh (edD fl), .sh (edD ro), .sh odd, .sh bad, .no] r3 = .ok (.tup [.str "tiles", .int ts.length]) r3 := by
    refine v_refused_exn (n := 1) ?_ (by rw [W]; exact K.w1)
    rw [List.length_map] at XT
    simp only [v_var, v_cst, v_glb, v_tup, v_lst, v_dnew, v_call, v_mk, v_meth, v_fld, v_o1, v_o2, v_sl, v_chain, v_and, v_or, v_not, v_ite, vs_nil, vs_cons, vo_none, vo_some, vi_seq, vi_rng, vi_enum, vi_zip, R.bind, R.then, RS.then, liftO, nextO, ended, ctx_call, ctx_init, ctx_word, ctx_has, ctx_gl, ctx_dv, ctx_idv, ctx_fuel, w_nil, w_cons, s_asg, s_ex, s_if, s_ret, s_raise, s_freeze, t_is, truth_bl, truth_non, List.getD_cons_zero, List.getD_cons_succ, Sl.get, List.cons_append, List.nil_append, List.append_nil, List.length_cons, List.length_nil, List.set_cons_zero, List.set_cons_succ, idv, ci, AD, XT]
  have Q2 : p2 .ne (.tup [.str "tiles", .int ts.length]) (.tup [.str "tiles", .int ts.length]) = some (.bl false) := by
    rw [p2_ne rfl]
    have e : D.eqv (.tup [.str "tiles", .int ts.length]) (.tup [.str "tiles", .int ts.length]) = true := by simp [D.eqv, eqvAll]
    rw [e]
    rfl
  refine (congrArg ended (w_skip (d := .bl false) (r1 := r3) (by rw [v_o2]; show R.bind (ev C (.refused _) [.sh .row, .sh (.int h), .sh (.lst (ts.map tI)), .sh (edD fl), .sh (edD ro), .sh odd, .sh bad, .no] r3) _ = _; simp only [S2, List.set_cons_zero, List.set_cons_succ, v_var, v_cst, v_glb, v_tup, v_lst, v_dnew, v_call, v_mk, v_meth, v_fld, v_o1, v_o2, v_sl, v_chain, v_and, v_or, v_not, v_ite, vs_nil, vs_cons, vo_none, vo_some, vi_seq, vi_rng, vi_enum, vi_zip, R.bind, R.then, RS.then, liftO, nextO, ended, ctx_call, ctx_init, ctx_word, ctx_has, ctx_gl, ctx_dv, ctx_idv, ctx_fuel, w_nil, w_cons, s_asg, s_ex, s_if, s_ret, s_raise, s_freeze, t_is, truth_bl, truth_non, List.getD_cons_zero, List.getD_cons_succ, Sl.get, List.cons_append, List.nil_append, List.append_nil, List.length_cons, List.length_nil, List.set_cons_zero, List.set_cons_succ, L1, Q2]) rfl)).trans ?_
  refine (congrArg ended (w_asg (d := edge) (r1 := r4) (by simp only [List.set_cons_zero, List.set_cons_succ, v_var, v_cst, v_glb, v_tup, v_lst, v_dnew, v_call, v_mk, v_meth, v_fld, v_o1, v_o2, v_sl, v_chain, v_and, v_or, v_not, v_ite, vs_nil, vs_cons, vo_none, vo_some, vi_seq, vi_rng, vi_enum, vi_zip, R.bind, R.then, RS.then, liftO, nextO, ended, ctx_call, ctx_init, ctx_word, ctx_has, ctx_gl, ctx_dv, ctx_idv, ctx_fuel, w_nil, w_cons, s_asg, s_ex, s_if, s_ret, s_raise, s_freeze, t_is, truth_bl, truth_non, List.getD_cons_zero, List.getD_cons_succ, Sl.get, List.cons_append, List.nil_append, List.append_nil, List.length_cons, List.length_nil, List.set_cons_zero, List.set_cons_succ, dv, cl, N1, E1]) rfl)).trans ?_
  have S3 : ev C (.refused (.mk 0 [.var 1, .var 2, .var 7, .var 7])) [.sh .row, .sh (.int h), .sh (.lst (ts.map tI)), .sh (edD fl), .sh (edD ro), .sh odd, .sh bad, .sh edge] r4 = .ok (.tup [.str "floor", edge]) r4 :=
    v_refused_exn (n := 2) (by simp only [v_var, v_cst, v_glb, v_tup, v_lst, v_dnew, v_call, v_mk, v_meth, v_fld, v_o1, v_o2, v_sl, v_chain, v_and, v_or, v_not, v_ite, vs_nil, vs_cons, vo_none, vo_some, vi_seq, vi_rng, vi_enum, vi_zip, R.bind, R.then, RS.then, liftO, nextO, ended, ctx_call, ctx_init, ctx_word, ctx_has, ctx_gl, ctx_dv, ctx_idv, ctx_fuel, w_nil, w_cons, s_asg, s_ex, s_if, s_ret, s_raise, s_freeze, t_is, truth_bl, truth_non, List.getD_cons_zero, List.getD_cons_succ, Sl.get, List.cons_append, List.nil_append, List.append_nil, List.length_cons, List.length_nil, List.set_cons_zero, List.set_cons_succ, idv, ci, X2]) (by rw [W]; exact K.w2)
  refine (congrArg ended (w_skip (d := .bl false) (r1 := r4) (by rw [v_o2, v_o1]; show R.bind (R.bind (ev C (.refused _) [.sh .row, .sh (.int h), .sh (.lst (ts.map tI)), .sh (edD fl), .sh (edD ro), .sh odd, .sh bad, .sh edge] r4) _) _ = _; simp only [S3, List.set_cons_zero, List.set_cons_succ, v_var, v_cst, v_glb, v_tup, v_lst, v_dnew, v_call, v_mk, v_meth, v_fld, v_o1, v_o2, v_sl, v_chain, v_and, v_or, v_not, v_ite, vs_nil, vs_cons, vo_none, vo_some, vi_seq, vi_rng, vi_enum, vi_zip, R.bind, R.then, RS.then, liftO, nextO, ended, ctx_call, ctx_init, ctx_word, ctx_has, ctx_gl, ctx_dv, ctx_idv, ctx_fuel, w_nil, w_cons, s_asg, s_ex, s_if, s_ret, s_raise, s_freeze, t_is, truth_bl, truth_non, List.getD_cons_zero, List.getD_cons_succ, Sl.get, List.cons_append, List.nil_append, List.append_nil, List.length_cons, List.length_nil, List.set_cons_zero, List.set_cons_succ, rep_of hedge.2.2.1, rep_ne]) rfl)).trans ?_
  have S4 : ev C (.refused (.mk 0 [.var 1, .var 2, .var 3, .var 7])) [.sh .row, .sh (.int h), .sh (.lst (ts.map tI)), .sh (edD fl), .sh (edD ro), .sh odd, .sh bad, .sh edge] r4 = .ok (.tup [.str "roof", edge]) r4 :=
    v_refused_exn (n := 3) (by simp only [v_var, v_cst, v_glb, v_tup, v_lst, v_dnew, v_call, v_mk, v_meth, v_fld, v_o1, v_o2, v_sl, v_chain, v_and, v_or, v_not, v_ite, vs_nil, vs_cons, vo_none, vo_some, vi_seq, vi_rng, vi_enum, vi_zip, R.bind, R.then, RS.then, liftO, nextO, ended, ctx_call, ctx_init, ctx_word, ctx_has, ctx_gl, ctx_dv, ctx_idv, ctx_fuel, w_nil, w_cons, s_asg, s_ex, s_if, s_ret, s_raise, s_freeze, t_is, truth_bl, truth_non, List.getD_cons_zero, List.getD_cons_succ, Sl.get, List.cons_append, List.nil_append, List.append_nil, List.length_cons, List.length_nil, List.set_cons_zero, List.set_cons_succ, idv, ci, X3]) (by rw [W]; exact K.w3)
  refine (congrArg ended (w_ret (d := .bl true) (r1 := r4) (by rw [v_o2, v_o1]; show R.bind (R.bind (ev C (.refused _) [.sh .row, .sh (.int h), .sh (.lst (ts.map tI)), .sh (edD fl), .sh (edD ro), .sh odd, .sh bad, .sh edge] r4) _) _ = _; simp only [S4, List.set_cons_zero, List.set_cons_succ, v_var, v_cst, v_glb, v_tup, v_lst, v_dnew, v_call, v_mk, v_meth, v_fld, v_o1, v_o2, v_sl, v_chain, v_and, v_or, v_not, v_ite, vs_nil, vs_cons, vo_none, vo_some, vi_seq, vi_rng, vi_enum, vi_zip, R.bind, R.then, RS.then, liftO, nextO, ended, ctx_call, ctx_init, ctx_word, ctx_has, ctx_gl, ctx_dv, ctx_idv, ctx_fuel, w_nil, w_cons, s_asg, s_ex, s_if, s_ret, s_raise, s_freeze, t_is, truth_bl, truth_non, List.getD_cons_zero, List.getD_cons_succ, Sl.get, List.cons_append, List.nil_append, List.append_nil, List.length_cons, List.length_nil, List.set_cons_zero, List.set_cons_succ, rep_of hedge.2.2.2, rep_eq]))).trans ?_
  rfl
omit K in
/-- the law's names -/
def EL (k2 k3 k4 k6 k8 k9 k10 H T F R : Sl) : Env := [.no, .sh .row, k2, k3, k4, .no, k6, .no, k8, k9, k10, .no, H, T, F, R, .no, .no, .no, .no]
omit K in
theorem okA_ints {α : Type} (f : α → Int) (l : List α) (n : Nat) : (l.map fun x => D.int (f x)).all (okA n) = true := by
  rw [List.all_eq_true]
  intro y hy
  obtain ⟨x, _, rfl⟩ := List.mem_map.mp hy
  cases n <;> rfl
omit K in
theorem okA_tI {l : List Int} {n : Nat} (h : l.length ≤ LIM) : okA (n + 1) (tI l) = true := by
  show (decide ((l.map D.int).length ≤ LIM) && (l.map D.int).all (okA n)) = true
  rw [decide_eq_true (by rw [List.length_map]; exact h), okA_ints (fun x : Int => x) l n]
  rfl
omit K in
theorem okA_tN {l : List Nat} {n : Nat} (h : l.length ≤ LIM) : okA (n + 1) (tN l) = true := by
  rw [tN_tI]
  exact okA_tI (by rw [List.length_map]; exact h)
omit K in
theorem okA_seq {xs : List D} {T : D} {n : Nat} (hT : T = .lst xs ∨ T = .tup xs) (hl : xs.length ≤ LIM) (h : ∀ x ∈ xs, okA n x = true) : okA (n + 1) T = true := by
  have q : (decide (xs.length ≤ LIM) && xs.all (okA n)) = true := by
    rw [decide_eq_true hl, Bool.true_and, List.all_eq_true]
    exact h
  rcases hT with rfl | rfl <;> exact q
omit K in
theorem okA_ed (o : Option Int) (n : Nat) : okA n (edD o) = true := by cases o <;> cases n <;> rfl
omit K in
theorem mul_tup {a : List D} {b : Int} (h : a ≠ [] ∧ 1 ≤ b ∧ b ≤ 1000 ∧ a.length ≤ 1000) : p2 .mul (.tup a) (.int b) = some (.tup (List.replicate b.toNat a).flatten) := by
  show (if a ≠ [] ∧ 1 ≤ b ∧ b ≤ 1000 ∧ a.length ≤ 1000 then some (D.tup (List.replicate b.toNat a).flatten) else none) = _
  rw [if_pos h]
omit K in
theorem rep_ints (c : Int) (n : Nat) : (List.replicate n [D.int c]).flatten = (List.replicate n c).map D.int := by
  induction n with
  | zero => rfl
  | succ n ih => rw [List.replicate_succ, List.flatten_cons, ih, List.replicate_succ]; rfl
omit K in
/-- a comprehension whose test draws -/
theorem lcLoop_dtest {ι : Type} {emb : ι → D} {bd : D → Option Env} {ts : Env → Row → R Bool} {e : Env → Row → R D} {L : Row → Prop} {g : ι → D} : ∀ {xs : List ι} {r : Row}, L r → (∀ x ∈ xs, ∀ r, L r → ∃ e1 b r1, bd (emb x) = some e1 ∧ ts e1 r = .ok b r1 ∧ L r1 ∧ e e1 r1 = .ok (g x) r1) → ∃ (ks : List ι) (r1 : Row), lcLoop bd ts e (xs.map emb) r = .ok (ks.map g) r1 ∧ L r1 ∧ (∀ k ∈ ks, k ∈ xs) ∧ ks.length ≤ xs.length
  | [], r, l, _ => ⟨[], r, rfl, l, fun k hk => hk, Nat.le_refl _⟩
  | x :: xs, r, l, h => by
    obtain ⟨e1, b, r1, h1, h2, h3, h4⟩ := h x (by simp) r l
    obtain ⟨ks, r2, i1, i2, i3, i4⟩ := lcLoop_dtest (L := L) (g := g) (emb := emb) (xs := xs) (bd := bd) (ts := ts) (e := e) h3 fun y hy => h y (by simp [hy])
    cases b with
    | true =>
      refine ⟨x :: ks, r2, ?_, i2, fun k hk => ?_, by simp; omega⟩
      · rw [List.map_cons, List.map_cons]
        exact lcLoop_step h1 h2 h4 i1
      · rcases List.mem_cons.mp hk with rfl | hk
        · simp
        · simp [i3 k hk]
    | false =>
      refine ⟨ks, r2, ?_, i2, fun k hk => by simp [i3 k hk], by simp; omega⟩
      rw [List.map_cons]
      exact lcLoop_skip h1 h2 i1
omit K in
theorem v_lcdt {ι : Type} {emb : ι → D} {C : Ctx} {env : Env} {r r1 : Row} {e : IE} {own : List (Str × Nat)} {tg : Tg} {it : IT} {t : IE} {xs : List ι} {L : Row → Prop} {g : ι → D} (hi : evI C it env r = .ok (xs.map emb) r1) (l : L r1) (h : ∀ x ∈ xs, ∀ r, L r → ∃ e1 b r2, bindT tg (emb x) (killE (own.map (·.2)) env) = some e1 ∧ ev C t e1 r = .ok (.bl b) r2 ∧ L r2 ∧ ev C e e1 r2 = .ok (g x) r2) :
    ∃ (ks : List ι) (r2 : Row), ev C (.lc own tg it [t] e) env r = .ok (.lst (ks.map g)) r2 ∧ L r2 ∧ (∀ k ∈ ks, k ∈ xs) ∧ ks.length ≤ xs.length := by
  obtain ⟨ks, r2, i1, i2, i3, i4⟩ := lcLoop_dtest (emb := emb) (g := g) (bd := fun d => bindT tg d (killE (own.map (·.2)) env)) (ts := fun env r => tsts C [t] env r) (e := fun env r => match ev C e env r with
        | .exn _ _ _ => .bad
        | x => x) l fun x hx r l => by
    obtain ⟨e1, b, r2, h1, h2, h3, h4⟩ := h x hx r l
    exact ⟨e1, b, r2, h1, ts_one h2 rfl, h3, by rw [h4]⟩
  refine ⟨ks, r2, ?_, i2, i3, i4⟩
  rw [ev, hi]
  exact congrArg (fun z => R.bind z fun xs r2 => R.ok (D.lst xs) r2) i1
omit K in
theorem sk_alike {C : Ctx} {a b : IE} {env : Env} {r : Row} {d : D} {u ss : List IS} (hdv : ∀ f n, C.dv f n = []) (hal : ∀ d, okA 3 d = true → ∀ r, C.call 19 [d, d] r = .ok (.bl true) r) (ha : ev C a env r = .ok d r) (hb : ev C b env r = .ok d r) (hd : okA 3 d = true) :
    exSs C (.if_ (.notE (.call 19 [a, b])) u [] :: ss) env r = exSs C ss env r :=
  w_skip (d := .bl false) (r1 := r) (by simp only [v_var, v_cst, v_glb, v_tup, v_lst, v_dnew, v_call, v_mk, v_meth, v_fld, v_o1, v_o2, v_sl, v_chain, v_and, v_or, v_not, v_ite, vs_nil, vs_cons, vo_none, vo_some, vi_seq, vi_rng, vi_enum, vi_zip, R.bind, R.then, RS.then, liftO, nextO, ended, ctx_call, ctx_init, ctx_word, ctx_has, ctx_gl, ctx_dv, ctx_idv, ctx_fuel, w_nil, w_cons, s_asg, s_ex, s_if, s_ret, s_raise, s_freeze, t_is, truth_bl, truth_non, List.getD_cons_zero, List.getD_cons_succ, Sl.get, List.cons_append, List.nil_append, List.append_nil, List.length_cons, List.length_nil, List.set_cons_zero, List.set_cons_succ, ha, hb, hdv, hal d hd, Bool.not_true]) rfl
omit K in
theorem wt_ints : ∀ (l : List Int), ((l.map D.int).map fun x => D.wt 6 x + 2).sum = 24 * l.length
  | [] => rfl
  | x :: l => by
    rw [List.map_cons, List.map_cons, List.sum_cons, wt_ints l, List.length_cons]
    show 22 + 2 + _ = _
    omega
omit K in
theorem small_ints {n : Nat} {l : List Int} (h : ∀ x ∈ l, x.natAbs < 10 ^ 12) : (l.map D.int).all (D.smallN n) = true := by
  rw [List.all_eq_true]
  intro y hy
  obtain ⟨x, hx, rfl⟩ := List.mem_map.mp hy
  have e : D.smallN n (.int x) = decide (x.natAbs < 10 ^ 12) := by cases n <;> rfl
  rw [e]
  exact decide_eq_true (h x hx)
omit K in
theorem rep_thing {x : D} (h : (∃ l : List Int, (x = tI l ∨ x = .lst (l.map .int)) ∧ l.length ≤ 100 ∧ ∀ c ∈ l, c.natAbs < 10 ^ 12) ∨ x = .non ∨ x = .int 0) : (D.tup [.str "column", x]).reprOk = true := by
  have ht : Thing x := by
    rcases h with ⟨l, rfl | rfl, _, _⟩ | rfl | rfl
    · exact .tup l
    · exact .lst l
    · exact .non
    · exact .int 0
  have hp : x.plainN 7 = true := by
    rcases h with ⟨l, rfl | rfl, _, _⟩ | rfl | rfl
    · show (l.map D.int).all (D.plainN 6) = true
      rw [List.all_eq_true]
      intro y hy
      obtain ⟨c, _, rfl⟩ := List.mem_map.mp hy
      rfl
    · show (l.map D.int).all (D.plainN 6) = true
      rw [List.all_eq_true]
      intro y hy
      obtain ⟨c, _, rfl⟩ := List.mem_map.mp hy
      rfl
    · rfl
    · rfl
  have hs : x.smallN 7 = true := by
    rcases h with ⟨l, rfl | rfl, _, h2⟩ | rfl | rfl
    · exact small_ints (n := 6) h2
    · exact small_ints (n := 6) h2
    · rfl
    · rfl
  have hw : x.wt 7 ≤ 2500 := by
    rcases h with ⟨l, rfl | rfl, h1, _⟩ | rfl | rfl
    · show ((l.map D.int).map fun x => D.wt 6 x + 2).sum + 3 ≤ 2500
      rw [wt_ints]
      omega
    · show ((l.map D.int).map fun x => D.wt 6 x + 2).sum + 3 ≤ 2500
      rw [wt_ints]
      omega
    · decide
    · decide
  have e : (D.tup [.str "column", x]).reprOk = ((D.tup [.str "column", x]).plain && (D.tup [.str "column", x]).smallN 8 && decide ((D.tup [.str "column", x]).wt 8 ≤ 1000000)) := by
    rcases h with ⟨l, rfl | rfl, _, _⟩ | rfl | rfl <;> rfl
  have e1 : (D.tup [.str "column", x]).plain = true := by
    show (true && (x.plainN 7 && true)) = true
    rw [hp]
    rfl
  have e2 : (D.tup [.str "column", x]).smallN 8 = true := by
    show ((D.str "column").smallN 7 && (x.smallN 7 && true)) = true
    rw [hs]
    decide
  have e3 : (D.tup [.str "column", x]).wt 8 ≤ 1000000 := by
    show (D.wt 7 (.str "column") + 2 + (D.wt 7 x + 2 + 0)) + 3 ≤ 1000000
    have : D.wt 7 (.str "column") = 74 := by decide
    omega
  rw [e, e1, e2, decide_eq_true e3]
  rfl
theorem law00_ev (n : Nat) (r0 : Row) (hr0 : r0.live = true) : ∃ r', ended (exSs (ctx P (runF P (n + 12)) (iniF P (runF P (n + 12)))) K00.is31 (EL .no .no .no .no .no .no .no .no .no .no .no) r0) = .ok (.bl true) r' := by
  have hL : LIM = 16777216 := rfl
  obtain ⟨h, ts, fl, ro, r1, D1, D2, dr⟩ := drawn_ok K.toLaws (most := 5) (highest := 3) hr0 (by omega) (by omega) (by omega) (by omega) (n + 8)
  have ko := dr.kit (by omega) (by omega)
  obtain ⟨T, r2, P1, P2, P3⟩ := pick_ok K.toLaws (xs := [.lst (ts.map tI), .tup (ts.map tI)]) D2 (by simp) (by simp)
  have hT : T = .lst (ts.map tI) ∨ T = .tup (ts.map tI) := by simpa using P3
  have MK := kit_ok K.toKits (n := n + 9) ko hT r2
  have h1 := dr.h1
  have h3 := dr.h2
  have t1 := dr.t1
  have t5 := dr.t2
  have c3 : ∀ t ∈ ts, ∀ x ∈ t, 0 ≤ x ∧ x < ((3 : Nat) : Int) := dr.col
  have four := dr.four
  have clen := cols_len (h := h) (ts := ts) (fl := fl) (ro := ro) (by omega) h1 (by omega)
  generalize hC : ctx P (runF P (n + 12)) (iniF P (runF P (n + 12))) = C
  have dv : ∀ f m, C.dv f m = [] := by rw [← hC]; exact K.dv
  have idv : ∀ f m, C.idv f m = [] := by rw [← hC]; exact K.idv
  have cl : C.call = runF P (n + 12) := by rw [← hC]; rfl
  have ci : C.init = iniF P (runF P (n + 12)) := by rw [← hC]; rfl
  have W : C.word = P.word := by rw [← hC]; rfl
  have al : ∀ d, okA 3 d = true → ∀ r, C.call 19 [d, d] r = .ok (.bl true) r := by
    rw [cl]
    exact fun d hd r => alike_ok K.toLaws 3 d hd (n + 8) r
  -- the kit
  let Ek : Sl → Sl → Sl → Sl → Sl → Sl → Env := fun k3 k4 k6 k8 k9 k10 => EL (.sh (kitD h ts fl ro)) k3 k4 k6 k8 k9 k10 (.sh (.int h)) (.sh (.lst (ts.map tI))) (.sh (edD fl)) (.sh (edD ro))
  have okE : ∀ (ts' : List (List Int)), ts'.length ≤ LIM → T4 ts' → okA 3 (.lst [.int h, .tup (ts'.map tI), edD fl, edD ro]) = true := fun ts' hl h4 => by
    refine okA_seq (n := 2) (.inl rfl) (by show 4 ≤ _; omega) fun x hx => ?_
    simp only [List.mem_cons, List.not_mem_nil, or_false] at hx
    rcases hx with rfl | rfl | rfl | rfl
    · rfl
    · refine okA_seq (n := 1) (.inr rfl) (by rw [List.length_map]; exact hl) fun x hx => ?_
      obtain ⟨t, ht, rfl⟩ := List.mem_map.mp hx
      exact okA_tI (n := 0) (by rw [h4 t ht]; omega)
    · exact okA_ed _ _
    · exact okA_ed _ _
  have okC : ∀ (cs : List (List Nat)), cs.length ≤ LIM → (∀ c ∈ cs, c.length ≤ LIM) → okA 3 (.lst (cs.map tN)) = true := fun cs hl hc => by
    refine okA_seq (n := 2) (.inl rfl) (by rw [List.length_map]; exact hl) fun x hx => ?_
    obtain ⟨c, hcc, rfl⟩ := List.mem_map.mp hx
    exact okA_tN (n := 1) (hc c hcc)
  have lC : ∀ c ∈ cols h ts fl ro, c.length ≤ LIM := fun c hc => by
    have := (cols_mem hc).1
    omega
  rw [K00.is31]
  have A1 : runF P (n + 12) 29 [.row, .int 3, .int 5] r0 = .ok (.tup [.int h, .lst (ts.map tI), edD fl, edD ro]) r1 := D1
  refine Exists.imp (fun r' q => (congrArg ended (w_asg (d := .tup [.int h, .lst (ts.map tI), edD fl, edD ro]) (r1 := r1) (env1 := EL .no .no .no .no .no .no .no (.sh (.int h)) (.sh (.lst (ts.map tI))) (.sh (edD fl)) (.sh (edD ro))) (by simp only [EL, v_var, v_cst, v_glb, v_tup, v_lst, v_dnew, v_call, v_mk, v_meth, v_fld, v_o1, v_o2, v_sl, v_chain, v_and, v_or, v_not, v_ite, vs_nil, vs_cons, vo_none, vo_some, vi_seq, vi_rng, vi_enum, vi_zip, R.bind, R.then, RS.then, liftO, nextO, ended, ctx_call, ctx_init, ctx_word, ctx_has, ctx_gl, ctx_dv, ctx_idv, ctx_fuel, w_nil, w_cons, s_asg, s_ex, s_if, s_ret, s_raise, s_freeze, t_is, truth_bl, truth_non, List.getD_cons_zero, List.getD_cons_succ, Sl.get, List.cons_append, List.nil_append, List.append_nil, List.length_cons, List.length_nil, List.set_cons_zero, List.set_cons_succ, dv, cl, A1]) rfl)).trans q) ?_
  have A2 : runF P (n + 12) 18 [.row, .lst [.lst (ts.map tI), .tup (ts.map tI)]] r1 = .ok T r2 := P1 (n + 10)
  have TT : p1 .tupleOf (.lst (ts.map tI)) = some (.tup (ts.map tI)) := rfl
  refine Exists.imp (fun r' q => (congrArg ended (w_asg (d := kitD h ts fl ro) (r1 := r2) (env1 := Ek .no .no .no .no .no .no) (by simp only [EL, v_var, v_cst, v_glb, v_tup, v_lst, v_dnew, v_call, v_mk, v_meth, v_fld, v_o1, v_o2, v_sl, v_chain, v_and, v_or, v_not, v_ite, vs_nil, vs_cons, vo_none, vo_some, vi_seq, vi_rng, vi_enum, vi_zip, R.bind, R.then, RS.then, liftO, nextO, ended, ctx_call, ctx_init, ctx_word, ctx_has, ctx_gl, ctx_dv, ctx_idv, ctx_fuel, w_nil, w_cons, s_asg, s_ex, s_if, s_ret, s_raise, s_freeze, t_is, truth_bl, truth_non, List.getD_cons_zero, List.getD_cons_succ, Sl.get, List.cons_append, List.nil_append, List.append_nil, List.length_cons, List.length_nil, List.set_cons_zero, List.set_cons_succ, dv, idv, cl, ci, TT, A2, MK]) rfl)).trans q) ?_
  have F0 : fldOf 0 0 (kitD h ts fl ro) = some (.int h) := rfl
  have F1 : fldOf 0 1 (kitD h ts fl ro) = some (.tup (ts.map tI)) := rfl
  have F2 : fldOf 0 2 (kitD h ts fl ro) = some (edD fl) := rfl
  have F3 : fldOf 0 3 (kitD h ts fl ro) = some (edD ro) := rfl
  refine Exists.imp (fun r' q => (congrArg ended (sk_alike (d := .lst [.int h, .tup (ts.map tI), edD fl, edD ro]) dv al (by simp only [Ek, EL, v_var, v_cst, v_glb, v_tup, v_lst, v_dnew, v_call, v_mk, v_meth, v_fld, v_o1, v_o2, v_sl, v_chain, v_and, v_or, v_not, v_ite, vs_nil, vs_cons, vo_none, vo_some, vi_seq, vi_rng, vi_enum, vi_zip, R.bind, R.then, RS.then, liftO, nextO, ended, ctx_call, ctx_init, ctx_word, ctx_has, ctx_gl, ctx_dv, ctx_idv, ctx_fuel, w_nil, w_cons, s_asg, s_ex, s_if, s_ret, s_raise, s_freeze, t_is, truth_bl, truth_non, List.getD_cons_zero, List.getD_cons_succ, Sl.get, List.cons_append, List.nil_append, List.append_nil, List.length_cons, List.length_nil, List.set_cons_zero, List.set_cons_succ, F0, F1, F2, F3]) (by simp only [Ek, EL, v_var, v_cst, v_glb, v_tup, v_lst, v_dnew, v_call, v_mk, v_meth, v_fld, v_o1, v_o2, v_sl, v_chain, v_and, v_or, v_not, v_ite, vs_nil, vs_cons, vo_none, vo_some, vi_seq, vi_rng, vi_enum, vi_zip, R.bind, R.then, RS.then, liftO, nextO, ended, ctx_call, ctx_init, ctx_word, ctx_has, ctx_gl, ctx_dv, ctx_idv, ctx_fuel, w_nil, w_cons, s_asg, s_ex, s_if, s_ret, s_raise, s_freeze, t_is, truth_bl, truth_non, List.getD_cons_zero, List.getD_cons_succ, Sl.get, List.cons_append, List.nil_append, List.append_nil, List.length_cons, List.length_nil, List.set_cons_zero, List.set_cons_succ, TT]) (okE ts (by omega) four))).trans q) ?_
  -- columns
  have A4 : ∀ r, runF P (n + 12) 26 [.int h, .lst (ts.map tI), edD fl, edD ro] r = .ok (.lst ((cols h ts fl ro).map tN)) r := fun r => lcols_ok K.toLaws h1 (by omega) (by omega) (.inl rfl) four (n + 10) r
  have A5 : ∀ r, runF P (n + 12) 10 [kitD h ts fl ro] r = .ok (.lst ((cols h ts fl ro).map tN)) r := fun r => columns_of_ok K.toKits2 (n + 10) r
  refine Exists.imp (fun r' q => (congrArg ended (w_asg (d := .lst ((cols h ts fl ro).map tN)) (r1 := r2) (env1 := Ek (.sh (.lst ((cols h ts fl ro).map tN))) .no .no .no .no .no) (by simp only [Ek, EL, v_var, v_cst, v_glb, v_tup, v_lst, v_dnew, v_call, v_mk, v_meth, v_fld, v_o1, v_o2, v_sl, v_chain, v_and, v_or, v_not, v_ite, vs_nil, vs_cons, vo_none, vo_some, vi_seq, vi_rng, vi_enum, vi_zip, R.bind, R.then, RS.then, liftO, nextO, ended, ctx_call, ctx_init, ctx_word, ctx_has, ctx_gl, ctx_dv, ctx_idv, ctx_fuel, w_nil, w_cons, s_asg, s_ex, s_if, s_ret, s_raise, s_freeze, t_is, truth_bl, truth_non, List.getD_cons_zero, List.getD_cons_succ, Sl.get, List.cons_append, List.nil_append, List.append_nil, List.length_cons, List.length_nil, List.set_cons_zero, List.set_cons_succ, dv, cl, A4]) rfl)).trans q) ?_
  refine Exists.imp (fun r' q => (congrArg ended (sk_alike (d := .lst ((cols h ts fl ro).map tN)) dv al (by simp only [Ek, EL, v_var, v_cst, v_glb, v_tup, v_lst, v_dnew, v_call, v_mk, v_meth, v_fld, v_o1, v_o2, v_sl, v_chain, v_and, v_or, v_not, v_ite, vs_nil, vs_cons, vo_none, vo_some, vi_seq, vi_rng, vi_enum, vi_zip, R.bind, R.then, RS.then, liftO, nextO, ended, ctx_call, ctx_init, ctx_word, ctx_has, ctx_gl, ctx_dv, ctx_idv, ctx_fuel, w_nil, w_cons, s_asg, s_ex, s_if, s_ret, s_raise, s_freeze, t_is, truth_bl, truth_non, List.getD_cons_zero, List.getD_cons_succ, Sl.get, List.cons_append, List.nil_append, List.append_nil, List.length_cons, List.length_nil, List.set_cons_zero, List.set_cons_succ, dv, cl, A5]) (by simp only [Ek, EL, v_var, v_cst, v_glb, v_tup, v_lst, v_dnew, v_call, v_mk, v_meth, v_fld, v_o1, v_o2, v_sl, v_chain, v_and, v_or, v_not, v_ite, vs_nil, vs_cons, vo_none, vo_some, vi_seq, vi_rng, vi_enum, vi_zip, R.bind, R.then, RS.then, liftO, nextO, ended, ctx_call, ctx_init, ctx_word, ctx_has, ctx_gl, ctx_dv, ctx_idv, ctx_fuel, w_nil, w_cons, s_asg, s_ex, s_if, s_ret, s_raise, s_freeze, t_is, truth_bl, truth_non, List.getD_cons_zero, List.getD_cons_succ, Sl.get, List.cons_append, List.nil_append, List.append_nil, List.length_cons, List.length_nil, List.set_cons_zero, List.set_cons_succ]) (okC _ (by omega) lC))).trans q) ?_
  -- seams
  have SD : ∀ (s : Nat) (c : List Nat), s < 4 → c ∈ cols h ts fl ro → ∀ r, runF P (n + 12) 24 [.lst (ts.map tI), tN c, .int (s : Int)] r = .ok (tI (side ts s c)) r := fun s c hs hc r => lside_ok K.toLaws (.inl rfl) four hs (cols_mem hc).2 (n + 11) r
  have SD3 : ∀ (c : List Nat), c ∈ cols h ts fl ro → ∀ r, runF P (n + 12) 24 [.lst (ts.map tI), tN c, .int 3] r = .ok (tI (side ts 3 c)) r := fun c hc r => SD 3 c (by omega) hc r
  have SD1 : ∀ (c : List Nat), c ∈ cols h ts fl ro → ∀ r, runF P (n + 12) 24 [.lst (ts.map tI), tN c, .int 1] r = .ok (tI (side ts 1 c)) r := fun c hc r => SD 1 c (by omega) hc r
  have L3 : ev C (.lc [("one", 18)] (.nm 18) (.seq (.var 3)) [] (.call 24 [.var 13, .var 18, .cst (.int 3)])) (Ek (.sh (.lst ((cols h ts fl ro).map tN))) .no .no .no .no .no) r2 = .ok (.lst ((cols h ts fl ro).map fun c => tI (side ts 3 c))) r2 := by
    refine v_lcam (emb := tN) (xs := cols h ts fl ro) (by simp only [Ek, EL, v_var, v_cst, v_glb, v_tup, v_lst, v_dnew, v_call, v_mk, v_meth, v_fld, v_o1, v_o2, v_sl, v_chain, v_and, v_or, v_not, v_ite, vs_nil, vs_cons, vo_none, vo_some, vi_seq, vi_rng, vi_enum, vi_zip, R.bind, R.then, RS.then, liftO, nextO, ended, ctx_call, ctx_init, ctx_word, ctx_has, ctx_gl, ctx_dv, ctx_idv, ctx_fuel, w_nil, w_cons, s_asg, s_ex, s_if, s_ret, s_raise, s_freeze, t_is, truth_bl, truth_non, List.getD_cons_zero, List.getD_cons_succ, Sl.get, List.cons_append, List.nil_append, List.append_nil, List.length_cons, List.length_nil, List.set_cons_zero, List.set_cons_succ, seqOf]) fun c hc => ⟨_, rfl, ?_⟩
    show ev C (.call 24 [.var 13, .var 18, .cst (.int 3)]) [_, _, _, _, _, _, _, _, _, _, _, _, _, .sh (.lst (ts.map tI)), _, _, _, _, .sh (tN c), _] r2 = _
    simp only [v_var, v_cst, v_glb, v_tup, v_lst, v_dnew, v_call, v_mk, v_meth, v_fld, v_o1, v_o2, v_sl, v_chain, v_and, v_or, v_not, v_ite, vs_nil, vs_cons, vo_none, vo_some, vi_seq, vi_rng, vi_enum, vi_zip, R.bind, R.then, RS.then, liftO, nextO, ended, ctx_call, ctx_init, ctx_word, ctx_has, ctx_gl, ctx_dv, ctx_idv, ctx_fuel, w_nil, w_cons, s_asg, s_ex, s_if, s_ret, s_raise, s_freeze, t_is, truth_bl, truth_non, List.getD_cons_zero, List.getD_cons_succ, Sl.get, List.cons_append, List.nil_append, List.append_nil, List.length_cons, List.length_nil, List.set_cons_zero, List.set_cons_succ, dv, cl, SD3 c hc]
  have L1 : ev C (.lc [("one", 18)] (.nm 18) (.seq (.var 3)) [] (.call 24 [.var 13, .var 18, .cst (.int 1)])) (Ek (.sh (.lst ((cols h ts fl ro).map tN))) .no .no .no .no .no) r2 = .ok (.lst ((cols h ts fl ro).map fun c => tI (side ts 1 c))) r2 := by
    refine v_lcam (emb := tN) (xs := cols h ts fl ro) (by simp only [Ek, EL, v_var, v_cst, v_glb, v_tup, v_lst, v_dnew, v_call, v_mk, v_meth, v_fld, v_o1, v_o2, v_sl, v_chain, v_and, v_or, v_not, v_ite, vs_nil, vs_cons, vo_none, vo_some, vi_seq, vi_rng, vi_enum, vi_zip, R.bind, R.then, RS.then, liftO, nextO, ended, ctx_call, ctx_init, ctx_word, ctx_has, ctx_gl, ctx_dv, ctx_idv, ctx_fuel, w_nil, w_cons, s_asg, s_ex, s_if, s_ret, s_raise, s_freeze, t_is, truth_bl, truth_non, List.getD_cons_zero, List.getD_cons_succ, Sl.get, List.cons_append, List.nil_append, List.append_nil, List.length_cons, List.length_nil, List.set_cons_zero, List.set_cons_succ, seqOf]) fun c hc => ⟨_, rfl, ?_⟩
    show ev C (.call 24 [.var 13, .var 18, .cst (.int 1)]) [_, _, _, _, _, _, _, _, _, _, _, _, _, .sh (.lst (ts.map tI)), _, _, _, _, .sh (tN c), _] r2 = _
    simp only [v_var, v_cst, v_glb, v_tup, v_lst, v_dnew, v_call, v_mk, v_meth, v_fld, v_o1, v_o2, v_sl, v_chain, v_and, v_or, v_not, v_ite, vs_nil, vs_cons, vo_none, vo_some, vi_seq, vi_rng, vi_enum, vi_zip, R.bind, R.then, RS.then, liftO, nextO, ended, ctx_call, ctx_init, ctx_word, ctx_has, ctx_gl, ctx_dv, ctx_idv, ctx_fuel, w_nil, w_cons, s_asg, s_ex, s_if, s_ret, s_raise, s_freeze, t_is, truth_bl, truth_non, List.getD_cons_zero, List.getD_cons_succ, Sl.get, List.cons_append, List.nil_append, List.append_nil, List.length_cons, List.length_nil, List.set_cons_zero, List.set_cons_succ, dv, cl, SD1 c hc]
  have AD := add_lst (a := (cols h ts fl ro).map fun c => tI (side ts 3 c)) (b := (cols h ts fl ro).map fun c => tI (side ts 1 c)) (by rw [List.length_map, List.length_map]; omega)
  rw [seams_D] at AD
  refine Exists.imp (fun r' q => (congrArg ended (w_asg (d := .lst ((seams h ts fl ro).map tI)) (r1 := r2) (env1 := Ek (.sh (.lst ((cols h ts fl ro).map tN))) (.sh (.lst ((seams h ts fl ro).map tI))) .no .no .no .no) (by rw [v_o2, L3]; simp only [R.bind]; rw [L1]; simp only [R.bind]; rw [AD]; rfl) rfl)).trans q) ?_
  have slen : (seams h ts fl ro).length ≤ 100000 := by
    unfold seams
    rw [List.length_append, List.length_map, List.length_map]
    omega
  have sm := seams_Sm (h := h) (fl := fl) (ro := ro) four c3
  have A15 : ∀ r, runF P (n + 12) 15 [kitD h ts fl ro] r = .ok (.lst ((uniq (seams h ts fl ro)).map tI)) r := fun r => seams_of_ok K.toKits2 h1 (by omega) (by omega) four c3 (n + 10) r
  have A20 : ∀ r, runF P (n + 12) 20 [.lst ((seams h ts fl ro).map tI)] r = .ok (.lst ((uniq (seams h ts fl ro)).map tI)) r := fun r => unlike_ok K.toLaws sm h1 slen (n + 11) r
  have okS : okA 3 (.lst ((uniq (seams h ts fl ro)).map tI)) = true := by
    refine okA_seq (n := 2) (.inl rfl) (by have := uniq_len sm; rw [List.length_map]; omega) fun x hx => ?_
    obtain ⟨l, hl, rfl⟩ := List.mem_map.mp hx
    exact okA_tI (n := 1) (by rw [sm.len l ((uniq_mem sm).mp hl)]; omega)
  refine Exists.imp (fun r' q => (congrArg ended (sk_alike (d := .lst ((uniq (seams h ts fl ro)).map tI)) dv al (by simp only [Ek, EL, v_var, v_cst, v_glb, v_tup, v_lst, v_dnew, v_call, v_mk, v_meth, v_fld, v_o1, v_o2, v_sl, v_chain, v_and, v_or, v_not, v_ite, vs_nil, vs_cons, vo_none, vo_some, vi_seq, vi_rng, vi_enum, vi_zip, R.bind, R.then, RS.then, liftO, nextO, ended, ctx_call, ctx_init, ctx_word, ctx_has, ctx_gl, ctx_dv, ctx_idv, ctx_fuel, w_nil, w_cons, s_asg, s_ex, s_if, s_ret, s_raise, s_freeze, t_is, truth_bl, truth_non, List.getD_cons_zero, List.getD_cons_succ, Sl.get, List.cons_append, List.nil_append, List.append_nil, List.length_cons, List.length_nil, List.set_cons_zero, List.set_cons_succ, dv, cl, A15]) (by simp only [Ek, EL, v_var, v_cst, v_glb, v_tup, v_lst, v_dnew, v_call, v_mk, v_meth, v_fld, v_o1, v_o2, v_sl, v_chain, v_and, v_or, v_not, v_ite, vs_nil, vs_cons, vo_none, vo_some, vi_seq, vi_rng, vi_enum, vi_zip, R.bind, R.then, RS.then, liftO, nextO, ended, ctx_call, ctx_init, ctx_word, ctx_has, ctx_gl, ctx_dv, ctx_idv, ctx_fuel, w_nil, w_cons, s_asg, s_ex, s_if, s_ret, s_raise, s_freeze, t_is, truth_bl, truth_non, List.getD_cons_zero, List.getD_cons_succ, Sl.get, List.cons_append, List.nil_append, List.append_nil, List.length_cons, List.length_nil, List.set_cons_zero, List.set_cons_succ, dv, cl, A20]) okS)).trans q) ?_
  -- each column
  have A13 : ∀ c ∈ cols h ts fl ro, ∀ r, runF P (n + 12) 13 [kitD h ts fl ro, tN c] r = .ok (tI (side ts 3 c)) r := fun c hc r => west_of_ok K.toKits2 four hc (n + 6) r
  have A14 : ∀ c ∈ cols h ts fl ro, ∀ r, runF P (n + 12) 14 [kitD h ts fl ro, tN c] r = .ok (tI (side ts 1 c)) r := fun c hc r => east_of_ok K.toKits2 four hc (n + 6) r
  have A16 : ∀ c ∈ cols h ts fl ro, ∀ r, runF P (n + 12) 16 [kitD h ts fl ro, tN c] r = .ok (.lst ((onEast ts (cols h ts fl ro) c).map tN)) r := fun c hc r => after_ok K.toKits2 four hc (n + 6) r
  have A27 : ∀ c ∈ cols h ts fl ro, ∀ r, runF P (n + 12) 27 [.lst (ts.map tI), .lst ((cols h ts fl ro).map tN), tN c] r = .ok (.lst ((onEast ts (cols h ts fl ro) c).map tN)) r := fun c hc r => lafter_ok K.toKits2 (.inl rfl) four hc (n + 10) r
  have loop1 := for_fold (emb := tN) (σ := Unit) (bd := bindT (.nm 5)) (kl := killE [5]) (r := r2) (xs := cols h ts fl ro) (s := ()) (E := fun _ => Ek (.sh (.lst ((cols h ts fl ro).map tN))) (.sh (.lst ((seams h ts fl ro).map tI))) .no .no .no .no) (st := fun _ _ => ()) (I := fun xs _ => ∀ c ∈ xs, c ∈ cols h ts fl ro)
    (body := fun e r => exSs C [.if_ (.notE (.call 19 [.lst [.call 13 [.var 2, .var 5], .call 14 [.var 2, .var 5]], .lst [.call 24 [.var 13, .var 5, .cst (.int 3)], .call 24 [.var 13, .var 5, .cst (.int 1)]]])) [.ret (.cst (.bl false))] [], .if_ (.notE (.call 19 [.call 16 [.var 2, .var 5], .call 27 [.var 13, .var 3, .var 5]])) [.ret (.cst (.bl false))] []] e r)
    (fun c hc => hc) fun c xs s hI => by
      have hc := hI c (by simp)
      have okW1 : okA 3 (.lst [tI (side ts 3 c), tI (side ts 1 c)]) = true := by
        refine okA_seq (n := 2) (.inl rfl) (by show 2 ≤ _; omega) fun x hx => ?_
        have hl := (cols_mem hc).1
        simp only [List.mem_cons, List.not_mem_nil, or_false] at hx
        rcases hx with rfl | rfl
        · exact okA_tI (n := 1) (by rw [side, List.length_map]; omega)
        · exact okA_tI (n := 1) (by rw [side, List.length_map]; omega)
      have ol : (onEast ts (cols h ts fl ro) c).length ≤ LIM := Nat.le_trans (List.length_filter_le _ _) (by omega)
      refine ⟨[.no, .sh .row, .sh (kitD h ts fl ro), .sh (.lst ((cols h ts fl ro).map tN)), .sh (.lst ((seams h ts fl ro).map tI)), .sh (tN c), .no, .no, .no, .no, .no, .no, .sh (.int h), .sh (.lst (ts.map tI)), .sh (edD fl), .sh (edD ro), .no, .no, .no, .no], [.no, .sh .row, .sh (kitD h ts fl ro), .sh (.lst ((cols h ts fl ro).map tN)), .sh (.lst ((seams h ts fl ro).map tI)), .sh (tN c), .no, .no, .no, .no, .no, .no, .sh (.int h), .sh (.lst (ts.map tI)), .sh (edD fl), .sh (edD ro), .no, .no, .no, .no], rfl, ?_, rfl, fun c hc => hI c (by simp [hc])⟩
      refine (sk_alike (d := .lst [tI (side ts 3 c), tI (side ts 1 c)]) dv al (by simp only [v_var, v_cst, v_glb, v_tup, v_lst, v_dnew, v_call, v_mk, v_meth, v_fld, v_o1, v_o2, v_sl, v_chain, v_and, v_or, v_not, v_ite, vs_nil, vs_cons, vo_none, vo_some, vi_seq, vi_rng, vi_enum, vi_zip, R.bind, R.then, RS.then, liftO, nextO, ended, ctx_call, ctx_init, ctx_word, ctx_has, ctx_gl, ctx_dv, ctx_idv, ctx_fuel, w_nil, w_cons, s_asg, s_ex, s_if, s_ret, s_raise, s_freeze, t_is, truth_bl, truth_non, List.getD_cons_zero, List.getD_cons_succ, Sl.get, List.cons_append, List.nil_append, List.append_nil, List.length_cons, List.length_nil, List.set_cons_zero, List.set_cons_succ, dv, cl, A13 c hc, A14 c hc]) (by simp only [v_var, v_cst, v_glb, v_tup, v_lst, v_dnew, v_call, v_mk, v_meth, v_fld, v_o1, v_o2, v_sl, v_chain, v_and, v_or, v_not, v_ite, vs_nil, vs_cons, vo_none, vo_some, vi_seq, vi_rng, vi_enum, vi_zip, R.bind, R.then, RS.then, liftO, nextO, ended, ctx_call, ctx_init, ctx_word, ctx_has, ctx_gl, ctx_dv, ctx_idv, ctx_fuel, w_nil, w_cons, s_asg, s_ex, s_if, s_ret, s_raise, s_freeze, t_is, truth_bl, truth_non, List.getD_cons_zero, List.getD_cons_succ, Sl.get, List.cons_append, List.nil_append, List.append_nil, List.length_cons, List.length_nil, List.set_cons_zero, List.set_cons_succ, dv, cl, SD3 c hc, SD1 c hc]) okW1).trans ?_
      exact (sk_alike (d := .lst ((onEast ts (cols h ts fl ro) c).map tN)) dv al (by simp only [v_var, v_cst, v_glb, v_tup, v_lst, v_dnew, v_call, v_mk, v_meth, v_fld, v_o1, v_o2, v_sl, v_chain, v_and, v_or, v_not, v_ite, vs_nil, vs_cons, vo_none, vo_some, vi_seq, vi_rng, vi_enum, vi_zip, R.bind, R.then, RS.then, liftO, nextO, ended, ctx_call, ctx_init, ctx_word, ctx_has, ctx_gl, ctx_dv, ctx_idv, ctx_fuel, w_nil, w_cons, s_asg, s_ex, s_if, s_ret, s_raise, s_freeze, t_is, truth_bl, truth_non, List.getD_cons_zero, List.getD_cons_succ, Sl.get, List.cons_append, List.nil_append, List.append_nil, List.length_cons, List.length_nil, List.set_cons_zero, List.set_cons_succ, dv, cl, A16 c hc]) (by simp only [v_var, v_cst, v_glb, v_tup, v_lst, v_dnew, v_call, v_mk, v_meth, v_fld, v_o1, v_o2, v_sl, v_chain, v_and, v_or, v_not, v_ite, vs_nil, vs_cons, vo_none, vo_some, vi_seq, vi_rng, vi_enum, vi_zip, R.bind, R.then, RS.then, liftO, nextO, ended, ctx_call, ctx_init, ctx_word, ctx_has, ctx_gl, ctx_dv, ctx_idv, ctx_fuel, w_nil, w_cons, s_asg, s_ex, s_if, s_ret, s_raise, s_freeze, t_is, truth_bl, truth_non, List.getD_cons_zero, List.getD_cons_succ, Sl.get, List.cons_append, List.nil_append, List.append_nil, List.length_cons, List.length_nil, List.set_cons_zero, List.set_cons_succ, dv, cl, A27 c hc]) (okC _ ol fun o ho => lC o (List.mem_filter.mp ho).1)).trans w_nil
  refine Exists.imp (fun r' q => (congrArg ended (w_for (r1 := r2) (by simp only [Ek, EL, v_var, v_cst, v_glb, v_tup, v_lst, v_dnew, v_call, v_mk, v_meth, v_fld, v_o1, v_o2, v_sl, v_chain, v_and, v_or, v_not, v_ite, vs_nil, vs_cons, vo_none, vo_some, vi_seq, vi_rng, vi_enum, vi_zip, R.bind, R.then, RS.then, liftO, nextO, ended, ctx_call, ctx_init, ctx_word, ctx_has, ctx_gl, ctx_dv, ctx_idv, ctx_fuel, w_nil, w_cons, s_asg, s_ex, s_if, s_ret, s_raise, s_freeze, t_is, truth_bl, truth_non, List.getD_cons_zero, List.getD_cons_succ, Sl.get, List.cons_append, List.nil_append, List.append_nil, List.length_cons, List.length_nil, List.set_cons_zero, List.set_cons_succ, seqOf]) loop1.1)).trans q) ?_
  -- other things
  have ELEN : p1 .len (.lst (ts.map tI)) = some (.int ts.length) := by rw [seqLen (.inl rfl), List.length_map]
  have hm : (1 : Int) ≤ (ts.length : Int) ∧ (ts.length : Int) ≤ 5 := by omega
  let E8 : Sl → Sl → Sl → Sl → Env := fun k6 k8 k9 k10 => Ek (.sh (.lst ((cols h ts fl ro).map tN))) (.sh (.lst ((seams h ts fl ro).map tI))) k6 k8 k9 k10
  have inner : ∀ (x16 : Sl) (r : Row), r.live = true → ∃ (l : List Int) (r' : Row), ev C (.o1 .tupleOf (.lc [("level", 19)] (.nm 19) (.rng [.var 12]) [] (.call 0 [.var 1, .o1 .len (.var 13)]))) [.no, .sh .row, .sh (kitD h ts fl ro), .sh (.lst ((cols h ts fl ro).map tN)), .sh (.lst ((seams h ts fl ro).map tI)), .no, .no, .no, .no, .no, .no, .no, .sh (.int h), .sh (.lst (ts.map tI)), .sh (edD fl), .sh (edD ro), x16, .no, .no, .no] r = .ok (tI l) r' ∧ r'.live = true ∧ l.length = h ∧ ∀ x ∈ l, 0 ≤ x ∧ x < (ts.length : Int) := by
    intro x16 r hr
    obtain ⟨ys, r', i1, i2, i3⟩ := v_lcd (C := C) (own := [("level", 19)]) (tg := .nm 19) (it := .rng [.var 12]) (e := .call 0 [.var 1, .o1 .len (.var 13)]) (env := [.no, .sh .row, .sh (kitD h ts fl ro), .sh (.lst ((cols h ts fl ro).map tN)), .sh (.lst ((seams h ts fl ro).map tI)), .no, .no, .no, .no, .no, .no, .no, .sh (.int h), .sh (.lst (ts.map tI)), .sh (edD fl), .sh (edD ro), x16, .no, .no, .no]) (r := r) (r1 := r) (L := fun r => r.live = true) (p := fun _ y => ∃ v : Int, y = .int v ∧ 0 ≤ v ∧ v < (ts.length : Int))
      (vi_rng1 (n := (h : Int)) (by simp only [v_var, v_cst, v_glb, v_tup, v_lst, v_dnew, v_call, v_mk, v_meth, v_fld, v_o1, v_o2, v_sl, v_chain, v_and, v_or, v_not, v_ite, vs_nil, vs_cons, vo_none, vo_some, vi_seq, vi_rng, vi_enum, vi_zip, R.bind, R.then, RS.then, liftO, nextO, ended, ctx_call, ctx_init, ctx_word, ctx_has, ctx_gl, ctx_dv, ctx_idv, ctx_fuel, w_nil, w_cons, s_asg, s_ex, s_if, s_ret, s_raise, s_freeze, t_is, truth_bl, truth_non, List.getD_cons_zero, List.getD_cons_succ, Sl.get, List.cons_append, List.nil_append, List.append_nil, List.length_cons, List.length_nil, List.set_cons_zero, List.set_cons_succ]) (rngD_nat (n := h) (by omega))) hr fun x _ r hr => by
        obtain ⟨v, r1, p1', p2', p3'⟩ := draw_ok (P := P) hr (many := (ts.length : Int)) (by omega) (by omega)
        have p1'' : ∀ m, runF P (m + 12) 0 [.row, .int (ts.length : Int)] r = .ok (.int v) r1 := fun m => p1' (m + 11)
        refine ⟨_, .int v, r1, rfl, ?_, p2', v, rfl, by omega, p3'⟩
        show ev C (.call 0 [.var 1, .o1 .len (.var 13)]) [_, .sh .row, _, _, _, _, _, _, _, _, _, _, _, .sh (.lst (ts.map tI)), _, _, _, _, _, _] r = _
        simp only [v_var, v_cst, v_glb, v_tup, v_lst, v_dnew, v_call, v_mk, v_meth, v_fld, v_o1, v_o2, v_sl, v_chain, v_and, v_or, v_not, v_ite, vs_nil, vs_cons, vo_none, vo_some, vi_seq, vi_rng, vi_enum, vi_zip, R.bind, R.then, RS.then, liftO, nextO, ended, ctx_call, ctx_init, ctx_word, ctx_has, ctx_gl, ctx_dv, ctx_idv, ctx_fuel, w_nil, w_cons, s_asg, s_ex, s_if, s_ret, s_raise, s_freeze, t_is, truth_bl, truth_non, List.getD_cons_zero, List.getD_cons_succ, Sl.get, List.cons_append, List.nil_append, List.append_nil, List.length_cons, List.length_nil, List.set_cons_zero, List.set_cons_succ, cl, dv, ELEN, p1'']
    obtain ⟨t, e1, e2, e3⟩ := all2_map (f := D.int) (Q := fun v => 0 ≤ v ∧ v < (ts.length : Int)) (fun x y h => h) i3
    subst e1
    refine ⟨t, r', ?_, i2, by simpa using e2, e3⟩
    rw [v_o1, i1]
    rfl
  have live2 : r2.live = true := P2
  obtain ⟨ys, r3, o1', live3, o3'⟩ := v_lcd (C := C) (own := [("turn", 16)]) (tg := .nm 16) (it := .rng [.cst (.int 6)]) (e := .o1 .tupleOf (.lc [("level", 19)] (.nm 19) (.rng [.var 12]) [] (.call 0 [.var 1, .o1 .len (.var 13)]))) (env := E8 .no .no .no .no) (r := r2) (r1 := r2) (L := fun r => r.live = true) (p := fun _ y => ∃ l : List Int, y = tI l ∧ l.length = h ∧ ∀ x ∈ l, 0 ≤ x ∧ x < (ts.length : Int))
    (vi_rng1 (n := 6) (by rw [v_cst]) (rngD_nat (n := 6) (by omega))) live2 fun x _ r hr => by
      obtain ⟨l, r1, q1, q2, q3, q4⟩ := inner (.sh x) r hr
      exact ⟨_, tI l, r1, rfl, q1, q2, l, rfl, q3, q4⟩
  obtain ⟨odd, e1, e2, e3⟩ := all2_map (f := tI) (Q := fun l => l.length = h ∧ ∀ x ∈ l, 0 ≤ x ∧ x < (ts.length : Int)) (fun x y h => h) o3'
  subst e1
  have olen : odd.length = 6 := by simpa using e2
  refine Exists.imp (fun r' q => (congrArg ended (w_asg (d := .lst (odd.map tI)) (r1 := r3) (env1 := E8 (.sh (.lst (odd.map tI))) .no .no .no) o1' rfl)).trans q) ?_
  have M1 : p2 .mul (.lst [.int 0]) (.int (h : Int)) = some (.lst ((List.replicate h (0 : Int)).map .int)) := by
    rw [mul_lst (by simp; omega) (by omega), Int.toNat_natCast, rep_ints]
  have M2 : p2 .mul (.tup [.int (ts.length : Int)]) (.int (h : Int)) = some (tI (List.replicate h (ts.length : Int))) := by
    rw [mul_tup ⟨by simp, by omega, by omega, by simp⟩, Int.toNat_natCast, rep_ints]
    rfl
  have M3 : p2 .mul (.tup [.int 0]) (.int ((h : Int) + 1)) = some (tI (List.replicate (h + 1) (0 : Int))) := by
    rw [mul_tup ⟨by simp, by omega, by omega, by simp⟩, show ((h : Int) + 1).toNat = h + 1 by omega, rep_ints]
    rfl
  let odds : List D := odd.map tI ++ [.non, .tup [], .int 0, .lst ((List.replicate h (0 : Int)).map .int), tI (List.replicate h (ts.length : Int)), tI (List.replicate (h + 1) (0 : Int))]
  have AD2 : p2 .add (.lst (odd.map tI)) (.lst [.non, .tup [], .int 0, .lst ((List.replicate h (0 : Int)).map .int), tI (List.replicate h (ts.length : Int)), tI (List.replicate (h + 1) (0 : Int))]) = some (.lst odds) := add_lst (by rw [List.length_map]; simp; omega)
  refine Exists.imp (fun r' q => (congrArg ended (w_asg (d := .lst odds) (r1 := r3) (env1 := E8 (.sh (.lst odds)) .no .no .no) (by simp only [E8, Ek, EL, v_var, v_cst, v_glb, v_tup, v_lst, v_dnew, v_call, v_mk, v_meth, v_fld, v_o1, v_o2, v_sl, v_chain, v_and, v_or, v_not, v_ite, vs_nil, vs_cons, vo_none, vo_some, vi_seq, vi_rng, vi_enum, vi_zip, R.bind, R.then, RS.then, liftO, nextO, ended, ctx_call, ctx_init, ctx_word, ctx_has, ctx_gl, ctx_dv, ctx_idv, ctx_fuel, w_nil, w_cons, s_asg, s_ex, s_if, s_ret, s_raise, s_freeze, t_is, truth_bl, truth_non, List.getD_cons_zero, List.getD_cons_succ, Sl.get, List.cons_append, List.nil_append, List.append_nil, List.length_cons, List.length_nil, List.set_cons_zero, List.set_cons_succ, ELEN, M1, M2, M3, p2_add, AD2]) rfl)).trans q) ?_
  -- the things one by one
  let good : D → Prop := fun x => (∃ l : List Int, (x = tI l ∨ x = .lst (l.map .int)) ∧ l.length ≤ 100 ∧ ∀ c ∈ l, c.natAbs < 10 ^ 12) ∨ x = .non ∨ x = .int 0
  have goodO : ∀ x ∈ odds, good x := fun x hx => by
    rcases List.mem_append.mp hx with q | q
    · obtain ⟨l, hl, rfl⟩ := List.mem_map.mp q
      obtain ⟨a, b⟩ := e3 l hl
      exact .inl ⟨l, .inl rfl, by omega, fun c hc => by have := b c hc; omega⟩
    · simp only [List.mem_cons, List.not_mem_nil, or_false] at q
      rcases q with rfl | rfl | rfl | rfl | rfl | rfl
      · exact .inr (.inl rfl)
      · exact .inl ⟨[], .inl rfl, by simp, fun c hc => by cases hc⟩
      · exact .inr (.inr rfl)
      · exact .inl ⟨_, .inr rfl, by simp; omega, fun c hc => by rw [List.eq_of_mem_replicate hc]; decide⟩
      · exact .inl ⟨_, .inl rfl, by simp; omega, fun c hc => by rw [List.eq_of_mem_replicate hc]; omega⟩
      · exact .inl ⟨_, .inl rfl, by simp; omega, fun c hc => by rw [List.eq_of_mem_replicate hc]; decide⟩
  let toL : D → D := fun x => match x with
    | .tup ys => .lst ys
    | x => x
  let two : List D := sliceL ((cols h ts fl ro).map tN) none (some 2)
  have twoM : ∀ x ∈ two, ∃ c ∈ cols h ts fl ro, x = tN c := fun x hx => by
    obtain ⟨c, hc, e⟩ := List.mem_map.mp (List.mem_of_mem_drop (List.mem_of_mem_take hx))
    exact ⟨c, hc, e.symm⟩
  have goodT : ∀ x ∈ two.map toL, good x := fun x hx => by
    obtain ⟨y, hy, rfl⟩ := List.mem_map.mp hx
    obtain ⟨c, hc, rfl⟩ := twoM y hy
    obtain ⟨a, b⟩ := cols_mem hc
    refine .inl ⟨c.map fun (k : Nat) => (k : Int), .inr ?_, by rw [List.length_map]; omega, fun x hx => ?_⟩
    · show D.lst _ = _
      rw [List.map_map]
      rfl
    · obtain ⟨k, hk, rfl⟩ := List.mem_map.mp hx
      have := b k hk
      omega
  have LT : ∀ x ∈ two, p1 .listOf x = some (toL x) := fun x hx => by
    obtain ⟨c, hc, rfl⟩ := twoM x hx
    rfl
  have SL : slice (.lst ((cols h ts fl ro).map tN)) none (some 2) = some (.lst two) := rfl
  have LC2 : ev C (.lc [("one", 18)] (.nm 18) (.seq (.sl (.var 3) none (some (.cst (.int 2))))) [] (.o1 .listOf (.var 18))) (E8 (.sh (.lst odds)) .no .no .no) r3 = .ok (.lst (two.map toL)) r3 := by
    refine v_lcm (xs := two) (by simp only [E8, Ek, EL, v_var, v_cst, v_glb, v_tup, v_lst, v_dnew, v_call, v_mk, v_meth, v_fld, v_o1, v_o2, v_sl, v_chain, v_and, v_or, v_not, v_ite, vs_nil, vs_cons, vo_none, vo_some, vi_seq, vi_rng, vi_enum, vi_zip, R.bind, R.then, RS.then, liftO, nextO, ended, ctx_call, ctx_init, ctx_word, ctx_has, ctx_gl, ctx_dv, ctx_idv, ctx_fuel, w_nil, w_cons, s_asg, s_ex, s_if, s_ret, s_raise, s_freeze, t_is, truth_bl, truth_non, List.getD_cons_zero, List.getD_cons_succ, Sl.get, List.cons_append, List.nil_append, List.append_nil, List.length_cons, List.length_nil, List.set_cons_zero, List.set_cons_succ, SL, seqOf]) fun x hx => ⟨_, rfl, ?_⟩
    show ev C (.o1 .listOf (.var 18)) [_, _, _, _, _, _, _, _, _, _, _, _, _, _, _, _, _, _, .sh x, _] r3 = _
    simp only [v_var, v_cst, v_glb, v_tup, v_lst, v_dnew, v_call, v_mk, v_meth, v_fld, v_o1, v_o2, v_sl, v_chain, v_and, v_or, v_not, v_ite, vs_nil, vs_cons, vo_none, vo_some, vi_seq, vi_rng, vi_enum, vi_zip, R.bind, R.then, RS.then, liftO, nextO, ended, ctx_call, ctx_init, ctx_word, ctx_has, ctx_gl, ctx_dv, ctx_idv, ctx_fuel, w_nil, w_cons, s_asg, s_ex, s_if, s_ret, s_raise, s_freeze, t_is, truth_bl, truth_non, List.getD_cons_zero, List.getD_cons_succ, Sl.get, List.cons_append, List.nil_append, List.append_nil, List.length_cons, List.length_nil, List.set_cons_zero, List.set_cons_succ, LT x hx]
  have twoL : two.length ≤ 10000 := by
    show (((_ : List D).drop _).take _).length ≤ _
    rw [List.length_take, List.length_drop, List.length_map]
    omega
  have AD3 : p2 .add (.lst odds) (.lst (two.map toL)) = some (.lst (odds ++ two.map toL)) := add_lst (by
    have : odds.length = 12 := by
      show (odd.map tI ++ _).length = 12
      rw [List.length_append, List.length_map, olen]
      rfl
    rw [List.length_map]
    omega)
  have IT2 : evI C (.seq (.o2 .add (.var 6) (.lc [("one", 18)] (.nm 18) (.seq (.sl (.var 3) none (some (.cst (.int 2))))) [] (.o1 .listOf (.var 18))))) (E8 (.sh (.lst odds)) .no .no .no) r3 = .ok ((odds ++ two.map toL).map id) r3 := by
    rw [vi_seq, v_o2, v_var]
    show R.bind (R.bind (ev C _ _ r3) _) _ = _
    rw [LC2]
    simp only [R.bind]
    rw [List.map_id]
    rw [AD3]
    rfl
  have A11 : ∀ x, Thing x → ∀ r, runF P (n + 12) 11 [kitD h ts fl ro, x] r = .ok (.bl (inC (cols h ts fl ro) x)) r := fun x t r => is_column_ok K.toKits2 t (n + 8) r
  have loop2 := for_fold (emb := id) (σ := Unit) (bd := bindT (.nm 7)) (kl := killE [7]) (r := r3) (xs := odds ++ two.map toL) (s := ()) (E := fun _ => E8 (.sh (.lst odds)) .no .no .no) (st := fun _ _ => ()) (I := fun xs _ => ∀ x ∈ xs, good x)
    (body := fun e r => exSs C [.if_ (.orE (.andE (.o2 .isNotB (.call 11 [.var 2, .var 7]) (.cst (.bl true))) (.o2 .isIn (.var 7) (.var 3))) (.andE (.o2 .isB (.call 11 [.var 2, .var 7]) (.cst (.bl true))) (.o2 .notIn (.var 7) (.var 3)))) [.ret (.cst (.bl false))] [], .if_ (.andE (.o2 .notIn (.var 7) (.var 3)) (.o2 .ne (.o1 .repr (.refused (.call 16 [.var 2, .var 7]))) (.o1 .repr (.tup [.cst (.str "column"), .var 7])))) [.ret (.cst (.bl false))] []] e r)
    (fun x hx => (List.mem_append.mp hx).elim (goodO x) (goodT x)) fun x xs s hI => by
      have hg := hI x (by simp)
      have t : Thing x := by
        rcases hg with ⟨l, rfl | rfl, _, _⟩ | rfl | rfl
        · exact .tup l
        · exact .lst l
        · exact .non
        · exact .int 0
      refine ⟨[.no, .sh .row, .sh (kitD h ts fl ro), .sh (.lst ((cols h ts fl ro).map tN)), .sh (.lst ((seams h ts fl ro).map tI)), .no, .sh (.lst odds), .sh x, .no, .no, .no, .no, .sh (.int h), .sh (.lst (ts.map tI)), .sh (edD fl), .sh (edD ro), .no, .no, .no, .no], [.no, .sh .row, .sh (kitD h ts fl ro), .sh (.lst ((cols h ts fl ro).map tN)), .sh (.lst ((seams h ts fl ro).map tI)), .no, .sh (.lst odds), .sh x, .no, .no, .no, .no, .sh (.int h), .sh (.lst (ts.map tI)), .sh (edD fl), .sh (edD ro), .no, .no, .no, .no], rfl, ?_, rfl, fun y hy => hI y (by simp [hy])⟩
      have B1 : p2 .isNotB (.bl true) (.bl true) = some (.bl false) := rfl
      have B2 : p2 .isNotB (.bl false) (.bl true) = some (.bl true) := rfl
      have B3 : p2 .isB (.bl true) (.bl true) = some (.bl true) := rfl
      have B4 : p2 .isB (.bl false) (.bl true) = some (.bl false) := rfl
      have cI := isIn_cols (cs := cols h ts fl ro) t
      have cN := notIn_cols (cs := cols h ts fl ro) t
      have A11x := A11 x t
      cases b : inC (cols h ts fl ro) x with
      | true =>
        rw [b] at cI cN A11x
        refine (w_skip (d := .bl false) (r1 := r3) (by simp only [v_var, v_cst, v_glb, v_tup, v_lst, v_dnew, v_call, v_mk, v_meth, v_fld, v_o1, v_o2, v_sl, v_chain, v_and, v_or, v_not, v_ite, vs_nil, vs_cons, vo_none, vo_some, vi_seq, vi_rng, vi_enum, vi_zip, R.bind, R.then, RS.then, liftO, nextO, ended, ctx_call, ctx_init, ctx_word, ctx_has, ctx_gl, ctx_dv, ctx_idv, ctx_fuel, w_nil, w_cons, s_asg, s_ex, s_if, s_ret, s_raise, s_freeze, t_is, truth_bl, truth_non, List.getD_cons_zero, List.getD_cons_succ, Sl.get, List.cons_append, List.nil_append, List.append_nil, List.length_cons, List.length_nil, List.set_cons_zero, List.set_cons_succ, dv, cl, A11x, B1, B3, cN, Bool.not_true]) rfl).trans ?_
        exact (w_skip (d := .bl false) (r1 := r3) (by simp only [v_var, v_cst, v_glb, v_tup, v_lst, v_dnew, v_call, v_mk, v_meth, v_fld, v_o1, v_o2, v_sl, v_chain, v_and, v_or, v_not, v_ite, vs_nil, vs_cons, vo_none, vo_some, vi_seq, vi_rng, vi_enum, vi_zip, R.bind, R.then, RS.then, liftO, nextO, ended, ctx_call, ctx_init, ctx_word, ctx_has, ctx_gl, ctx_dv, ctx_idv, ctx_fuel, w_nil, w_cons, s_asg, s_ex, s_if, s_ret, s_raise, s_freeze, t_is, truth_bl, truth_non, List.getD_cons_zero, List.getD_cons_succ, Sl.get, List.cons_append, List.nil_append, List.append_nil, List.length_cons, List.length_nil, List.set_cons_zero, List.set_cons_succ, cN, Bool.not_true]) rfl).trans w_nil
      | false =>
        rw [b] at cI cN A11x
        refine (w_skip (d := .bl false) (r1 := r3) (by simp only [v_var, v_cst, v_glb, v_tup, v_lst, v_dnew, v_call, v_mk, v_meth, v_fld, v_o1, v_o2, v_sl, v_chain, v_and, v_or, v_not, v_ite, vs_nil, vs_cons, vo_none, vo_some, vi_seq, vi_rng, vi_enum, vi_zip, R.bind, R.then, RS.then, liftO, nextO, ended, ctx_call, ctx_init, ctx_word, ctx_has, ctx_gl, ctx_dv, ctx_idv, ctx_fuel, w_nil, w_cons, s_asg, s_ex, s_if, s_ret, s_raise, s_freeze, t_is, truth_bl, truth_non, List.getD_cons_zero, List.getD_cons_succ, Sl.get, List.cons_append, List.nil_append, List.append_nil, List.length_cons, List.length_nil, List.set_cons_zero, List.set_cons_succ, dv, cl, A11x, B2, B4, cI]) rfl).trans ?_
        have A16x : runF P (n + 12) 16 [kitD h ts fl ro, x] r3 = .exn 5 x r3 := after_bad K.toKits2 t b (n + 6) r3
        have RF : ev C (.refused (.call 16 [.var 2, .var 7])) [.no, .sh .row, .sh (kitD h ts fl ro), .sh (.lst ((cols h ts fl ro).map tN)), .sh (.lst ((seams h ts fl ro).map tI)), .no, .sh (.lst odds), .sh x, .no, .no, .no, .no, .sh (.int h), .sh (.lst (ts.map tI)), .sh (edD fl), .sh (edD ro), .no, .no, .no, .no] r3 = .ok (.tup [.str "column", x]) r3 :=
          v_refused_exn (n := 5) (by simp only [v_var, v_cst, v_glb, v_tup, v_lst, v_dnew, v_call, v_mk, v_meth, v_fld, v_o1, v_o2, v_sl, v_chain, v_and, v_or, v_not, v_ite, vs_nil, vs_cons, vo_none, vo_some, vi_seq, vi_rng, vi_enum, vi_zip, R.bind, R.then, RS.then, liftO, nextO, ended, ctx_call, ctx_init, ctx_word, ctx_has, ctx_gl, ctx_dv, ctx_idv, ctx_fuel, w_nil, w_cons, s_asg, s_ex, s_if, s_ret, s_raise, s_freeze, t_is, truth_bl, truth_non, List.getD_cons_zero, List.getD_cons_succ, Sl.get, List.cons_append, List.nil_append, List.append_nil, List.length_cons, List.length_nil, List.set_cons_zero, List.set_cons_succ, dv, cl, A16x]) (by rw [W]; exact K.w5)
        exact (w_skip (d := .bl false) (r1 := r3) (by rw [v_and, v_o2]; simp only [v_var, v_cst, v_glb, v_tup, v_lst, v_dnew, v_call, v_mk, v_meth, v_fld, v_o1, v_o2, v_sl, v_chain, v_and, v_or, v_not, v_ite, vs_nil, vs_cons, vo_none, vo_some, vi_seq, vi_rng, vi_enum, vi_zip, R.bind, R.then, RS.then, liftO, nextO, ended, ctx_call, ctx_init, ctx_word, ctx_has, ctx_gl, ctx_dv, ctx_idv, ctx_fuel, w_nil, w_cons, s_asg, s_ex, s_if, s_ret, s_raise, s_freeze, t_is, truth_bl, truth_non, List.getD_cons_zero, List.getD_cons_succ, Sl.get, List.cons_append, List.nil_append, List.append_nil, List.length_cons, List.length_nil, List.set_cons_zero, List.set_cons_succ, cN, Bool.not_false, RF, rep_of (rep_thing hg), rep_ne]) rfl).trans w_nil
  refine Exists.imp (fun r' q => (congrArg ended (w_for IT2 loop2.1)).trans q) ?_
  -- less tiles
  obtain ⟨ks, r4, k1, live4, k3, k4⟩ := v_lcdt (C := C) (own := [("k", 17)]) (tg := .nm 17) (it := .rng [.o1 .len (.var 13)]) (t := .o2 .eq (.call 0 [.var 1, .cst (.int 2)]) (.cst (.int 0))) (e := .var 17) (env := E8 (.sh (.lst odds)) .no .no .no) (r := r3) (r1 := r3) (L := fun r => r.live = true) (emb := fun (k : Nat) => .int k) (g := fun (k : Nat) => .int k) (xs := List.range ts.length)
    (vi_rng1 (n := (ts.length : Int)) (by simp only [E8, Ek, EL, v_var, v_cst, v_glb, v_tup, v_lst, v_dnew, v_call, v_mk, v_meth, v_fld, v_o1, v_o2, v_sl, v_chain, v_and, v_or, v_not, v_ite, vs_nil, vs_cons, vo_none, vo_some, vi_seq, vi_rng, vi_enum, vi_zip, R.bind, R.then, RS.then, liftO, nextO, ended, ctx_call, ctx_init, ctx_word, ctx_has, ctx_gl, ctx_dv, ctx_idv, ctx_fuel, w_nil, w_cons, s_asg, s_ex, s_if, s_ret, s_raise, s_freeze, t_is, truth_bl, truth_non, List.getD_cons_zero, List.getD_cons_succ, Sl.get, List.cons_append, List.nil_append, List.append_nil, List.length_cons, List.length_nil, List.set_cons_zero, List.set_cons_succ, ELEN]) (rngD_nat (by omega))) live3 fun k hk r hr => by
      obtain ⟨v, r1, p1', p2', p3'⟩ := draw_ok (P := P) hr (many := 2) (by omega) (by omega)
      have p1'' : ∀ m, runF P (m + 12) 0 [.row, .int 2] r = .ok (.int v) r1 := fun m => p1' (m + 11)
      have EQ : p2 .eq (.int (v : Int)) (.int 0) = some (.bl (decide ((v : Int) = 0))) := by rw [p2_eq rfl, eqv_int]
      refine ⟨_, decide ((v : Int) = 0), r1, rfl, ?_, p2', by rw [v_var]; rfl⟩
      show ev C (.o2 .eq (.call 0 [.var 1, .cst (.int 2)]) (.cst (.int 0))) [_, .sh .row, _, _, _, _, _, _, _, _, _, _, _, _, _, _, _, _, _, _] r = _
      simp only [v_var, v_cst, v_glb, v_tup, v_lst, v_dnew, v_call, v_mk, v_meth, v_fld, v_o1, v_o2, v_sl, v_chain, v_and, v_or, v_not, v_ite, vs_nil, vs_cons, vo_none, vo_some, vi_seq, vi_rng, vi_enum, vi_zip, R.bind, R.then, RS.then, liftO, nextO, ended, ctx_call, ctx_init, ctx_word, ctx_has, ctx_gl, ctx_dv, ctx_idv, ctx_fuel, w_nil, w_cons, s_asg, s_ex, s_if, s_ret, s_raise, s_freeze, t_is, truth_bl, truth_non, List.getD_cons_zero, List.getD_cons_succ, Sl.get, List.cons_append, List.nil_append, List.append_nil, List.length_cons, List.length_nil, List.set_cons_zero, List.set_cons_succ, dv, cl, p1'', EQ]
  refine Exists.imp (fun r' q => (congrArg ended (w_asg (d := .lst (ks.map fun (k : Nat) => .int k)) (r1 := r4) (env1 := E8 (.sh (.lst odds)) (.sh (.lst (ks.map fun (k : Nat) => .int k))) .no .no) k1 rfl)).trans q) ?_
  have ksm : ∀ j ∈ ks, j < ts.length := fun j hj => List.mem_range.mp (k3 j hj)
  have ksl : ks.length ≤ 5 := by rw [List.length_range] at k4; omega
  let ts' : List (List Int) := ks.map fun j => ts.getD j []
  have ko' : KitOk h ts' fl ro := ko.sub ksm (by omega)
  have TK : p1 .tupleOf (.lst (ks.map fun (k : Nat) => .int k)) = some (.tup (ks.map fun (k : Nat) => .int k)) := rfl
  have A17 : runF P (n + 12) 17 [kitD h ts fl ro, .tup (ks.map fun (k : Nat) => .int k)] r4 = .ok (kitD h ts' fl ro) r4 := kit_of_tiles_ok K.toKits2 (.inl rfl) ko ksm (by omega) (n + 8) r4
  refine Exists.imp (fun r' q => (congrArg ended (w_asg (d := kitD h ts' fl ro) (r1 := r4) (env1 := E8 (.sh (.lst odds)) (.sh (.lst (ks.map fun (k : Nat) => .int k))) (.sh (kitD h ts' fl ro)) .no) (by simp only [E8, Ek, EL, v_var, v_cst, v_glb, v_tup, v_lst, v_dnew, v_call, v_mk, v_meth, v_fld, v_o1, v_o2, v_sl, v_chain, v_and, v_or, v_not, v_ite, vs_nil, vs_cons, vo_none, vo_some, vi_seq, vi_rng, vi_enum, vi_zip, R.bind, R.then, RS.then, liftO, nextO, ended, ctx_call, ctx_init, ctx_word, ctx_has, ctx_gl, ctx_dv, ctx_idv, ctx_fuel, w_nil, w_cons, s_asg, s_ex, s_if, s_ret, s_raise, s_freeze, t_is, truth_bl, truth_non, List.getD_cons_zero, List.getD_cons_succ, Sl.get, List.cons_append, List.nil_append, List.append_nil, List.length_cons, List.length_nil, List.set_cons_zero, List.set_cons_succ, dv, cl, TK, A17]) rfl)).trans q) ?_
  have G0 : fldOf 0 0 (kitD h ts' fl ro) = some (.int h) := rfl
  have G1 : fldOf 0 1 (kitD h ts' fl ro) = some (.tup (ts'.map tI)) := rfl
  have G2 : fldOf 0 2 (kitD h ts' fl ro) = some (edD fl) := rfl
  have G3 : fldOf 0 3 (kitD h ts' fl ro) = some (edD ro) := rfl
  have LK : ev C (.lc [("k", 17)] (.nm 17) (.seq (.var 8)) [] (.o2 .idx (.var 13) (.var 17))) (E8 (.sh (.lst odds)) (.sh (.lst (ks.map fun (k : Nat) => .int k))) (.sh (kitD h ts' fl ro)) .no) r4 = .ok (.lst (ts'.map tI)) r4 := by
    have q : ev C (.lc [("k", 17)] (.nm 17) (.seq (.var 8)) [] (.o2 .idx (.var 13) (.var 17))) (E8 (.sh (.lst odds)) (.sh (.lst (ks.map fun (k : Nat) => .int k))) (.sh (kitD h ts' fl ro)) .no) r4 = .ok (.lst (ks.map fun j => tI (ts.getD j []))) r4 := by
      refine v_lcam (emb := fun (k : Nat) => .int k) (xs := ks) (by simp only [E8, Ek, EL, v_var, v_cst, v_glb, v_tup, v_lst, v_dnew, v_call, v_mk, v_meth, v_fld, v_o1, v_o2, v_sl, v_chain, v_and, v_or, v_not, v_ite, vs_nil, vs_cons, vo_none, vo_some, vi_seq, vi_rng, vi_enum, vi_zip, R.bind, R.then, RS.then, liftO, nextO, ended, ctx_call, ctx_init, ctx_word, ctx_has, ctx_gl, ctx_dv, ctx_idv, ctx_fuel, w_nil, w_cons, s_asg, s_ex, s_if, s_ret, s_raise, s_freeze, t_is, truth_bl, truth_non, List.getD_cons_zero, List.getD_cons_succ, Sl.get, List.cons_append, List.nil_append, List.append_nil, List.length_cons, List.length_nil, List.set_cons_zero, List.set_cons_succ, seqOf]) fun j hj => ⟨_, rfl, ?_⟩
      show ev C (.o2 .idx (.var 13) (.var 17)) [_, _, _, _, _, _, _, _, _, _, _, _, _, .sh (.lst (ts.map tI)), _, _, _, .sh (.int j), _, _] r4 = _
      simp only [v_var, v_cst, v_glb, v_tup, v_lst, v_dnew, v_call, v_mk, v_meth, v_fld, v_o1, v_o2, v_sl, v_chain, v_and, v_or, v_not, v_ite, vs_nil, vs_cons, vo_none, vo_some, vi_seq, vi_rng, vi_enum, vi_zip, R.bind, R.then, RS.then, liftO, nextO, ended, ctx_call, ctx_init, ctx_word, ctx_has, ctx_gl, ctx_dv, ctx_idv, ctx_fuel, w_nil, w_cons, s_asg, s_ex, s_if, s_ret, s_raise, s_freeze, t_is, truth_bl, truth_non, List.getD_cons_zero, List.getD_cons_succ, Sl.get, List.cons_append, List.nil_append, List.append_nil, List.length_cons, List.length_nil, List.set_cons_zero, List.set_cons_succ, seq_tile (.inl rfl) (ksm j hj)]
    rw [q]
    show R.ok (D.lst _) r4 = R.ok (D.lst ((ks.map _).map tI)) r4
    rw [List.map_map]
    rfl
  have TK2 : p1 .tupleOf (.lst (ts'.map tI)) = some (.tup (ts'.map tI)) := rfl
  have LK2 : ev C (.o1 .tupleOf (.lc [("k", 17)] (.nm 17) (.seq (.var 8)) [] (.o2 .idx (.var 13) (.var 17)))) (E8 (.sh (.lst odds)) (.sh (.lst (ks.map fun (k : Nat) => .int k))) (.sh (kitD h ts' fl ro)) .no) r4 = .ok (.tup (ts'.map tI)) r4 := by
    rw [v_o1, LK]
    simp only [R.bind]
    rw [TK2]
    rfl
  have LI : ev C (.lst [.var 12, .o1 .tupleOf (.lc [("k", 17)] (.nm 17) (.seq (.var 8)) [] (.o2 .idx (.var 13) (.var 17))), .var 14, .var 15]) (E8 (.sh (.lst odds)) (.sh (.lst (ks.map fun (k : Nat) => .int k))) (.sh (kitD h ts' fl ro)) .no) r4 = .ok (.lst [.int h, .tup (ts'.map tI), edD fl, edD ro]) r4 := by
    rw [v_lst, vs_cons, show ev C (.var 12) (E8 (.sh (.lst odds)) (.sh (.lst (ks.map fun (k : Nat) => .int k))) (.sh (kitD h ts' fl ro)) .no) r4 = .ok (.int h) r4 by rw [v_var]; rfl]
    simp only [R.bind]
    rw [vs_cons, LK2]
    simp only [E8, Ek, EL, v_var, v_cst, v_glb, v_tup, v_lst, v_dnew, v_call, v_mk, v_meth, v_fld, v_o1, v_o2, v_sl, v_chain, v_and, v_or, v_not, v_ite, vs_nil, vs_cons, vo_none, vo_some, vi_seq, vi_rng, vi_enum, vi_zip, R.bind, R.then, RS.then, liftO, nextO, ended, ctx_call, ctx_init, ctx_word, ctx_has, ctx_gl, ctx_dv, ctx_idv, ctx_fuel, w_nil, w_cons, s_asg, s_ex, s_if, s_ret, s_raise, s_freeze, t_is, truth_bl, truth_non, List.getD_cons_zero, List.getD_cons_succ, Sl.get, List.cons_append, List.nil_append, List.append_nil, List.length_cons, List.length_nil, List.set_cons_zero, List.set_cons_succ]
  have ts'l : ts'.length ≤ 5 := by show (ks.map _).length ≤ 5; rw [List.length_map]; exact ksl
  refine Exists.imp (fun r' q => (congrArg ended (sk_alike (d := .lst [.int h, .tup (ts'.map tI), edD fl, edD ro]) dv al (by simp only [E8, Ek, EL, v_var, v_cst, v_glb, v_tup, v_lst, v_dnew, v_call, v_mk, v_meth, v_fld, v_o1, v_o2, v_sl, v_chain, v_and, v_or, v_not, v_ite, vs_nil, vs_cons, vo_none, vo_some, vi_seq, vi_rng, vi_enum, vi_zip, R.bind, R.then, RS.then, liftO, nextO, ended, ctx_call, ctx_init, ctx_word, ctx_has, ctx_gl, ctx_dv, ctx_idv, ctx_fuel, w_nil, w_cons, s_asg, s_ex, s_if, s_ret, s_raise, s_freeze, t_is, truth_bl, truth_non, List.getD_cons_zero, List.getD_cons_succ, Sl.get, List.cons_append, List.nil_append, List.append_nil, List.length_cons, List.length_nil, List.set_cons_zero, List.set_cons_succ, G0, G1, G2, G3]) LI (okE ts' (by omega) ko'.four))).trans q) ?_
  have A10' : ∀ r, runF P (n + 12) 10 [kitD h ts' fl ro] r = .ok (.lst ((cols h ts' fl ro).map tN)) r := fun r => columns_of_ok K.toKits2 (n + 10) r
  have A26' : ∀ r, runF P (n + 12) 26 [.int h, .tup (ts'.map tI), edD fl, edD ro] r = .ok (.lst ((cols h ts' fl ro).map tN)) r := fun r => lcols_ok K.toLaws h1 (by omega) (by omega) (.inr rfl) ko'.four (n + 10) r
  have clen' := cols_len (h := h) (ts := ts') (fl := fl) (ro := ro) (by omega) h1 (by omega)
  refine Exists.imp (fun r' q => (congrArg ended (sk_alike (d := .lst ((cols h ts' fl ro).map tN)) dv al (by simp only [E8, Ek, EL, v_var, v_cst, v_glb, v_tup, v_lst, v_dnew, v_call, v_mk, v_meth, v_fld, v_o1, v_o2, v_sl, v_chain, v_and, v_or, v_not, v_ite, vs_nil, vs_cons, vo_none, vo_some, vi_seq, vi_rng, vi_enum, vi_zip, R.bind, R.then, RS.then, liftO, nextO, ended, ctx_call, ctx_init, ctx_word, ctx_has, ctx_gl, ctx_dv, ctx_idv, ctx_fuel, w_nil, w_cons, s_asg, s_ex, s_if, s_ret, s_raise, s_freeze, t_is, truth_bl, truth_non, List.getD_cons_zero, List.getD_cons_succ, Sl.get, List.cons_append, List.nil_append, List.append_nil, List.length_cons, List.length_nil, List.set_cons_zero, List.set_cons_succ, dv, cl, A10']) (by simp only [E8, Ek, EL, v_var, v_cst, v_glb, v_tup, v_lst, v_dnew, v_call, v_mk, v_meth, v_fld, v_o1, v_o2, v_sl, v_chain, v_and, v_or, v_not, v_ite, vs_nil, vs_cons, vo_none, vo_some, vi_seq, vi_rng, vi_enum, vi_zip, R.bind, R.then, RS.then, liftO, nextO, ended, ctx_call, ctx_init, ctx_word, ctx_has, ctx_gl, ctx_dv, ctx_idv, ctx_fuel, w_nil, w_cons, s_asg, s_ex, s_if, s_ret, s_raise, s_freeze, t_is, truth_bl, truth_non, List.getD_cons_zero, List.getD_cons_succ, Sl.get, List.cons_append, List.nil_append, List.append_nil, List.length_cons, List.length_nil, List.set_cons_zero, List.set_cons_succ, dv, cl, G1, A26']) (okC _ (by omega) fun c hc => by have := (cols_mem hc).1; omega))).trans q) ?_
  -- what is no kit
  obtain ⟨wr, r5, w1, live5, w3, w4⟩ := bad_kit_ok K.toKits2 live4
  have A28 : runF P (n + 12) 28 [.row] r4 = .ok wr r5 := w1 (n + 9)
  refine Exists.imp (fun r' q => (congrArg ended (w_asg (d := wr) (r1 := r5) (env1 := E8 (.sh (.lst odds)) (.sh (.lst (ks.map fun (k : Nat) => .int k))) (.sh (kitD h ts' fl ro)) (.sh wr)) (by simp only [E8, Ek, EL, v_var, v_cst, v_glb, v_tup, v_lst, v_dnew, v_call, v_mk, v_meth, v_fld, v_o1, v_o2, v_sl, v_chain, v_and, v_or, v_not, v_ite, vs_nil, vs_cons, vo_none, vo_some, vi_seq, vi_rng, vi_enum, vi_zip, R.bind, R.then, RS.then, liftO, nextO, ended, ctx_call, ctx_init, ctx_word, ctx_has, ctx_gl, ctx_dv, ctx_idv, ctx_fuel, w_nil, w_cons, s_asg, s_ex, s_if, s_ret, s_raise, s_freeze, t_is, truth_bl, truth_non, List.getD_cons_zero, List.getD_cons_succ, Sl.get, List.cons_append, List.nil_append, List.append_nil, List.length_cons, List.length_nil, List.set_cons_zero, List.set_cons_succ, dv, cl, A28]) rfl)).trans q) ?_
  have hg14 : C.gl 14 = .fn 10 := by rw [← hC]; exact K.g14
  have hg15 : C.gl 15 = .fn 15 := by rw [← hC]; exact K.g15
  have hh10 : C.has 10 = true := by rw [← hC]; exact K.h10
  have hh15 : C.has 15 = true := by rw [← hC]; exact K.h15
  have B10 : runF P (n + 12) 10 [wr] r5 = .exn 4 wr r5 := columns_of_bad K.toKits2 w3 (n + 10) r5
  have B15 : runF P (n + 12) 15 [wr] r5 = .exn 4 wr r5 := seams_of_bad K.toKits2 w3 (n + 10) r5
  have B11 : runF P (n + 12) 11 [wr, .tup []] r5 = .exn 4 wr r5 := is_column_bad K.toKits2 w3 (n + 10) r5
  have loop3 := for_fold (emb := fun (f : Nat) => D.fn f) (σ := Unit) (bd := bindT (.nm 11)) (kl := killE [11]) (r := r5) (xs := [10, 15]) (s := ()) (E := fun _ => E8 (.sh (.lst odds)) (.sh (.lst (ks.map fun (k : Nat) => .int k))) (.sh (kitD h ts' fl ro)) (.sh wr)) (st := fun _ _ => ()) (I := fun xs _ => ∀ f ∈ xs, f = 10 ∨ f = 15)
    (body := fun e r => exSs C [.if_ (.o2 .ne (.o1 .repr (.refused (.callv 11 [.var 10]))) (.o1 .repr (.tup [.cst (.str "kit"), .var 10]))) [.ret (.cst (.bl false))] []] e r)
    (fun f hf => by simpa using hf) fun f xs s hI => by
      have hf := hI f (by simp)
      refine ⟨[.no, .sh .row, .sh (kitD h ts fl ro), .sh (.lst ((cols h ts fl ro).map tN)), .sh (.lst ((seams h ts fl ro).map tI)), .no, .sh (.lst odds), .no, .sh (.lst (ks.map fun (k : Nat) => .int k)), .sh (kitD h ts' fl ro), .sh wr, .sh (.fn f), .sh (.int h), .sh (.lst (ts.map tI)), .sh (edD fl), .sh (edD ro), .no, .no, .no, .no], [.no, .sh .row, .sh (kitD h ts fl ro), .sh (.lst ((cols h ts fl ro).map tN)), .sh (.lst ((seams h ts fl ro).map tI)), .no, .sh (.lst odds), .no, .sh (.lst (ks.map fun (k : Nat) => .int k)), .sh (kitD h ts' fl ro), .sh wr, .sh (.fn f), .sh (.int h), .sh (.lst (ts.map tI)), .sh (edD fl), .sh (edD ro), .no, .no, .no, .no], rfl, ?_, rfl, fun g hg => hI g (by simp [hg])⟩
      have CV : C.has f = true ∧ C.call f [wr] r5 = .exn 4 wr r5 := by
        rw [cl]
        rcases hf with rfl | rfl
        · exact ⟨hh10, B10⟩
        · exact ⟨hh15, B15⟩
      have RF : ev C (.refused (.callv 11 [.var 10])) [.no, .sh .row, .sh (kitD h ts fl ro), .sh (.lst ((cols h ts fl ro).map tN)), .sh (.lst ((seams h ts fl ro).map tI)), .no, .sh (.lst odds), .no, .sh (.lst (ks.map fun (k : Nat) => .int k)), .sh (kitD h ts' fl ro), .sh wr, .sh (.fn f), .sh (.int h), .sh (.lst (ts.map tI)), .sh (edD fl), .sh (edD ro), .no, .no, .no, .no] r5 = .ok (.tup [.str "kit", wr]) r5 := by
        refine v_refused_exn (n := 4) ?_ (by rw [W]; exact K.w4)
        rw [v_callv (f := f) rfl CV.1]
        simp only [v_var, v_cst, v_glb, v_tup, v_lst, v_dnew, v_call, v_mk, v_meth, v_fld, v_o1, v_o2, v_sl, v_chain, v_and, v_or, v_not, v_ite, vs_nil, vs_cons, vo_none, vo_some, vi_seq, vi_rng, vi_enum, vi_zip, R.bind, R.then, RS.then, liftO, nextO, ended, ctx_call, ctx_init, ctx_word, ctx_has, ctx_gl, ctx_dv, ctx_idv, ctx_fuel, w_nil, w_cons, s_asg, s_ex, s_if, s_ret, s_raise, s_freeze, t_is, truth_bl, truth_non, List.getD_cons_zero, List.getD_cons_succ, Sl.get, List.cons_append, List.nil_append, List.append_nil, List.length_cons, List.length_nil, List.set_cons_zero, List.set_cons_succ, CV.2]
      exact (w_skip (d := .bl false) (r1 := r5) (by rw [v_o2, v_o1, RF]; simp only [v_var, v_cst, v_glb, v_tup, v_lst, v_dnew, v_call, v_mk, v_meth, v_fld, v_o1, v_o2, v_sl, v_chain, v_and, v_or, v_not, v_ite, vs_nil, vs_cons, vo_none, vo_some, vi_seq, vi_rng, vi_enum, vi_zip, R.bind, R.then, RS.then, liftO, nextO, ended, ctx_call, ctx_init, ctx_word, ctx_has, ctx_gl, ctx_dv, ctx_idv, ctx_fuel, w_nil, w_cons, s_asg, s_ex, s_if, s_ret, s_raise, s_freeze, t_is, truth_bl, truth_non, List.getD_cons_zero, List.getD_cons_succ, Sl.get, List.cons_append, List.nil_append, List.append_nil, List.length_cons, List.length_nil, List.set_cons_zero, List.set_cons_succ, rep_of w4, rep_ne]) rfl).trans w_nil
  refine Exists.imp (fun r' q => (congrArg ended (w_for (r1 := r5) (by simp only [E8, Ek, EL, v_var, v_cst, v_glb, v_tup, v_lst, v_dnew, v_call, v_mk, v_meth, v_fld, v_o1, v_o2, v_sl, v_chain, v_and, v_or, v_not, v_ite, vs_nil, vs_cons, vo_none, vo_some, vi_seq, vi_rng, vi_enum, vi_zip, R.bind, R.then, RS.then, liftO, nextO, ended, ctx_call, ctx_init, ctx_word, ctx_has, ctx_gl, ctx_dv, ctx_idv, ctx_fuel, w_nil, w_cons, s_asg, s_ex, s_if, s_ret, s_raise, s_freeze, t_is, truth_bl, truth_non, List.getD_cons_zero, List.getD_cons_succ, Sl.get, List.cons_append, List.nil_append, List.append_nil, List.length_cons, List.length_nil, List.set_cons_zero, List.set_cons_succ, hg14, hg15, seqOf]; rfl) loop3.1)).trans q) ?_
  have RF2 : ev C (.refused (.call 11 [.var 10, .tup []])) (E8 (.sh (.lst odds)) (.sh (.lst (ks.map fun (k : Nat) => .int k))) (.sh (kitD h ts' fl ro)) (.sh wr)) r5 = .ok (.tup [.str "kit", wr]) r5 :=
    v_refused_exn (n := 4) (by simp only [E8, Ek, EL, v_var, v_cst, v_glb, v_tup, v_lst, v_dnew, v_call, v_mk, v_meth, v_fld, v_o1, v_o2, v_sl, v_chain, v_and, v_or, v_not, v_ite, vs_nil, vs_cons, vo_none, vo_some, vi_seq, vi_rng, vi_enum, vi_zip, R.bind, R.then, RS.then, liftO, nextO, ended, ctx_call, ctx_init, ctx_word, ctx_has, ctx_gl, ctx_dv, ctx_idv, ctx_fuel, w_nil, w_cons, s_asg, s_ex, s_if, s_ret, s_raise, s_freeze, t_is, truth_bl, truth_non, List.getD_cons_zero, List.getD_cons_succ, Sl.get, List.cons_append, List.nil_append, List.append_nil, List.length_cons, List.length_nil, List.set_cons_zero, List.set_cons_succ, dv, cl, B11]) (by rw [W]; exact K.w4)
  refine Exists.imp (fun r' q => (congrArg ended (w_skip (d := .bl false) (r1 := r5) (by rw [v_o2, v_o1, RF2]; simp only [E8, Ek, EL, v_var, v_cst, v_glb, v_tup, v_lst, v_dnew, v_call, v_mk, v_meth, v_fld, v_o1, v_o2, v_sl, v_chain, v_and, v_or, v_not, v_ite, vs_nil, vs_cons, vo_none, vo_some, vi_seq, vi_rng, vi_enum, vi_zip, R.bind, R.then, RS.then, liftO, nextO, ended, ctx_call, ctx_init, ctx_word, ctx_has, ctx_gl, ctx_dv, ctx_idv, ctx_fuel, w_nil, w_cons, s_asg, s_ex, s_if, s_ret, s_raise, s_freeze, t_is, truth_bl, truth_non, List.getD_cons_zero, List.getD_cons_succ, Sl.get, List.cons_append, List.nil_append, List.append_nil, List.length_cons, List.length_nil, List.set_cons_zero, List.set_cons_succ, rep_of w4, rep_ne]) rfl)).trans q) ?_
  obtain ⟨r6, z⟩ := wrong_ok K (r := r5) live5 ko (by omega) (n + 7)
  have A30 : runF P (n + 12) 30 [.row, .int h, .lst (ts.map tI), edD fl, edD ro] r5 = .ok (.bl true) r6 := z
  refine ⟨r6, (congrArg ended (w_ret (d := .bl true) (r1 := r6) (by simp only [E8, Ek, EL, v_var, v_cst, v_glb, v_tup, v_lst, v_dnew, v_call, v_mk, v_meth, v_fld, v_o1, v_o2, v_sl, v_chain, v_and, v_or, v_not, v_ite, vs_nil, vs_cons, vo_none, vo_some, vi_seq, vi_rng, vi_enum, vi_zip, R.bind, R.then, RS.then, liftO, nextO, ended, ctx_call, ctx_init, ctx_word, ctx_has, ctx_gl, ctx_dv, ctx_idv, ctx_fuel, w_nil, w_cons, s_asg, s_ex, s_if, s_ret, s_raise, s_freeze, t_is, truth_bl, truth_non, List.getD_cons_zero, List.getD_cons_succ, Sl.get, List.cons_append, List.nil_append, List.append_nil, List.length_cons, List.length_nil, List.set_cons_zero, List.set_cons_succ, dv, cl, A30]))).trans rfl⟩
end
/-- the evaluator's answer -/
theorem law00 : K00.LawOk := fun ns _ => by
  have K : Law00 K00.PG := by
    refine { f30 := rfl, w0 := rfl, w1 := rfl, w2 := rfl, w3 := rfl, w4 := rfl, w5 := rfl, h10 := rfl, h15 := rfl, g14 := rfl, g15 := rfl, f10 := rfl, f11 := rfl, f12 := rfl, f13 := rfl, f14 := rfl, f15 := rfl, f16 := rfl, f17 := rfl, f27 := rfl, f18 := rfl, f19 := rfl, f20 := rfl, f21 := rfl, f22 := rfl, f23 := rfl, f24 := rfl, f25 := rfl, f26 := rfl, f28 := rfl, f29 := rfl, f1 := rfl, f2 := rfl, f3 := rfl, f4 := rfl, f5 := rfl, f6 := rfl, f7 := rfl, f8 := rfl, f9 := rfl, i0 := rfl, g0 := rfl, g1 := rfl, g2 := rfl, g3 := rfl, g4 := rfl, g5 := rfl, g6 := rfl, dv := fun _ _ => rfl, idv := fun _ _ => rfl }
  exact law00_ev K 0 ⟨true, ns, 0, 307, 0⟩ rfl
end SW.K
theorem PySem.Challenge.cw_stripwalls_k00_kits_holds : PySem.Challenge.rw_stripwalls_k00_kits.Holds := by
  exact K00.holds SW.K.law00
