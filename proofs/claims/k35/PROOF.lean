import PyProof.Rows.All
import Wide.All
import OpenK.AllK
import Wide.FinOn
import HandS.ForMost
import HandS.ForExc
import HandS.ExcInit
import HandS.ExcIs
import HandS.ExcField
import HandS.Defaults
import HandS.SortKw
import KE.KExcIs
import HandS.TupAny
import HandS.TupMul
import HandS.SortInts
import HandS.IsInst
import HandS.Wide
import HandS.Style
import HandS.Flow
import HandS.Deep
import KE.KStateDown
import Lean
import HandS.More
import HandS.Words
import HandS.WordsExc
import HandS.Head0
import HandS.Head1
import HandS.Head2
import HandS.HeadEnd
import HandS.HeadHook1
import HandS.HeadHook2
import PySem.Challenge.RW_coinreaders_k35_ways_and_good_places
set_option Elab.async false
set_option linter.all false
set_option maxRecDepth 100000
set_option maxHeartbeats 4000001
/-! S1: a small language with plain data: what its expressions and statements yield. -/
namespace PV
open PySem

/-- plain data; ref l: the l-th box -/
inductive D where
  | non | bl (b : Bool) | int (i : Int) | str (s : Str)
  | tup (xs : List D) | lst (xs : List D) | dct (kvs : List (D × D))
  | obj (c : Nat) (fs : List D) | exc (c : Nat) (fs : List D) | ref (l : Nat) | scr (is : List Int)
/-- what a box holds -/
inductive Ob where
  | lst (xs : List D) | dct (kvs : List (D × D)) | ins (c : Nat) (fs : List (Nat × D)) | gone
abbrev Hs := List Ob
/-- how a run ends -/
inductive Rs (α : Type) where
  | ok (a : α) (h : Hs) | exc (c : Nat) (fs : List D) (h : Hs) | stuck
/-- a name's slot: empty, data, or a list (dict) of this frame's own -/
inductive Sl where
  | non | val (d : D) | own (o : Ob)
abbrev Ev := List Sl

namespace Rs
def bind {α β : Type} (r : Rs α) (f : α → Hs → Rs β) : Rs β := match r with
  | .ok a h => f a h
  | .exc c fs h => .exc c fs h
  | .stuck => .stuck
@[simp] theorem bind_ok {α β : Type} (a : α) (h : Hs) (f : α → Hs → Rs β) : (Rs.ok a h).bind f = f a h := rfl
@[simp] theorem bind_exc {α β : Type} (c : Nat) (fs : List D) (h : Hs) (f : α → Hs → Rs β) : (Rs.exc c fs h : Rs α).bind f = .exc c fs h := rfl
@[simp] theorem bind_stuck {α β : Type} (f : α → Hs → Rs β) : (Rs.stuck : Rs α).bind f = .stuck := rfl
/-- what is wanted of a run: Q of its value, E of its exception -/
def post {α : Type} (r : Rs α) (Q : α → Hs → Prop) (E : Nat → List D → Hs → Prop) : Prop := match r with
  | .ok a h => Q a h
  | .exc c fs h => E c fs h
  | .stuck => False
end Rs

/-- constants -/
inductive Cst where
  | non | bl (b : Bool) | int (i : Int) | str (s : Str)
def Cst.d : Cst → D
  | .non => .non | .bl b => .bl b | .int i => .int i | .str s => .str s
inductive BOp where | add | sub | mul | fdiv | mod | pow | shl | shr | band | bxor
inductive COp where | eq | ne | lt | le | gt | ge | is | isnot | isin | notin
/-- what isinstance is asked for -/
inductive Ty where | int | bool | str | tuple | list | dict | own (c : Nat)
/-- built-in calls on data -/
inductive Bi where
  | len | tuple | list | int | abs | max2 | min2 | maxl | minl | maxd (d : Int) | sorted | sum | str | repr | gcd | any | all | bitlen | index

mutual
inductive Ex where
  | var (i : Nat) | cst (c : Cst) | glb (x : String) (i : Int)
  | tup (es : Exs) | lst (box : Bool) (es : Exs)
  | bin (op : BOp) (a b : Op) | neg (a : Ex)
  | cmp (op : COp) (a b : Op) | chain (o1 o2 : COp) (a b c : Ex)
  | not (a : Ex) | and (a b : Ex) | or (a b : Ex) | ife (c a b : Ex)
  | call (f : Nat) (es : Exs) | bi (b : Bi) (es : Ops) | isi (a : Op) (ts : List Ty)
  | idx (a : Op) (i : Ex) | sli (a : Op) (lo hi : Exo)
  | lc (elt : Ex) (t : Tg) (it : It) (c : Exo)
  | fld (a : Ex) (f : Nat) | xfld (i : Nat) (f : String) | xis (i : Nat) (xs : List String)
inductive Exs where
  | nil | cons (e : Ex) (es : Exs)
inductive Exo where
  | none | some (e : Ex)
/-- an operand that is only read: a list of the frame's own, or an expression -/
inductive Op where
  | own (i : Nat) | ex (e : Ex)
inductive Ops where
  | nil | cons (a : Op) (r : Ops)
/-- what is walked -/
inductive It where
  | of (a : Op) | rng1 (a : Ex) | rng2 (a b : Ex) | rng3 (a b c : Ex) | enum (a : Op) | zip (a b : Op)
/-- a target -/
inductive Tg where
  | slot (i : Nat) | tup (ts : Tgs)
inductive Tgs where
  | nil | cons (t : Tg) (ts : Tgs)
end

/-! ### plain data: looks -/
mutual
/-- data without boxes, dicts and objects -/
def D.flat : D → Bool
  | .non => true | .bl _ => true | .int _ => true
  | .str x => PySem.PyData.strOk x
  | .tup xs => flatAll xs | .lst xs => flatAll xs
  | .dct _ => false | .obj _ _ => false | .exc _ _ => false | .ref _ => false | .scr _ => false
def flatAll : List D → Bool
  | [] => true
  | x :: xs => x.flat && flatAll xs
end
mutual
def D.dep : D → Nat
  | .tup xs => depAll xs + 1 | .lst xs => depAll xs + 1
  | .dct _ => 0 | .obj _ _ => 0 | .exc _ _ => 0 | .ref _ => 0 | .scr _ => 0 | .non => 0 | .bl _ => 0 | .int _ => 0 | .str _ => 0
def depAll : List D → Nat
  | [] => 0
  | x :: xs => max x.dep (depAll xs)
end
/-- may stand in a comparison -/
def D.cmpOk (d : D) : Bool := d.flat && decide (d.dep ≤ 64)
mutual
def D.eqv : D → D → Bool
  | .non, .non => true
  | .bl a, .bl b => a == b
  | .bl a, .int j => (if a then 1 else 0) == j
  | .int i, .bl b => i == (if b then 1 else 0)
  | .int i, .int j => i == j
  | .str x, .str y => x == y
  | .lst xs, .lst ys => eqvAll xs ys
  | .tup xs, .tup ys => eqvAll xs ys
  | _, _ => false
def eqvAll : List D → List D → Bool
  | [], [] => true
  | x :: xs, y :: ys => x.eqv y && eqvAll xs ys
  | _, _ => false
end
mutual
def D.same : D → D → Bool
  | .non, .non => true
  | .bl a, .bl b => a == b
  | .int i, .int j => i == j
  | .str x, .str y => x == y
  | .lst xs, .lst ys => sameAll xs ys
  | .tup xs, .tup ys => sameAll xs ys
  | .dct xs, .dct ys => sameKv xs ys
  | .obj c xs, .obj d ys => c == d && sameAll xs ys
  | .exc c xs, .exc d ys => c == d && sameAll xs ys
  | .ref l, .ref k => l == k
  | .scr xs, .scr ys => xs == ys
  | _, _ => false
def sameAll : List D → List D → Bool
  | [], [] => true
  | x :: xs, y :: ys => x.same y && sameAll xs ys
  | _, _ => false
def sameKv : List (D × D) → List (D × D) → Bool
  | [], [] => true
  | (a, b) :: xs, (c, d) :: ys => a.same c && b.same d && sameKv xs ys
  | _, _ => false
end
mutual
theorem D.same_eq : ∀ {a b : D}, a.same b = true → a = b
  | .non, b, h => by cases b <;> first | rfl | (simp [D.same] at h)
  | .bl x, b, h => by cases b <;> simp [D.same] at h; rw [h]
  | .int x, b, h => by cases b <;> simp [D.same] at h; rw [h]
  | .str x, b, h => by cases b <;> simp [D.same] at h; rw [h]
  | .ref x, b, h => by cases b <;> simp [D.same] at h; rw [h]
  | .scr x, b, h => by cases b <;> simp [D.same] at h; rw [h]
  | .lst xs, b, h => by cases b <;> simp [D.same] at h; rw [sameAll_eq h]
  | .tup xs, b, h => by cases b <;> simp [D.same] at h; rw [sameAll_eq h]
  | .dct xs, b, h => by cases b <;> simp [D.same] at h; rw [sameKv_eq h]
  | .obj c xs, b, h => by cases b <;> simp [D.same] at h; rw [h.1, sameAll_eq h.2]
  | .exc c xs, b, h => by cases b <;> simp [D.same] at h; rw [h.1, sameAll_eq h.2]
theorem sameAll_eq : ∀ {xs ys : List D}, sameAll xs ys = true → xs = ys
  | [], ys, h => by cases ys <;> first | rfl | (simp [sameAll] at h)
  | x :: xs, ys, h => by cases ys <;> simp [sameAll] at h; rw [D.same_eq h.1, sameAll_eq h.2]
theorem sameKv_eq : ∀ {xs ys : List (D × D)}, sameKv xs ys = true → xs = ys
  | [], ys, h => by cases ys <;> first | rfl | (simp [sameKv] at h)
  | (a, b) :: xs, ys, h => by
    cases ys with
    | nil => simp [sameKv] at h
    | cons q ys =>
      obtain ⟨c, d⟩ := q
      simp [sameKv] at h
      rw [D.same_eq h.1.1, D.same_eq h.1.2, sameKv_eq h.2]
end
mutual
theorem D.same_refl : ∀ (a : D), a.same a = true
  | .non => rfl
  | .bl x => by simp [D.same]
  | .int x => by simp [D.same]
  | .str x => by simp [D.same]
  | .ref x => by simp [D.same]
  | .scr x => by simp [D.same]
  | .lst xs => by simp [D.same, sameAll_refl xs]
  | .tup xs => by simp [D.same, sameAll_refl xs]
  | .dct xs => by simp [D.same, sameKv_refl xs]
  | .obj c xs => by simp [D.same, sameAll_refl xs]
  | .exc c xs => by simp [D.same, sameAll_refl xs]
theorem sameAll_refl : ∀ (xs : List D), sameAll xs xs = true
  | [] => rfl
  | x :: xs => by simp [sameAll, D.same_refl x, sameAll_refl xs]
theorem sameKv_refl : ∀ (xs : List (D × D)), sameKv xs xs = true
  | [] => rfl
  | (a, b) :: xs => by simp [sameKv, D.same_refl a, D.same_refl b, sameKv_refl xs]
end
def Ob.sameLst (o : Ob) (xs : List D) : Bool := match o with
  | .lst ys => sameAll ys xs
  | _ => false
@[simp] theorem Ob.sameLst_lst (xs : List D) : (Ob.lst xs).sameLst xs = true := sameAll_refl xs
theorem Ob.sameLst_eq {o : Ob} {xs : List D} (h : o.sameLst xs = true) : o = .lst xs := by
  cases o <;> simp [Ob.sameLst] at h
  rw [sameAll_eq h]

def lenMax : Nat := 1000000
/-- the i-th item, from behind where i is below nought -/
def ixN (n : Nat) (i : Int) : Option Nat := if 0 ≤ i then (if i < n then some i.toNat else none) else if -(n : Int) ≤ i then some (i + n).toNat else none -- pv
def atI (xs : List D) (i : Int) : Option D := (ixN xs.length i).bind fun j => xs[j]?
/-- a slice's bound among n places -/
def cutAt (n d : Nat) : Option Int → Nat
  | none => d
  | some v => if v < 0 then (v + (n : Int)).toNat else min v.toNat n -- pv
def cut (xs : List D) (lo hi : Option Int) : List D := (xs.drop (cutAt xs.length 0 lo)).take (cutAt xs.length xs.length hi - cutAt xs.length 0 lo)
/-- what stands in a box -/
def vw (h : Hs) (d : D) : D := match d with
  | .ref l => (match h[l]? with
    | some (.lst xs) => .lst xs
    | some (.dct kvs) => .dct kvs
    | _ => d)
  | d => d
def tru (d : D) : Option Bool := match d with
  | .non => some false
  | .bl b => some b
  | .int i => some (i != 0)
  | .str x => if x.length ≤ lenMax then some (x.length != 0) else none
  | .tup xs => some (!xs.isEmpty)
  | .lst xs => some (!xs.isEmpty)
  | _ => none
def Ty.holds (t : Ty) (d : D) : Bool := match t, d with
  | .int, .int _ => true | .int, .bl _ => true
  | .bool, .bl _ => true
  | .str, .str _ => true
  | .tuple, .tup _ => true
  | .list, .lst _ => true
  | .dict, .dct _ => true
  | .own c, .obj e _ => c == e
  | _, _ => false

/-! ### operators -/
def mulOk (i j : Int) : Bool := decide (i.natAbs < 2 ^ 64) || decide (j.natAbs < 2 ^ 64) || decide (i.natAbs.log2 + j.natAbs.log2 < 1000000)
def divOk (j : Int) : Bool := decide (0 < j) && decide (j.natAbs.log2 < 9000)
def powOk (i j : Int) : Bool := decide (0 ≤ j) && decide (j ≤ 1000000) && decide (i.natAbs < 2 ^ 64)
def rept (xs : List D) : Nat → List D
  | 0 => []
  | n + 1 => xs ++ rept xs n
def binI (op : BOp) (i j : Int) : Option Int := match op with
  | .add => some (i + j)
  | .sub => some (i - j)
  | .mul => if mulOk i j then some (i * j) else none
  | .fdiv => if divOk j then some (i / j) else none
  | .mod => if 0 < j then some (i % j) else none
  | .pow => if powOk i j then some (i ^ j.toNat) else none
  | .shl => if powOk i j then some (i * 2 ^ j.toNat) else none
  | .shr => if 0 ≤ j then some (i / 2 ^ j.toNat) else none
  | .band => some (Builtin.bitAnd i j)
  | .bxor => some (Builtin.bitXor i j)
def binD (op : BOp) (a b : D) : Option D := match op, a, b with
  | op, .int i, .int j => (binI op i j).map D.int
  | .add, .lst xs, .lst ys => if xs.length + ys.length ≤ lenMax then some (.lst (xs ++ ys)) else none
  | .add, .tup xs, .tup ys => if xs.length + ys.length ≤ lenMax then some (.tup (xs ++ ys)) else none
  | .mul, .lst xs, .int j => if decide (0 ≤ j) && decide (j ≤ 1000000) && decide (xs.length * j.toNat ≤ lenMax) then some (.lst (rept xs j.toNat)) else none
  | _, _, _ => none
def intsOf : List D → Option (List Int)
  | [] => some []
  | .int i :: xs => (intsOf xs).map (i :: ·)
  | _ :: _ => none
def lexLt : List Int → List Int → Bool -- pv
  | [], [] => false
  | [], _ :: _ => true
  | _ :: _, [] => false
  | x :: xs, y :: ys => if x = y then lexLt xs ys else decide (x < y) -- pv
def ltD (a b : D) : Option Bool := match a, b with
  | .int i, .int j => some (decide (i < j))
  | .tup xs, .tup ys => (match intsOf xs, intsOf ys with
    | some is, some js => some (lexLt is js)
    | _, _ => none)
  | _, _ => none
def intLt (a b : D) : Option Bool := match a, b with
  | .int i, .int j => some (decide (i < j))
  | _, _ => none
def inAny (a : D) : List D → Bool
  | [] => false
  | x :: xs => x.eqv a || inAny a xs
def inD (a b : D) : Option Bool := match b with
  | .tup xs => if a.cmpOk && (D.tup xs).cmpOk then some (inAny a xs) else none
  | .lst xs => if a.cmpOk && (D.lst xs).cmpOk then some (inAny a xs) else none
  | _ => none
def D.isNon : D → Bool
  | .non => true
  | _ => false
def isD (a b : D) : Option Bool := match b with
  | .non => some a.isNon
  | .bl y => (match a with | .bl x => some (x == y) | _ => none)
  | _ => none
def cmpD (op : COp) (a b : D) : Option Bool := match op with
  | .eq => if a.cmpOk && b.cmpOk then some (a.eqv b) else none
  | .ne => if a.cmpOk && b.cmpOk then some (!a.eqv b) else none
  | .lt => ltD a b
  | .gt => intLt b a
  | .le => (intLt b a).map (!·)
  | .ge => (intLt a b).map (!·)
  | .is => isD a b
  | .isnot => (isD a b).map (!·)
  | .isin => inD a b
  | .notin => (inD a b).map (!·)
/-- isinstance against built-in types -/
def Ty.plain : Ty → Bool
  | .own _ => false
  | _ => true
def isiD (ts : List Ty) (d : D) : Option Bool := match d with
  | .non => if ts.all Ty.plain then some (ts.any fun t => t.holds .non) else none
  | .bl b => if ts.all Ty.plain then some (ts.any fun t => t.holds (.bl b)) else none
  | .int i => if ts.all Ty.plain then some (ts.any fun t => t.holds (.int i)) else none
  | .str x => if ts.all Ty.plain then some (ts.any fun t => t.holds (.str x)) else none
  | .tup xs => if ts.all Ty.plain then some (ts.any fun t => t.holds (.tup xs)) else none
  | .lst xs => if ts.all Ty.plain then some (ts.any fun t => t.holds (.lst xs)) else none
  | _ => none
def lenD : D → Option Int
  | .tup xs => some xs.length
  | .lst xs => some xs.length
  | .str x => if x.length ≤ lenMax then some x.length else none
  | .scr is => some is.length
  | _ => none
def look (k : D) : List (D × D) → Option D
  | [] => none
  | (a, b) :: r => if a.eqv k then some b else look k r
def idxD (a i : D) : Option D := match a, i with
  | .tup xs, .int k => atI xs k
  | .lst xs, .int k => atI xs k
  | .scr is, .int k => (ixN is.length k).bind fun j => is[j]?.map D.int
  | .dct kvs, k => look k kvs
  | _, _ => none
def insI (i : Int) : List Int → List Int
  | [] => [i]
  | j :: r => if i ≤ j then i :: j :: r else j :: insI i r
def sortI : List Int → List Int
  | [] => []
  | i :: r => insI i (sortI r)
def maxL : List Int → Option Int
  | [] => none
  | i :: r => some (r.foldl max i)
def minL : List Int → Option Int
  | [] => none
  | i :: r => some (r.foldl min i)
/-- the items of a tuple, a list -/
def items : D → Option (List D)
  | .tup xs => some xs
  | .lst xs => some xs
  | _ => none
def lintsD : D → Option (List Int)
  | .lst xs => intsOf xs
  | _ => none
def biD (b : Bi) (ds : List D) : Option D := match b, ds with
  | .len, [a] => (lenD a).map D.int
  | .tuple, [.tup xs] => some (.tup xs)
  | .tuple, [.lst xs] => some (.tup xs)
  | .list, [.tup xs] => some (.lst xs)
  | .list, [.lst xs] => some (.lst xs)
  | .list, [.scr is] => some (.lst (is.map D.int))
  | .int, [.int i] => some (.int i)
  | .int, [.bl b] => some (.int (if b then 1 else 0))
  | .abs, [.int i] => some (.int (if i < 0 then -i else i))
  | .max2, [.int i, .int j] => some (.int (if j > i then j else i))
  | .min2, [.int i, .int j] => some (.int (if j < i then j else i))
  | .maxl, [a] => ((lintsD a).bind maxL).map D.int
  | .minl, [a] => ((lintsD a).bind minL).map D.int
  | .maxd d, [a] => (lintsD a).map fun is => D.int ((maxL is).getD d)
  | .sorted, [a] => (lintsD a).map fun is => .lst ((sortI is).map D.int)
  | .sum, [a] => (lintsD a).map fun is => .int is.sum
  | .str, [.int i] => if i.natAbs.log2 < 1920 then some (.str (toString i)) else none
  | _, _ => none
end PV
/-! S2: the language's runs. -/
namespace PV
open PySem

/-- what the callees do -/
structure Sig where
  call : Nat → List D → Hs → Rs D
  fuel : Nat
  isx : String → Nat → Option Bool
  fns : Nat → List String
/-- is the exception's class one of these -/
def isAny (isx : String → Nat → Option Bool) : List String → Nat → Option Bool
  | [], _ => some false
  | x :: xs, k => (isx x k).bind fun b => (isAny isx xs k).map fun r => b || r
def fldG : List String → String → List D → Option D
  | m :: ms, n, d :: ds => if m = n then some d else fldG ms n ds
  | _, _, _ => none

def ofO {α : Type} (o : Option α) (h : Hs) : Rs α := match o with
  | some a => .ok a h
  | none => .stuck
@[simp] theorem ofO_some {α : Type} (a : α) (h : Hs) : ofO (some a) h = .ok a h := rfl
@[simp] theorem ofO_none {α : Type} (h : Hs) : (ofO none h : Rs α) = .stuck := rfl

mutual
def asg : Tg → D → Ev → Option Ev
  | .slot i, d, ρ => if i < ρ.length then some (ρ.set i (.val d)) else none
  | .tup ts, d, ρ => match d with
    | .tup xs => asgs ts xs ρ
    | _ => none
def asgs : Tgs → List D → Ev → Option Ev
  | .nil, [], ρ => some ρ
  | .cons t ts, x :: xs, ρ => (asg t x ρ).bind fun ρ1 => asgs ts xs ρ1
  | _, _, _ => none
end

mutual
def slo : Tg → List Nat
  | .slot i => [i]
  | .tup ts => slos ts
def slos : Tgs → List Nat
  | .nil => []
  | .cons t ts => slo t ++ slos ts
end
/-- slots forgotten -/
def wipeE (ρ : Ev) : List Nat → Ev
  | [] => ρ
  | i :: is => (wipeE ρ is).set i .non
mutual
/-- no list of the frame's own stands in the target's slots -/
def clear : Tg → Ev → Bool
  | .slot i, ρ => match ρ[i]? with
    | some (.own _) => false
    | none => false
    | _ => true
  | .tup ts, ρ => clears ts ρ
def clears : Tgs → Ev → Bool
  | .nil, _ => true
  | .cons t ts, ρ => clear t ρ && clears ts ρ
end
/-- an exception here is not looked at -/
def Rs.nox {α : Type} (r : Rs α) : Rs α := match r with
  | .ok a h => .ok a h
  | _ => .stuck
@[simp] theorem Rs.nox_ok {α : Type} (a : α) (h : Hs) : (Rs.ok a h).nox = .ok a h := rfl
/-- what a loop walks: its items, and what must not change meanwhile -/
inductive Src where
  | fix (xs : List D) | own (i : Nat) (xs : List D) | box (l : Nat) (xs : List D)
def Src.xs : Src → List D
  | .fix xs => xs | .own _ xs => xs | .box _ xs => xs
def Src.still (s : Src) (ρ : Ev) (h : Hs) : Bool := match s with
  | .fix _ => true
  | .own i xs => (match ρ[i]? with | some (.own o) => o.sameLst xs | _ => false)
  | .box l xs => (match h[l]? with | some o => o.sameLst xs | _ => false)
def rngL (lo : Int) : Nat → List D
  | 0 => []
  | n + 1 => .int lo :: rngL (lo + 1) n
def enumL (i : Int) : List D → List D
  | [] => []
  | x :: xs => .tup [.int i, x] :: enumL (i + 1) xs
def zipL : List D → List D → List D
  | x :: xs, y :: ys => .tup [x, y] :: zipL xs ys
  | _, _ => []
def big (i : Int) : Bool := decide (-(2 ^ 62) ≤ i) && decide (i < 2 ^ 62)
def rngD (a b : D) : Option (List D) := match a, b with
  | .int i, .int j => if big i && big j then some (rngL i (j - i).toNat) else none
  | _, _ => none
/-- a walked value -/
def srcD (h : Hs) (d : D) : Option Src := match d with
  | .tup xs => some (.fix xs)
  | .lst xs => some (.fix xs)
  | .scr is => some (.fix (is.map D.int))
  | .ref l => (match h[l]? with | some (.lst xs) => some (.box l xs) | _ => none)
  | _ => none
def ownD (i : Nat) (ρ : Ev) : Option D := match ρ[i]? with
  | some (.own (.lst xs)) => some (.lst xs)
  | some (.own (.dct kvs)) => some (.dct kvs)
  | _ => none
def slotD (i : Nat) (ρ : Ev) : Option D := match ρ[i]? with
  | some (.val d) => some d
  | _ => none
/-- the loop of a list comprehension -/
def lcGo (f : D → Hs → Rs (Option D)) (still : Hs → Bool) : List D → Hs → Rs (List D)
  | [], h => if still h then .ok [] h else .stuck
  | x :: xs, h => if still h then (f x h).bind fun o h1 => (lcGo f still xs h1).bind fun ys h2 => .ok (match o with | some y => y :: ys | none => ys) h2 else .stuck

mutual
/-- no box within -/
def D.pure : D → Bool
  | .tup xs => pureAll xs | .lst xs => pureAll xs
  | .dct _ => false | .obj _ fs => pureAll fs | .exc _ _ => false | .ref _ => false | .scr _ => true
  | .non => true | .bl _ => true | .int _ => true | .str _ => true
def pureAll : List D → Bool
  | [] => true
  | x :: xs => x.pure && pureAll xs
end
def Ob.pure : Ob → Bool
  | .lst xs => pureAll xs
  | .dct _ => false | .ins _ _ => false | .gone => false
def cutB (d : D) : Option Int := match d with
  | .int i => some i
  | _ => none
section
variable (c : Sig)
mutual
def evE : Ex → Ev → Hs → Rs D
  | .var i, ρ, h => ofO (slotD i ρ) h
  | .cst k, _, h => .ok k.d h
  | .glb _ i, _, h => .ok (.int i) h
  | .tup es, ρ, h => (evEs es ρ h).bind fun ds h1 => .ok (.tup ds) h1
  | .lst box es, ρ, h => (evEs es ρ h).bind fun ds h1 => if box then (if pureAll ds then .ok (.ref h1.length) (h1 ++ [.lst ds]) else .stuck) else .ok (.lst ds) h1
  | .bin op a b, ρ, h => (evR a ρ h).bind fun x h1 => (evR b ρ h1).bind fun y h2 => ofO (binD op (vw h2 x) (vw h2 y)) h2
  | .neg a, ρ, h => (evE a ρ h).bind fun x h1 => match x with
    | .int i => .ok (.int (-i)) h1
    | _ => .stuck
  | .cmp op a b, ρ, h => (evR a ρ h).bind fun x h1 => (evR b ρ h1).bind fun y h2 => ofO ((cmpD op (vw h2 x) (vw h2 y)).map D.bl) h2
  | .chain o1 o2 a b d, ρ, h => (evE a ρ h).bind fun x h1 => (evE b ρ h1).bind fun y h2 => (ofO (cmpD o1 x y) h2).bind fun k h3 =>
    if k then (evE d ρ h3).bind fun z h4 => ofO ((cmpD o2 y z).map D.bl) h4 else .ok (.bl false) h3
  | .not a, ρ, h => (evE a ρ h).bind fun x h1 => match x with
    | .bl k => .ok (.bl (!k)) h1
    | _ => .stuck
  | .and a b, ρ, h => (evE a ρ h).bind fun x h1 => match x with
    | .bl k => if k then evE b ρ h1 else .ok (.bl false) h1
    | _ => .stuck
  | .or a b, ρ, h => (evE a ρ h).bind fun x h1 => match x with
    | .bl k => if k then .ok (.bl true) h1 else evE b ρ h1
    | _ => .stuck
  | .ife t a b, ρ, h => (evT t ρ h).bind fun k h1 => if k then evE a ρ h1 else evE b ρ h1
  | .call f es, ρ, h => (evEs es ρ h).bind fun ds h1 => c.call f ds h1
  | .bi b es, ρ, h => (evRs es ρ h).bind fun ds h1 => ofO (biD b (ds.map (vw h1))) h1
  | .isi a ts, ρ, h => (evR a ρ h).bind fun x h1 => ofO ((isiD ts (vw h1 x)).map D.bl) h1
  | .idx a i, ρ, h => (evR a ρ h).bind fun x h1 => (evE i ρ h1).bind fun y h2 => ofO (idxD (vw h2 x) y) h2
  | .sli a lo hi, ρ, h => (evR a ρ h).bind fun x h1 => (evO lo ρ h1).bind fun l h2 => (evO hi ρ h2).bind fun u h3 => match vw h3 x with
    | .lst xs => .ok (.lst (cut xs l u)) h3
    | .tup xs => .ok (.tup (cut xs l u)) h3
    | _ => .stuck
  | .lc elt t it w, ρ, h => (evI it ρ h).bind fun s h1 => if clear t ρ && decide (s.xs.length ≤ lenMax) then (lcGo (fun x h2 => match asg t x (wipeE ρ (slo t)) with
      | none => .stuck
      | some ρ1 => (evW w ρ1 h2).nox.bind fun k h3 => if k then (evE elt ρ1 h3).nox.bind fun y h4 => .ok (some y) h4 else .ok none h3) (s.still ρ) s.xs h1).bind fun ys h2 => .ok (.lst ys) h2 else .stuck
  | .fld a f, ρ, h => (evE a ρ h).bind fun x h1 => match x with
    | .obj _ fs => ofO fs[f]? h1
    | _ => .stuck
  | .xfld i f, ρ, h => match slotD i ρ with
    | some (.exc k fs) => ofO (fldG (c.fns k) f fs) h
    | _ => .stuck
  | .xis i xs, ρ, h => match slotD i ρ with
    | some (.exc k _) => ofO ((isAny c.isx xs k).map D.bl) h
    | _ => .stuck
/-- a test -/
def evT : Ex → Ev → Hs → Rs Bool
  | .not a, ρ, h => (evT a ρ h).bind fun k h1 => .ok (!k) h1
  | .and a b, ρ, h => (evT a ρ h).bind fun k h1 => if k then evT b ρ h1 else .ok false h1
  | .or a b, ρ, h => (evT a ρ h).bind fun k h1 => if k then .ok true h1 else evT b ρ h1
  | .var i, ρ, h => ofO ((slotD i ρ).bind tru) h
  | .cst k, _, h => ofO (tru k.d) h
  | .cmp op a b, ρ, h => (evR a ρ h).bind fun x h1 => (evR b ρ h1).bind fun y h2 => ofO (cmpD op (vw h2 x) (vw h2 y)) h2
  | .chain o1 o2 a b d, ρ, h => (evE a ρ h).bind fun x h1 => (evE b ρ h1).bind fun y h2 => (ofO (cmpD o1 x y) h2).bind fun k h3 =>
    if k then (evE d ρ h3).bind fun z h4 => ofO (cmpD o2 y z) h4 else .ok false h3
  | .call f es, ρ, h => (evEs es ρ h).bind fun ds h1 => (c.call f ds h1).bind fun x h2 => ofO (tru x) h2
  | .bi b es, ρ, h => (evRs es ρ h).bind fun ds h1 => ofO ((biD b (ds.map (vw h1))).bind tru) h1
  | .isi a ts, ρ, h => (evR a ρ h).bind fun x h1 => ofO (isiD ts (vw h1 x)) h1
  | .idx a i, ρ, h => (evR a ρ h).bind fun x h1 => (evE i ρ h1).bind fun y h2 => (ofO (idxD (vw h2 x) y) h2).bind fun z h3 => ofO (tru z) h3
  | .xis i xs, ρ, h => match slotD i ρ with
    | some (.exc k _) => ofO (isAny c.isx xs k) h
    | _ => .stuck
  | _, _, _ => .stuck
def evEs : Exs → Ev → Hs → Rs (List D)
  | .nil, _, h => .ok [] h
  | .cons e es, ρ, h => (evE e ρ h).bind fun x h1 => (evEs es ρ h1).bind fun xs h2 => .ok (x :: xs) h2
def evO : Exo → Ev → Hs → Rs (Option Int)
  | .none, _, h => .ok none h
  | .some e, ρ, h => (evE e ρ h).bind fun x h1 => match x with
    | .int i => .ok (some i) h1
    | _ => .stuck
def evW : Exo → Ev → Hs → Rs Bool
  | .none, _, h => .ok true h
  | .some e, ρ, h => evT e ρ h
def evR : Op → Ev → Hs → Rs D
  | .own i, ρ, h => ofO (ownD i ρ) h
  | .ex e, ρ, h => evE e ρ h
def evRs : Ops → Ev → Hs → Rs (List D)
  | .nil, _, h => .ok [] h
  | .cons a r, ρ, h => (evR a ρ h).bind fun x h1 => (evRs r ρ h1).bind fun xs h2 => .ok (x :: xs) h2
def evI : It → Ev → Hs → Rs Src
  | .of a, ρ, h => match a with
    | .own i => (match ownD i ρ with | some (.lst xs) => .ok (.own i xs) h | _ => .stuck)
    | .ex e => (evE e ρ h).bind fun x h1 => ofO (srcD h1 x) h1
  | .rng1 a, ρ, h => (evE a ρ h).bind fun x h1 => ofO ((rngD (.int 0) x).map Src.fix) h1
  | .rng2 a b, ρ, h => (evE a ρ h).bind fun x h1 => (evE b ρ h1).bind fun y h2 => ofO ((rngD x y).map Src.fix) h2
  | .rng3 _ _ _, _, _ => .stuck
  | .enum a, ρ, h => (evR a ρ h).bind fun x h1 => ofO ((items x).map fun xs => Src.fix (enumL 0 xs)) h1
  | .zip a b, ρ, h => (evR a ρ h).bind fun x h1 => (evR b ρ h1).bind fun y h2 => ofO ((items x).bind fun xs => (items y).map fun ys => Src.fix (zipL xs ys)) h2
end
end

/-! ### statements -/
mutual
inductive St where
  | set (i : Nat) (e : Ex) | own (i : Nat) (e : Ex) | owd (i : Nat) | frz (i : Nat)
  | app (i : Nat) (e : Ex) | stx (i : Nat) (k e : Ex) | bix (a k e : Ex) | swp (i : Nat) (k1 k2 e1 e2 : Ex)
  | ast (t : Tg) (e : Ex) | par (i j : Nat) (a b : Ex)
  | aug (i : Nat) (op : BOp) (e : Ex) | exp (e : Ex)
  | ret (e : Ex) | retn | ife (c : Ex) (a b : Sts) | whl (c : Ex) (b : Sts) | for (t : Tg) (it : It) (b : Sts)
  | brk | cnt | pas | rse (c : Nat) (es : Exs) | try (b : Sts) (hs : Hds)
inductive Sts where
  | nil | cons (s : St) (r : Sts)
inductive Hds where
  | nil | cons (x : String) (i : Option Nat) (b : Sts) (r : Hds)
end
/-- where a statement ends -/
inductive Fl where
  | nx (ρ : Ev) | ret (d : D) | brk (ρ : Ev) | cnt (ρ : Ev) | xc (c : Nat) (fs : List D) (ρ : Ev)
/-- an exception out of an expression, amid a statement at the slots ρ -/
def lft {α : Type} (ρ : Ev) (r : Rs α) (f : α → Hs → Rs Fl) : Rs Fl := match r with
  | .ok a h => f a h
  | .exc c fs h => .ok (.xc c fs ρ) h
  | .stuck => .stuck
@[simp] theorem lft_ok {α : Type} (ρ : Ev) (a : α) (h : Hs) (f : α → Hs → Rs Fl) : lft ρ (.ok a h) f = f a h := rfl
@[simp] theorem lft_exc {α : Type} (ρ : Ev) (c : Nat) (fs : List D) (h : Hs) (f : α → Hs → Rs Fl) : lft ρ (.exc c fs h : Rs α) f = .ok (.xc c fs ρ) h := rfl
@[simp] theorem lft_stuck {α : Type} (ρ : Ev) (f : α → Hs → Rs Fl) : lft ρ (.stuck : Rs α) f = .stuck := rfl
def forGo (f : D → Ev → Hs → Rs Fl) (still : Ev → Hs → Bool) : List D → Ev → Hs → Rs Fl
  | [], ρ, h => if still ρ h then .ok (.nx ρ) h else .stuck
  | x :: xs, ρ, h => if still ρ h then (f x ρ h).bind fun fl h1 => match fl with
    | .nx ρ1 => forGo f still xs ρ1 h1
    | .cnt ρ1 => forGo f still xs ρ1 h1
    | .brk ρ1 => .ok (.nx ρ1) h1
    | .ret d => .ok (.ret d) h1
    | .xc c fs ρ1 => .ok (.xc c fs ρ1) h1
    else .stuck
def whlGo (c : Ev → Hs → Rs Bool) (f : Ev → Hs → Rs Fl) : Nat → Ev → Hs → Rs Fl
  | 0, _, _ => .stuck
  | n + 1, ρ, h => lft ρ (c ρ h) fun k h1 => if k then (f ρ h1).bind fun fl h2 => match fl with
    | .nx ρ1 => whlGo c f n ρ1 h2
    | .cnt ρ1 => whlGo c f n ρ1 h2
    | .brk ρ1 => .ok (.nx ρ1) h2
    | .ret d => .ok (.ret d) h2
    | .xc c fs ρ1 => .ok (.xc c fs ρ1) h2
    else .ok (.nx ρ) h1
def putS (i : Nat) (s : Sl) (ρ : Ev) : Option Ev := if i < ρ.length then some (ρ.set i s) else none
def nxO (o : Option Ev) (h : Hs) : Rs Fl := match o with
  | some ρ => .ok (.nx ρ) h
  | none => .stuck
def augD (op : BOp) (x y : D) : Option D := match op, x, y with
  | .add, .int i, .int j => some (.int (i + j))
  | .sub, .int i, .int j => some (.int (i - j))
  | _, _, _ => none
def Src.isOwn : Src → Bool
  | .own _ _ => true
  | _ => false
def setL (xs : List D) (k : D) (y : D) : Option (List D) := match k with
  | .int k => (ixN xs.length k).map fun j => xs.set j y
  | _ => none
section
variable (c : Sig)
mutual
def exS : St → Ev → Hs → Rs Fl
  | .set i e, ρ, h => lft ρ (evE c e ρ h) fun d h1 => nxO (putS i (.val d) ρ) h1
  | .own i e, ρ, h => lft ρ (evE c e ρ h) fun d h1 => match d with
    | .lst xs => nxO (putS i (.own (.lst xs)) ρ) h1
    | _ => .stuck
  | .owd i, ρ, h => nxO (putS i (.own (.dct [])) ρ) h
  | .frz i, ρ, h => match ownD i ρ with
    | some d => nxO (putS i (.val d) ρ) h
    | none => .stuck
  | .app i e, ρ, h => match ρ[i]? with
    | some (.own (.lst xs)) => lft ρ (evE c e ρ h) fun d h1 => if xs.length < lenMax then .ok (.nx (ρ.set i (.own (.lst (xs ++ [d]))))) h1 else .stuck
    | _ => .stuck
  | .stx i k e, ρ, h => lft ρ (evE c e ρ h) fun d h1 => match ρ[i]? with
    | some (.own (.lst xs)) => lft ρ (evE c k ρ h1) fun y h2 => nxO ((setL xs y d).map fun xs' => ρ.set i (.own (.lst xs'))) h2
    | _ => .stuck
  | .bix a k e, ρ, h => lft ρ (evE c e ρ h) fun d h1 => lft ρ (evE c a ρ h1) fun b h2 => lft ρ (evE c k ρ h2) fun y h3 => match b with
    | .ref l => (match h3[l]? with
      | some (.lst xs) => (match setL xs y d with
        | some xs' => if d.pure then .ok (.nx ρ) (h3.set l (.lst xs')) else .stuck
        | none => .stuck)
      | _ => .stuck)
    | _ => .stuck
  | .swp i k1 k2 e1 e2, ρ, h => lft ρ (evEs c (.cons e1 (.cons e2 .nil)) ρ h) fun ds h2 => match ds with
    | [d1, d2] => (match ρ[i]? with
      | some (.own (.lst xs)) => lft ρ (evE c k1 ρ h2) fun y1 h3 => (match setL xs y1 d1 with
        | some xs1 => lft (ρ.set i (.own (.lst xs1))) (evE c k2 (ρ.set i (.own (.lst xs1))) h3) fun y2 h4 => nxO ((setL xs1 y2 d2).map fun xs2 => (ρ.set i (.own (.lst xs1))).set i (.own (.lst xs2))) h4
        | none => .stuck)
      | _ => .stuck)
    | _ => .stuck
  | .ast t e, ρ, h => lft ρ (evE c e ρ h) fun d h1 => nxO (asg t d ρ) h1
  | .par i j a b, ρ, h => lft ρ (evE c a ρ h) fun x h1 => lft ρ (evE c b ρ h1) fun y h2 => nxO ((putS i (.val x) ρ).bind fun ρ1 => putS j (.val y) ρ1) h2
  | .aug i op e, ρ, h => match slotD i ρ with
    | some x => lft ρ (evE c e ρ h) fun y h1 => nxO ((augD op x y).bind fun z => putS i (.val z) ρ) h1
    | none => .stuck
  | .exp e, ρ, h => lft ρ (evE c e ρ h) fun _ h1 => .ok (.nx ρ) h1
  | .ret e, ρ, h => lft ρ (evE c e ρ h) fun d h1 => .ok (.ret d) h1
  | .retn, _, h => .ok (.ret .non) h
  | .ife t a b, ρ, h => lft ρ (evT c t ρ h) fun k h1 => if k then exSs a ρ h1 else exSs b ρ h1
  | .whl t b, ρ, h => whlGo (evT c t) (exSs b) c.fuel ρ h
  | .for t it b, ρ, h => lft ρ (evI c it ρ h) fun s h1 => if s.isOwn then .stuck else forGo (fun x ρ1 h2 => match asg t x ρ1 with
    | some ρ2 => exSs b ρ2 h2
    | none => .stuck) s.still s.xs ρ h1
  | .brk, ρ, h => .ok (.brk ρ) h
  | .cnt, ρ, h => .ok (.cnt ρ) h
  | .pas, ρ, h => .ok (.nx ρ) h
  | .rse k es, ρ, h => lft ρ (evEs c es ρ h) fun ds h1 => .ok (.xc k ds ρ) h1
  | .try b hs, ρ, h => (exSs b ρ h).bind fun fl h1 => match fl with
    | .xc k fs ρ1 => exH hs k fs ρ1 h1
    | fl => .ok fl h1
def exSs : Sts → Ev → Hs → Rs Fl
  | .nil, ρ, h => .ok (.nx ρ) h
  | .cons s r, ρ, h => (exS s ρ h).bind fun fl h1 => match fl with
    | .nx ρ1 => exSs r ρ1 h1
    | fl => .ok fl h1
def exH : Hds → Nat → List D → Ev → Hs → Rs Fl
  | .nil, k, fs, ρ, h => .ok (.xc k fs ρ) h
  | .cons x i b r, k, fs, ρ, h => match c.isx x k with
    | some true => (match i with
      | none => (exSs b ρ h).bind fun fl h1 => match fl with
        | .xc _ _ _ => .stuck
        | fl => .ok fl h1
      | some i => (match putS i (.val (.exc k fs)) ρ with
        | some ρ1 => (exSs b ρ1 h).bind fun fl h1 => match fl with
          | .ret d => if d.pure then .ok (.ret d) h1 else .stuck
          | _ => .stuck
        | none => .stuck))
    | some false => exH r k fs ρ h
    | none => .stuck
end
end

/-! ### programs -/
structure Fn where
  ps : List Str
  N : List Str
  body : Sts
  rb : Bool
/-- what leaves a def: the boxes it made are gone; rb: but the one that it hands back -/
def back (rb : Bool) (n : Nat) (d : D) (h : Hs) : Rs D :=
  if h.length = n then .ok d h else if rb then (match d with
    | .ref l => (match h[l]? with
      | some o => if n ≤ l then .ok (.ref n) (h.take n ++ [o]) else .stuck
      | none => .stuck)
    | _ => .stuck) else if d.pure then .ok d (h.take n) else .stuck
def fin (rb : Bool) (n : Nat) (r : Rs Fl) : Rs D := match r with
  | .ok (.nx _) h => back rb n .non h
  | .ok (.ret d) h => back rb n d h
  | .ok (.xc c fs _) h => if h.length = n then .exc c fs h else if pureAll fs then .exc c fs (h.take n) else .stuck
  | _ => .stuck
/-- the slots at a def's entry -/
def ent (F : Fn) (ds : List D) : Ev := ds.map Sl.val ++ List.replicate (F.N.length - ds.length) .non
structure Prg where
  fn : Nat → Option Fn
  fnm : Nat → Str
  cnm : Nat → Str
  con : String → Option Int
  kw : Nat → Nat → Bool
  isx : String → Nat → Option Bool
  fns : Nat → List String
  ini : Nat → Bool
  fuel : Nat
def Prg.sig (P : Prg) (g : Nat → List D → Hs → Rs D) : Sig := ⟨g, P.fuel, P.isx, P.fns⟩
def Prg.run (P : Prg) : Nat → Nat → List D → Hs → Rs D
  | 0, _, _, _ => .stuck
  | k + 1, f, ds, h => match P.fn f with
    | none => .stuck
    | some F => if ds.length = F.ps.length then fin F.rb h.length (exSs (P.sig (P.run k)) F.body (ent F ds) h) else .stuck
end PV
/-! S3: how plain data lies in the abstract heap. -/
namespace PV
open PySem L2

/-- what is fixed through a law's run -/
structure Wd where
  K : PySem.W.Frag
  cls : Nat → Addr
  nms : Nat → List Str
  xo : Addr → Nat → Addr → Prop

/-- the fields of an object, by their names -/
def fldsAt (fl : List (Str × V)) : List Str → List V → Prop
  | [], [] => True
  | n :: ns, v :: vs => fl.lookup n = some v ∧ fldsAt fl ns vs
  | _, _ => False
/-- a written list of numbers -/
def ScrK (K : PySem.W.Frag) (a : Addr) (is : List Int) : Prop :=
  ∃ (o : Obj) (its : Array Value) (n : Nat), K.lookup a = some o ∧ o.cls = .type "list" ∧ o.dict = none ∧ o.data = .seq its n ∧ its.size ≤ sizeLine ∧ Vals (is.map V.int) its.toList
def ScrAt (K : PySem.W.Frag) (H : Hp) (a : Addr) (is : List Int) : Prop := (∃ o, H a = some (.frz o (.lst (is.map V.int)))) ∨ ScrK K a is
theorem ScrAt.sql {K : PySem.W.Frag} {H : Hp} {a : Addr} {is : List Int} (h : ScrAt K H a is) : SqL K H a (is.map V.int) := by
  rcases h with h | h
  · exact .inl (.inr h)
  · exact .inr h

section
variable (w : Wd) (μ : List Addr) (T : Addr → Prop) (H : Hp)
mutual
def Rep : D → V → Prop
  | .non, v => v = .non
  | .bl b, v => v = .bl b
  | .int i, v => v = .int i
  | .str s, v => v = .str s
  | .tup ds, v => ∃ (a : Addr) (xs : List V), v = .ref a ∧ H a = some (.tup xs) ∧ RepL ds xs
  | .lst ds, v => ∃ (a : Addr) (xs : List V), v = .ref a ∧ (¬ T a ∧ a ∉ μ) ∧ H a = some (.lst xs) ∧ RepL ds xs
  | .dct _, _ => False
  | .obj c fs, v => ∃ (a dx : Addr) (fl : List (Str × V)) (vs : List V), v = .ref a ∧ (¬ T a ∧ a ∉ μ) ∧ H a = some (.ins (w.cls c) dx fl) ∧ fldsAt fl (w.nms c) vs ∧ RepL fs vs
  | .exc c fs, v => ∃ (a d : Addr) (fl : List (Str × V)) (vs : List V), v = .ref a ∧ w.xo a c d ∧ (¬ T d ∧ d ∉ μ) ∧ H d = some (.xd fl) ∧ fldsAt fl (w.nms c) vs ∧ RepL fs vs
  | .ref l, v => ∃ a : Addr, v = .ref a ∧ μ[l]? = some a
  | .scr is, v => ∃ a : Addr, v = .ref a ∧ ScrAt w.K H a is
def RepL : List D → List V → Prop
  | [], [] => True
  | d :: ds, v :: vs => Rep d v ∧ RepL ds vs
  | _, _ => False
end
end

/-- what a run leaves: new boxes behind the old ones; all but the boxes' objects is kept -/
structure Step (μ : List Addr) (H : Hp) (μ' : List Addr) (H' : Hp) : Prop where
  ext : ∃ e, μ' = μ ++ e ∧ ∀ a ∈ e, H a = none
  keep : ∀ a o, H a = some o → a ∉ μ → (∀ ps, o ≠ .tbl ps) → H' a = some o
  tup : ∀ a xs, H a = some (.tup xs) → H' a = some (.tup xs)
  frz : ∀ a o u, H a = some (.frz o u) → H' a = some (.frz o u)
  there : ∀ a o, H a = some o → ∃ o', H' a = some o'
theorem Step.refl {μ : List Addr} {H : Hp} : Step μ H μ H :=
  ⟨⟨[], by simp, fun a h => by cases h⟩, fun _ _ h _ _ => h, fun _ _ h => h, fun _ _ _ h => h, fun _ o h => ⟨o, h⟩⟩
theorem Step.trans {μ μ' μ'' : List Addr} {H H' H'' : Hp} (x : Step μ H μ' H') (y : Step μ' H' μ'' H'') : Step μ H μ'' H'' := by
  obtain ⟨e, he, hn⟩ := x.ext
  obtain ⟨f, hf, hm⟩ := y.ext
  refine ⟨⟨e ++ f, by rw [hf, he, List.append_assoc], fun a h => ?_⟩, fun a o h1 h2 h3 => ?_, fun a xs h => y.tup a xs (x.tup a xs h), fun a o u h => y.frz a o u (x.frz a o u h), fun a o h => ?_⟩
  · rcases List.mem_append.mp h with h | h -- pv
    · exact hn a h
    · have z := hm a h
      cases q : H a with
      | none => rfl
      | some o =>
        obtain ⟨o', q'⟩ := x.there a o q
        rw [z] at q'; cases q'
  · have k := x.keep a o h1 h2 h3
    refine y.keep a o k (fun hm => ?_) h3
    rw [he] at hm
    rcases List.mem_append.mp hm with hm | hm -- pv
    · exact h2 hm
    · have := hn a hm
      rw [h1] at this; cases this
  · obtain ⟨o', h'⟩ := x.there a o h
    exact y.there a o' h'
theorem Step.sub {μ μ' : List Addr} {H H' : Hp} (x : Step μ H μ' H') {a : Addr} (h : a ∈ μ) : a ∈ μ' := by
  obtain ⟨e, he, _⟩ := x.ext
  rw [he]; exact List.mem_append_left _ h
theorem Step.at {μ μ' : List Addr} {H H' : Hp} (x : Step μ H μ' H') {l : Nat} {a : Addr} (h : μ[l]? = some a) : μ'[l]? = some a := by
  obtain ⟨e, he, _⟩ := x.ext
  rw [he, List.getElem?_append_left (List.getElem?_eq_some_iff.mp h).1]; exact h
theorem Step.notin {μ μ' : List Addr} {H H' : Hp} (x : Step μ H μ' H') {a : Addr} {o : HO} (h : H a = some o) (n : a ∉ μ) : a ∉ μ' := by
  obtain ⟨e, he, hn⟩ := x.ext
  rw [he]
  intro q
  rcases List.mem_append.mp q with q | q
  · exact n q
  · have := hn a q
    rw [h] at this; cases this

/-- the weaker step: what is no box and not in T is kept -/
structure KStep (μ : List Addr) (T : Addr → Prop) (H : Hp) (μ' : List Addr) (T' : Addr → Prop) (H' : Hp) : Prop where
  ext : ∃ e, μ' = μ ++ e ∧ ∀ a ∈ e, H a = none
  keep : ∀ a o, H a = some o → ¬ T a → a ∉ μ → (∀ ps, o ≠ .tbl ps) → H' a = some o
  tup : ∀ a xs, H a = some (.tup xs) → H' a = some (.tup xs)
  frz : ∀ a o u, H a = some (.frz o u) → H' a = some (.frz o u)
  there : ∀ a o, H a = some o → ∃ o', H' a = some o'
  bad : ∀ a, T' a → T a ∨ H a = none
theorem Step.k {μ μ' : List Addr} {T T' : Addr → Prop} {H H' : Hp} (x : Step μ H μ' H') (ht : ∀ a, T' a → T a ∨ H a = none) : KStep μ T H μ' T' H' :=
  ⟨x.ext, fun a o h _ n k => x.keep a o h n k, x.tup, x.frz, x.there, ht⟩
theorem KStep.notin {μ μ' : List Addr} {T T' : Addr → Prop} {H H' : Hp} (x : KStep μ T H μ' T' H') {a : Addr} {o : HO} (h : H a = some o) (n : a ∉ μ) : a ∉ μ' := by
  obtain ⟨e, he, hn⟩ := x.ext
  rw [he]
  intro q
  rcases List.mem_append.mp q with q | q
  · exact n q
  · have := hn a q
    rw [h] at this; cases this
theorem KStep.at {μ μ' : List Addr} {T T' : Addr → Prop} {H H' : Hp} (x : KStep μ T H μ' T' H') {l : Nat} {a : Addr} (h : μ[l]? = some a) : μ'[l]? = some a := by
  obtain ⟨e, he, _⟩ := x.ext
  rw [he, List.getElem?_append_left (List.getElem?_eq_some_iff.mp h).1]; exact h
theorem KStep.notbad {μ μ' : List Addr} {T T' : Addr → Prop} {H H' : Hp} (x : KStep μ T H μ' T' H') {a : Addr} {o : HO} (h : H a = some o) (n : ¬ T a) : ¬ T' a := fun q => by
  rcases x.bad a q with q | q
  · exact n q
  · rw [h] at q; cases q
theorem KStep.trans {μ μ' μ'' : List Addr} {T T' T'' : Addr → Prop} {H H' H'' : Hp} (x : KStep μ T H μ' T' H') (y : KStep μ' T' H' μ'' T'' H'') : KStep μ T H μ'' T'' H'' := by
  obtain ⟨e, he, hn⟩ := x.ext
  obtain ⟨f, hf, hm⟩ := y.ext
  have back : ∀ a, H' a = none → H a = none := fun a z => by
    cases q : H a with
    | none => rfl
    | some o =>
      obtain ⟨o', q'⟩ := x.there a o q
      rw [z] at q'; cases q'
  refine ⟨⟨e ++ f, by rw [hf, he, List.append_assoc], fun a h => ?_⟩, fun a o h1 h2 h3 h4 => ?_, fun a xs h => y.tup a xs (x.tup a xs h), fun a o u h => y.frz a o u (x.frz a o u h), fun a o h => ?_, fun a q => ?_⟩
  · rcases List.mem_append.mp h with h | h -- pv
    · exact hn a h
    · exact back a (hm a h)
  · exact y.keep a o (x.keep a o h1 h2 h3 h4) (x.notbad h1 h2) (x.notin h1 h3) h4
  · obtain ⟨o', h'⟩ := x.there a o h
    exact y.there a o' h'
  · rcases y.bad a q with q | q
    · exact x.bad a q
    · exact .inr (back a q)
theorem KStep.refl {μ : List Addr} {T : Addr → Prop} {H : Hp} : KStep μ T H μ T H := Step.refl.k fun _ q => .inl q

section
variable {w : Wd} {μ μ' : List Addr} {T T' : Addr → Prop} {H H' : Hp}
mutual
theorem Rep.kstep (x : KStep μ T H μ' T' H') : ∀ {d : D} {v : V}, Rep w μ T H d v → Rep w μ' T' H' d v
  | .non, _, h => h
  | .bl _, _, h => h
  | .int _, _, h => h
  | .str _, _, h => h
  | .tup ds, v, h => by
    obtain ⟨a, xs, e, ha, r⟩ := h
    exact ⟨a, xs, e, x.tup a xs ha, RepL.kstep x r⟩
  | .lst ds, v, h => by
    obtain ⟨a, xs, e, ⟨n1, n2⟩, ha, r⟩ := h
    exact ⟨a, xs, e, ⟨x.notbad ha n1, x.notin ha n2⟩, x.keep a _ ha n1 n2 (fun ps z => by cases z), RepL.kstep x r⟩
  | .dct _, _, h => h.elim
  | .obj c fs, v, h => by
    obtain ⟨a, dx, fl, vs, e, ⟨n1, n2⟩, ha, hf, r⟩ := h
    exact ⟨a, dx, fl, vs, e, ⟨x.notbad ha n1, x.notin ha n2⟩, x.keep a _ ha n1 n2 (fun ps z => by cases z), hf, RepL.kstep x r⟩
  | .exc c fs, v, h => by
    obtain ⟨a, d, fl, vs, e, hx, ⟨n1, n2⟩, ha, hf, r⟩ := h
    exact ⟨a, d, fl, vs, e, hx, ⟨x.notbad ha n1, x.notin ha n2⟩, x.keep d _ ha n1 n2 (fun ps z => by cases z), hf, RepL.kstep x r⟩
  | .ref l, v, h => by
    obtain ⟨a, e, hl⟩ := h
    exact ⟨a, e, x.at hl⟩
  | .scr is, v, h => by
    obtain ⟨a, e, hs⟩ := h
    refine ⟨a, e, ?_⟩
    rcases hs with ⟨o, hs⟩ | hs
    · exact .inl ⟨o, x.frz a o _ hs⟩
    · exact .inr hs
theorem RepL.kstep (x : KStep μ T H μ' T' H') : ∀ {ds : List D} {vs : List V}, RepL w μ T H ds vs → RepL w μ' T' H' ds vs
  | [], [], h => h
  | d :: ds, v :: vs, h => ⟨Rep.kstep x h.1, RepL.kstep x h.2⟩
  | [], _ :: _, h => h.elim
  | _ :: _, [], h => h.elim
end
theorem Rep.step (x : Step μ H μ' H') (ht : ∀ a, T' a → T a ∨ H a = none) {d : D} {v : V} (h : Rep w μ T H d v) : Rep w μ' T' H' d v := h.kstep (x.k ht)
theorem RepL.step (x : Step μ H μ' H') (ht : ∀ a, T' a → T a ∨ H a = none) {ds : List D} {vs : List V} (h : RepL w μ T H ds vs) : RepL w μ' T' H' ds vs := h.kstep (x.k ht)
theorem RepL.len : ∀ {ds : List D} {vs : List V}, RepL w μ T H ds vs → vs.length = ds.length
  | [], [], _ => rfl
  | d :: ds, v :: vs, h => by simp [RepL.len h.2]
  | [], _ :: _, h => h.elim
  | _ :: _, [], h => h.elim
theorem RepL.get : ∀ {ds : List D} {vs : List V} {i : Nat} {d : D}, RepL w μ T H ds vs → ds[i]? = some d → ∃ v, vs[i]? = some v ∧ Rep w μ T H d v
  | d :: ds, v :: vs, 0, e, h, q => by
    simp at q; subst q; exact ⟨v, rfl, h.1⟩
  | d :: ds, v :: vs, i + 1, e, h, q => by
    obtain ⟨u, h1, h2⟩ := RepL.get (i := i) h.2 (by simpa using q)
    exact ⟨u, by simpa using h1, h2⟩ -- pv
  | [], _, _, _, _, q => by simp at q
  | _ :: _, [], _, _, h, _ => h.elim
theorem RepL.app : ∀ {ds es : List D} {vs us : List V}, RepL w μ T H ds vs → RepL w μ T H es us → RepL w μ T H (ds ++ es) (vs ++ us)
  | [], _, [], _, _, s => s
  | _ :: _, _, _ :: _, _, h, s => ⟨h.1, RepL.app h.2 s⟩
  | [], _, _ :: _, _, h, _ => h.elim
  | _ :: _, _, [], _, h, _ => h.elim
theorem RepL.take : ∀ {ds : List D} {vs : List V} (n : Nat), RepL w μ T H ds vs → RepL w μ T H (ds.take n) (vs.take n)
  | [], [], n, _ => by simp; trivial
  | d :: ds, v :: vs, 0, h => by simp; trivial
  | d :: ds, v :: vs, n + 1, h => ⟨h.1, RepL.take n h.2⟩
  | [], _ :: _, _, h => h.elim
  | _ :: _, [], _, h => h.elim
theorem RepL.drop : ∀ {ds : List D} {vs : List V} (n : Nat), RepL w μ T H ds vs → RepL w μ T H (ds.drop n) (vs.drop n)
  | [], [], n, _ => by simp; trivial
  | d :: ds, v :: vs, 0, h => h
  | d :: ds, v :: vs, n + 1, h => by simpa using RepL.drop n h.2
  | [], _ :: _, _, h => h.elim
  | _ :: _, [], _, h => h.elim
theorem RepL.set : ∀ {ds : List D} {vs : List V} (n : Nat) {d : D} {v : V}, RepL w μ T H ds vs → Rep w μ T H d v → RepL w μ T H (ds.set n d) (vs.set n v)
  | [], [], n, _, _, h, _ => h
  | d :: ds, v :: vs, 0, _, _, h, r => ⟨r, h.2⟩
  | d :: ds, v :: vs, n + 1, _, _, h, r => ⟨h.1, RepL.set n h.2 r⟩
  | [], _ :: _, _, _, _, h, _ => h.elim
  | _ :: _, [], _, _, _, h, _ => h.elim
theorem RepL.ofInts : ∀ (is : List Int), RepL w μ T H (is.map D.int) (is.map V.int)
  | [] => trivial
  | i :: is => ⟨rfl, RepL.ofInts is⟩
theorem RepL.toInts : ∀ {ds : List D} {vs : List V} {is : List Int}, intsOf ds = some is → RepL w μ T H ds vs → vs = is.map V.int
  | [], [], is, e, _ => by simp [intsOf] at e; subst e; rfl
  | .int i :: ds, v :: vs, is, e, h => by
    simp only [intsOf, Option.map_eq_some_iff] at e
    obtain ⟨js, e1, rfl⟩ := e
    have := RepL.toInts e1 h.2
    rw [show v = V.int i from h.1, this]; rfl
  | [], _ :: _, _, _, h => h.elim
  | _ :: _, [], _, _, h => h.elim
  | .non :: _, _ :: _, _, e, _ => by simp [intsOf] at e
  | .bl _ :: _, _ :: _, _, e, _ => by simp [intsOf] at e
  | .str _ :: _, _ :: _, _, e, _ => by simp [intsOf] at e
  | .tup _ :: _, _ :: _, _, e, _ => by simp [intsOf] at e
  | .lst _ :: _, _ :: _, _, e, _ => by simp [intsOf] at e
  | .dct _ :: _, _ :: _, _, e, _ => by simp [intsOf] at e
  | .obj _ _ :: _, _ :: _, _, e, _ => by simp [intsOf] at e
  | .exc _ _ :: _, _ :: _, _, e, _ => by simp [intsOf] at e
  | .ref _ :: _, _ :: _, _, e, _ => by simp [intsOf] at e
  | .scr _ :: _, _ :: _, _, e, _ => by simp [intsOf] at e
end

/-- what a box's object is -/
def ObR (w : Wd) (μ : List Addr) (T : Addr → Prop) (H : Hp) (a : Addr) : Ob → Prop
  | .lst ds => ∃ xs, H a = some (.lst xs) ∧ RepL w μ T H ds xs
  | .dct _ => False
  | .ins _ _ => False
  | .gone => False
structure HpR (w : Wd) (μ : List Addr) (T : Addr → Prop) (H : Hp) (h : Hs) : Prop where
  len : μ.length = h.length
  nd : μ.Nodup
  nb : ∀ a ∈ μ, ¬ T a
  bt : ∀ a, T a → ∃ o, H a = some o
  at_ : ∀ (l : Nat) (a : Addr) (o : Ob), μ[l]? = some a → h[l]? = some o → ObR w μ T H a o
  pu : ∀ o ∈ h, o.pure = true
/-- the slots -/
def ownA (θ : Nat → Addr) (ρ : Ev) (a : Addr) : Prop := ∃ (i : Nat) (o : Ob), ρ[i]? = some (.own o) ∧ θ i = a
def Tot (B : Addr → Prop) (θ : Nat → Addr) (ρ : Ev) : Addr → Prop := fun a => B a ∨ ownA θ ρ a
structure EnvR (w : Wd) (μ : List Addr) (B : Addr → Prop) (θ : Nat → Addr) (σ : L2.St) (H : Hp) (ρ : Ev) : Prop where
  len : σ.length = ρ.length
  vals : ∀ (i : Nat) (d : D), ρ[i]? = some (.val d) → ∃ v, σ[i]? = some (some v) ∧ Rep w μ (Tot B θ ρ) H d v
  owns : ∀ (i : Nat) (o : Ob), ρ[i]? = some (.own o) → σ[i]? = some (some (.ref (θ i))) ∧ ¬ B (θ i) ∧ ObR w μ (Tot B θ ρ) H (θ i) o
  inj : ∀ (i j : Nat) (o u : Ob), ρ[i]? = some (.own o) → ρ[j]? = some (.own u) → θ i = θ j → i = j

section
variable {w : Wd} {μ μ' : List Addr} {T T' B : Addr → Prop} {H H' : Hp} {h h' : Hs} {θ : Nat → Addr} {σ : L2.St} {ρ : Ev} {a : Addr}
theorem ObR.there {o : Ob} (x : ObR w μ T H a o) : ∃ u, H a = some u := by
  cases o with
  | lst ds => obtain ⟨xs, e, _⟩ := x; exact ⟨_, e⟩
  | dct _ => exact x.elim
  | ins _ _ => exact x.elim
  | gone => exact x.elim
theorem ObR.step {o : Ob} (s : Step μ H μ' H') (ht : ∀ a, T' a → T a ∨ H a = none) (hk : ∀ u, H a = some u → H' a = some u) (x : ObR w μ T H a o) : ObR w μ' T' H' a o := by
  cases o with
  | lst ds => obtain ⟨xs, e, r⟩ := x; exact ⟨xs, hk _ e, RepL.step s ht r⟩
  | dct _ => exact x.elim
  | ins _ _ => exact x.elim
  | gone => exact x.elim
theorem EnvR.there (E : EnvR w μ B θ σ H ρ) {i : Nat} {o : Ob} (e : ρ[i]? = some (.own o)) : ∃ u, H (θ i) = some u := (E.owns i o e).2.2.there
theorem EnvR.lstAt (E : EnvR w μ B θ σ H ρ) {i : Nat} {xs : List D} (e : ρ[i]? = some (.own (.lst xs))) : ∃ ys, H (θ i) = some (.lst ys) ∧ RepL w μ (Tot B θ ρ) H xs ys := (E.owns i _ e).2.2
/-- the slots behind a step that this frame's lists don't feel -/
theorem EnvR.step (E : EnvR w μ B θ σ H ρ) (W : HpR w μ (Tot B θ ρ) H h) (s : Step μ H μ' H') : EnvR w μ' B θ σ H' ρ := by
  refine ⟨E.len, fun i d e => ?_, fun i o e => ?_, E.inj⟩
  · obtain ⟨v, h1, h2⟩ := E.vals i d e
    exact ⟨v, h1, h2.step s fun _ q => .inl q⟩
  · obtain ⟨h1, h2, h3⟩ := E.owns i o e
    refine ⟨h1, h2, ObR.step s (fun _ q => .inl q) (fun u q => ?_) h3⟩
    have hT : Tot B θ ρ (θ i) := .inr ⟨i, o, e, rfl⟩
    refine s.keep _ _ q (fun hm => W.nb _ hm hT) fun ps z => ?_
    subst z
    cases o with
    | lst ds => obtain ⟨xs, e', _⟩ := h3; rw [q] at e'; cases e'
    | dct _ => exact h3.elim
    | ins _ _ => exact h3.elim
    | gone => exact h3.elim

/-- a new object that is no box -/
theorem Step.alloc {p : Addr} {o : HO} (hp : H p = none) : Step μ H μ (upd H p o) :=
  ⟨⟨[], by simp, fun a h => by cases h⟩, fun a u e _ _ => by rw [upd_ne (ne_of_none e hp)]; exact e, fun a xs e => by rw [upd_ne (ne_of_none e hp)]; exact e,
    fun a u z e => by rw [upd_ne (ne_of_none e hp)]; exact e, fun a u e => ⟨u, by rw [upd_ne (ne_of_none e hp)]; exact e⟩⟩
theorem HpR.step0 (W : HpR w μ T H h) (s : Step μ H μ H') (hk : ∀ a u, a ∈ μ → H a = some u → H' a = some u) : HpR w μ T H' h := by
  refine ⟨W.len, W.nd, W.nb, fun a q => ?_, fun l a o h1 h2 => ?_, ?_⟩
  · obtain ⟨o, e⟩ := W.bt a q
    exact s.there a o e
  · exact ObR.step s (fun _ q => .inl q) (fun u q => hk a u (List.mem_of_getElem? h1) q) (W.at_ l a o h1 h2)
  · exact W.pu
theorem HpR.boxThere (W : HpR w μ T H h) (hm : a ∈ μ) : ∃ u, H a = some u := by
  obtain ⟨l, hl⟩ := List.mem_iff_getElem?.mp hm
  have hlt : l < h.length := by rw [← W.len]; exact (List.getElem?_eq_some_iff.mp hl).1
  exact (W.at_ l a _ hl (List.getElem?_eq_getElem hlt)).there
theorem HpR.alloc {p : Addr} {o : HO} (W : HpR w μ T H h) (hp : H p = none) : HpR w μ T (upd H p o) h :=
  W.step0 (Step.alloc hp) fun a u _ e => by rw [upd_ne (ne_of_none e hp)]; exact e
theorem HpR.newNotBox {p : Addr} (W : HpR w μ T H h) (hp : H p = none) : ¬ T p ∧ p ∉ μ := by
  refine ⟨fun q => ?_, fun q => ?_⟩ -- pv
  · obtain ⟨o, e⟩ := W.bt p q
    rw [hp] at e; cases e
  · obtain ⟨u, e⟩ := W.boxThere q
    rw [hp] at e; cases e
end
end PV
/-! S4: operators and built-in calls, by values. -/
namespace PV
open PySem L2

/-- read only: where the list stands does not matter -/
def Rd8 (w : Wd) (μ : List Addr) (T : Addr → Prop) (H : Hp) : D → V → Prop
  | .lst ds, v => ∃ (a : Addr) (xs : List V), v = .ref a ∧ H a = some (.lst xs) ∧ RepL w μ T H ds xs
  | d, v => Rep w μ T H d v
def Rd8L (w : Wd) (μ : List Addr) (T : Addr → Prop) (H : Hp) : List D → List V → Prop
  | [], [] => True
  | d :: ds, v :: vs => Rd8 w μ T H d v ∧ Rd8L w μ T H ds vs
  | _, _ => False
section
variable {w : Wd} {μ : List Addr} {T : Addr → Prop} {H : Hp}
theorem Rep.rd {d : D} {v : V} (r : Rep w μ T H d v) : Rd8 w μ T H d v := by
  cases d with
  | lst ds => obtain ⟨a, xs, e, _, ha, q⟩ := r; exact ⟨a, xs, e, ha, q⟩
  | _ => exact r
theorem Rd8.int {i : Int} {v : V} (r : Rd8 w μ T H (.int i) v) : v = .int i := r
theorem Rd8.lst {ds : List D} {v : V} (r : Rd8 w μ T H (.lst ds) v) : ∃ (a : Addr) (xs : List V), v = .ref a ∧ H a = some (.lst xs) ∧ RepL w μ T H ds xs := r
theorem Rd8.tup {ds : List D} {v : V} (r : Rd8 w μ T H (.tup ds) v) : ∃ (a : Addr) (xs : List V), v = .ref a ∧ H a = some (.tup xs) ∧ RepL w μ T H ds xs := r

/-! ### flat data as the library's -/
mutual
def D.py : D → PyData
  | .non => .none | .bl b => .bool b | .int i => .int i | .str x => .str x
  | .tup xs => .tuple (pyAll xs) | .lst xs => .list (pyAll xs)
  | .dct _ => .none | .obj _ _ => .none | .exc _ _ => .none | .ref _ => .none | .scr _ => .none
def pyAll : List D → List PyData
  | [] => []
  | x :: xs => x.py :: pyAll xs
end
mutual
theorem flat_lay : ∀ {d : D}, d.flat = true → d.py.canLay0 = true
  | .non, _ => rfl
  | .bl _, _ => rfl
  | .int _, _ => rfl
  | .str x, h => h
  | .tup xs, h => by simp only [D.flat] at h; simpa [D.py, PyData.canLay0] using flat_layAll h
  | .lst xs, h => by simp only [D.flat] at h; simpa [D.py, PyData.canLay0] using flat_layAll h
  | .dct _, h => by simp [D.flat] at h
  | .obj _ _, h => by simp [D.flat] at h
  | .exc _ _, h => by simp [D.flat] at h
  | .ref _, h => by simp [D.flat] at h
  | .scr _, h => by simp [D.flat] at h
theorem flat_layAll : ∀ {ds : List D}, flatAll ds = true → PyData.canLayAll0 (pyAll ds) = true
  | [], _ => rfl
  | d :: ds, h => by
    simp only [flatAll, Bool.and_eq_true] at h
    simp [pyAll, PyData.canLayAll0, flat_lay h.1, flat_layAll h.2]
end
mutual
theorem dep_py : ∀ {d : D}, d.flat = true → d.py.depth = d.dep
  | .non, _ => rfl
  | .bl _, _ => rfl
  | .int _, _ => rfl
  | .str x, h => rfl
  | .tup xs, h => by simp only [D.flat] at h; simp [D.py, PyData.depth, D.dep, dep_pyAll h]
  | .lst xs, h => by simp only [D.flat] at h; simp [D.py, PyData.depth, D.dep, dep_pyAll h]
  | .dct _, h => by simp [D.flat] at h
  | .obj _ _, h => by simp [D.flat] at h
  | .exc _ _, h => by simp [D.flat] at h
  | .ref _, h => by simp [D.flat] at h
  | .scr _, h => by simp [D.flat] at h
theorem dep_pyAll : ∀ {ds : List D}, flatAll ds = true → PyData.depthAll (pyAll ds) = depAll ds
  | [], _ => rfl
  | d :: ds, h => by
    simp only [flatAll, Bool.and_eq_true] at h
    simp [pyAll, PyData.depthAll, depAll, dep_py h.1, dep_pyAll h.2]
end
theorem cmpOk_shaped {d : D} (h : d.cmpOk = true) : SeqAt.shaped d.py = true := by
  simp only [D.cmpOk, Bool.and_eq_true, decide_eq_true_eq] at h
  simp [SeqAt.shaped, flat_lay h.1, dep_py h.1, h.2]
mutual
theorem eqv_py : ∀ {a b : D}, a.flat = true → b.flat = true → PyData.eqv a.py b.py = a.eqv b
  | .non, b, _, hb => by cases b <;> simp_all [D.flat, D.py, PyData.eqv, D.eqv]
  | .bl x, b, _, hb => by cases b <;> simp_all [D.flat, D.py, PyData.eqv, D.eqv]
  | .int x, b, _, hb => by cases b <;> simp_all [D.flat, D.py, PyData.eqv, D.eqv]
  | .str x, b, _, hb => by cases b <;> simp_all [D.flat, D.py, PyData.eqv, D.eqv]
  | .tup xs, b, ha, hb => by
    cases b with
    | tup ys => simp only [D.flat] at ha hb; simp [D.py, PyData.eqv, D.eqv, eqv_pyAll ha hb]
    | _ => simp_all [D.flat, D.py, PyData.eqv, D.eqv]
  | .lst xs, b, ha, hb => by
    cases b with
    | lst ys => simp only [D.flat] at ha hb; simp [D.py, PyData.eqv, D.eqv, eqv_pyAll ha hb]
    | _ => simp_all [D.flat, D.py, PyData.eqv, D.eqv]
  | .dct _, _, h, _ => by simp [D.flat] at h
  | .obj _ _, _, h, _ => by simp [D.flat] at h
  | .exc _ _, _, h, _ => by simp [D.flat] at h
  | .ref _, _, h, _ => by simp [D.flat] at h
  | .scr _, _, h, _ => by simp [D.flat] at h
theorem eqv_pyAll : ∀ {xs ys : List D}, flatAll xs = true → flatAll ys = true → PyData.eqvAll (pyAll xs) (pyAll ys) = eqvAll xs ys
  | [], [], _, _ => rfl
  | [], _ :: _, _, _ => rfl
  | _ :: _, [], _, _ => rfl
  | x :: xs, y :: ys, ha, hb => by
    simp only [flatAll, Bool.and_eq_true] at ha hb
    simp [pyAll, PyData.eqvAll, eqvAll, eqv_py ha.1 hb.1, eqv_pyAll ha.2 hb.2]
end
mutual
theorem Rep.dp : ∀ {d : D} {v : V}, d.flat = true → Rep w μ T H d v → Dp w.K H v d.py
  | .non, v, _, r => by rw [show v = V.non from r]; exact .non
  | .bl b, v, _, r => by rw [show v = V.bl b from r]; exact .bl b
  | .int i, v, _, r => by rw [show v = V.int i from r]; exact .int i
  | .str x, v, _, r => by rw [show v = V.str x from r]; exact .str x
  | .tup ds, v, h, r => by
    simp only [D.flat] at h
    obtain ⟨a, xs, e, ha, q⟩ := r
    rw [e]; exact .tup (SqT.of ha) (RepL.dp h q)
  | .lst ds, v, h, r => by
    simp only [D.flat] at h
    obtain ⟨a, xs, e, _, ha, q⟩ := r
    rw [e]; exact .lst (SqL.of ha) (RepL.dp h q)
  | .dct _, _, h, _ => by simp [D.flat] at h
  | .obj _ _, _, h, _ => by simp [D.flat] at h
  | .exc _ _, _, h, _ => by simp [D.flat] at h
  | .ref _, _, h, _ => by simp [D.flat] at h
  | .scr _, _, h, _ => by simp [D.flat] at h
theorem RepL.dp : ∀ {ds : List D} {vs : List V}, flatAll ds = true → RepL w μ T H ds vs → DpAll w.K H vs (pyAll ds)
  | [], [], _, _ => .nil
  | d :: ds, v :: vs, h, r => by
    simp only [flatAll, Bool.and_eq_true] at h
    exact .cons (Rep.dp h.1 r.1) (RepL.dp h.2 r.2)
  | [], _ :: _, _, r => r.elim
  | _ :: _, [], _, r => r.elim
end
theorem Rd8.dp {d : D} {v : V} (h : d.flat = true) (r : Rd8 w μ T H d v) : Dp w.K H v d.py := by
  cases d with
  | lst ds =>
    simp only [D.flat] at h
    obtain ⟨a, xs, e, ha, q⟩ := r
    rw [e]; exact .lst (SqL.of ha) (RepL.dp h q)
  | _ => exact Rep.dp (μ := μ) (T := T) h r
end

/-- what an operation yields: the value z, over a heap in which all but new objects stands as it stood -/
def Yd (w : Wd) (μ : List Addr) (T : Addr → Prop) (H : Hp) (h : Hs) (z : D) (Q : VK) : Prop :=
  ∀ v' H', Step μ H μ H' → HpR w μ T H' h → Rep w μ T H' z v' → Q v' H'
section
variable {w : Wd} {μ : List Addr} {T : Addr → Prop} {H : Hp} {h : Hs} {z : D} {Q : VK}
theorem Yd.here {v : V} (y : Yd w μ T H h z Q) (W : HpR w μ T H h) (r : Rep w μ T H z v) : Q v H := y v H Step.refl W r
theorem Yd.tup {ds : List D} {xs : List V} (y : Yd w μ T H h (.tup ds) Q) (W : HpR w μ T H h) (r : RepL w μ T H ds xs) {p : Addr} (hp : H p = none) : Q (.ref p) (upd H p (.tup xs)) :=
  y _ _ (Step.alloc hp) (W.alloc hp) ⟨p, xs, rfl, upd_same, RepL.step (Step.alloc hp) (fun _ q => .inl q) r⟩
theorem Yd.lst {ds : List D} {xs : List V} (y : Yd w μ T H h (.lst ds) Q) (W : HpR w μ T H h) (r : RepL w μ T H ds xs) {p : Addr} (hp : H p = none) : Q (.ref p) (upd H p (.lst xs)) :=
  y _ _ (Step.alloc hp) (W.alloc hp) ⟨p, xs, rfl, W.newNotBox hp, upd_same, RepL.step (Step.alloc hp) (fun _ q => .inl q) r⟩
end

theorem lenMax_line {n : Nat} (h : n ≤ lenMax) : n ≤ sizeLine := by
  rw [sizeLine_eq]
  exact Nat.le_trans h (by decide)
theorem rept_len (xs : List D) : ∀ n, (rept xs n).length = xs.length * n
  | 0 => by simp [rept]
  | n + 1 => by simp [rept, rept_len xs n, Nat.mul_succ, Nat.add_comm]
theorem RepL.rept {w : Wd} {μ : List Addr} {T : Addr → Prop} {H : Hp} {ds : List D} {vs : List V} (r : RepL w μ T H ds vs) : ∀ n, RepL w μ T H (PV.rept ds n) (List.replicate n vs).flatten
  | 0 => trivial
  | n + 1 => by
    rw [List.replicate_succ, List.flatten_cons] -- pv
    exact RepL.app r (RepL.rept r n)
theorem cut_rep {w : Wd} {μ : List Addr} {T : Addr → Prop} {H : Hp} {ds : List D} {vs : List V} (r : RepL w μ T H ds vs) (lo hi : Option Int) : RepL w μ T H (cut ds lo hi) (cutV vs lo hi) := by
  have e : ∀ n d o, cutAt n d o = HT.sIx n d o := fun n d o => by cases o <;> rfl
  unfold cut cutV
  rw [e, e, r.len]
  exact RepL.take _ (RepL.drop _ r)

/-! ### operators -/
def opB : BOp → Operator
  | .add => .Add | .sub => .Sub | .mul => .Mult | .fdiv => .FloorDiv | .mod => .Mod | .pow => .Pow | .shl => .LShift | .shr => .RShift | .band => .BitAnd | .bxor => .BitXor
def opC : COp → CmpOp
  | .eq => .Eq | .ne => .NotEq | .lt => .Lt | .le => .LtE | .gt => .Gt | .ge => .GtE | .is => .Is | .isnot => .IsNot | .isin => .In | .notin => .NotIn
def rBin (w : Wd) (op : BOp) : R2 := fun vx vy H Q => ∃ μ T h x y z, HpR w μ T H h ∧ Rd8 w μ T H x vx ∧ Rd8 w μ T H y vy ∧ binD op x y = some z ∧ Yd w μ T H h z Q
def rCmp (w : Wd) (op : COp) : R2 := fun vx vy H Q => ∃ μ T h x y k, HpR w μ T H h ∧ Rd8 w μ T H x vx ∧ Rd8 w μ T H y vy ∧ cmpD op x y = some k ∧ Q (.bl k) H

section
variable {X : Cx} {w : Wd}
theorem bin_int {op : BOp} {i j k : Int} (e : binI op i j = some k) : ∃ r : R2, OpR X (binaryOp (opB op)) r ∧ ∀ H Q, Q (.int k) H → r (.int i) (.int j) H Q := by
  cases op with
  | add => cases e; exact ⟨_, op_add, fun H Q q => ⟨i, j, rfl, rfl, q⟩⟩
  | sub => cases e; exact ⟨_, op_sub, fun H Q q => ⟨i, j, rfl, rfl, q⟩⟩
  | mul =>
    simp only [binI] at e
    split at e
    · rename_i hm
      cases e
      simp only [mulOk, Bool.or_eq_true, decide_eq_true_eq] at hm
      rcases hm with (hm | hm) | hm
      · exact ⟨_, op_mul, fun H Q q => ⟨i, j, rfl, rfl, .inl ⟨by omega, by omega⟩, q⟩⟩
      · exact ⟨_, op_mul, fun H Q q => ⟨i, j, rfl, rfl, .inr ⟨by omega, by omega⟩, q⟩⟩
      · exact ⟨_, op_mulW, fun H Q q => ⟨i, j, rfl, rfl, hm, q⟩⟩
    · cases e
  | fdiv =>
    simp only [binI] at e
    split at e
    · rename_i hm
      cases e
      simp only [divOk, Bool.and_eq_true, decide_eq_true_eq] at hm
      exact ⟨_, op_fdivW, fun H Q q => ⟨i, j, rfl, rfl, hm, q⟩⟩
    · cases e
  | mod =>
    simp only [binI] at e
    split at e
    · rename_i hm
      cases e
      exact ⟨_, op_mod, fun H Q q => ⟨i, j, rfl, rfl, hm, q⟩⟩
    · cases e
  | pow =>
    simp only [binI] at e
    split at e
    · rename_i hm
      cases e
      simp only [powOk, Bool.and_eq_true, decide_eq_true_eq] at hm
      exact ⟨_, op_pow, fun H Q q => ⟨i, j, rfl, rfl, ⟨hm.1.1, hm.1.2, hm.2⟩, q⟩⟩
    · cases e
  | shl =>
    simp only [binI] at e
    split at e
    · rename_i hm
      cases e
      simp only [powOk, Bool.and_eq_true, decide_eq_true_eq] at hm
      exact ⟨_, op_shl, fun H Q q => ⟨i, j, rfl, rfl, ⟨hm.1.1, hm.1.2, hm.2⟩, q⟩⟩
    · cases e
  | shr =>
    simp only [binI] at e
    split at e
    · rename_i hm
      cases e
      exact ⟨_, op_shr, fun H Q q => ⟨i, j, rfl, rfl, hm, q⟩⟩
    · cases e
  | band => cases e; exact ⟨_, op_and, fun H Q q => ⟨i, j, rfl, rfl, q⟩⟩
  | bxor => cases e; exact ⟨_, op_xor, fun H Q q => ⟨i, j, rfl, rfl, q⟩⟩

theorem bin_ok (op : BOp) (hK : X.K = w.K) : OpR X (binaryOp (opB op)) (rBin w op) := by
  intro pins s σ H vx vy v u Q I r1 r2 hh
  obtain ⟨μ, T, h, x, y, z, W, rx, ry, e, yd⟩ := hh
  have viaInt : ∀ i j, x = .int i → y = .int j → wpAny (model X.prog X.w) X.A (binaryOp (opB op) v u) (EP X pins σ Q) X.xe s := by
    rintro i j rfl rfl
    have e' : (binI op i j).map D.int = some z := by cases op <;> exact e
    obtain ⟨k, ek, rfl⟩ := Option.map_eq_some_iff.mp e'
    obtain ⟨r, hr, hq⟩ := bin_int (X := X) ek
    refine hr pins s σ H vx vy v u Q I r1 r2 ?_
    rw [show vx = V.int i from rx, show vy = V.int j from ry]
    exact hq H Q (yd.here W rfl)
  unfold binD at e
  split at e
  · exact viaInt _ _ rfl rfl
  · rename_i xs ys
    split at e
    · rename_i hl
      cases e
      obtain ⟨a, vs, rfl, ha, ra⟩ := rx
      obtain ⟨b, us, rfl, hb, rb⟩ := ry
      exact op_cat pins s σ H _ _ v u Q I r1 r2 ⟨a, b, vs, us, rfl, rfl, ha, hb, by rw [ra.len, rb.len]; exact lenMax_line hl, fun p hp => yd.lst W (RepL.app ra rb) hp⟩
    · cases e
  · rename_i xs ys
    split at e
    · rename_i hl
      cases e
      obtain ⟨a, vs, rfl, ha, ra⟩ := rx
      obtain ⟨b, us, rfl, hb, rb⟩ := ry
      refine op_catA pins s σ H _ _ v u Q I r1 r2 ⟨a, b, vs, us, rfl, rfl, SqT.of ha, SqT.of hb, by rw [ra.len, rb.len]; exact lenMax_line hl, fun e0 => ?_, fun _ e0 => ?_, fun _ _ p hp => yd.tup W (RepL.app ra rb) hp⟩
      · subst e0
        have : xs = [] := by have := ra.len; simpa using this.symm
        subst this
        exact yd.here W ⟨b, us, rfl, hb, rb⟩
      · subst e0
        have : ys = [] := by have := rb.len; simpa using this.symm
        subst this
        exact yd.here W ⟨a, vs, rfl, ha, by simpa using ra⟩
    · cases e
  · rename_i xs j
    split at e
    · rename_i hl
      cases e
      simp only [Bool.and_eq_true, decide_eq_true_eq] at hl
      obtain ⟨a, vs, rfl, ha, ra⟩ := rx
      rw [show vy = V.int j from ry] at r2
      exact op_rep pins s σ H _ _ v u Q I r1 r2 ⟨a, j, vs, rfl, rfl, ha, by omega, by omega, by rw [ra.len]; exact lenMax_line hl.2, fun p hp => yd.lst W (RepL.rept ra _) hp⟩
    · cases e
  · cases e

theorem lexLt_eq : ∀ xs ys : List Int, lexLt xs ys = HT.lexLt xs ys
  | [], [] => rfl
  | [], _ :: _ => rfl
  | _ :: _, [] => rfl
  | x :: xs, y :: ys => by rw [lexLt, HT.lexLt_cons, lexLt_eq xs ys]
theorem intLt_ints {x y : D} {k : Bool} (e : intLt x y = some k) : ∃ i j, x = .int i ∧ y = .int j ∧ k = decide (i < j) := by
  unfold intLt at e
  split at e
  · cases e; exact ⟨_, _, rfl, rfl, rfl⟩
  · cases e
theorem any_py (a : D) : ∀ xs : List D, a.flat = true → flatAll xs = true → ((pyAll xs).any fun z => PyData.eqv z a.py) = inAny a xs
  | [], _, _ => rfl
  | x :: xs, ha, h => by
    simp only [flatAll, Bool.and_eq_true] at h
    simp [pyAll, inAny, eqv_py h.1 ha, any_py a xs ha h.2]
theorem in_ok {x y : D} {k : Bool} {vx vy : V} {μ : List Addr} {T : Addr → Prop} {pins : List (Addr × Obj)} {s : Shared} {σ : L2.St} {H : Hp} {v u : Value} (I : Inv X pins σ H s) (r1 : RelV vx v) (r2 : RelV vy u) (hK : X.K = w.K)
    (rx : Rd8 w μ T H x vx) (ry : Rd8 w μ T H y vy) (e : inD x y = some k) :
    ∃ (d : PyData) (ds : List PyData) (as bs : List Addr), SeqAt.shaped d = true ∧ Reads s.heap v d as ∧ (ds.any fun z => PyData.eqv z d) = k ∧
      ((SeqAt.shaped (.list ds) = true ∧ Reads s.heap u (.list ds) bs) ∨ (SeqAt.shaped (.tuple ds) = true ∧ Reads s.heap u (.tuple ds) bs)) := by
  unfold inD at e
  split at e
  · rename_i xs
    split at e
    · rename_i hc
      cases e
      simp only [Bool.and_eq_true] at hc -- pv
      have fx : x.flat = true := by have := hc.1; simp only [D.cmpOk, Bool.and_eq_true] at this; exact this.1
      have fy : (D.tup xs).flat = true := by have := hc.2; simp only [D.cmpOk, Bool.and_eq_true] at this; exact this.1
      obtain ⟨as, q1⟩ := Dp.reads I x.py vx v (by rw [hK]; exact rx.dp fx) r1
      obtain ⟨bs, q2⟩ := Dp.reads I (D.tup xs).py vy u (by rw [hK]; exact ry.dp fy) r2
      exact ⟨x.py, pyAll xs, as, bs, cmpOk_shaped hc.1, q1, any_py x xs fx (by simpa [D.flat] using fy), .inr ⟨cmpOk_shaped hc.2, q2⟩⟩
    · cases e
  · rename_i xs
    split at e
    · rename_i hc
      cases e
      simp only [Bool.and_eq_true] at hc -- pv
      have fx : x.flat = true := by have := hc.1; simp only [D.cmpOk, Bool.and_eq_true] at this; exact this.1
      have fy : (D.lst xs).flat = true := by have := hc.2; simp only [D.cmpOk, Bool.and_eq_true] at this; exact this.1
      obtain ⟨as, q1⟩ := Dp.reads I x.py vx v (by rw [hK]; exact rx.dp fx) r1
      obtain ⟨bs, q2⟩ := Dp.reads I (D.lst xs).py vy u (by rw [hK]; exact ry.dp fy) r2
      exact ⟨x.py, pyAll xs, as, bs, cmpOk_shaped hc.1, q1, any_py x xs fx (by simpa [D.flat] using fy), .inl ⟨cmpOk_shaped hc.2, q2⟩⟩
    · cases e
  · cases e
theorem cmp_ok (op : COp) (hK : X.K = w.K) (hu : X.A.units + 65 < cLine) : OpR X (compareOp (opC op)) (rCmp w op) := by
  intro pins s σ H vx vy v u Q I r1 r2 hh
  obtain ⟨μ, T, h, x, y, k, W, rx, ry, e, q⟩ := hh
  cases op with
  | eq =>
    simp only [cmpD] at e
    split at e
    · rename_i hc
      cases e
      simp only [Bool.and_eq_true] at hc -- pv
      have fx : x.flat = true := by have := hc.1; simp only [D.cmpOk, Bool.and_eq_true] at this; exact this.1
      have fy : y.flat = true := by have := hc.2; simp only [D.cmpOk, Bool.and_eq_true] at this; exact this.1
      refine op_eqD (by omega) pins s σ H vx vy v u Q I r1 r2 ⟨x.py, y.py, ?_, ?_, cmpOk_shaped hc.1, cmpOk_shaped hc.2, ?_⟩
      · rw [hK]; exact rx.dp fx
      · rw [hK]; exact ry.dp fy
      · rw [eqv_py fx fy]; exact q
    · cases e
  | ne =>
    simp only [cmpD] at e
    split at e
    · rename_i hc
      cases e
      simp only [Bool.and_eq_true] at hc -- pv
      have fx : x.flat = true := by have := hc.1; simp only [D.cmpOk, Bool.and_eq_true] at this; exact this.1
      have fy : y.flat = true := by have := hc.2; simp only [D.cmpOk, Bool.and_eq_true] at this; exact this.1
      refine op_neD (by omega) pins s σ H vx vy v u Q I r1 r2 ⟨x.py, y.py, ?_, ?_, cmpOk_shaped hc.1, cmpOk_shaped hc.2, ?_⟩
      · rw [hK]; exact rx.dp fx
      · rw [hK]; exact ry.dp fy
      · rw [eqv_py fx fy]; exact q
    · cases e
  | lt =>
    simp only [cmpD, ltD] at e
    split at e
    · rename_i i j
      cases e
      exact op_lt pins s σ H vx vy v u Q I r1 r2 ⟨i, j, rx, ry, q⟩
    · rename_i xs ys
      split at e
      · rename_i is js e1 e2
        cases e
        obtain ⟨a, vs, ea, ha, ra⟩ := rx.tup
        obtain ⟨b, us, eb, hb, rb⟩ := ry.tup
        have va := RepL.toInts e1 ra
        have vb := RepL.toInts e2 rb
        refine op_ltT (by omega) pins s σ H vx vy v u Q I r1 r2 ⟨a, b, is, js, ea, eb, ?_, ?_, ?_⟩
        · rw [← va]; exact SqT.of ha
        · rw [← vb]; exact SqT.of hb
        · rw [← lexLt_eq]; exact q
      · cases e
    · cases e
  | gt =>
    obtain ⟨i, j, rfl, rfl, rfl⟩ := intLt_ints e
    exact op_gt pins s σ H vx vy v u Q I r1 r2 ⟨j, i, rx, ry, q⟩
  | le =>
    simp only [cmpD, Option.map_eq_some_iff] at e
    obtain ⟨b, e, rfl⟩ := e
    obtain ⟨i, j, rfl, rfl, rfl⟩ := intLt_ints e
    refine op_le pins s σ H vx vy v u Q I r1 r2 ⟨j, i, rx, ry, ?_⟩
    have : decide (j ≤ i) = !decide (i < j) := by by_cases hij : i < j <;> simp [hij] <;> omega
    show Q (.bl (decide (j ≤ i))) H
    rw [this]; exact q
  | ge =>
    simp only [cmpD, Option.map_eq_some_iff] at e
    obtain ⟨b, e, rfl⟩ := e
    obtain ⟨i, j, rfl, rfl, rfl⟩ := intLt_ints e
    refine op_ge pins s σ H vx vy v u Q I r1 r2 ⟨i, j, rx, ry, ?_⟩
    have : decide (j ≤ i) = !decide (i < j) := by by_cases hij : i < j <;> simp [hij] <;> omega
    show Q (.bl (decide (j ≤ i))) H
    rw [this]; exact q
  | is =>
    simp only [cmpD, isD] at e
    split at e
    · cases e
      refine op_isN pins s σ H vx vy v u Q I r1 r2 ⟨ry, ?_⟩
      have : decide (vx = V.non) = x.isNon := by
        cases x with
        | non => simp [show vx = V.non from rx, D.isNon]
        | bl b => simp [show vx = V.bl b from rx, D.isNon]
        | int b => simp [show vx = V.int b from rx, D.isNon]
        | str b => simp [show vx = V.str b from rx, D.isNon]
        | tup ds => obtain ⟨a, xs, e, _⟩ := rx; simp [e, D.isNon]
        | lst ds => obtain ⟨a, xs, e, _⟩ := rx; simp [e, D.isNon]
        | dct _ => exact rx.elim
        | obj c fs => obtain ⟨a, _, _, _, e, _⟩ := rx; simp [e, D.isNon]
        | exc c fs => obtain ⟨a, _, _, _, e, _⟩ := rx; simp [e, D.isNon]
        | ref l => obtain ⟨a, e, _⟩ := rx; simp [e, D.isNon]
        | scr l => obtain ⟨a, e, _⟩ := rx; simp [e, D.isNon]
      rw [this]; exact q
    · split at e
      · rename_i b' b
        cases e
        refine op_isBl pins s σ H vx vy v u Q I r1 r2 ⟨_, _, rx, ry, ?_⟩
        rw [← Bool.beq_eq_decide_eq]; exact q
      · cases e
    · cases e
  | isnot =>
    simp only [cmpD, isD, Option.map_eq_some_iff] at e
    obtain ⟨k', e, rfl⟩ := e
    split at e
    · cases e
      refine op_notN pins s σ H vx vy v u Q I r1 r2 ⟨ry, ?_⟩
      have : decide (vx = V.non) = x.isNon := by
        cases x with
        | non => simp [show vx = V.non from rx, D.isNon]
        | bl b => simp [show vx = V.bl b from rx, D.isNon]
        | int b => simp [show vx = V.int b from rx, D.isNon]
        | str b => simp [show vx = V.str b from rx, D.isNon]
        | tup ds => obtain ⟨a, xs, e, _⟩ := rx; simp [e, D.isNon]
        | lst ds => obtain ⟨a, xs, e, _⟩ := rx; simp [e, D.isNon]
        | dct _ => exact rx.elim
        | obj c fs => obtain ⟨a, _, _, _, e, _⟩ := rx; simp [e, D.isNon]
        | exc c fs => obtain ⟨a, _, _, _, e, _⟩ := rx; simp [e, D.isNon]
        | ref l => obtain ⟨a, e, _⟩ := rx; simp [e, D.isNon]
        | scr l => obtain ⟨a, e, _⟩ := rx; simp [e, D.isNon]
      rw [this]; exact q
    · split at e
      · rename_i b' b
        cases e
        refine op_notBl pins s σ H vx vy v u Q I r1 r2 ⟨_, _, rx, ry, ?_⟩
        rw [← Bool.beq_eq_decide_eq]; exact q
      · cases e
    · cases e
  | isin =>
    obtain ⟨d, ds, as, bs, sd, q1, rfl, q2⟩ := in_ok I r1 r2 hK rx ry e
    rcases q2 with ⟨se, q2⟩ | ⟨se, q2⟩
    · exact SeqAt.in_list_reads q2 q1 (SeqAt.canLay_of_shaped se) (SeqAt.canLay_of_shaped sd) (PyProof.Rows.room_in_shaped sd hu) ⟨.bl _, H, I, rfl, q⟩
    · exact SeqAt.in_tuple_reads q2 q1 (SeqAt.canLay_of_shaped se) (SeqAt.canLay_of_shaped sd) (PyProof.Rows.room_in_shaped sd hu) ⟨.bl _, H, I, rfl, q⟩
  | notin =>
    simp only [cmpD, Option.map_eq_some_iff] at e
    obtain ⟨k', e, rfl⟩ := e
    obtain ⟨d, ds, as, bs, sd, q1, rfl, q2⟩ := in_ok I r1 r2 hK rx ry e
    rcases q2 with ⟨se, q2⟩ | ⟨se, q2⟩
    · exact SeqAt.notIn_list_reads q2 q1 (SeqAt.canLay_of_shaped se) (SeqAt.canLay_of_shaped sd) (PyProof.Rows.room_in_shaped sd hu) ⟨.bl _, H, I, rfl, q⟩
    · exact SeqAt.notIn_tuple_reads q2 q1 (SeqAt.canLay_of_shaped se) (SeqAt.canLay_of_shaped sd) (PyProof.Rows.room_in_shaped sd hu) ⟨.bl _, H, I, rfl, q⟩
end

/-! ### sorting -/
theorem insI_perm (i : Int) : ∀ l, (insI i l).Perm (i :: l)
  | [] => .refl _
  | j :: r => by
    unfold insI
    split
    · exact .refl _
    · exact ((insI_perm i r).cons j).trans (.swap i j r)
theorem sortI_perm : ∀ l, (sortI l).Perm l
  | [] => .refl _
  | i :: r => (insI_perm i _).trans ((sortI_perm r).cons i)
theorem insI_sorted (i : Int) : ∀ l : List Int, l.Pairwise (· ≤ ·) → (insI i l).Pairwise (· ≤ ·)
  | [], _ => by simp [insI]
  | j :: r, h => by
    unfold insI
    split
    · rename_i hij
      refine List.pairwise_cons.mpr ⟨fun a ha => ?_, h⟩
      rcases List.mem_cons.mp ha with rfl | ha -- pv
      · exact hij
      · have := (List.pairwise_cons.mp h).1 a ha; omega
    · rename_i hij
      refine List.pairwise_cons.mpr ⟨fun a ha => ?_, insI_sorted i r (List.pairwise_cons.mp h).2⟩
      have := (insI_perm i r).mem_iff.mp ha
      rcases List.mem_cons.mp this with rfl | ha
      · omega
      · exact (List.pairwise_cons.mp h).1 a ha
theorem sortI_sorted : ∀ l, (sortI l).Pairwise (· ≤ ·)
  | [] => .nil
  | i :: r => insI_sorted i _ (sortI_sorted r)
theorem sorted_one : ∀ {l k : List Int}, l.Perm k → l.Pairwise (· ≤ ·) → k.Pairwise (· ≤ ·) → l = k
  | [], k, p, _, _ => by rw [p.symm.eq_nil]
  | a :: l, [], p, _, _ => by have := p.eq_nil; cases this
  | a :: l, b :: k, p, hl, hk => by
    have h1 : b ≤ a := by
      have := p.mem_iff.mp (List.mem_cons_self (a := a))
      rcases List.mem_cons.mp this with e | e
      · omega
      · exact (List.pairwise_cons.mp hk).1 a e
    have h2 : a ≤ b := by
      have := p.mem_iff.mpr (List.mem_cons_self (a := b))
      rcases List.mem_cons.mp this with e | e
      · omega
      · exact (List.pairwise_cons.mp hl).1 b e
    have e : a = b := Int.le_antisymm h2 h1
    subst e
    rw [sorted_one (List.Perm.cons_inv p) (List.pairwise_cons.mp hl).2 (List.pairwise_cons.mp hk).2]

/-! ### built-in calls -/
def fvB : Bi → Value
  | .len => .builtin "len" | .tuple => .type "tuple" | .list => .type "list" | .int => .type "int" | .abs => .builtin "abs"
  | .max2 => .builtin "max" | .min2 => .builtin "min" | .maxl => .builtin "max" | .minl => .builtin "min" | .maxd _ => .builtin "max"
  | .sorted => .builtin "sorted" | .sum => .builtin "sum" | .str => .type "str" | .repr => .builtin "repr" | .gcd => .builtin "math.gcd"
  | .any => .builtin "any" | .all => .builtin "all" | .bitlen => .builtin "int.bit_length" | .index => .builtin "list.index"
def rBi (w : Wd) (b : Bi) : List V → Hp → VK → Prop := fun vs H Q => ∃ μ T h ds z, HpR w μ T H h ∧ Rd8L w μ T H ds vs ∧ biD b ds = some z ∧ Yd w μ T H h z Q
/-- the calls that are served by values alone -/
def Bi.plain : Bi → Bool
  | .len => true | .tuple => true | .list => true | .int => true | .abs => true | .max2 => true | .min2 => true | .maxl => true | .minl => true | .sorted => true | .sum => true | .str => true
  | _ => false
theorem Rd8L.one {w : Wd} {μ : List Addr} {T : Addr → Prop} {H : Hp} {d : D} {vs : List V} (r : Rd8L w μ T H [d] vs) : ∃ v, vs = [v] ∧ Rd8 w μ T H d v := by
  cases vs with
  | nil => exact r.elim
  | cons v vs =>
    cases vs with
    | nil => exact ⟨v, rfl, r.1⟩
    | cons _ _ => exact r.2.elim
theorem Rd8L.two {w : Wd} {μ : List Addr} {T : Addr → Prop} {H : Hp} {d e : D} {vs : List V} (r : Rd8L w μ T H [d, e] vs) : ∃ v u, vs = [v, u] ∧ Rd8 w μ T H d v ∧ Rd8 w μ T H e u := by
  cases vs with
  | nil => exact r.elim
  | cons v vs =>
    obtain ⟨u, rfl, q⟩ := Rd8L.one (vs := vs) r.2
    exact ⟨v, u, rfl, r.1, q⟩
theorem lints_of {w : Wd} {μ : List Addr} {T : Addr → Prop} {H : Hp} {d : D} {v : V} {is : List Int} (e : lintsD d = some is) (r : Rd8 w μ T H d v) : ∃ a, v = .ref a ∧ H a = some (.lst (is.map V.int)) := by
  cases d with
  | lst ds =>
    obtain ⟨a, xs, rfl, ha, q⟩ := r
    have := RepL.toInts e q
    subst this
    exact ⟨a, rfl, ha⟩
  | _ => simp [lintsD] at e
theorem foldl_max_mem : ∀ (r : List Int) (i : Int), r.foldl max i ∈ i :: r ∧ ∀ y ∈ i :: r, y ≤ r.foldl max i
  | [], i => by simp
  | j :: r, i => by
    obtain ⟨h1, h2⟩ := foldl_max_mem r (max i j)
    simp only [List.foldl_cons]
    refine ⟨?_, fun y hy => ?_⟩
    · rcases List.mem_cons.mp h1 with e | e
      · rw [e]
        by_cases hij : i ≤ j
        · rw [Int.max_eq_right hij]; simp
        · rw [Int.max_eq_left (by omega)]; simp
      · exact List.mem_cons_of_mem _ (List.mem_cons_of_mem _ e)
    · have hm := h2 (max i j) List.mem_cons_self
      rcases List.mem_cons.mp hy with rfl | hy -- pv
      · exact Int.le_trans (Int.le_max_left _ _) hm
      · rcases List.mem_cons.mp hy with rfl | hy -- pv
        · exact Int.le_trans (Int.le_max_right _ _) hm
        · exact h2 y (List.mem_cons_of_mem _ hy)
theorem foldl_min_mem : ∀ (r : List Int) (i : Int), r.foldl min i ∈ i :: r ∧ ∀ y ∈ i :: r, r.foldl min i ≤ y
  | [], i => by simp
  | j :: r, i => by
    obtain ⟨h1, h2⟩ := foldl_min_mem r (min i j)
    simp only [List.foldl_cons]
    refine ⟨?_, fun y hy => ?_⟩
    · rcases List.mem_cons.mp h1 with e | e
      · rw [e]
        by_cases hij : i ≤ j
        · rw [Int.min_eq_left hij]; simp
        · rw [Int.min_eq_right (by omega)]; simp
      · exact List.mem_cons_of_mem _ (List.mem_cons_of_mem _ e)
    · have hm := h2 (min i j) List.mem_cons_self
      rcases List.mem_cons.mp hy with rfl | hy -- pv
      · exact Int.le_trans hm (Int.min_le_left _ _)
      · rcases List.mem_cons.mp hy with rfl | hy -- pv
        · exact Int.le_trans hm (Int.min_le_right _ _)
        · exact h2 y (List.mem_cons_of_mem _ hy)
section
variable {X : Cx} {w : Wd}
theorem bi_ok (b : Bi) (hp : b.plain = true) (hK : X.K = w.K) (hc : X.calm = true) : CallR X (fvB b) (rBi w b) := by
  intro pins s σ H vs us Q I r hh
  obtain ⟨μ, T, h, ds, z, W, rd, e, yd⟩ := hh
  cases b with
  | len =>
    match ds, e with
    | [d], e =>
      obtain ⟨v, rfl, rv⟩ := rd.one
      simp only [biD, Option.map_eq_some_iff] at e
      obtain ⟨n, e, rfl⟩ := e
      cases d with
      | tup ds =>
        cases e
        obtain ⟨a, xs, rfl, ha, q⟩ := rv
        refine call_len pins s σ H _ us Q I r ⟨_, _, rfl, .inr ⟨xs, SqT.of ha, rfl⟩, ?_⟩
        rw [show xs.length = ds.length from q.len]
        exact yd.here W rfl
      | lst ds =>
        cases e
        obtain ⟨a, xs, rfl, ha, q⟩ := rv
        refine call_len pins s σ H _ us Q I r ⟨_, _, rfl, .inl ⟨xs, SqL.of ha, rfl⟩, ?_⟩
        rw [show xs.length = ds.length from q.len]
        exact yd.here W rfl
      | scr is =>
        cases e
        obtain ⟨a, rfl, ha⟩ := rv
        refine call_len pins s σ H _ us Q I r ⟨_, _, rfl, .inl ⟨_, by rw [hK]; exact ha.sql, rfl⟩, ?_⟩
        rw [List.length_map]
        exact yd.here W rfl
      | str x =>
        simp only [lenD] at e
        split at e
        · rename_i hl
          cases e
          rw [show v = V.str x from rv] at r
          exact call_len pins s σ H _ us Q I r ⟨_, _, rfl, ⟨lenMax_line hl, rfl⟩, yd.here W rfl⟩
        · cases e
      | _ => simp [lenD] at e
  | tuple =>
    match ds, e with
    | [.tup xs], e =>
      obtain ⟨v, rfl, rv⟩ := rd.one
      cases e
      obtain ⟨a, ys, rfl, ha, q⟩ := rv
      exact call_tuple_of pins s σ H _ us Q I r ⟨a, ys, rfl, .inr ⟨SqT.of ha, yd.here W ⟨a, ys, rfl, ha, q⟩⟩⟩
    | [.lst xs], e =>
      obtain ⟨v, rfl, rv⟩ := rd.one
      cases e
      obtain ⟨a, ys, rfl, ha, q⟩ := rv
      exact call_tuple_of pins s σ H _ us Q I r ⟨a, ys, rfl, .inl ⟨SqL.of ha, fun l hl => yd.tup W q hl⟩⟩
  | list =>
    match ds, e with
    | [.tup xs], e =>
      obtain ⟨v, rfl, rv⟩ := rd.one
      cases e
      obtain ⟨a, ys, rfl, ha, q⟩ := rv
      exact call_list_of pins s σ H _ us Q I r ⟨a, ys, rfl, .inr (SqT.of ha), fun l hl => yd.lst W q hl⟩
    | [.lst xs], e =>
      obtain ⟨v, rfl, rv⟩ := rd.one
      cases e
      obtain ⟨a, ys, rfl, ha, q⟩ := rv
      exact call_list_of pins s σ H _ us Q I r ⟨a, ys, rfl, .inl (SqL.of ha), fun l hl => yd.lst W q hl⟩
    | [.scr is], e =>
      obtain ⟨v, rfl, rv⟩ := rd.one
      cases e
      obtain ⟨a, rfl, ha⟩ := rv
      exact call_list_of pins s σ H _ us Q I r ⟨a, _, rfl, .inl (by rw [hK]; exact ha.sql), fun l hl => yd.lst W (RepL.ofInts is) hl⟩
  | int =>
    match ds, e with
    | [.int i], e =>
      obtain ⟨v, rfl, rv⟩ := rd.one
      cases e
      rw [show v = V.int i from rv] at r
      exact call_int1 pins s σ H _ us Q I r (.inl ⟨i, rfl, yd.here W rfl⟩)
    | [.bl k], e =>
      obtain ⟨v, rfl, rv⟩ := rd.one
      cases e
      rw [show v = V.bl k from rv] at r
      exact call_int1 pins s σ H _ us Q I r (.inr ⟨k, rfl, yd.here W rfl⟩)
  | abs =>
    match ds, e with
    | [.int i], e =>
      obtain ⟨v, rfl, rv⟩ := rd.one
      cases e
      rw [show v = V.int i from rv] at r
      exact call_abs pins s σ H _ us Q I r ⟨i, rfl, yd.here W rfl⟩
  | max2 =>
    match ds, e with
    | [.int i, .int j], e =>
      obtain ⟨v, u, rfl, rv, ru⟩ := rd.two
      cases e
      rw [show v = V.int i from rv, show u = V.int j from ru] at r
      exact call_max2 hc pins s σ H _ us Q I r ⟨i, j, rfl, yd.here W rfl⟩
  | min2 =>
    match ds, e with
    | [.int i, .int j], e =>
      obtain ⟨v, u, rfl, rv, ru⟩ := rd.two
      cases e
      rw [show v = V.int i from rv, show u = V.int j from ru] at r
      exact call_min2 hc pins s σ H _ us Q I r ⟨i, j, rfl, yd.here W rfl⟩
  | maxl =>
    match ds, e with
    | [d], e =>
      obtain ⟨v, rfl, rv⟩ := rd.one
      simp only [biD, Option.map_eq_some_iff, Option.bind_eq_some_iff] at e
      obtain ⟨m, ⟨is, e1, e2⟩, rfl⟩ := e
      obtain ⟨a, rfl, ha⟩ := lints_of e1 rv
      match is, e2 with
      | i :: is, e2 =>
        cases e2
        refine cr_max hc pins s σ H _ us Q I r ⟨a, i :: is, rfl, SqL.of ha, by simp, fun m h1 h2 => ?_⟩
        obtain ⟨k1, k2⟩ := foldl_max_mem is i
        have e : m = is.foldl max i := Int.le_antisymm (k2 m h1) (h2 _ k1)
        rw [e]
        exact yd.here W rfl
  | minl =>
    match ds, e with
    | [d], e =>
      obtain ⟨v, rfl, rv⟩ := rd.one
      simp only [biD, Option.map_eq_some_iff, Option.bind_eq_some_iff] at e
      obtain ⟨m, ⟨is, e1, e2⟩, rfl⟩ := e
      obtain ⟨a, rfl, ha⟩ := lints_of e1 rv
      match is, e2 with
      | i :: is, e2 =>
        cases e2
        refine cr_min hc pins s σ H _ us Q I r ⟨a, i :: is, rfl, SqL.of ha, by simp, fun m h1 h2 => ?_⟩
        obtain ⟨k1, k2⟩ := foldl_min_mem is i
        have e : m = is.foldl min i := Int.le_antisymm (h2 _ k1) (k2 m h1)
        rw [e]
        exact yd.here W rfl
  | sorted =>
    match ds, e with
    | [d], e =>
      obtain ⟨v, rfl, rv⟩ := rd.one
      simp only [biD, Option.map_eq_some_iff] at e
      obtain ⟨is, e1, rfl⟩ := e
      obtain ⟨a, rfl, ha⟩ := lints_of e1 rv
      refine cr_sortedI pins s σ H _ us Q I r ⟨a, is, rfl, SqL.of ha, fun ns' p hp hs hn => ?_⟩
      have e : ns' = sortI is := sorted_one (hp.trans (sortI_perm is).symm) hs (sortI_sorted is)
      rw [e]
      exact yd.lst W (RepL.ofInts _) hn
  | sum =>
    match ds, e with
    | [d], e =>
      obtain ⟨v, rfl, rv⟩ := rd.one
      simp only [biD, Option.map_eq_some_iff] at e
      obtain ⟨is, e1, rfl⟩ := e
      obtain ⟨a, rfl, ha⟩ := lints_of e1 rv
      exact cr_sum hc pins s σ H _ us Q I r ⟨a, is, rfl, SqL.of ha, yd.here W rfl⟩
  | str =>
    match ds, e with
    | [.int i], e =>
      obtain ⟨v, rfl, rv⟩ := rd.one
      simp only [biD] at e
      split at e
      · rename_i hl
        cases e
        rw [show v = V.int i from rv] at r
        exact call_str_int pins s σ H _ us Q I r ⟨i, rfl, hl, yd.here W rfl⟩
      · cases e
  | _ => simp [Bi.plain] at hp
end
end PV
/-! S5: readings by runs; when a piece of the text is a piece of the language. -/
namespace PV
open PySem L2

/-- what is wanted behind a run: ok of its value, W of its exception -/
def Out {α : Type} (w : Wd) (T : Addr → Prop) (μ : List Addr) (H : Hp) (ok : α → Hs → List Addr → Hp → Prop) (W : XK) : Rs α → Prop
  | .ok a h' => ∀ μ' H', Step μ H μ' H' → HpR w μ' T H' h' → ok a h' μ' H'
  | .exc c fs h' => ∀ μ' H' d fl vs, Step μ H μ' H' → HpR w μ' T H' h' → (¬ T d ∧ d ∉ μ') → H' d = some (.xd fl) → fldsAt fl (w.nms c) vs → RepL w μ' T H' fs vs → W (.ref (w.cls c)) (some d) H'
  | .stuck => False
section
variable {α β : Type} {w : Wd} {T : Addr → Prop} {μ : List Addr} {H : Hp} {ok ok' : α → Hs → List Addr → Hp → Prop} {ko : β → Hs → List Addr → Hp → Prop} {W : XK} {r : Rs α}
theorem Out.imp (o : Out w T μ H ok W r) (h : ∀ a h1 μ1 H1, Step μ H μ1 H1 → HpR w μ1 T H1 h1 → ok a h1 μ1 H1 → ok' a h1 μ1 H1) : Out w T μ H ok' W r := by
  cases r with
  | ok a h1 => exact fun μ1 H1 s1 W1 => h a h1 μ1 H1 s1 W1 (o μ1 H1 s1 W1)
  | exc c fs h1 => exact o
  | stuck => exact o
theorem Out.trans {μ1 : List Addr} {H1 : Hp} (s : Step μ H μ1 H1) (o : Out w T μ H ok W r) : Out w T μ1 H1 ok W r := by
  cases r with
  | ok a h1 => exact fun μ2 H2 s2 W2 => o μ2 H2 (s.trans s2) W2
  | exc c fs h1 => exact fun μ2 H2 d fl vs s2 W2 => o μ2 H2 d fl vs (s.trans s2) W2
  | stuck => exact o
theorem Out.bind {g : α → Hs → Rs β} (o : Out w T μ H ko W (r.bind g)) : Out w T μ H (fun a h1 μ1 H1 => Out w T μ1 H1 ko W (g a h1)) W r := by
  cases r with
  | ok a h1 => exact fun μ1 H1 s1 W1 => Out.trans s1 o
  | exc c fs h1 => exact o
  | stuck => exact o
/-- at its value -/
theorem Out.now {a : α} {h : Hs} (o : Out w T μ H ok W (.ok a h)) (Wr : HpR w μ T H h) : ok a h μ H := o μ H Step.refl Wr
end

/-- what is wanted behind a run that makes a list of its own -/
def OutF (w : Wd) (T : Addr → Prop) (μ : List Addr) (H : Hp) (Q : VK) (W : XK) : Rs D → Prop
  | .ok d h1 => (match d with
    | .lst ds => ∀ μ1 H1 p xs, Step μ H μ1 H1 → H p = none → p ∉ μ1 → HpR w μ1 (fun a => T a ∨ a = p) H1 h1 → H1 p = some (.lst xs) → RepL w μ1 (fun a => T a ∨ a = p) H1 ds xs → Q (.ref p) H1
    | _ => False)
  | .exc c fs h' => ∀ μ' H' d fl vs, Step μ H μ' H' → HpR w μ' T H' h' → (¬ T d ∧ d ∉ μ') → H' d = some (.xd fl) → fldsAt fl (w.nms c) vs → RepL w μ' T H' fs vs → W (.ref (w.cls c)) (some d) H'
  | .stuck => False
theorem OutF.bind {α : Type} {w : Wd} {T : Addr → Prop} {μ : List Addr} {H : Hp} {Q : VK} {W : XK} {r : Rs α} {g : α → Hs → Rs D} (o : OutF w T μ H Q W (r.bind g)) : Out w T μ H (fun a h1 μ1 H1 => OutF w T μ1 H1 Q W (g a h1)) W r := by
  cases r with
  | ok a h1 =>
    intro μ1 H1 s1 W1
    have o : OutF w T μ H Q W (g a h1) := o
    cases e : g a h1 with
    | ok d h2 =>
      rw [e] at o
      cases d with
      | lst ds => exact fun μ2 H2 p xs s2 hp hn W2 hx r => o μ2 H2 p xs (s1.trans s2) (by
          cases q : H p with
          | none => rfl
          | some u =>
            obtain ⟨o', q'⟩ := s1.there p u q
            rw [hp] at q'; cases q') hn W2 hx r
      | _ => exact o
    | exc c fs h2 =>
      rw [e] at o
      exact fun μ2 H2 d fl vs s2 W2 => o μ2 H2 d fl vs (s1.trans s2) W2
    | stuck => rw [e] at o; exact o
  | exc c fs h1 => exact o
  | stuck => exact o

/-- a reading by a run f: R ties its value to the machine's -/
def Rdg {α β : Type} (w : Wd) (W : WX) (f : Ev → Hs → Rs α) (R : List Addr → (Addr → Prop) → Hp → Hs → α → β → Prop) : L2.St → Hp → (β → Hp → Prop) → Prop := fun σ H Q =>
  ∃ μ B θ h ρ, HpR w μ (Tot B θ ρ) H h ∧ EnvR w μ B θ σ H ρ ∧ Out w (Tot B θ ρ) μ H (fun a h' μ' H' => ∀ b, R μ' (Tot B θ ρ) H' h' a b → Q b H') (fun cls d H' => W cls d σ H') (f ρ h)
/-- an operand: data, or a list of the frame's own -/
def ROp (w : Wd) (μ : List Addr) (T : Addr → Prop) (H : Hp) (d : D) (v : V) : Prop :=
  Rep w μ T H d v ∨ ∃ ds a xs, d = .lst ds ∧ v = .ref a ∧ a ∉ μ ∧ H a = some (.lst xs) ∧ RepL w μ T H ds xs
def ROpL (w : Wd) (μ : List Addr) (T : Addr → Prop) (H : Hp) : List D → List V → Prop
  | [], [] => True
  | d :: ds, v :: vs => ROp w μ T H d v ∧ ROpL w μ T H ds vs
  | _, _ => False
section
variable {w : Wd} {μ μ' : List Addr} {T : Addr → Prop} {H H' : Hp} {h : Hs}
theorem ROp.step (s : Step μ H μ' H') {d : D} {v : V} (r : ROp w μ T H d v) : ROp w μ' T H' d v := by
  rcases r with r | ⟨ds, a, xs, e1, e2, hn, ha, r⟩
  · exact .inl (r.step s fun _ q => .inl q)
  · exact .inr ⟨ds, a, xs, e1, e2, s.notin ha hn, s.keep a _ ha hn (fun ps z => by cases z), r.step s fun _ q => .inl q⟩
theorem ROpL.step (s : Step μ H μ' H') : ∀ {ds : List D} {vs : List V}, ROpL w μ T H ds vs → ROpL w μ' T H' ds vs
  | [], [], _ => trivial
  | d :: ds, v :: vs, r => ⟨r.1.step s, ROpL.step s r.2⟩
  | [], _ :: _, r => r.elim
  | _ :: _, [], r => r.elim
/-- what an operand reads as -/
theorem ROp.rd (W : HpR w μ T H h) {d : D} {v : V} (r : ROp w μ T H d v) : Rd8 w μ T H (vw h d) v := by
  rcases r with r | ⟨ds, a, xs, rfl, rfl, _, ha, r⟩
  · cases d with
    | ref l =>
      obtain ⟨a, rfl, hl⟩ := r
      show Rd8 w μ T H (match h[l]? with | some (.lst xs) => .lst xs | some (.dct kvs) => .dct kvs | _ => .ref l) (.ref a)
      split
      · rename_i xs hx
        obtain ⟨ys, e, q⟩ := W.at_ l a _ hl hx
        exact ⟨a, ys, rfl, e, q⟩
      · rename_i kvs hx
        exact (W.at_ l a _ hl hx).elim
      · exact ⟨a, rfl, hl⟩
    | _ => exact Rep.rd r
  · exact ⟨a, xs, rfl, ha, r⟩
theorem ROpL.rd (W : HpR w μ T H h) : ∀ {ds : List D} {vs : List V}, ROpL w μ T H ds vs → Rd8L w μ T H (ds.map (vw h)) vs
  | [], [], _ => trivial
  | d :: ds, v :: vs, r => ⟨r.1.rd W, ROpL.rd W r.2⟩
  | [], _ :: _, r => r.elim
  | _ :: _, [], r => r.elim
end
def RE (w : Wd) : List Addr → (Addr → Prop) → Hp → Hs → D → V → Prop := fun μ T H _ d v => Rep w μ T H d v
def RO (w : Wd) : List Addr → (Addr → Prop) → Hp → Hs → D → V → Prop := fun μ T H _ d v => ROp w μ T H d v
def REs (w : Wd) : List Addr → (Addr → Prop) → Hp → Hs → List D → List V → Prop := fun μ T H _ d v => RepL w μ T H d v
def ROs (w : Wd) : List Addr → (Addr → Prop) → Hp → Hs → List D → List V → Prop := fun μ T H _ d v => ROpL w μ T H d v
def Rid {α : Type} : List Addr → (Addr → Prop) → Hp → Hs → α → α → Prop := fun _ _ _ _ a b => b = a
def rdE (w : Wd) (W : WX) (c : Sig) (m : Ex) : TE := Rdg w W (evE c m) (RE w)
/-- .. of an expression that makes a list -/
def rdF (w : Wd) (W : WX) (c : Sig) (m : Ex) : TE := fun σ H Q => ∃ μ B θ h ρ, HpR w μ (Tot B θ ρ) H h ∧ EnvR w μ B θ σ H ρ ∧ OutF w (Tot B θ ρ) μ H Q (fun cls d H' => W cls d σ H') (evE c m ρ h)
def isF : Ex → Bool
  | .lst false _ => true
  | .lc _ _ _ _ => true
  | _ => false
def rdO (w : Wd) (W : WX) (c : Sig) (m : Op) : TE := Rdg w W (evR c m) (RO w)
def rdT (w : Wd) (W : WX) (c : Sig) (m : Ex) : TT := Rdg w W (evT c m) Rid
def rdEs (w : Wd) (W : WX) (c : Sig) (m : Exs) : TA := Rdg w W (evEs c m) (REs w)
def rdRs (w : Wd) (W : WX) (c : Sig) (m : Ops) : TA := Rdg w W (evRs c m) (ROs w)
def rdX (w : Wd) (W : WX) (c : Sig) (m : Exo) : TO := Rdg w W (evO c m) Rid
def rdW (w : Wd) (W : WX) (c : Sig) (m : Exo) : TT := Rdg w W (evW c m) Rid

section
variable {α β γ δ : Type} {w : Wd} {W : WX} {f : Ev → Hs → Rs α} {g : Ev → α → Hs → Rs γ} {R : List Addr → (Addr → Prop) → Hp → Hs → α → β → Prop} {R' : List Addr → (Addr → Prop) → Hp → Hs → γ → δ → Prop} {σ : L2.St} {H : Hp} {Q : δ → Hp → Prop} {K : β → Hp → Prop}
/-- first f, then what follows -/
theorem Rdg.seq (hr : Rdg w W (fun ρ h => (f ρ h).bind (g ρ)) R' σ H Q)
    (k : ∀ μ B θ h ρ H1 a b, HpR w μ (Tot B θ ρ) H1 h → EnvR w μ B θ σ H1 ρ → R μ (Tot B θ ρ) H1 h a b →
      Out w (Tot B θ ρ) μ H1 (fun a h' μ' H' => ∀ b, R' μ' (Tot B θ ρ) H' h' a b → Q b H') (fun cls d H' => W cls d σ H') (g ρ a h) → K b H1) : Rdg w W f R σ H K := by
  obtain ⟨μ, B, θ, h, ρ, Wr, E, o⟩ := hr
  exact ⟨μ, B, θ, h, ρ, Wr, E, o.bind.imp fun a h1 μ1 H1 s1 W1 q b hb => k μ1 B θ h1 ρ H1 a b W1 (E.step Wr s1) hb q⟩
end
section
variable {α β γ : Type} {w : Wd} {W : WX} {f f' : Ev → Hs → Rs α} {g : α → Hs → Rs γ} {R : List Addr → (Addr → Prop) → Hp → Hs → α → β → Prop} {ko : γ → Hs → List Addr → Hp → Prop} {σ : L2.St} {H : Hp} {K : β → Hp → Prop} {μ : List Addr} {B : Addr → Prop} {θ : Nat → Addr} {h : Hs} {ρ : Ev}
theorem Rdg.next (Wr : HpR w μ (Tot B θ ρ) H h) (E : EnvR w μ B θ σ H ρ) (o : Out w (Tot B θ ρ) μ H ko (fun cls d H' => W cls d σ H') ((f ρ h).bind g))
    (k : ∀ μ' h' H' a b, Step μ H μ' H' → HpR w μ' (Tot B θ ρ) H' h' → EnvR w μ' B θ σ H' ρ → R μ' (Tot B θ ρ) H' h' a b → Out w (Tot B θ ρ) μ' H' ko (fun cls d H' => W cls d σ H') (g a h') → K b H') : Rdg w W f R σ H K :=
  ⟨μ, B, θ, h, ρ, Wr, E, o.bind.imp fun a h1 μ1 H1 s1 W1 q b hb => k μ1 h1 H1 a b s1 W1 (E.step Wr s1) hb q⟩
theorem Rdg.cong (q : Rdg w W f R σ H K) (e : ∀ ρ h, f ρ h = f' ρ h) : Rdg w W f' R σ H K := by
  have : f = f' := funext fun ρ => funext fun h => e ρ h
  rw [← this]; exact q
end
theorem _root_.L2.PE.imp {X : Cx} {e : Expr} {t t' : TE} (p : PE X e t) (h : ∀ σ H Q, t' σ H Q → t σ H Q) : PE X e t' := ⟨fun pins s σ H Q I q => p.run pins s σ H Q I (h σ H Q q)⟩
theorem _root_.L2.PT.imp {X : Cx} {e : Expr} {t t' : TT} (p : PT X e t) (h : ∀ σ H Q, t' σ H Q → t σ H Q) : PT X e t' := ⟨fun pins s σ H Q I q => p.run pins s σ H Q I (h σ H Q q)⟩
theorem _root_.L2.PW.imp {X : Cx} {e : Expr} {t t' : TT} (p : PW X e t) (h : ∀ σ H Q, t' σ H Q → t σ H Q) : PW X e t' := ⟨fun wh pins s σ H Q I q => p.run wh pins s σ H Q I (h σ H Q q)⟩
theorem _root_.L2.PA.imp {X : Cx} {e : List Expr} {t t' : TA} (p : PA X e t) (h : ∀ σ H Q, t' σ H Q → t σ H Q) : PA X e t' := ⟨fun ps pins s σ H Q I q => p.run ps pins s σ H Q I (h σ H Q q)⟩
theorem _root_.L2.PO.imp {X : Cx} {e : Option Expr} {t t' : TO} (p : PO X e t) (h : ∀ σ H Q, t' σ H Q → t σ H Q) : PO X e t' := by
  exact ⟨fun pins s σ H Q I q => p.run pins s σ H Q I (h σ H Q q)⟩

/-! ### a piece of the text is a piece of the language -/
structure ME where
  N : List Str
  sc : Scope
  st : Str → Bool
  hot : Bool
  xs : Option Nat
def ME.vis (M : ME) (i : Nat) (x : Str) : Bool := (M.N[i]? == some x) && (match M.sc.names.lookup x with | some .local => true | some .cell => true | some .free => true | _ => false) && !(x == ("__debug__" : Str)) && !(x == ("__classdict__" : Str))
def ME.glo (M : ME) (x : Str) : Bool := (match M.sc.names.lookup x with | some .globalImplicit => true | _ => false) && !(x == ("__debug__" : Str)) && !(x == ("__name__" : Str))
def isC : Cst → Const → Bool
  | .non, .none => true
  | .bl b, .bool c => b == c
  | .int i, .int j => i == j
  | .str x, .str y => x == y
  | _, _ => false
def isStar : Expr → Bool
  | .Starred _ _ => true
  | _ => false
def isSlc : Expr → Bool
  | .Slice _ _ _ _ => true
  | _ => false
def bnm : Bi → Str
  | .len => "len" | .tuple => "tuple" | .list => "list" | .int => "int" | .abs => "abs" | .max2 => "max" | .min2 => "min" | .maxl => "max" | .minl => "min" | .maxd _ => "max"
  | .sorted => "sorted" | .sum => "sum" | .str => "str" | .repr => "repr" | .gcd => "gcd" | .any => "any" | .all => "all" | .bitlen => "bit_length" | .index => "index"
def tnm : Ty → Str
  | .int => "int" | .bool => "bool" | .str => "str" | .tuple => "tuple" | .list => "list" | .dict => "dict" | .own _ => ""
def isTys (M : ME) : List Ty → List Expr → Bool
  | [], [] => true
  | t :: ts, .Name x _ :: es => t.plain && (x == tnm t) && M.glo x && isTys M ts es
  | _, _ => false
def isTy1 (M : ME) : List Ty → Expr → Bool
  | [t], .Name x p => isTys M [t] [.Name x p]
  | ts, .Tuple es _ _ => isTys M ts es && decide (es.length ≤ 1000)
  | _, _ => false
mutual
def ownOf (N : List Str) : Tg → List (Str × Nat)
  | .slot i => match N[i]? with
    | some x => [(x, i)]
    | none => []
  | .tup ts => ownsOf N ts
def ownsOf (N : List Str) : Tgs → List (Str × Nat)
  | .nil => []
  | .cons t ts => ownOf N t ++ ownsOf N ts
end
/-- the names within a comprehension -/
def ME.blk (M : ME) (scope : Scope) : ME := ⟨M.N, relS scope M.sc, fun x => match scope.names.lookup x with | some .local => true | some .cell => true | _ => false, M.hot, none⟩
def kwV : List Keyword → List Expr
  | [] => []
  | k :: ks => k.value :: kwV ks
def kwN : List Str → List Keyword → Bool
  | [], [] => true
  | p :: ps, k :: ks => (match k.arg with | some n => n == p | none => false) && kwN ps ks
  | _, _ => false
def kwD (d : Int) : List Keyword → Bool
  | [k] => (match k.arg with | some n => n == ("default" : Str) | none => false) && (match k.value with | .Constant (.int i) _ _ => i == d | _ => false)
  | _ => false
def isCls (M : ME) : List String → List Expr → Bool
  | [], [] => true
  | t :: ts, .Name x _ :: es => (x == Str.ofString t) && M.glo x && isCls M ts es
  | _, _ => false
def isCl1 (M : ME) : List String → Expr → Bool
  | [t], .Name x p => isCls M [t] [.Name x p]
  | ts, .Tuple es _ _ => isCls M ts es && !ts.isEmpty && decide (es.length ≤ 1000)
  | _, _ => false
section
variable (P : Prg)
mutual
def isG (M : ME) : Tg → Expr → Bool
  | .slot i, .Name x _ => (M.N[i]? == some x) && M.st x
  | .tup ts, .Tuple es _ _ => !M.hot && isGs M ts es
  | _, _ => false
def isGs (M : ME) : Tgs → List Expr → Bool
  | .nil, [] => true
  | .cons t ts, e :: es => isG M t e && isGs M ts es
  | _, _ => false
end
mutual
def isE : Ex → ME → Expr → Bool
  | .var i, M, .Name x _ => M.vis i x
  | .cst c, M, .Constant k _ _ => isC c k
  | .glb y i, M, .Name x _ => (x == Str.ofString y) && M.glo x && (P.con y == some i)
  | .tup es, M, .Tuple xs _ _ => isEs es M xs && decide (xs.length ≤ 1000)
  | .lst _ es, M, .List xs _ => isEs es M xs && decide (xs.length ≤ 1000)
  | .bin op a b, M, .BinOp x o y _ => (o == opB op) && isO a M x && isO b M y
  | .neg a, M, .UnaryOp .USub x _ => isE a M x
  | .cmp op a b, M, .Compare x [o] [y] _ => (o == opC op) && isO a M x && isO b M y && !behindInMarks o y
  | .chain o1 o2 a b c, M, .Compare x [p, q] [y, z] _ => (p == opC o1) && (q == opC o2) && isE a M x && isE b M y && isE c M z && !behindInMarks q z
  | .not a, M, .UnaryOp .Not x _ => isE a M x
  | .and a b, M, .BoolOp .And (x :: y :: r) p => isE a M x && (if r.isEmpty then isE b M y else isE b M (.BoolOp .And (y :: r) p))
  | .or a b, M, .BoolOp .Or (x :: y :: r) p => isE a M x && (if r.isEmpty then isE b M y else isE b M (.BoolOp .Or (y :: r) p))
  | .ife t a b, M, .IfExp x y z _ => isE t M x && isE a M y && isE b M z
  | .call f es, M, .Call (.Name x _) args kws _ => (x == P.fnm f) && M.glo x && !M.hot && isEs es M (args ++ kwV kws) && (match P.fn f with
    | some F => (F.ps.length == (args ++ kwV kws).length) && (if kws.isEmpty then !args.isEmpty else P.kw f args.length && kwN (F.ps.drop args.length) kws)
    | none => false)
  | .bi b es, M, .Call (.Name x _) args kws _ => (x == bnm b) && M.glo x && !M.hot && isRs es M args && !args.isEmpty && (match b with
    | .maxd d => kwD d kws && (args.length == 1)
    | b => kws.isEmpty && b.plain)
  | .isi a ts, M, .Call (.Name x _) [y, z] kws _ => (x == ("isinstance" : Str)) && M.glo x && isO a M y && !isStar y && isTy1 M ts z && kws.isEmpty
  | .idx a i, M, .Subscript x y _ => isO a M x && isE i M y && !isSlc y
  | .sli a lo hi, M, .Subscript x (.Slice l u none _) _ => isO a M x && isX lo M l && isX hi M u
  | .xfld i f, M, .Attribute (.Name e _) n _ => M.vis i e && (n == Str.ofString f) && (M.xs == some i)
  | .xis i xs, M, .Call (.Name x _) [.Name e _, z] kws _ => (x == ("isinstance" : Str)) && M.glo x && M.vis i e && (M.xs == some i) && kws.isEmpty && isCl1 M xs z
  | .lc elt t it c, M, .ListComp e [⟨tg, i, ifs, 0⟩] scope _ => !M.hot && isI it M i && isG (M.blk scope) t tg && isE elt (M.blk scope) e && isIfs c (M.blk scope) ifs && blkC M.N M.sc scope (ownOf M.N t)
  | _, _, _ => false
def isEs : Exs → ME → List Expr → Bool
  | .nil, _, [] => true
  | .cons e es, M, x :: xs => isE e M x && !isStar x && isEs es M xs
  | _, _, _ => false
def isX : Exo → ME → Option Expr → Bool
  | .none, _, none => true
  | .some e, M, some x => isE e M x
  | _, _, _ => false
def isIfs : Exo → ME → List Expr → Bool
  | .none, _, [] => true
  | .some e, M, [x] => isE e M x
  | _, _, _ => false
def isO : Op → ME → Expr → Bool
  | .own i, M, .Name x _ => M.vis i x
  | .ex e, M, x => isE e M x
  | _, _, _ => false
def isRs : Ops → ME → List Expr → Bool
  | .nil, _, [] => true
  | .cons a r, M, x :: xs => isO a M x && !isStar x && isRs r M xs
  | _, _, _ => false
def isI : It → ME → Expr → Bool
  | .of a, M, x => isO a M x
  | .rng1 a, M, .Call (.Name x _) [y] kws _ => (x == ("range" : Str)) && M.glo x && isE a M y && !isStar y && kws.isEmpty
  | .rng2 a b, M, .Call (.Name x _) [y, z] kws _ => (x == ("range" : Str)) && M.glo x && isE a M y && isE b M z && !isStar y && !isStar z && kws.isEmpty
  | _, _, _ => false
end
end
end PV
/-! S6: an expression of the text runs as the language says. -/
namespace PV
open PySem L2

/-- a def's promise by its run -/
def spF (w : Wd) (n : Nat) (g : List D → Hs → Rs D) : Sp := fun vs H Q E => ∃ μ T h ds, HpR w μ T H h ∧ RepL w μ T H ds vs ∧ ds.length = n ∧
  Out w T μ H (fun d h' μ' H' => ∀ v, Rep w μ' T H' d v → Q v H') E (g ds h)
/-- a class that a name tells -/
structure ClX (w : Wd) (mg : Str → Option Value) (x : Str) (k : Nat) (b : Bool) (cv : Value) : Prop where
  mg : mg x = some cv ∨ (mg x = none ∧ bootBuiltins x = some cv)
  v : (∃ a, cv = .ref a) ∨ ∃ t, cv = .type t
  kit : PySem.W.kitOne w.K (.ref (w.cls k)) cv = some b
  exm : PySem.W.exmOne w.K (.ref (w.cls k)) cv = some b
  xc : ExcC w.K (w.cls k)
/-- what the text says -/
structure TX (P : Prg) (w : Wd) (mg : Str → Option Value) : Prop where
  bi : ∀ b : Bi, (b.plain = true ∨ ∃ d, b = .maxd d) → mg (bnm b) = none
  ty : ∀ t : Ty, t.plain = true → mg (tnm t) = none
  rng : mg ("range" : Str) = none
  isi : mg ("isinstance" : Str) = none
  con : ∀ x i, P.con x = some i → ∃ t, mg (Str.ofString x) = some (.int i t)
  isx : ∃ cv : String → Value, ∀ x k b, P.isx x k = some b → ClX w mg (Str.ofString x) k b (cv x)
  nms : ∀ k, w.nms k = (P.fns k).map Str.ofString
  xf : ∀ k n, n ∈ P.fns k → XfC w.K (w.cls k) ∧ PySem.W.findIn w.K (.ref (w.cls k)) (Str.ofString n) = some none
/-- what an exception's __init__ does -/
def spI (w : Wd) (k : Nat) : Sp := fun vs H Q _ => ∃ a us, vs = .ref a :: us ∧ us.length = (w.nms k).length ∧ H a = some (exo a (w.cls k) none) ∧
  ∀ H2 dx fl, H dx = none → dx ≠ a → H2 a = some (exo a (w.cls k) (some dx)) → H2 dx = some (exd dx fl) → fldsAt fl (w.nms k) us → (∀ b, b ≠ a → b ≠ dx → H2 b = H b) → Q .non H2
/-- the defs of the text, at level j -/
structure FX (P : Prg) (w : Wd) (prog : Program) (wo : World) (mg : Str → Option Value) (base : Heap) (j : Nat) : Prop where
  fn : ∀ f F, P.fn f = some F → ∃ fa fd, mg (P.fnm f) = some (.ref fa) ∧ PySem.W.keepIn w.K (.ref fa) = true ∧ Binds w.K fd F.ps [] ∧
    (∀ n, P.kw f n = true → KBn w.K fd F.ps n (F.ps.drop n) (fun us ws => us ++ ws) (fun vs zs => vs ++ zs)) ∧ FnOk prog wo w.K mg base (L2.CX prog wo) (j + 2) fa fd F.ps (spF w F.ps.length (P.run j f))
  ini : ∀ k, P.ini k = true → ∃ fI fd ps, OexC w.K (w.cls k) ∧ PySem.W.findIn w.K (.ref (w.cls k)) "__init__" = some (some (.ref fI)) ∧ PySem.W.typeIn w.K (.ref fI) = some (.type "function") ∧ Binds w.K fd ps [] ∧
    mg (P.cnm k) = some (.ref (w.cls k)) ∧ FnOk prog wo w.K mg base (L2.CX prog wo) (j + 1) fI fd ps (spI w k)
/-- within an except suite -/
def InSuite (w : Wd) (X : Cx) : Prop := ∃ (X0 : Cx) (a : Addr) (oe : Obj) (cls : Value) (d : Option Addr) (pn : List (Addr × Obj)), X = X0.suite a ((a, oe) :: pn) ∧ Zc cls d oe ∧ (∃ vs, oe.data = .fields vs) ∧
  ∀ a' c' d', w.xo a' c' d' → a' = a ∧ cls = .ref (w.cls c') ∧ d = some d'
structure GX (P : Prg) (w : Wd) (X : Cx) (j : Nat) (M : ME) : Prop where
  tx : TX P w X.mg
  fx : M.hot = false → FX P w X.prog X.w X.mg X.base j
  K : X.K = w.K
  calm : M.hot = false → X.calm = true
  room : M.hot = false → Room (j + 2) X.A
  un : X.A.units + 65 < cLine
  nd : X.N.Nodup
  N : X.N = M.N
  sc : X.env.scope = M.sc
  st : ∀ x, M.st x = true → Loc X.env.scope x ∧ (X.fn x = true ∨ X.env.scope.names.lookup x = some .local)
  xs : ∀ i, M.xs = some i → InSuite w X
  noxo : M.hot = false → ∀ a c d, ¬ w.xo a c d

section
variable {P : Prg} {w : Wd} {X : Cx} {j : Nat} {M : ME} {W : WX}
theorem GX.vis (G : GX P w X j M) {i : Nat} {x : Str} (h : M.vis i x = true) : X.N[i]? = some x ∧ Vis X.env.scope x ∧ (x == ("__debug__" : Str)) = false ∧ (x == ("__classdict__" : Str)) = false := by
  simp only [ME.vis, Bool.and_eq_true, Bool.not_eq_true', beq_iff_eq] at h
  obtain ⟨⟨⟨h1, h2⟩, h3⟩, h4⟩ := h -- pv
  refine ⟨by rw [G.N]; exact h1, ?_, h3, h4⟩
  unfold Vis
  rw [G.sc]
  split at h2 <;> first | exact .inl (by assumption) | exact .inr (.inl (by assumption)) | exact .inr (.inr (by assumption)) | cases h2
theorem GX.glo (G : GX P w X j M) {x : Str} (h : M.glo x = true) : Gl X x ∧ (x == ("__debug__" : Str)) = false ∧ x ≠ ("__name__" : Str) := by
  simp only [ME.glo, Bool.and_eq_true, Bool.not_eq_true'] at h
  obtain ⟨⟨h1, h2⟩, h3⟩ := h
  refine ⟨?_, h2, by simpa using h3⟩
  show X.env.scope.names.lookup x = some .globalImplicit
  rw [G.sc]
  split at h1
  · assumption
  · cases h1
theorem star_cons {e : Expr} {es : List Expr} {env : Env} (h : isStar e = false) : starEach (e :: es) env = (false, eval e env) :: starEach es env := by
  cases e <;> first | rfl | (simp [isStar] at h)
theorem plain_ix {e : Expr} (h : isSlc e = false) : PlainIx e := by
  intro o i
  cases e <;> first | rfl | (simp [isSlc] at h)
theorem any_star {p : Pos} {env : Env} : ∀ {es : List Expr}, (∀ e ∈ es, isStar e = false) → (backTo p (starEach es env)).any (·.1) = false := by
  intro es
  induction es with
  | nil => intro _; rfl
  | cons e es ih =>
    intro h
    rw [star_cons (h e List.mem_cons_self)]
    have := ih fun x hx => h x (List.mem_cons_of_mem _ hx)
    cases es with
    | nil => rfl
    | cons e2 es2 =>
      rw [star_cons (h e2 (by simp))] at this ⊢
      exact this
theorem boot_bi (b : Bi) (h : b.plain = true ∨ ∃ d, b = .maxd d) : bootBuiltins (bnm b) = some (fvB b) := by
  cases b with
  | maxd d => show bootBuiltins ("max" : Str) = some (.builtin "max"); decide +kernel
  | _ => first
    | (exfalso; rcases h with h | ⟨d, h⟩
       · revert h; decide
       · cases h)
    | decide +kernel
def Bi.ty : Bi → Bool
  | .tuple => true | .list => true | .int => true | .str => true
  | _ => false
theorem RepL_ROpL {μ : List Addr} {T : Addr → Prop} {H : Hp} : ∀ {ds : List D} {vs : List V}, RepL w μ T H ds vs → ROpL w μ T H ds vs
  | [], [], _ => trivial
  | d :: ds, v :: vs, r => ⟨.inl r.1, RepL_ROpL r.2⟩
  | [], _ :: _, r => r.elim
  | _ :: _, [], r => r.elim
theorem evEs_len {c : Sig} : ∀ {es : Exs} {xs : List Expr} {ρ : Ev} {h h1 : Hs} {ds : List D}, isEs P es M xs = true → evEs c es ρ h = .ok ds h1 → ds.length = xs.length
  | .nil, [], ρ, h, h1, ds, _, e => by
    simp only [evEs] at e; cases e; rfl
  | .nil, _ :: _, _, _, _, _, i, _ => by simp [isEs] at i
  | .cons a es, [], _, _, _, _, i, _ => by simp [isEs] at i
  | .cons a es, x :: xs, ρ, h, h1, ds, i, e => by
    simp only [isEs, Bool.and_eq_true] at i
    simp only [evEs] at e
    cases e1 : evE c a ρ h with
    | ok d h2 =>
      rw [e1] at e
      simp only [Rs.bind_ok] at e
      cases e2 : evEs c es ρ h2 with
      | ok ds2 h3 =>
        rw [e2] at e
        simp only [Rs.bind_ok] at e
        cases e
        simp [evEs_len i.2 e2]
      | exc _ _ _ => rw [e2] at e; cases e
      | stuck => rw [e2] at e; cases e
    | exc _ _ _ => rw [e1] at e; cases e
    | stuck => rw [e1] at e; cases e
end

/-! ### names and constants -/ -- pv
section
variable {P : Prg} {w : Wd} {X : Cx} {j : Nat} {M : ME} {W : WX} {c : Sig}
theorem so_var (G : GX P w X j M) {i : Nat} {e : Expr} (hm : isE P (.var i) M e = true) : PE X e (rdE w W c (.var i)) := by
  cases e with
  | Name x p =>
    obtain ⟨h1, h2, h3, h4⟩ := G.vis (by simpa [isE] using hm)
    refine (pe_var h1 h2 h3 h4).imp fun σ H Q q => ?_
    obtain ⟨μ, B, θ, h, ρ, Wr, E, o⟩ := q
    simp only [evE] at o
    cases es : slotD i ρ with
    | none => rw [es] at o; exact o.elim
    | some d =>
      rw [es] at o
      have e1 : ρ[i]? = some (.val d) := by
        unfold slotD at es
        split at es
        · cases es; assumption
        · cases es
      obtain ⟨v, hv, rv⟩ := E.vals i d e1
      exact ⟨v, hv, Out.now o Wr v rv⟩
  | _ => simp [isE] at hm
theorem so_own (G : GX P w X j M) {i : Nat} {e : Expr} (hm : isO P (.own i) M e = true) : PE X e (rdO w W c (.own i)) := by
  cases e with
  | Name x p =>
    obtain ⟨h1, h2, h3, h4⟩ := G.vis (by simpa [isO] using hm)
    refine (pe_var h1 h2 h3 h4).imp fun σ H Q q => ?_
    obtain ⟨μ, B, θ, h, ρ, Wr, E, o⟩ := q
    simp only [evR] at o
    cases es : ownD i ρ with
    | none => rw [es] at o; exact o.elim
    | some d =>
      rw [es] at o
      unfold ownD at es
      split at es
      · rename_i xs e1
        cases es
        obtain ⟨hv, hB, ys, ha, r⟩ := E.owns i _ e1
        refine ⟨_, hv, Out.now o Wr _ (.inr ⟨xs, θ i, ys, rfl, rfl, fun hm => Wr.nb _ hm (.inr ⟨i, _, e1, rfl⟩), ha, r⟩)⟩
      · rename_i kvs e1
        exact (E.owns i _ e1).2.2.elim
      · cases es
  | _ => simp [isO] at hm
theorem so_cst (G : GX P w X j M) {k : Cst} {e : Expr} (hm : isE P (.cst k) M e = true) : PE X e (rdE w W c (.cst k)) := by
  cases e with
  | Constant k2 n p =>
    simp only [isE] at hm
    have fin : ∀ {v : V} {t : TE}, PE X (.Constant k2 n p) t → (∀ σ H Q, Q v H → t σ H Q) → (∀ μ T H, Rep w μ T H k.d v) → PE X (.Constant k2 n p) (rdE w W c (.cst k)) := fun hp ht hr => hp.imp fun σ H Q q => by
      obtain ⟨μ, B, θ, h, ρ, Wr, E, o⟩ := q
      simp only [evE] at o
      exact ht σ H Q (Out.now o Wr _ (hr _ _ _))
    cases k with
    | non => cases k2 <;> simp [isC] at hm; exact fin pe_non (fun _ _ _ q => q) fun _ _ _ => rfl
    | bl b => cases k2 <;> simp [isC] at hm; subst hm; exact fin pe_bl (fun _ _ _ q => q) fun _ _ _ => rfl
    | int i => cases k2 <;> simp [isC] at hm; subst hm; exact fin pe_int (fun _ _ _ q => q) fun _ _ _ => rfl
    | str x => cases k2 <;> simp [isC] at hm; subst hm; exact fin pe_str (fun _ _ _ q => q) fun _ _ _ => rfl
  | _ => simp [isE] at hm
theorem so_glb (G : GX P w X j M) {y : String} {i : Int} {e : Expr} (hm : isE P (.glb y i) M e = true) : PE X e (rdE w W c (.glb y i)) := by
  cases e with
  | Name x p =>
    simp only [isE, Bool.and_eq_true, beq_iff_eq] at hm
    obtain ⟨⟨rfl, h2⟩, h3⟩ := hm
    obtain ⟨g1, g2, _⟩ := G.glo h2
    obtain ⟨t, ht⟩ := G.tx.con y i h3
    refine (pe_glob (v := .int i) g1 ht ⟨t, rfl⟩ g2).imp fun σ H Q q => ?_
    obtain ⟨μ, B, θ, h, ρ, Wr, E, o⟩ := q
    simp only [evE] at o
    exact Out.now o Wr _ rfl
  | _ => simp [isE] at hm

/-! ### operators -/
theorem so_bin (G : GX P w X j M) {op : BOp} {a b : Op} {x y : Expr} {p : Pos} (ha : PE X x (rdO w W c a)) (hb : PE X y (rdO w W c b)) : PE X (.BinOp x (opB op) y p) (rdE w W c (.bin op a b)) := by
  refine (pe_op (bin_ok op G.K) ha hb).imp fun σ H Q q => ?_
  obtain ⟨μ, B, θ, h, ρ, Wr, E, o⟩ := q
  simp only [evE] at o
  refine Rdg.next Wr E o fun μ1 h1 H1 d1 v1 s1 W1 E1 r1 o1 => ?_
  refine Rdg.next W1 E1 o1 fun μ2 h2 H2 d2 v2 s2 W2 E2 r2 o2 => ?_
  cases e : binD op (vw h2 d1) (vw h2 d2) with
  | none => rw [e] at o2; exact o2.elim
  | some z =>
    rw [e] at o2
    exact ⟨μ2, _, h2, _, _, z, W2, (ROp.step s2 r1).rd W2, ROp.rd W2 r2, e, fun v' H' s3 W3 r3 => o2 _ _ s3 W3 v' r3⟩
theorem so_neg (G : GX P w X j M) {a : Ex} {x : Expr} {p : Pos} (ha : PE X x (rdE w W c a)) : PE X (.UnaryOp .USub x p) (rdE w W c (.neg a)) := by
  refine (pe_un un_neg ha).imp fun σ H Q q => ?_
  obtain ⟨μ, B, θ, h, ρ, Wr, E, o⟩ := q
  simp only [evE] at o
  refine Rdg.next Wr E o fun μ1 h1 H1 d1 v1 s1 W1 E1 r1 o1 => ?_
  split at o1
  · rename_i i
    exact ⟨i, r1, Out.now o1 W1 _ rfl⟩
  · exact o1.elim
theorem so_cmp (G : GX P w X j M) {op : COp} {a b : Op} {x y : Expr} {p : Pos} (ha : PE X x (rdO w W c a)) (hb : PE X y (rdO w W c b)) (hm : behindInMarks (opC op) y = false) : PE X (.Compare x [opC op] [y] p) (rdE w W c (.cmp op a b)) := by
  refine (pe_cmpR (cmp_ok op G.K G.un) ha hb hm).imp fun σ H Q q => ?_
  obtain ⟨μ, B, θ, h, ρ, Wr, E, o⟩ := q
  simp only [evE] at o
  refine Rdg.next Wr E o fun μ1 h1 H1 d1 v1 s1 W1 E1 r1 o1 => ?_
  refine Rdg.next W1 E1 o1 fun μ2 h2 H2 d2 v2 s2 W2 E2 r2 o2 => ?_
  cases e : cmpD op (vw h2 d1) (vw h2 d2) with
  | none => rw [e] at o2; exact o2.elim
  | some z =>
    rw [e] at o2
    exact ⟨μ2, _, h2, _, _, z, W2, (ROp.step s2 r1).rd W2, ROp.rd W2 r2, e, Out.now o2 W2 _ rfl⟩
theorem to_cmp (G : GX P w X j M) {op : COp} {a b : Op} {x y : Expr} {p : Pos} (ha : PE X x (rdO w W c a)) (hb : PE X y (rdO w W c b)) (hm : behindInMarks (opC op) y = false) : PT X (.Compare x [opC op] [y] p) (rdT w W c (.cmp op a b)) := by
  refine (pt_cmpR (cmp_ok op G.K G.un) ha hb hm).imp fun σ H Q q => ?_
  obtain ⟨μ, B, θ, h, ρ, Wr, E, o⟩ := q
  simp only [evT] at o
  refine Rdg.next Wr E o fun μ1 h1 H1 d1 v1 s1 W1 E1 r1 o1 => ?_
  refine Rdg.next W1 E1 o1 fun μ2 h2 H2 d2 v2 s2 W2 E2 r2 o2 => ?_
  cases e : cmpD op (vw h2 d1) (vw h2 d2) with
  | none => rw [e] at o2; exact o2.elim
  | some z =>
    rw [e] at o2
    exact ⟨μ2, _, h2, _, _, z, W2, (ROp.step s2 r1).rd W2, ROp.rd W2 r2, e, z, rfl, Out.now o2 W2 _ rfl⟩
theorem last_marks {o1 o2 : CmpOp} {y z : Expr} (h : behindInMarks o2 z = false) : lastMarks [o1, o2] [y, z] = false := h
theorem so_chain (G : GX P w X j M) {o1 o2 : COp} {a b d : Ex} {x y z : Expr} {p : Pos} (ha : PE X x (rdE w W c a)) (hb : PE X y (rdE w W c b)) (hd : PE X z (rdE w W c d)) (hm : behindInMarks (opC o2) z = false) :
    PE X (.Compare x [opC o1, opC o2] [y, z] p) (rdE w W c (.chain o1 o2 a b d)) := by
  refine (pe_chain (cmp_ok o1 G.K G.un) (cmp_ok o2 G.K G.un) ha hb hd (last_marks hm)).imp fun σ H Q q => ?_
  obtain ⟨μ, B, θ, h, ρ, Wr, E, o⟩ := q
  simp only [evE] at o
  refine Rdg.next Wr E o fun μ1 h1 H1 d1 v1 s1 W1 E1 r1 o => ?_
  refine Rdg.next W1 E1 o fun μ2 h2 H2 d2 v2 s2 W2 E2 r2 o => ?_
  cases e : cmpD o1 d1 d2 with
  | none => rw [e] at o; exact o.elim
  | some k =>
    rw [e] at o
    simp only [ofO_some, Rs.bind_ok] at o
    refine ⟨μ2, _, h2, _, _, k, W2, (Rep.step s2 (fun _ q => .inl q) r1).rd, Rep.rd r2, e, k, rfl, ?_⟩
    cases k with
    | false => exact Out.now o W2 _ rfl
    | true =>
      simp only [if_true] at o ⊢
      refine Rdg.next W2 E2 o fun μ3 h3 H3 d3 v3 s3 W3 E3 r3 o => ?_
      cases e2 : cmpD o2 d2 d3 with
      | none => rw [e2] at o; exact o.elim
      | some k2 =>
        rw [e2] at o
        exact ⟨μ3, _, h3, _, _, k2, W3, (Rep.step s3 (fun _ q => .inl q) r2).rd, Rep.rd r3, e2, Out.now o W3 _ rfl⟩
theorem to_chain (G : GX P w X j M) {o1 o2 : COp} {a b d : Ex} {x y z : Expr} {p : Pos} (ha : PE X x (rdE w W c a)) (hb : PE X y (rdE w W c b)) (hd : PE X z (rdE w W c d)) (hm : behindInMarks (opC o2) z = false) :
    PT X (.Compare x [opC o1, opC o2] [y, z] p) (rdT w W c (.chain o1 o2 a b d)) := by
  refine (pt_chain (cmp_ok o1 G.K G.un) (cmp_ok o2 G.K G.un) ha hb hd (last_marks hm)).imp fun σ H Q q => ?_
  obtain ⟨μ, B, θ, h, ρ, Wr, E, o⟩ := q
  simp only [evT] at o
  refine Rdg.next Wr E o fun μ1 h1 H1 d1 v1 s1 W1 E1 r1 o => ?_
  refine Rdg.next W1 E1 o fun μ2 h2 H2 d2 v2 s2 W2 E2 r2 o => ?_
  cases e : cmpD o1 d1 d2 with
  | none => rw [e] at o; exact o.elim
  | some k =>
    rw [e] at o
    simp only [ofO_some, Rs.bind_ok] at o
    refine ⟨μ2, _, h2, _, _, k, W2, (Rep.step s2 (fun _ q => .inl q) r1).rd, Rep.rd r2, e, k, rfl, ?_⟩
    cases k with
    | false => exact ⟨false, rfl, Out.now o W2 _ rfl⟩
    | true =>
      simp only [if_true] at o ⊢
      refine Rdg.next W2 E2 o fun μ3 h3 H3 d3 v3 s3 W3 E3 r3 o => ?_
      cases e2 : cmpD o2 d2 d3 with
      | none => rw [e2] at o; exact o.elim
      | some k2 =>
        rw [e2] at o
        exact ⟨μ3, _, h3, _, _, k2, W3, (Rep.step s3 (fun _ q => .inl q) r2).rd, Rep.rd r3, e2, k2, rfl, Out.now o W3 _ rfl⟩
theorem so_not {a : Ex} {x : Expr} {p : Pos} (ha : PE X x (rdE w W c a)) : PE X (.UnaryOp .Not x p) (rdE w W c (.not a)) := by
  refine (pe_not ha).imp fun σ H Q q => ?_
  obtain ⟨μ, B, θ, h, ρ, Wr, E, o⟩ := q
  simp only [evE] at o
  refine Rdg.next Wr E o fun μ1 h1 H1 d1 v1 s1 W1 E1 r1 o1 => ?_
  split at o1
  · rename_i i
    exact ⟨i, r1, Out.now o1 W1 _ rfl⟩
  · exact o1.elim
theorem so_and {a b : Ex} {x y : Expr} {r : List Expr} {p : Pos} (ha : PE X x (rdE w W c a)) (hb : PE X (.BoolOp .And (y :: r) p) (rdE w W c b)) : PE X (.BoolOp .And (x :: y :: r) p) (rdE w W c (.and a b)) := by
  refine (pe_and ha hb).imp fun σ H Q q => ?_
  obtain ⟨μ, B, θ, h, ρ, Wr, E, o⟩ := q
  simp only [evE] at o
  refine Rdg.next Wr E o fun μ1 h1 H1 d1 v1 s1 W1 E1 r1 o1 => ?_
  split at o1
  · rename_i k
    refine ⟨k, r1, ?_⟩
    cases k with
    | false => exact Out.now o1 W1 _ rfl
    | true => exact ⟨μ1, B, θ, h1, ρ, W1, E1, o1⟩
  · exact o1.elim
theorem so_or {a b : Ex} {x y : Expr} {r : List Expr} {p : Pos} (ha : PE X x (rdE w W c a)) (hb : PE X (.BoolOp .Or (y :: r) p) (rdE w W c b)) : PE X (.BoolOp .Or (x :: y :: r) p) (rdE w W c (.or a b)) := by
  refine (pe_or ha hb).imp fun σ H Q q => ?_
  obtain ⟨μ, B, θ, h, ρ, Wr, E, o⟩ := q
  simp only [evE] at o
  refine Rdg.next Wr E o fun μ1 h1 H1 d1 v1 s1 W1 E1 r1 o1 => ?_
  split at o1
  · rename_i k
    refine ⟨k, r1, ?_⟩
    cases k with
    | true => exact Out.now o1 W1 _ rfl
    | false => exact ⟨μ1, B, θ, h1, ρ, W1, E1, o1⟩
  · exact o1.elim
theorem so_ife {t a b : Ex} {x y z : Expr} {p : Pos} (ht : PT X x (rdT w W c t)) (ha : PE X y (rdE w W c a)) (hb : PE X z (rdE w W c b)) : PE X (.IfExp x y z p) (rdE w W c (.ife t a b)) := by
  refine (pe_ifExp ht ha hb).imp fun σ H Q q => ?_
  obtain ⟨μ, B, θ, h, ρ, Wr, E, o⟩ := q
  simp only [evE] at o
  refine Rdg.next Wr E o fun μ1 h1 H1 d1 v1 s1 W1 E1 r1 o1 => ?_
  cases r1
  cases d1 with
  | true => exact ⟨μ1, B, θ, h1, ρ, W1, E1, o1⟩
  | false => exact ⟨μ1, B, θ, h1, ρ, W1, E1, o1⟩
/-- tests -/
theorem to_not {a : Ex} {x : Expr} {p : Pos} (ha : PT X x (rdT w W c a)) : PT X (.UnaryOp .Not x p) (rdT w W c (.not a)) := by
  refine (pt_not ha).imp fun σ H Q q => ?_
  obtain ⟨μ, B, θ, h, ρ, Wr, E, o⟩ := q
  simp only [evT] at o
  refine Rdg.next Wr E o fun μ1 h1 H1 d1 v1 s1 W1 E1 r1 o1 => ?_
  cases r1
  exact Out.now o1 W1 _ rfl
theorem to_and {a b : Ex} {x y : Expr} {r : List Expr} {p : Pos} (ha : PT X x (rdT w W c a)) (hb : PW X (.BoolOp .And (y :: r) p) (rdT w W c b)) : PW X (.BoolOp .And (x :: y :: r) p) (rdT w W c (.and a b)) := by
  refine (pw_and ha hb).imp fun σ H Q q => ?_
  obtain ⟨μ, B, θ, h, ρ, Wr, E, o⟩ := q
  simp only [evT] at o
  refine Rdg.next Wr E o fun μ1 h1 H1 d1 v1 s1 W1 E1 r1 o1 => ?_
  cases r1
  cases d1 with
  | true => exact ⟨μ1, B, θ, h1, ρ, W1, E1, o1⟩
  | false => exact Out.now o1 W1 _ rfl
theorem to_or {a b : Ex} {x y : Expr} {r : List Expr} {p : Pos} (ha : PT X x (rdT w W c a)) (hb : PW X (.BoolOp .Or (y :: r) p) (rdT w W c b)) : PW X (.BoolOp .Or (x :: y :: r) p) (rdT w W c (.or a b)) := by
  refine (pw_or ha hb).imp fun σ H Q q => ?_
  obtain ⟨μ, B, θ, h, ρ, Wr, E, o⟩ := q
  simp only [evT] at o
  refine Rdg.next Wr E o fun μ1 h1 H1 d1 v1 s1 W1 E1 r1 o1 => ?_
  cases r1
  cases d1 with
  | true => exact Out.now o1 W1 _ rfl
  | false => exact ⟨μ1, B, θ, h1, ρ, W1, E1, o1⟩
/-- a value's truth -/
theorem tru_ok2 {μ : List Addr} {T : Addr → Prop} {H : Hp} {d : D} {v : V} {k : Bool} (e : tru d = some k) (r : Rep w μ T H d v) : TruV w.K v H k := by
  cases d with
  | non => cases e; rw [show v = V.non from r]; rfl
  | bl b => simp only [tru, Option.some.injEq] at e; subst e; rw [show v = V.bl b from r]; rfl
  | int b => simp only [tru, Option.some.injEq] at e; subst e; rw [show v = V.int b from r]; rfl
  | str x =>
    simp only [tru] at e
    split at e
    · rename_i hl
      cases e
      rw [show v = V.str x from r]
      refine ⟨lenMax_line hl, ?_⟩
      show (x.length != 0) = ((x.length : Int) != 0)
      by_cases hx : x.length = 0
      · rw [hx]; rfl
      · have e1 : (x.length != 0) = true := by simpa using hx
        have e2 : ((x.length : Int) != 0) = true := by simpa using hx
        rw [e1, e2]
    · cases e
  | tup ds =>
    cases e
    obtain ⟨a, xs, rfl, ha, q⟩ := r
    refine .inr (.inl ⟨xs, SqT.of ha, ?_⟩)
    have := q.len
    cases ds <;> cases xs <;> simp_all
  | lst ds =>
    cases e
    obtain ⟨a, xs, rfl, _, ha, q⟩ := r
    refine .inl ⟨xs, SqL.of ha, ?_⟩
    have := q.len
    cases ds <;> cases xs <;> simp_all
  | _ => simp [tru] at e
end
end PV
/-! S7: displays, calls, subscripts, comprehensions. -/
namespace PV
open PySem L2

section
variable {P : Prg} {w : Wd} {X : Cx} {j : Nat} {M : ME} {W : WX} {c : Sig}
/-! ### lists of expressions -/
theorem so_nil : PA X [] (rdEs w W c .nil) := pa_nil.imp fun σ H Q q => by
  obtain ⟨μ, B, θ, h, ρ, Wr, E, o⟩ := q
  simp only [evEs] at o
  exact Out.now o Wr _ trivial
theorem so_cons {e : Ex} {es : Exs} {x : Expr} {xs : List Expr} (hx : PE X x (rdE w W c e)) (hr : PA X xs (rdEs w W c es)) (hs : isStar x = false) : PA X (x :: xs) (rdEs w W c (.cons e es)) := by
  refine (pa_cons hx hr (star_cons hs)).imp fun σ H Q q => ?_
  obtain ⟨μ, B, θ, h, ρ, Wr, E, o⟩ := q
  simp only [evEs] at o
  refine Rdg.next Wr E o fun μ1 h1 H1 d1 v1 s1 W1 E1 r1 o => ?_
  refine Rdg.next W1 E1 o fun μ2 h2 H2 d2 v2 s2 W2 E2 r2 o => ?_
  exact Out.now o W2 _ ⟨Rep.step s2 (fun _ q => .inl q) r1, r2⟩
theorem ro_nil : PA X [] (rdRs w W c .nil) := pa_nil.imp fun σ H Q q => by
  obtain ⟨μ, B, θ, h, ρ, Wr, E, o⟩ := q
  simp only [evRs] at o
  exact Out.now o Wr _ trivial
theorem ro_cons {e : Op} {es : Ops} {x : Expr} {xs : List Expr} (hx : PE X x (rdO w W c e)) (hr : PA X xs (rdRs w W c es)) (hs : isStar x = false) : PA X (x :: xs) (rdRs w W c (.cons e es)) := by
  refine (pa_cons hx hr (star_cons hs)).imp fun σ H Q q => ?_
  obtain ⟨μ, B, θ, h, ρ, Wr, E, o⟩ := q
  simp only [evRs] at o
  refine Rdg.next Wr E o fun μ1 h1 H1 d1 v1 s1 W1 E1 r1 o => ?_
  refine Rdg.next W1 E1 o fun μ2 h2 H2 d2 v2 s2 W2 E2 r2 o => ?_
  exact Out.now o W2 _ ⟨ROp.step s2 r1, r2⟩
theorem so_ex {e : Ex} {x : Expr} (hx : PE X x (rdE w W c e)) : PE X x (rdO w W c (.ex e)) := hx.imp fun σ H Q q => by
  obtain ⟨μ, B, θ, h, ρ, Wr, E, o⟩ := q
  simp only [evR] at o
  exact ⟨μ, B, θ, h, ρ, Wr, E, o.imp fun d h1 μ1 H1 s1 W1 k v r => k v (.inl r)⟩
theorem thousand {n : Nat} (h : n ≤ 1000) : n ≤ sizeLine := by rw [sizeLine_eq]; omega
theorem so_tup {es : Exs} {xs : List Expr} {k : Nat} {p : Pos} (hi : isEs P es M xs = true) (hl : xs.length ≤ 1000) (ha : PA X xs (rdEs w W c es)) : PE X (.Tuple xs k p) (rdE w W c (.tup es)) := by
  refine (pe_tup ha).imp fun σ H Q q => ?_
  obtain ⟨μ, B, θ, h, ρ, Wr, E, o⟩ := q
  simp only [evE] at o
  have hlen : ∀ ds h1, evEs c es ρ h = .ok ds h1 → ds.length = xs.length := fun ds h1 e => evEs_len hi e
  refine ⟨μ, B, θ, h, ρ, Wr, E, ?_⟩
  cases ev : evEs c es ρ h with
  | ok ds h1 =>
    rw [ev] at o
    intro μ1 H1 s1 W1 vs rs
    have o := Out.trans s1 o
    refine ⟨by rw [rs.len, hlen ds h1 ev]; exact thousand hl, fun p hp => ?_⟩
    refine o μ1 _ (Step.alloc hp) (W1.alloc hp) _ ⟨p, vs, rfl, upd_same, rs.step (Step.alloc hp) fun _ q => .inl q⟩
  | exc c fs h1 => rw [ev] at o; exact o
  | stuck => rw [ev] at o; exact o
theorem HpR.push {w : Wd} {μ : List Addr} {T : Addr → Prop} {H : Hp} {h : Hs} {ds : List D} {xs : List V} {p : Addr} (Wr : HpR w μ T H h) (hp : H p = none) (r : RepL w μ T H ds xs) (hpu : pureAll ds = true) :
    Step μ H (μ ++ [p]) (upd H p (.lst xs)) ∧ HpR w (μ ++ [p]) T (upd H p (.lst xs)) (h ++ [.lst ds]) := by
  obtain ⟨n1, n2⟩ := Wr.newNotBox hp
  have st : Step μ H (μ ++ [p]) (upd H p (.lst xs)) := by
    have a := Step.alloc (μ := μ) (o := HO.lst xs) hp
    exact ⟨⟨[p], rfl, fun a h => by simp at h; subst h; exact hp⟩, a.keep, a.tup, a.frz, a.there⟩
  refine ⟨st, ⟨by simp [Wr.len], ?_, ?_, ?_, ?_, ?_⟩⟩
  · exact List.nodup_append.mpr ⟨Wr.nd, by simp, fun a ha b hb => by simp at hb; subst hb; intro e; subst e; exact n2 ha⟩
  · intro a ha
    rcases List.mem_append.mp ha with ha | ha -- pv
    · exact Wr.nb a ha
    · simp at ha; subst ha; exact n1
  · intro a q
    obtain ⟨o, e⟩ := Wr.bt a q
    exact st.there a o e
  · intro l a o h1 h2
    by_cases hl : l < μ.length
    · rw [List.getElem?_append_left hl] at h1
      rw [List.getElem?_append_left (by rw [← Wr.len]; exact hl)] at h2
      refine ObR.step st (fun _ q => .inl q) (fun u q => ?_) (Wr.at_ l a o h1 h2)
      rw [upd_ne (ne_of_none q hp)]; exact q
    · have hl2 : l = μ.length := by
        have := (List.getElem?_eq_some_iff.mp h1).1
        simp at this; omega
      subst hl2
      rw [List.getElem?_append_right (Nat.le_refl _)] at h1
      rw [Wr.len, List.getElem?_append_right (Nat.le_refl _)] at h2
      simp at h1 h2
      subst h1 h2
      exact ⟨xs, upd_same, r.step st fun _ q => .inl q⟩
  · intro o ho
    rcases List.mem_append.mp ho with ho | ho
    · exact Wr.pu o ho
    · simp at ho; subst ho; exact hpu
theorem so_lst {b : Bool} {es : Exs} {xs : List Expr} {p : Pos} (hi : isEs P es M xs = true) (hl : xs.length ≤ 1000) (ha : PA X xs (rdEs w W c es)) : PE X (.List xs p) (rdE w W c (.lst b es)) := by
  refine (pe_lst ha).imp fun σ H Q q => ?_
  obtain ⟨μ, B, θ, h, ρ, Wr, E, o⟩ := q
  simp only [evE] at o
  have hlen : ∀ ds h1, evEs c es ρ h = .ok ds h1 → ds.length = xs.length := fun ds h1 e => evEs_len hi e
  refine ⟨μ, B, θ, h, ρ, Wr, E, ?_⟩
  cases ev : evEs c es ρ h with
  | ok ds h1 =>
    rw [ev] at o
    intro μ1 H1 s1 W1 vs rs
    have o := Out.trans s1 o
    simp only [Rs.bind_ok] at o
    refine ⟨by rw [rs.len, hlen ds h1 ev]; exact thousand hl, fun p hp => ?_⟩
    cases b with
    | false =>
      simp only [Bool.false_eq_true, if_false] at o
      exact o μ1 _ (Step.alloc hp) (W1.alloc hp) _ ⟨p, vs, rfl, W1.newNotBox hp, upd_same, rs.step (Step.alloc hp) fun _ q => .inl q⟩
    | true =>
      simp only [if_true] at o
      split at o
      · rename_i hpu
        obtain ⟨st, W2⟩ := W1.push hp rs hpu
        refine o _ _ st W2 _ ⟨p, rfl, ?_⟩
        rw [← W1.len]; simp
      · exact o.elim
  | exc c fs h1 => rw [ev] at o; exact o
  | stuck => rw [ev] at o; exact o

theorem so_lstF {es : Exs} {xs : List Expr} {p : Pos} (hi : isEs P es M xs = true) (hl : xs.length ≤ 1000) (ha : PA X xs (rdEs w W c es)) : PE X (.List xs p) (rdF w W c (.lst false es)) := by
  refine (pe_lst ha).imp fun σ H Q q => ?_
  obtain ⟨μ, B, θ, h, ρ, Wr, E, o⟩ := q
  simp only [evE] at o
  have hlen : ∀ ds h1, evEs c es ρ h = .ok ds h1 → ds.length = xs.length := fun ds h1 e => evEs_len hi e
  refine ⟨μ, B, θ, h, ρ, Wr, E, ?_⟩
  have o := o.bind
  cases ev : evEs c es ρ h with
  | ok ds h1 =>
    rw [ev] at o
    intro μ1 H1 s1 W1 vs rs
    have o := o μ1 H1 s1 W1
    simp only [Bool.false_eq_true, if_false] at o
    refine ⟨by rw [rs.len, hlen ds h1 ev]; exact thousand hl, fun p hp => ?_⟩
    have np := W1.newNotBox hp
    have al : Step μ1 H1 μ1 (L2.upd H1 p (.lst vs)) := Step.alloc hp
    have bad : ∀ a, (Tot B θ ρ a ∨ a = p) → Tot B θ ρ a ∨ H1 a = none := fun a q => q.imp id fun e => by rw [e]; exact hp
    refine o μ1 _ p vs al hp np.2 ?_ upd_same (rs.step al bad)
    refine ⟨W1.len, W1.nd, fun a ha q => ?_, fun a q => ?_, fun l a o h1 h2 => (W1.at_ l a o h1 h2).step al bad (fun u q => ?_), W1.pu⟩
    · rcases q with q | q
      · exact W1.nb a ha q
      · subst q; exact np.2 ha
    · rcases q with q | q
      · obtain ⟨u, e⟩ := W1.bt a q
        exact al.there a u e
      · subst q; exact ⟨_, upd_same⟩
    · rw [upd_ne (ne_of_none q hp)]; exact q
  | exc c fs h1 => rw [ev] at o; exact o
  | stuck => rw [ev] at o; exact o

/-! ### calls -/
theorem so_call (G : GX P w X j M) (tk : Takes X W) (hh : M.hot = false) {f : Nat} {F : Fn} {es : Exs} {xs : List Expr} {p1 p : Pos} (hF : P.fn f = some F) (hg : M.glo (P.fnm f) = true) (hne : xs.isEmpty = false) (hl : (F.ps.length == xs.length) = true)
    (hi : isEs P es M xs = true) (hst : ∀ e ∈ xs, isStar e = false) (ha : PA X xs (rdEs w W (P.sig (P.run j)) es)) : PE X (.Call (.Name (P.fnm f) p1) xs [] p) (rdE w W (P.sig (P.run j)) (.call f es)) := by
  obtain ⟨fa, fd, hm, hk, hb, _, hfn⟩ := (G.fx hh).fn f F hF
  obtain ⟨g1, g2, _⟩ := G.glo hg
  cases xs with
  | nil => simp at hne
  | cons x xs =>
    rw [← G.K] at hk hb hfn
    refine (pe_callS hfn (G.room hh) g1 hm hk hb (fun σ => passAt tk σ) ha g2 (star_cons (hst x List.mem_cons_self)) (any_star fun e he => hst e (List.mem_cons_of_mem _ he))).imp fun σ H Q q => ?_
    obtain ⟨μ, B, θ, h, ρ, Wr, E, o⟩ := q
    simp only [evE] at o
    have hlen : ∀ ds h1, evEs (P.sig (P.run j)) es ρ h = .ok ds h1 → ds.length = (x :: xs).length := fun ds h1 e => evEs_len hi e
    refine ⟨μ, B, θ, h, ρ, Wr, E, ?_⟩
    cases ev : evEs (P.sig (P.run j)) es ρ h with
    | ok ds h1 =>
      rw [ev] at o
      intro μ1 H1 s1 W1 vs rs
      refine ⟨μ1, _, h1, ds, W1, rs, by rw [hlen ds h1 ev]; exact (beq_iff_eq.mp hl).symm, ?_⟩
      exact Out.trans s1 o
    | exc c fs h1 => rw [ev] at o; exact o
    | stuck => rw [ev] at o; exact o
/-! with keywords -/
def takeE : Nat → Exs → Exs
  | 0, _ => .nil
  | n + 1, .cons e es => .cons e (takeE n es)
  | _ + 1, .nil => .nil
def dropE : Nat → Exs → Exs
  | 0, es => es
  | n + 1, .cons _ es => dropE n es
  | _ + 1, .nil => .nil
theorem evEs_split {c : Sig} : ∀ (n : Nat) (es : Exs) (ρ : Ev) (h : Hs), evEs c es ρ h = (evEs c (takeE n es) ρ h).bind fun ds h1 => (evEs c (dropE n es) ρ h1).bind fun us h2 => .ok (ds ++ us) h2
  | 0, es, ρ, h => by
    simp only [takeE, dropE, evEs, Rs.bind_ok, List.nil_append]
    cases evEs c es ρ h <;> rfl
  | n + 1, .nil, ρ, h => by simp [takeE, dropE, evEs]
  | n + 1, .cons e es, ρ, h => by
    simp only [takeE, dropE, evEs]
    cases evE c e ρ h with
    | ok d h1 =>
      simp only [Rs.bind_ok]
      rw [evEs_split n es ρ h1]
      cases evEs c (takeE n es) ρ h1 with
      | ok ds h2 =>
        simp only [Rs.bind_ok]
        cases evEs c (dropE n es) ρ h2 <;> simp [List.cons_append]
      | exc _ _ _ => rfl
      | stuck => rfl
    | exc _ _ _ => rfl
    | stuck => rfl
theorem kw_each {kws : List Keyword} {ps : List Str} (h : kwN ps kws = true) (pos : Pos) (env : Env) : (backToKw pos (keywordEach kws env)).all (·.1.isSome) = true ∧ (backToKw pos (keywordEach kws env)).filterMap (·.1) = ps ∧
    (backToKw pos (keywordEach kws env)).any (·.1.isNone) = false := by
  induction kws generalizing ps with
  | nil =>
    cases ps with
    | nil => exact ⟨rfl, rfl, rfl⟩
    | cons _ _ => simp [kwN] at h
  | cons k kws ih =>
    cases ps with
    | nil => simp [kwN] at h
    | cons p ps =>
      simp only [kwN, Bool.and_eq_true] at h
      obtain ⟨h1, h2⟩ := h
      obtain ⟨i1, i2, i3⟩ := ih h2
      cases k with
      | mk arg value kp =>
        cases arg with
        | none => simp at h1
        | some n =>
          have e : n = p := by simpa using h1
          subst e
          have hc : backToKw pos (keywordEach (⟨some n, value, kp⟩ :: kws) env) = (some n, (do let v ← eval value env; standAt pos; pure v)) :: backToKw pos (keywordEach kws env) := rfl
          rw [hc]
          exact ⟨by simp [i1], by simp [i2], by simp [i3]⟩
theorem runKw {X : Cx} {k n : Nat} {f : Addr} {fd : FuncData} {ps ks : List Str} {sp : Sp} {E : L2.St → XK} {pins : List (Addr × Obj)} {σ : L2.St} {H : Hp} {s : Shared} {Q : VK} {us zs : List Value} {vs ws : List V} {g : List Value → List Value → List Value} {gV : List V → List V → List V}
    (F : FnOk X.prog X.w X.K X.mg X.base (L2.CX X.prog X.w) k f fd ps sp) (hr : Room k X.A) (hb : KBn X.K fd ps n ks g gV) (hx : PassesAt (L2.CX X.prog X.w) X σ (E σ)) (I : Inv X pins σ H s)
    (r : Vals vs us) (rz : Vals ws zs) (l1 : vs.length = n) (l2 : ws.length = ks.length) (q : sp (gV vs ws) H Q (E σ)) : wpAny (model X.prog X.w) X.A (call (.ref f) us (ks.zip zs)) (EP X pins σ Q) X.xe s := by
  have hbind := hb.to s us zs I.kIn (r.length ▸ l1) (rz.length ▸ l2)
  refine wpAny_call (codeAny_mono (F.run X.A X.stack s H ⟨us, ks.zip zs⟩ _ _ Q (E σ) hr I.env0 hbind (hb.rel r rz) q) fun out s' w => ?_)
  rcases out with e | fl
  · exact hx pins H s e s' I w
  · cases fl <;> first | exact I.after w | exact w.elim
theorem so_callk (G : GX P w X j M) (tk : Takes X W) (hh : M.hot = false) {f : Nat} {F : Fn} {es : Exs} {xs : List Expr} {kws : List Keyword} {p1 p : Pos} (hF : P.fn f = some F) (hg : M.glo (P.fnm f) = true) (hl : F.ps.length = (xs ++ kwV kws).length)
    (hkw : P.kw f xs.length = true) (hn : kwN (F.ps.drop xs.length) kws = true) (hi : isEs P es M (xs ++ kwV kws) = true) (hst : ∀ e ∈ xs, isStar e = false)
    (ha : PA X xs (rdEs w W (P.sig (P.run j)) (takeE xs.length es))) (hk2 : PK X kws (rdEs w W (P.sig (P.run j)) (dropE xs.length es))) (hla : ∀ ρ h ds h1, evEs (P.sig (P.run j)) (takeE xs.length es) ρ h = .ok ds h1 → ds.length = xs.length) :
    PE X (.Call (.Name (P.fnm f) p1) xs kws p) (rdE w W (P.sig (P.run j)) (.call f es)) := by
  obtain ⟨fa, fd, hm, hk, _, hb, hfn⟩ := (G.fx hh).fn f F hF
  have hb := hb _ hkw
  obtain ⟨g1, g2, _⟩ := G.glo hg
  obtain ⟨k1, k2, k3⟩ := kw_each hn p X.env
  rw [← G.K] at hk hb hfn
  have fin : ∀ σ H Q, rdE w W (P.sig (P.run j)) (.call f es) σ H Q → rdEs w W (P.sig (P.run j)) (takeE xs.length es) σ H fun vs H1 => vs.length = xs.length ∧ rdEs w W (P.sig (P.run j)) (dropE xs.length es) σ H1 fun zs H2 =>
      zs.length = (F.ps.drop xs.length).length ∧ spF w F.ps.length (P.run j f) (vs ++ zs) H2 Q (WE W σ) := fun σ H Q q => by
    obtain ⟨μ, B, θ, h, ρ, Wr, E, o⟩ := q
    simp only [evE] at o
    have hlen : ∀ ds h1, evEs (P.sig (P.run j)) es ρ h = .ok ds h1 → ds.length = (xs ++ kwV kws).length := fun ds h1 e => evEs_len hi e
    rw [evEs_split xs.length] at o hlen
    refine ⟨μ, B, θ, h, ρ, Wr, E, ?_⟩
    cases ev : evEs (P.sig (P.run j)) (takeE xs.length es) ρ h with
    | ok ds h1 =>
      rw [ev] at o hlen
      have hl1 := hla ρ h ds h1 ev
      intro μ1 H1 s1 W1 vs rs
      refine ⟨(RepL.len rs).trans hl1, μ1, B, θ, h1, ρ, W1, E.step Wr s1, ?_⟩
      have o := Out.trans s1 o
      simp only [Rs.bind_ok] at o hlen
      cases ev2 : evEs (P.sig (P.run j)) (dropE xs.length es) ρ h1 with
      | ok us h2 =>
        rw [ev2] at o hlen
        have hl2 := hlen _ _ rfl
        rw [List.length_append, List.length_append, hl1] at hl2
        intro μ2 H2 s2 W2 zs rz
        refine ⟨by rw [RepL.len rz, List.length_drop, hl, List.length_append]; omega, μ2, _, h2, ds ++ us, W2, RepL.app (rs.step s2 fun _ q => .inl q) rz, by rw [hl, List.length_append, List.length_append, hl1]; omega, ?_⟩
        exact Out.trans s2 o
      | exc c fs h2 => rw [ev2] at o; exact o
      | stuck => rw [ev2] at o; exact o
    | exc c fs h1 => rw [ev] at o; exact o
    | stuck => rw [ev] at o; exact o
  constructor
  intro pins s σ H Q I q
  have q := fin σ H Q q
  refine wpAny_Call_Name_kw (ld_glob I g1 hm ?_ g2)
  cases xs with
  | nil =>
    refine PySem.W.callWith_KW0 (h₀ := X.base) I.ok.mod.kin hk k1 ?_ (by rw [k3]; rfl)
    have q2 : rdEs w W (P.sig (P.run j)) (dropE 0 es) σ H fun zs H2 => zs.length = (F.ps.drop 0).length ∧ spF w F.ps.length (P.run j f) zs H2 Q (WE W σ) := by
      obtain ⟨μ, B, θ, h, ρ, Wr, E, o⟩ := q
      have := (Out.now o Wr [] trivial).2
      simpa using this
    refine thn (hk2.run p pins s σ H _ I q2) fun ws s2 ⟨zs, H2, I2, rz, l2, q2⟩ => ⟨I2.kIn, ?_⟩
    rw [k2]
    exact runKw (E := WE W) (vs := []) hfn (G.room hh) hb (passAt tk σ) I2 .nil rz rfl l2 q2
  | cons x xs =>
    refine PySem.W.callWith_KW (h₀ := X.base) I.ok.mod.kin hk k1 (thn (ha.run p pins s σ H _ I q) fun us s1 ⟨vs, H1, I1, r, l1, q1⟩ => ?_) (by rw [k3, any_star hst]; rfl) (star_cons (hst x List.mem_cons_self))
    refine thn (hk2.run p pins s1 σ H1 _ I1 q1) fun ws s2 ⟨zs, H2, I2, rz, l2, q2⟩ => ⟨I2.kIn, ?_⟩
    rw [k2]
    exact runKw (E := WE W) hfn (G.room hh) hb (passAt tk σ) I2 r rz l1 l2 q2
theorem isEs_star : ∀ {es : Exs} {xs : List Expr}, isEs P es M xs = true → ∀ e ∈ xs, isStar e = false
  | .nil, [], _ => fun e h => by cases h
  | .nil, _ :: _, i => by simp [isEs] at i
  | .cons a es, [], i => by simp [isEs] at i
  | .cons a es, x :: xs, i => by
    simp only [isEs, Bool.and_eq_true, Bool.not_eq_true'] at i
    intro e he
    rcases List.mem_cons.mp he with rfl | he -- pv
    · exact i.1.2
    · exact isEs_star i.2 e he
theorem isRs_star : ∀ {es : Ops} {xs : List Expr}, isRs P es M xs = true → ∀ e ∈ xs, isStar e = false
  | .nil, [], _ => fun e h => by cases h
  | .nil, _ :: _, i => by simp [isRs] at i
  | .cons a es, [], i => by simp [isRs] at i
  | .cons a es, x :: xs, i => by
    simp only [isRs, Bool.and_eq_true, Bool.not_eq_true'] at i
    intro e he
    rcases List.mem_cons.mp he with rfl | he -- pv
    · exact i.1.2
    · exact isRs_star i.2 e he
theorem so_bi (G : GX P w X j M) (hh : M.hot = false) {b : Bi} {es : Ops} {xs : List Expr} {p1 p : Pos} (hp : b.plain = true) (hg : M.glo (bnm b) = true) (hne : xs.isEmpty = false) (hst : ∀ e ∈ xs, isStar e = false) (ha : PA X xs (rdRs w W c es)) :
    PE X (.Call (.Name (bnm b) p1) xs [] p) (rdE w W c (.bi b es)) := by
  obtain ⟨g1, g2, g3⟩ := G.glo hg
  cases xs with
  | nil => simp at hne
  | cons x xs =>
    have hs1 := star_cons (env := X.env) (es := xs) (hst x List.mem_cons_self)
    have hs2 := any_star (p := p) (env := X.env) (es := xs) fun e he => hst e (List.mem_cons_of_mem _ he)
    have fin : ∀ σ H Q, rdE w W c (.bi b es) σ H Q → tCB (rBi w b) (rdRs w W c es) σ H Q := fun σ H Q q => by
      obtain ⟨μ, B, θ, h, ρ, Wr, E, o⟩ := q
      simp only [evE] at o
      refine Rdg.next Wr E o fun μ1 h1 H1 ds vs s1 W1 E1 r1 o => ?_
      cases e : biD b (ds.map (vw h1)) with
      | none => rw [e] at o; exact o.elim
      | some z =>
        rw [e] at o
        exact ⟨μ1, _, h1, _, z, W1, ROpL.rd W1 r1, e, fun v' H' s3 W3 r3 => o _ _ s3 W3 v' r3⟩
    have hv := boot_bi b (.inl hp)
    have hm := G.tx.bi b (.inl hp)
    have hc := bi_ok (X := X) (w := w) b hp G.K (G.calm hh)
    by_cases ht : b.ty = true
    · have hfv : ∃ T, fvB b = .type T := by cases b <;> first | exact ⟨_, rfl⟩ | (simp [Bi.ty] at ht)
      obtain ⟨T, hT⟩ := hfv
      rw [hT] at hv hc
      exact (pe_callTy hc g1 hm hv ha g3 g2 hs1 hs2).imp fin
    · have hfv : ∃ T, fvB b = .builtin T := by
        cases b with
        | tuple => exact absurd rfl ht
        | list => exact absurd rfl ht
        | int => exact absurd rfl ht
        | str => exact absurd rfl ht
        | _ => exact ⟨_, rfl⟩
      obtain ⟨T, hT⟩ := hfv
      rw [hT] at hv hc
      exact (pe_callB hc g1 hm hv ha g3 g2 hs1 hs2).imp fin

/-! ### isinstance -/
def tyv : Ty → String
  | .int => "int" | .bool => "bool" | .str => "str" | .tuple => "tuple" | .list => "list" | .dict => "dict" | .own _ => "object"
def dty : D → String
  | .non => "NoneType" | .bl _ => "bool" | .int _ => "int" | .str _ => "str" | .tup _ => "tuple" | .lst _ => "list" | _ => "object"
theorem boot_ty (t : Ty) (h : t.plain = true) : bootBuiltins (tnm t) = some (.type (tyv t)) := by
  cases t with
  | own c => exact absurd h (by simp [Ty.plain])
  | _ => decide +kernel
theorem kit_plain (K : PySem.W.Frag) (d : D) (t : Ty) (h : t.plain = true) (hd : (isiD [] d).isSome = true) : PySem.W.kitOne K (.type (dty d)) (.type (tyv t)) = some (t.holds d) := by
  cases t with
  | own c => exact absurd h (by simp [Ty.plain])
  | _ => cases d <;> first | (exfalso; revert hd; simp [isiD]; done) | (exact kit_ty (by simp only [dty, tyv, Ty.holds]; decide +kernel))
theorem isi_data {ts : List Ty} {d : D} {k : Bool} (e : isiD ts d = some k) : ts.all Ty.plain = true ∧ k = (ts.any fun t => t.holds d) ∧ (isiD [] d).isSome = true := by
  cases d <;> simp [isiD] at e ⊢ <;> exact ⟨e.1, e.2.symm⟩
theorem ty_data {ts : List Ty} {d : D} {k : Bool} {μ : List Addr} {T : Addr → Prop} {H : Hp} {v : V} (hK : X.K = w.K) (e : isiD ts d = some k) (r : Rd8 w μ T H d v) : TyX X.K H v (.type (dty d)) := by
  cases d with
  | non => rw [show v = V.non from r]; exact .base .non
  | bl b => rw [show v = V.bl b from r]; exact .base (.bl b)
  | int b => rw [show v = V.int b from r]; exact .base (.int b)
  | str b => rw [show v = V.str b from r]; exact .base (.str b)
  | tup ds => obtain ⟨a, xs, rfl, ha, _⟩ := r; exact .base (.tup ha)
  | lst ds => obtain ⟨a, xs, rfl, ha, _⟩ := r; exact .base (.lst ha)
  | _ => simp [isiD] at e
theorem kitAny_plain (K : PySem.W.Frag) (d : D) (hd : (isiD [] d).isSome = true) : ∀ ts : List Ty, ts.all Ty.plain = true → PySem.W.kitAny K (.type (dty d)) (ts.map fun t => Value.type (tyv t)) = some (ts.any fun t => t.holds d)
  | [], _ => kitAny_nil
  | t :: ts, h => by
    simp only [List.all_cons, Bool.and_eq_true] at h -- pv
    refine kitAny_cons (kit_plain K d t h.1 hd) (fun hb => ?_) (fun hb => ?_)
    · rw [kitAny_plain K d hd ts h.2]; simp [hb]
    · simp [hb]
theorem tys_pa (G : GX P w X j M) : ∀ {ts : List Ty} {xs : List Expr}, isTys M ts xs = true → PA X xs (fun _ H Q => Q (ts.map fun t => V.ty (tyv t)) H) ∧ ts.length = xs.length ∧ ts.all Ty.plain = true
  | [], [], _ => ⟨pa_nil, rfl, rfl⟩
  | [], _ :: _, h => by simp [isTys] at h
  | t :: ts, [], h => by cases t <;> simp [isTys] at h
  | t :: ts, x :: xs, h => by
    cases x with
    | Name n p =>
      simp only [isTys, Bool.and_eq_true, beq_iff_eq] at h
      obtain ⟨⟨⟨h1, rfl⟩, h3⟩, h4⟩ := h
      obtain ⟨k1, k2, k3⟩ := tys_pa G h4
      obtain ⟨g1, g2, g3⟩ := G.glo h3
      refine ⟨?_, by simp [k2], by simp [h1, k3]⟩
      exact (pa_cons (pe_bltn (v := .ty (tyv t)) g1 (G.tx.ty t h1) (boot_ty t h1) rfl g3 g2) k1 (star_cons rfl)).imp fun σ H Q q => q
    | _ => simp [isTys] at h
theorem pair_cls : ∀ ts : List Ty, Paired ClsV (ts.map fun t => V.ty (tyv t)) (ts.map fun t => Value.type (tyv t))
  | [] => .nil
  | t :: ts => .cons (.ty _) (pair_cls ts)
theorem so_isi (G : GX P w X j M) {a : Op} {ts : List Ty} {y z : Expr} {p1 p : Pos} (hg : M.glo ("isinstance" : Str) = true) (ha : PE X y (rdO w W c a)) (hs : isStar y = false) (ht : isTy1 M ts z = true) :
    PE X (.Call (.Name "isinstance" p1) [y, z] [] p) (rdE w W c (.isi a ts)) := by
  obtain ⟨g1, g2, g3⟩ := G.glo hg
  have hv : bootBuiltins ("isinstance" : Str) = some (.builtin "isinstance") := by decide +kernel
  have core : ∀ {r : List V → Hp → VK → Prop} {tz : TE}, CallR X (.builtin "isinstance") r → PE X z tz → isStar z = false →
      (∀ μ T h H d v k (Q : VK), HpR w μ T H h → Rd8 w μ T H d v → isiD ts d = some k → Q (.bl k) H → (∀ H', Step μ H μ H' → HpR w μ T H' h → Q (.bl k) H') → ∀ σ, tz σ H fun u H1 => r [v, u] H1 Q) →
      PE X (.Call (.Name "isinstance" p1) [y, z] [] p) (rdE w W c (.isi a ts)) := fun {r tz} hc hz hsz hk => by
    refine (pe_callB hc g1 G.tx.isi hv (pa_cons ha (pa_cons hz pa_nil (star_cons hsz)) (star_cons hs)) g3 g2 (star_cons hs) (any_star fun e he => by simp at he; rw [he]; exact hsz)).imp fun σ H Q q => ?_
    obtain ⟨μ, B, θ, h, ρ, Wr, E, o⟩ := q
    simp only [evE] at o
    refine Rdg.next Wr E o fun μ1 h1 H1 d1 v1 s1 W1 E1 r1 o => ?_
    cases e : isiD ts (vw h1 d1) with
    | none => rw [e] at o; exact o.elim
    | some k =>
      rw [e] at o
      exact hk μ1 _ h1 H1 _ v1 k Q W1 (ROp.rd W1 r1) e (Out.now o W1 _ rfl) (fun H' s2 W2 => o _ _ s2 W2 _ rfl) σ
  have tupCase : ∀ {es : List Expr} {n : Nat} {q : Pos}, z = .Tuple es n q → isTys M ts es = true → es.length ≤ 1000 → PE X (.Call (.Name "isinstance" p1) [y, z] [] p) (rdE w W c (.isi a ts)) := fun {es n q} hz h1 h2 => by
    obtain ⟨k1, k2, k3⟩ := tys_pa G h1
    subst hz
    refine core call_isiT (pe_tup k1) rfl fun μ T h H d v k Q Wr r e q1 q2 σ => ?_
    obtain ⟨e1, e2, e3⟩ := isi_data e
    refine ⟨by rw [List.length_map, k2]; exact thousand h2, fun tp htp => ?_⟩
    have ty := ty_data (X := X) G.K e r
    refine ⟨v, tp, _, .type (dty d), ts.map fun t => Value.type (tyv t), k, rfl, upd_same, ?_, ?_, by rw [e2]; exact kitAny_plain _ d e3 ts e1, q2 _ (Step.alloc htp) (Wr.alloc htp)⟩
    · exact pair_cls ts
    · exact ty_data (X := X) G.K e (by
        cases d with
        | lst ds => obtain ⟨a, xs, rfl, ha, q⟩ := r; exact ⟨a, xs, rfl, by rw [upd_ne (ne_of_none ha htp)]; exact ha, q.step (Step.alloc htp) fun _ q => .inl q⟩
        | _ => exact Rep.step (T' := T) (Step.alloc (μ := μ) htp) (fun _ q => .inl q) r)
  cases z with
  | Name n q =>
    cases ts with
    | nil => simp [isTy1] at ht
    | cons t ts =>
      cases ts with
      | cons _ _ => simp [isTy1] at ht
      | nil =>
        simp only [isTy1, isTys, Bool.and_eq_true, beq_iff_eq, Bool.and_true] at ht
        obtain ⟨⟨h1, rfl⟩, h3⟩ := ht
        obtain ⟨k1, k2, k3⟩ := G.glo h3
        refine core call_isi (pe_bltn (v := .ty (tyv t)) k1 (G.tx.ty t h1) (boot_ty t h1) rfl k3 k2) rfl fun μ T h H d v k Q Wr r e q1 q2 σ => ?_
        obtain ⟨e1, e2, e3⟩ := isi_data e
        have ek : k = t.holds d := by simpa using e2
        exact ⟨v, .ty (tyv t), .type (dty d), .type (tyv t), k, rfl, .ty _, ty_data (X := X) G.K e r, by rw [ek]; exact kit_plain _ d t h1 e3, q1⟩
  | Tuple es n q =>
    have h2 : isTys M ts es = true ∧ es.length ≤ 1000 := by
      cases ts with
      | nil => simpa [isTy1] using ht
      | cons t ts => cases ts <;> simpa [isTy1] using ht
    exact tupCase rfl h2.1 h2.2
  | _ => cases ts with
    | nil => simp [isTy1] at ht
    | cons t ts => cases ts <;> simp [isTy1] at ht

/-! ### subscripts -/
theorem atI_rep {μ : List Addr} {T : Addr → Prop} {H : Hp} {ds : List D} {vs : List V} {i : Int} {d : D} (r : RepL w μ T H ds vs) (e : PV.atI ds i = some d) : ∃ v, L2.atI vs i = some v ∧ Rep w μ T H d v := by
  simp only [PV.atI, Option.bind_eq_some_iff] at e
  obtain ⟨n, e1, e2⟩ := e
  obtain ⟨v, hv, rv⟩ := r.get e2
  refine ⟨v, ?_, rv⟩
  simp only [L2.atI, Option.bind_eq_some_iff]
  exact ⟨n, by rw [r.len]; exact e1, hv⟩
theorem so_idx (G : GX P w X j M) {a : Op} {i : Ex} {x y : Expr} {p : Pos} (ha : PE X x (rdO w W c a)) (hi : PE X y (rdE w W c i)) (hs : isSlc y = false) : PE X (.Subscript x y p) (rdE w W c (.idx a i)) := by
  refine (pe_ix ix_seq ha hi (plain_ix hs)).imp fun σ H Q q => ?_
  obtain ⟨μ, B, θ, h, ρ, Wr, E, o⟩ := q
  simp only [evE] at o
  refine Rdg.next Wr E o fun μ1 h1 H1 d1 v1 s1 W1 E1 r1 o => ?_
  refine Rdg.next W1 E1 o fun μ2 h2 H2 d2 v2 s2 W2 E2 r2 o => ?_
  have r1 := ROp.rd W2 (ROp.step s2 r1)
  generalize vw h2 d1 = d at r1 o
  cases e : idxD d d2 with
  | none => rw [e] at o; exact o.elim
  | some z =>
    rw [e] at o
    unfold idxD at e
    split at e
    · rename_i xs k
      obtain ⟨a, ys, rfl, ha, ra⟩ := r1.tup
      obtain ⟨v, hv, rv⟩ := atI_rep ra e
      exact .inr (.inl ⟨a, ys, k, v, rfl, r2, SqT.of ha, hv, Out.now o W2 _ rv⟩)
    · rename_i xs k
      obtain ⟨a, ys, rfl, ha, ra⟩ := r1.lst
      obtain ⟨v, hv, rv⟩ := atI_rep ra e
      exact .inl ⟨a, ys, k, v, rfl, r2, SqL.of ha, hv, Out.now o W2 _ rv⟩
    · rename_i is k
      obtain ⟨a, rfl, ha⟩ := (show Rep w μ2 (Tot B θ ρ) H2 (.scr is) v1 from r1)
      simp only [Option.bind_eq_some_iff, Option.map_eq_some_iff] at e
      obtain ⟨n, e1, m, e2, rfl⟩ := e
      refine .inl ⟨a, is.map V.int, k, .int m, rfl, r2, by rw [G.K]; exact ha.sql, ?_, Out.now o W2 _ rfl⟩
      simp only [L2.atI, Option.bind_eq_some_iff]
      exact ⟨n, by rw [List.length_map]; exact e1, by simp [e2]⟩
    · exact False.elim r1
    · cases e
theorem ox_none : PO X none (rdX w W c .none) := po_none.imp fun σ H Q q => by
  obtain ⟨μ, B, θ, h, ρ, Wr, E, o⟩ := q
  simp only [evO] at o
  exact Out.now o Wr _ rfl
theorem ox_some {e : Ex} {x : Expr} (hx : PE X x (rdE w W c e)) : PO X (some x) (rdX w W c (.some e)) := (po_some hx).imp fun σ H Q q => by
  obtain ⟨μ, B, θ, h, ρ, Wr, E, o⟩ := q
  simp only [evO] at o
  refine Rdg.next Wr E o fun μ1 h1 H1 d1 v1 s1 W1 E1 r1 o => ?_
  split at o
  · rename_i i
    exact ⟨i, r1, Out.now o W1 _ rfl⟩
  · exact o.elim
theorem so_sli (G : GX P w X j M) {a : Op} {lo hi : Exo} {x : Expr} {l u : Option Expr} {p p2 : Pos} (ha : PE X x (rdO w W c a)) (hl : PO X l (rdX w W c lo)) (hu : PO X u (rdX w W c hi)) : PE X (.Subscript x (.Slice l u none p2) p) (rdE w W c (.sli a lo hi)) := by
  refine (pe_slice (sl_list.or sl_tupA) ha hl hu).imp fun σ H Q q => ?_
  obtain ⟨μ, B, θ, h, ρ, Wr, E, o⟩ := q
  simp only [evE] at o
  refine Rdg.next Wr E o fun μ1 h1 H1 d1 v1 s1 W1 E1 r1 o => ?_
  refine Rdg.next W1 E1 o fun μ2 h2 H2 d2 v2 s2 W2 E2 r2 o => ?_
  refine Rdg.next W2 E2 o fun μ3 h3 H3 d3 v3 s3 W3 E3 r3 o => ?_
  cases r2
  cases r3
  have r1 := ROp.rd W3 (ROp.step (s2.trans s3) r1)
  generalize vw h3 d1 = d at r1 o
  split at o
  · rename_i xs
    obtain ⟨a, ys, rfl, ha, ra⟩ := r1.lst
    refine .inl ⟨a, ys, rfl, SqL.of ha, fun p hp => ?_⟩
    exact o _ _ (Step.alloc hp) (W3.alloc hp) _ ⟨p, _, rfl, W3.newNotBox hp, upd_same, (cut_rep ra _ _).step (Step.alloc hp) fun _ q => .inl q⟩
  · rename_i xs
    obtain ⟨a, ys, rfl, ha, ra⟩ := r1.tup
    refine .inr ⟨a, ys, rfl, SqT.of ha, fun hw => ?_, fun _ p hp => ?_⟩
    · have hc := cut_rep ra d2 d3
      have e : cutV ys d2 d3 = ys := by
        unfold cutV
        rw [hw.1, hw.2]; simp
      rw [e] at hc
      exact Out.now o W3 _ ⟨a, ys, rfl, ha, hc⟩
    · exact o _ _ (Step.alloc hp) (W3.alloc hp) _ ⟨p, _, rfl, upd_same, (cut_rep ra _ _).step (Step.alloc hp) fun _ q => .inl q⟩
  · exact o.elim

/-! ### a value as a test -/
theorem to_val (G : GX P w X j M) {m : Ex} {x : Expr} (hx : PE X x (rdE w W c m)) (he : ∀ whole, isTrue x X.env whole = (do let v ← whole; standAt x.pos; holding [v] (truthy v)))
    (hm : ∀ ρ h, evT c m ρ h = (evE c m ρ h).bind fun d h1 => ofO (tru d) h1) : PT X x (rdT w W c m) := by
  refine (pt_truth hx he).imp fun σ H Q q => ?_
  obtain ⟨μ, B, θ, h, ρ, Wr, E, o⟩ := q
  rw [hm] at o
  refine Rdg.next Wr E o fun μ1 h1 H1 d1 v1 s1 W1 E1 r1 o => ?_
  cases e : tru d1 with
  | none => rw [e] at o; exact o.elim
  | some k =>
    rw [e] at o
    exact ⟨k, by rw [G.K]; exact tru_ok2 e r1, Out.now o W1 _ rfl⟩
end
end PV
/-! S8: what is walked; targets; comprehensions. -/
namespace PV
open PySem L2

theorem HpR.mono {w : Wd} {μ : List Addr} {T T' : Addr → Prop} {H : Hp} {h : Hs} (W : HpR w μ T H h) (ht : ∀ a, T' a → T a) : HpR w μ T' H h :=
  ⟨W.len, W.nd, fun a m q => W.nb a m (ht a q), fun a q => W.bt a (ht a q), fun l a o h1 h2 => (W.at_ l a o h1 h2).step Step.refl (fun a q => .inl (ht a q)) (fun _ q => q), W.pu⟩
/-- J hands out the items xs, in this state -/
def Serves (w : Wd) (μ : List Addr) (T : Addr → Prop) (H : Hp) (h : Hs) (xs : List D) (J : L2.It) : Prop :=
  J.stop xs.length H ∧ ∀ (i : Nat) (d : D), xs[i]? = some d → J.go i H ∧ ∀ x H', J.yld i H x H' → Step μ H μ H' ∧ HpR w μ T H' h ∧ Rep w μ T H' d x
/-- J walks the source from now on -/
def SrcJ (w : Wd) (μ : List Addr) (T : Addr → Prop) (H : Hp) : Src → L2.It → Prop
  | .fix xs, J => ∀ μ' T' H' h', KStep μ T H μ' T' H' → HpR w μ' T' H' h' → Serves w μ' T' H' h' xs J
  | .box l xs, J => ∀ μ' T' H' h', KStep μ T H μ' T' H' → HpR w μ' T' H' h' → (∃ o, h'[l]? = some o ∧ o.sameLst xs = true) → Serves w μ' T' H' h' xs J
  | .own i xs, J => ∀ μ' T' H' h', Step μ H μ' H' → (∀ a, T' a → T a ∨ H a = none) → HpR w μ' T' H' h' → Serves w μ' T' H' h' xs J
def rdI (w : Wd) (W : WX) (c : Sig) (m : It) : TI := Rdg w W (evI c m) (fun μ T H _ s J => SrcJ w μ T H s J)

section
variable {w : Wd} {μ : List Addr} {T : Addr → Prop} {H : Hp} {h : Hs} {K : PySem.W.Frag}
theorem serves_list {xs : List D} {ys : List V} {a : Addr} (W : HpR w μ T H h) (ha : SqL K H a ys) (r : RepL w μ T H xs ys) : Serves w μ T H h xs (Itl K a) := by
  refine ⟨⟨ys, ha, by rw [r.len]; exact Nat.le_refl _⟩, fun i d hd => ?_⟩
  obtain ⟨v, hv, rv⟩ := r.get hd
  refine ⟨⟨ys, v, ha, hv⟩, fun x H' hy => ?_⟩
  obtain ⟨rfl, hy⟩ := hy
  have := hy ys ha
  rw [hv] at this
  cases this
  exact ⟨Step.refl, W, rv⟩
theorem serves_tup {xs : List D} {ys : List V} {a : Addr} (W : HpR w μ T H h) (ha : SqT K H a ys) (r : RepL w μ T H xs ys) : Serves w μ T H h xs (Itt K a) := by
  refine ⟨⟨ys, ha, by rw [r.len]; exact Nat.le_refl _⟩, fun i d hd => ?_⟩
  obtain ⟨v, hv, rv⟩ := r.get hd
  refine ⟨⟨ys, v, ha, hv⟩, fun x H' hy => ?_⟩
  obtain ⟨rfl, hy⟩ := hy
  have := hy ys ha
  rw [hv] at this
  cases this
  exact ⟨Step.refl, W, rv⟩
theorem rngL_len : ∀ (n : Nat) (lo : Int), (rngL lo n).length = n
  | 0, _ => rfl
  | n + 1, lo => by simp [rngL, rngL_len n]
theorem rngL_get : ∀ (n : Nat) (lo : Int) (i : Nat), i < n → (rngL lo n)[i]? = some (.int (lo + i))
  | n + 1, lo, 0, _ => by simp [rngL]
  | n + 1, lo, i + 1, h => by
    have := rngL_get n (lo + 1) i (by omega)
    simp only [rngL, List.getElem?_cons_succ, this]
    congr 2
    omega
theorem serves_rng {lo : Int} {n : Nat} (W : HpR w μ T H h) : Serves w μ T H h (rngL lo n) (Itr lo n) := by
  refine ⟨by rw [rngL_len]; exact Nat.le_refl _, fun i d hd => ?_⟩
  have hi : i < n := by
    have := (List.getElem?_eq_some_iff.mp hd).1
    rwa [rngL_len] at this
  rw [rngL_get n lo i hi] at hd
  cases hd
  refine ⟨hi, fun x H' hy => ?_⟩
  obtain ⟨rfl, rfl⟩ := hy
  exact ⟨Step.refl, W, rfl⟩
end

/-- a list or a tuple is walked -/
def iSeq (K : PySem.W.Frag) (tl : TE) : TI := fun σ H R => tl σ H fun x H1 => ∃ a, x = .ref a ∧ (((∃ xs, SqL K H1 a xs) ∧ R (Itl K a) H1) ∨ ((∃ xs, SqT K H1 a xs) ∧ R (Itt K a) H1))
theorem pi_seq {X : Cx} {tg l : Expr} {tl : TE} (hl : PE X l tl) : PI X tg l (iSeq X.K tl) := by
  constructor
  intro pins s σ H R I h
  refine thn (hl.run pins s σ H _ I h) ?_
  rintro v s1 ⟨x, H1, I1, r1, a, rfl, q⟩
  cases r1
  have nw : FpOk X pins H1 s1.heap.objs.size := I1.fpOk (Nat.le_refl _) (I1.hok.fresh (Nat.le_refl _))
  have kp : ∀ o, Inv X pins σ H1 { s1 with heap := s1.heap.push o } := fun o => I1.kept (t' := s1.toks) fun b u e => Heap.get?_push_of_some _ e
  rcases q with ⟨⟨xs, hq⟩, q⟩ | ⟨⟨xs, hq⟩, q⟩
  · obtain ⟨its, rv, p, hz⟩ := I1.list hq
    refine wpAny_pyIter_list p.isList ?_ -- pv
    exact ⟨_, [_], _, _, H1, rfl, kp _, turn_list a _, ⟨_, Heap.get?_push_size _ rfl, rfl, rfl⟩, fun b hb => by
      have e : b = s1.heap.objs.size := by simpa using hb -- pv
      rw [e]; exact nw, q⟩
  · obtain ⟨its, rv, p, hz⟩ := I1.tuple hq
    refine wpAny_pyIter_tuple (show s1.heap.IsTuple a its.toArray from p) ?_ -- pv
    exact ⟨_, [_], _, _, H1, rfl, kp _, turn_tuple a _, ⟨_, Heap.get?_push_size _ rfl, rfl, rfl⟩, fun b hb => by
      have e : b = s1.heap.objs.size := by simpa using hb -- pv
      rw [e]; exact nw, q⟩
theorem _root_.L2.PI.imp {X : Cx} {tg l : Expr} {t t' : TI} (p : PI X tg l t) (h : ∀ σ H R, t' σ H R → t σ H R) : PI X tg l t' := ⟨fun pins s σ H R I q => p.run pins s σ H R I (h σ H R q)⟩

section
variable {P : Prg} {w : Wd} {X : Cx} {j : Nat} {M : ME} {W : WX} {c : Sig} {tg : Expr}
theorem si_of (G : GX P w X j M) {e : Ex} {x : Expr} (hx : PE X x (rdE w W c e)) : PI X tg x (rdI w W c (.of (.ex e))) := by
  refine (pi_seq hx).imp fun σ H R q => ?_
  obtain ⟨μ, B, θ, h, ρ, Wr, E, o⟩ := q
  simp only [evI] at o
  refine Rdg.next Wr E o fun μ1 h1 H1 d v s1 W1 E1 r1 o => ?_
  cases e : srcD h1 d with
  | none => rw [e] at o; exact o.elim
  | some src =>
    rw [e] at o
    have o := fun J hJ => Out.now o W1 J hJ
    unfold srcD at e
    split at e
    · cases e
      obtain ⟨a, ys, rfl, ha, q⟩ := r1
      refine ⟨a, rfl, .inr ⟨⟨ys, SqT.of ha⟩, o _ fun μ' T' H' h' k W' => ?_⟩⟩
      exact serves_tup W' (SqT.of (k.tup _ _ ha)) (q.kstep k)
    · cases e
      obtain ⟨a, ys, rfl, ⟨n1, n2⟩, ha, q⟩ := r1
      refine ⟨a, rfl, .inl ⟨⟨ys, SqL.of ha⟩, o _ fun μ' T' H' h' k W' => ?_⟩⟩
      exact serves_list W' (SqL.of (k.keep a _ ha n1 n2 fun ps z => by cases z)) (q.kstep k)
    · rename_i is
      cases e
      obtain ⟨a, rfl, ha⟩ := r1
      refine ⟨a, rfl, .inl ⟨⟨_, by rw [G.K]; exact ha.sql⟩, o _ fun μ' T' H' h' k W' => ?_⟩⟩
      have ha' : ScrAt w.K H' a is := by
        rcases ha with ⟨ob, ha⟩ | ha
        · exact .inl ⟨ob, k.frz _ _ _ ha⟩
        · exact .inr ha
      rw [G.K]
      exact serves_list W' ha'.sql (RepL.ofInts _)
    · rename_i l
      split at e
      · rename_i xs hl
        cases e
        obtain ⟨a, rfl, hm⟩ := r1
        obtain ⟨ys, ha, _⟩ := W1.at_ l a _ hm hl
        refine ⟨a, rfl, .inl ⟨⟨ys, SqL.of ha⟩, o _ fun μ' T' H' h' k W' hs => ?_⟩⟩
        obtain ⟨ob, h3, h4⟩ := hs
        cases Ob.sameLst_eq h4
        obtain ⟨zs, hz, q⟩ := W'.at_ l a _ (k.at hm) h3
        exact serves_list W' (SqL.of hz) q
      · cases e
    · cases e
theorem si_own (G : GX P w X j M) {i : Nat} {x : Expr} (hm : isO P (.own i) M x = true) : PI X tg x (rdI w W c (.of (.own i))) := by
  cases x with
  | Name x p =>
    obtain ⟨h1, h2, h3, h4⟩ := G.vis (by simpa [isO] using hm)
    refine (pi_seq (pe_var h1 h2 h3 h4)).imp fun σ H R q => ?_
    obtain ⟨μ, B, θ, h, ρ, Wr, E, o⟩ := q
    simp only [evI] at o
    split at o
    · rename_i xs eo
      have e1 : ρ[i]? = some (.own (.lst xs)) := by
        unfold ownD at eo
        split at eo
        · cases eo; assumption
        · cases eo
        · cases eo
      obtain ⟨hv, hB, ys, ha, r⟩ := E.owns i _ e1
      have nm : θ i ∉ μ := fun q => Wr.nb _ q (.inr ⟨i, _, e1, rfl⟩)
      refine ⟨_, hv, θ i, rfl, .inl ⟨⟨ys, SqL.of ha⟩, Out.now o Wr _ fun μ' T' H' h' k ht W' => ?_⟩⟩
      exact serves_list W' (SqL.of (k.keep _ _ ha nm fun ps z => by cases z)) (r.step k ht)
    · exact o.elim
  | _ => simp [isO] at hm
theorem big_ok {i : Int} (h : big i = true) : -(2 ^ 62) ≤ i ∧ i < 2 ^ 62 := by simpa [big] using h
theorem si_rng1 (G : GX P w X j M) {a : Ex} {y : Expr} {p1 p : Pos} (hg : M.glo ("range" : Str) = true) (ha : PE X y (rdE w W c a)) (hs : isStar y = false) : PI X tg (.Call (.Name "range" p1) [y] [] p) (rdI w W c (.rng1 a)) := by
  obtain ⟨g1, g2, g3⟩ := G.glo hg
  refine (pi_range1 g1 G.tx.rng (pa_cons ha pa_nil (star_cons hs)) (star_cons hs)).imp fun σ H R q => ?_
  obtain ⟨μ, B, θ, h, ρ, Wr, E, o⟩ := q
  simp only [evI] at o
  refine Rdg.next Wr E o fun μ1 h1 H1 d v s1 W1 E1 r1 o => ?_
  cases e : rngD (.int 0) d with
  | none => rw [e] at o; exact o.elim
  | some xs =>
    rw [e] at o
    unfold rngD at e
    split at e
    · rename_i i j e1
      cases e1
      split at e
      · rename_i hb
        cases e
        simp only [Bool.and_eq_true] at hb
        obtain ⟨b1, b2⟩ := big_ok hb.2
        refine ⟨j, by rw [show v = V.int j from r1], b1, b2, ?_⟩
        have := Out.now o W1 (Itr 0 (j - 0).toNat) fun μ' T' H' h' k W' => serves_rng W'
        rwa [Int.sub_zero] at this
      · cases e
    · cases e
theorem si_rng2 (G : GX P w X j M) {a b : Ex} {y z : Expr} {p1 p : Pos} (hg : M.glo ("range" : Str) = true) (ha : PE X y (rdE w W c a)) (hb : PE X z (rdE w W c b)) (hs : isStar y = false) (hs2 : isStar z = false) : PI X tg (.Call (.Name "range" p1) [y, z] [] p) (rdI w W c (.rng2 a b)) := by
  obtain ⟨g1, g2, g3⟩ := G.glo hg
  refine (pi_range2 g1 G.tx.rng (pa_cons ha (pa_cons hb pa_nil (star_cons hs2)) (star_cons hs)) (by rw [star_cons hs, star_cons hs2]; rfl) (star_cons hs2)).imp fun σ H R q => ?_
  obtain ⟨μ, B, θ, h, ρ, Wr, E, o⟩ := q
  simp only [evI] at o
  refine Rdg.next Wr E o fun μ1 h1 H1 d v s1 W1 E1 r1 o => ?_
  refine Rdg.next W1 E1 o fun μ2 h2 H2 d2 v2 s2 W2 E2 r2 o => ?_
  cases e : rngD d d2 with
  | none => rw [e] at o; exact o.elim
  | some xs =>
    rw [e] at o
    unfold rngD at e
    split at e
    · rename_i i j
      split at e
      · rename_i hb
        cases e
        simp only [Bool.and_eq_true] at hb
        obtain ⟨b1, b2⟩ := big_ok hb.1
        obtain ⟨b3, b4⟩ := big_ok hb.2
        exact ⟨i, j, by rw [show v = V.int i from r1, show v2 = V.int j from r2], ⟨b1, b2, b3, b4⟩, Out.now o W2 (Itr i (j - i).toNat) fun μ' T' H' h' k W' => serves_rng W'⟩
      · cases e
    · cases e
end

/-! ### targets -/
mutual
def tgR (K : PySem.W.Frag) : Tg → TG
  | .slot i => gName i
  | .tup ts => gTup K (tgsN ts) (tgsR K ts)
def tgsR (K : PySem.W.Frag) : Tgs → TGs
  | .nil => gNil
  | .cons t ts => gCons (tgR K t) (tgsR K ts)
def tgsN : Tgs → Nat
  | .nil => 0
  | .cons _ ts => tgsN ts + 1
end
theorem each_cons {e : Expr} {es : List Expr} {env : Env} (h : isStar e = false) : assignEach (e :: es) env = (false, assign e env) :: assignEach es env := by
  cases e <;> first | rfl | (simp [isStar] at h)
theorem isG_star {M : ME} {t : Tg} {e : Expr} (h : isG M t e = true) : isStar e = false := by
  cases e with
  | Starred _ _ => cases t <;> simp [isG] at h
  | _ => rfl
theorem each_len {M : ME} : ∀ {ts : Tgs} {es : List Expr} {env : Env}, isGs M ts es = true → (assignEach es env).length = tgsN ts ∧ (assignEach es env).findIdx? (·.1) = none
  | .nil, [], _, _ => ⟨rfl, rfl⟩
  | .nil, _ :: _, _, h => by simp [isGs] at h
  | .cons t ts, [], _, h => by simp [isGs] at h
  | .cons t ts, e :: es, env, h => by
    simp only [isGs, Bool.and_eq_true] at h
    obtain ⟨k1, k2⟩ := each_len (env := env) h.2
    rw [each_cons (isG_star h.1)]
    refine ⟨by simp [tgsN, k1], ?_⟩
    rw [List.findIdx?_cons]
    simp [k2]
section
variable {X : Cx} {M : ME}
mutual
theorem pg_of (hc : M.hot = false → X.calm = true) (hN : X.N.Nodup) (eN : X.N = M.N) (st : ∀ x, M.st x = true → Loc X.env.scope x ∧ (X.fn x = true ∨ X.env.scope.names.lookup x = some .local)) : ∀ {t : Tg} {e : Expr}, isG M t e = true → PG X e (tgR X.K t)
  | .slot i, e, h => by
    cases e with
    | Name x p =>
      simp only [isG, Bool.and_eq_true, beq_iff_eq] at h
      obtain ⟨k1, k2⟩ := st x h.2
      exact pg_name hN (by rw [eN]; exact h.1) k1 k2
    | _ => simp [isG] at h
  | .tup ts, e, h => by
    cases e with
    | Tuple es k p =>
      simp only [isG, Bool.and_eq_true, Bool.not_eq_true'] at h
      obtain ⟨k1, k2⟩ := each_len (env := X.env) h.2
      exact pg_tup (hc h.1) (pgs_of hc hN eN st h.2) k1 k2
    | _ => simp [isG] at h
theorem pgs_of (hc : M.hot = false → X.calm = true) (hN : X.N.Nodup) (eN : X.N = M.N) (st : ∀ x, M.st x = true → Loc X.env.scope x ∧ (X.fn x = true ∨ X.env.scope.names.lookup x = some .local)) : ∀ {ts : Tgs} {es : List Expr}, isGs M ts es = true → PGs X es (tgsR X.K ts)
  | .nil, [], _ => pgs_nil
  | .nil, _ :: _, h => by simp [isGs] at h
  | .cons t ts, [], h => by simp [isGs] at h
  | .cons t ts, e :: es, h => by
    simp only [isGs, Bool.and_eq_true] at h
    exact pgs_cons (pg_of hc hN eN st h.1) (pgs_of hc hN eN st h.2) (by rw [each_cons (isG_star h.1)]; rfl)
end
end
/-! the slots behind a store -/
section
variable {w : Wd} {μ : List Addr} {B : Addr → Prop} {θ : Nat → Addr} {σ : L2.St} {H : Hp} {ρ : Ev} {K : PySem.W.Frag}
theorem getset {α : Type} {l : List α} {i k : Nat} {x y : α} (h : (l.set i x)[k]? = some y) : (k = i ∧ y = x ∧ i < l.length) ∨ (k ≠ i ∧ l[k]? = some y) := by
  by_cases e : i = k
  · subst e
    have hl : i < l.length := by
      have := (List.getElem?_eq_some_iff.mp h).1
      simpa using this
    rw [List.getElem?_set_self hl] at h
    exact .inl ⟨rfl, (Option.some.inj h).symm, hl⟩
  · rw [List.getElem?_set_ne e] at h
    exact .inr ⟨fun z => e z.symm, h⟩
theorem own_sub {i : Nat} {s : Sl} (hs : ∀ o, s ≠ .own o) : ∀ a, ownA θ (ρ.set i s) a → ownA θ ρ a := fun a ⟨k, o, e, hk⟩ => by
  rcases getset e with ⟨_, z, _⟩ | ⟨_, z⟩
  · exact absurd z.symm (hs o)
  · exact ⟨k, o, z, hk⟩
theorem tot_sub {i : Nat} {s : Sl} (hs : ∀ o, s ≠ .own o) : ∀ a, Tot B θ (ρ.set i s) a → Tot B θ ρ a := fun a q => q.imp id (own_sub hs a)
theorem EnvR.put (E : EnvR w μ B θ σ H ρ) {i : Nat} {d : D} {v : V} (hi : i < ρ.length) (r : Rep w μ (Tot B θ ρ) H d v) : EnvR w μ B θ (σ.set i (some v)) H (ρ.set i (.val d)) := by
  have sub := tot_sub (B := B) (θ := θ) (ρ := ρ) (i := i) (s := .val d) (fun o z => by cases z)
  refine ⟨by simp [E.len], fun k e hk => ?_, fun k o hk => ?_, fun k l o u hk hl => ?_⟩
  · rcases getset hk with ⟨rfl, z, _⟩ | ⟨hne, z⟩
    · cases z
      exact ⟨v, by rw [List.getElem?_set_self (by rw [E.len]; exact hi)], r.step Step.refl fun a q => .inl (sub a q)⟩
    · obtain ⟨u, h1, h2⟩ := E.vals k e z
      exact ⟨u, by rw [List.getElem?_set_ne (fun z => hne z.symm)]; exact h1, h2.step Step.refl fun a q => .inl (sub a q)⟩
  · rcases getset hk with ⟨_, z, _⟩ | ⟨hne, z⟩
    · cases z
    · obtain ⟨h1, h2, h3⟩ := E.owns k o z
      exact ⟨by rw [List.getElem?_set_ne (fun z => hne z.symm)]; exact h1, h2, h3.step Step.refl (fun a q => .inl (sub a q)) fun _ q => q⟩
  · rcases getset hk with ⟨_, z, _⟩ | ⟨hne, z⟩
    · cases z
    · rcases getset hl with ⟨_, y, _⟩ | ⟨_, y⟩
      · cases y
      · exact E.inj k l o u z y
theorem EnvR.drop (E : EnvR w μ B θ σ H ρ) {i : Nat} {s : Option V} : EnvR w μ B θ (σ.set i s) H (ρ.set i .non) := by
  have sub := tot_sub (B := B) (θ := θ) (ρ := ρ) (i := i) (s := .non) (fun o z => by cases z)
  refine ⟨by simp [E.len], fun k e hk => ?_, fun k o hk => ?_, fun k l o u hk hl => ?_⟩
  · rcases getset hk with ⟨rfl, z, _⟩ | ⟨hne, z⟩
    · cases z
    · obtain ⟨u, h1, h2⟩ := E.vals k e z
      exact ⟨u, by rw [List.getElem?_set_ne (fun z => hne z.symm)]; exact h1, h2.step Step.refl fun a q => .inl (sub a q)⟩
  · rcases getset hk with ⟨_, z, _⟩ | ⟨hne, z⟩
    · cases z
    · obtain ⟨h1, h2, h3⟩ := E.owns k o z
      exact ⟨by rw [List.getElem?_set_ne (fun z => hne z.symm)]; exact h1, h2, h3.step Step.refl (fun a q => .inl (sub a q)) fun _ q => q⟩
  · rcases getset hk with ⟨_, z, _⟩ | ⟨hne, z⟩
    · cases z
    · rcases getset hl with ⟨_, y, _⟩ | ⟨_, y⟩
      · cases y
      · exact E.inj k l o u z y
mutual
/-- a target takes its value -/
theorem tg_run (hK : K = w.K) : ∀ {t : Tg} {d : D} {v : V} {σ : L2.St} {ρ ρ1 : Ev} {Q : L2.St → Hp → Prop}, asg t d ρ = some ρ1 → EnvR w μ B θ σ H ρ → Rep w μ (Tot B θ ρ) H d v →
    (∀ σ', EnvR w μ B θ σ' H ρ1 → (∀ vs : List Nat, (∀ i ∈ slo t, i ∈ vs) → wipe σ' vs = wipe σ vs) → (∀ a, Tot B θ ρ1 a → Tot B θ ρ a) → Q σ' H) → tgR K t v σ H Q
  | .slot i, d, v, σ, ρ, ρ1, Q, e, E, r, k => by
    simp only [asg] at e
    split at e
    · rename_i hi
      cases e
      refine k _ (E.put hi r) (fun vs hv => ?_) (tot_sub fun o z => by cases z)
      have hm := hv i (by simp [slo])
      clear k hv
      induction vs with
      | nil => cases hm
      | cons u vs ih =>
        show (wipe (σ.set i (some v)) vs).set u none = (wipe σ vs).set u none
        by_cases hu : i ∈ vs
        · rw [ih hu]
        · have hiu : i = u := (List.mem_cons.mp hm).resolve_right hu
          subst hiu
          have : ∀ vs : List Nat, i ∉ vs → wipe (σ.set i (some v)) vs = (wipe σ vs).set i (some v) := by
            intro vs
            induction vs with
            | nil => intro _; rfl
            | cons a vs ih2 =>
              intro hn
              show (wipe (σ.set i (some v)) vs).set a none = ((wipe σ vs).set a none).set i (some v)
              rw [ih2 (fun z => hn (List.mem_cons_of_mem _ z)), List.set_comm _ _ (fun z => hn (by rw [z]; exact List.mem_cons_self))]
          rw [this vs hu, List.set_set]
    · cases e
  | .tup ts, d, v, σ, ρ, ρ1, Q, e, E, r, k => by
    cases d with
    | tup xs =>
      simp only [asg] at e
      obtain ⟨a, vs, rfl, ha, q⟩ := r
      refine ⟨a, vs, rfl, SqT.of ha, ?_, tgs_run hK e E q fun σ' E' hw hs => k σ' E' (fun vs hv => hw vs fun i hi => hv i (by simpa [slo] using hi)) hs⟩
      rw [q.len]
      exact asgs_len e
    | _ => simp [asg] at e
theorem asgs_len : ∀ {ts : Tgs} {xs : List D} {ρ ρ1 : Ev}, asgs ts xs ρ = some ρ1 → xs.length = tgsN ts
  | .nil, [], _, _, _ => rfl
  | .nil, _ :: _, _, _, e => by simp [asgs] at e
  | .cons t ts, [], _, _, e => by simp [asgs] at e
  | .cons t ts, x :: xs, ρ, ρ1, e => by
    simp only [asgs, Option.bind_eq_some_iff] at e
    obtain ⟨ρ2, _, e2⟩ := e
    simp [tgsN, asgs_len e2]
theorem tgs_run (hK : K = w.K) : ∀ {ts : Tgs} {ds : List D} {vs : List V} {σ : L2.St} {ρ ρ1 : Ev} {Q : L2.St → Hp → Prop}, asgs ts ds ρ = some ρ1 → EnvR w μ B θ σ H ρ → RepL w μ (Tot B θ ρ) H ds vs →
    (∀ σ', EnvR w μ B θ σ' H ρ1 → (∀ vs : List Nat, (∀ i ∈ slos ts, i ∈ vs) → wipe σ' vs = wipe σ vs) → (∀ a, Tot B θ ρ1 a → Tot B θ ρ a) → Q σ' H) → tgsR K ts vs σ H Q
  | .nil, [], [], σ, ρ, ρ1, Q, e, E, r, k => by
    simp only [asgs] at e
    cases e
    exact ⟨rfl, k σ E (fun _ _ => rfl) fun _ q => q⟩
  | .nil, [], _ :: _, _, _, _, _, _, _, r, _ => r.elim
  | .nil, _ :: _, _, _, _, _, _, e, _, _, _ => by simp [asgs] at e
  | .cons t ts, [], _, _, _, _, _, e, _, _, _ => by simp [asgs] at e
  | .cons t ts, x :: xs, [], _, _, _, _, _, _, r, _ => r.elim
  | .cons t ts, x :: xs, v :: vs, σ, ρ, ρ1, Q, e, E, r, k => by
    simp only [asgs, Option.bind_eq_some_iff] at e
    obtain ⟨ρ2, e1, e2⟩ := e
    refine ⟨v, vs, rfl, tg_run hK e1 E r.1 fun σ2 E2 hw2 hs2 => ?_⟩
    refine tgs_run hK e2 E2 (r.2.step Step.refl fun a q => .inl (hs2 a q)) fun σ3 E3 hw3 hs3 => k σ3 E3 (fun us hu => ?_) fun a q => hs2 a (hs3 a q)
    rw [hw3 us fun i hi => hu i (by simp [slos, hi]), hw2 us fun i hi => hu i (by simp [slos, hi])]
end
end
end PV
/-! S9: list comprehensions; the theorem of expressions. -/
namespace PV
open PySem L2

section
variable {w : Wd} {μ μ' : List Addr} {T T' B B' : Addr → Prop} {H H' : Hp} {h : Hs} {θ : Nat → Addr} {σ : L2.St} {ρ : Ev} {a : Addr}
/-- a list that is in T is changed -/
theorem KStep.upd {xs ys : List V} (hT : T a) (ha : H a = some (.lst xs)) : KStep μ T H μ T (L2.upd H a (.lst ys)) := by
  refine ⟨⟨[], by simp, fun b hb => by cases hb⟩, fun b o h1 h2 _ _ => ?_, fun b zs h1 => ?_, fun b o u h1 => ?_, fun b o h1 => ?_, fun b q => .inl q⟩
  · rw [upd_ne (fun z => h2 (by rw [z]; exact hT))]; exact h1
  · rw [upd_ne (ne_of h1 ha (by intro z; cases z))]; exact h1
  · rw [upd_ne (ne_of h1 ha (by intro z; cases z))]; exact h1
  · by_cases e : b = a
    · subst e; exact ⟨_, upd_same⟩
    · exact ⟨o, by rw [upd_ne e]; exact h1⟩
theorem HpR.kstep (W : HpR w μ T H h) (k : KStep μ T H μ T' H') (hk : ∀ a u, a ∈ μ → H a = some u → H' a = some u) (nb : ∀ a ∈ μ, ¬ T' a) (bt : ∀ a, T' a → ∃ o, H' a = some o) : HpR w μ T' H' h := by
  refine ⟨W.len, W.nd, nb, bt, fun l a o h1 h2 => ?_, W.pu⟩
  have x := W.at_ l a o h1 h2
  cases o with
  | lst ds => obtain ⟨xs, e, r⟩ := x; exact ⟨xs, hk a _ (List.mem_of_getElem? h1) e, r.kstep k⟩
  | dct _ => exact x.elim
  | ins _ _ => exact x.elim
  | gone => exact x.elim
theorem HpR.updBad {xs ys : List V} (W : HpR w μ T H h) (hT : T a) (ha : H a = some (.lst xs)) : HpR w μ T (L2.upd H a (.lst ys)) h := by
  have hm : a ∉ μ := fun q => W.nb a q hT
  refine W.kstep (KStep.upd hT ha) (fun b u hb e => by rw [upd_ne (fun z => hm (by rw [← z]; exact hb))]; exact e) W.nb fun b q => ?_
  obtain ⟨o, e⟩ := W.bt b q
  exact (KStep.upd (μ := μ) (ys := ys) hT ha).there b o e
theorem EnvR.more (E : EnvR w μ B θ σ H ρ) (W : HpR w μ (Tot B θ ρ) H h) (s : Step μ H μ' H') (hb : ∀ a, B' a → B a ∨ H a = none) : EnvR w μ' B' θ σ H' ρ := by
  have ht : ∀ a, Tot B' θ ρ a → Tot B θ ρ a ∨ H a = none := fun a q => by
    rcases q with q | q
    · rcases hb a q with q | q
      · exact .inl (.inl q)
      · exact .inr q
    · exact .inl (.inr q)
  refine ⟨E.len, fun i d e => ?_, fun i o e => ?_, E.inj⟩
  · obtain ⟨v, h1, h2⟩ := E.vals i d e
    exact ⟨v, h1, h2.step s ht⟩
  · obtain ⟨h1, h2, h3⟩ := E.owns i o e
    have hT : Tot B θ ρ (θ i) := .inr ⟨i, o, e, rfl⟩
    obtain ⟨u, hu⟩ := h3.there
    refine ⟨h1, fun q => ?_, ObR.step s ht (fun u q => ?_) h3⟩
    · rcases hb _ q with q | q
      · exact h2 q
      · rw [hu] at q; cases q
    · refine s.keep _ _ q (fun hm => W.nb _ hm hT) fun ps z => ?_
      subst z
      cases o with
      | lst ds => obtain ⟨xs, e', _⟩ := h3; rw [q] at e'; cases e'
      | dct _ => exact h3.elim
      | ins _ _ => exact h3.elim
      | gone => exact h3.elim
theorem EnvR.wipe (E : EnvR w μ B θ σ H ρ) : ∀ vs : List Nat, EnvR w μ B θ (L2.wipe σ vs) H (wipeE ρ vs)
  | [] => E
  | v :: vs => (EnvR.wipe E vs).drop
theorem wipe_set {i : Nat} {x : Option V} : ∀ {vs : List Nat} {σ : L2.St}, i ∈ vs → L2.wipe (σ.set i x) vs = L2.wipe σ vs := by
  have out : ∀ (vs : List Nat) (σ : L2.St), i ∉ vs → L2.wipe (σ.set i x) vs = (L2.wipe σ vs).set i x := by
    intro vs
    induction vs with
    | nil => intro _ _; rfl
    | cons a vs ih =>
      intro σ hn
      show (L2.wipe (σ.set i x) vs).set a none = ((L2.wipe σ vs).set a none).set i x
      rw [ih σ (fun z => hn (List.mem_cons_of_mem _ z)), List.set_comm _ _ (fun z => hn (by rw [z]; exact List.mem_cons_self))]
  intro vs
  induction vs with
  | nil => intro σ h; cases h
  | cons a vs ih =>
    intro σ h
    show (L2.wipe (σ.set i x) vs).set a none = (L2.wipe σ vs).set a none
    by_cases hi : i ∈ vs
    · rw [ih hi]
    · have e : i = a := (List.mem_cons.mp h).resolve_right hi
      subst e
      rw [out vs σ hi, List.set_set]
theorem wipe_wipe : ∀ (us : List Nat) {vs : List Nat} {σ : L2.St}, (∀ i ∈ us, i ∈ vs) → L2.wipe (L2.wipe σ us) vs = L2.wipe σ vs
  | [], _, _, _ => rfl
  | u :: us, vs, σ, h => by
    show L2.wipe ((L2.wipe σ us).set u none) vs = _
    rw [wipe_set (h u List.mem_cons_self), wipe_wipe us fun i hi => h i (List.mem_cons_of_mem _ hi)]
theorem wipeE_out : ∀ {vs : List Nat} {k : Nat}, k ∉ vs → (wipeE ρ vs)[k]? = ρ[k]?
  | [], _, _ => rfl
  | v :: vs, k, h => by
    show ((wipeE ρ vs).set v .non)[k]? = _
    rw [List.getElem?_set_ne (fun z => h (by rw [z]; exact List.mem_cons_self)), wipeE_out fun z => h (List.mem_cons_of_mem _ z)]
mutual
theorem asg_out : ∀ {t : Tg} {d : D} {ρ ρ1 : Ev} {k : Nat}, asg t d ρ = some ρ1 → k ∉ slo t → ρ1[k]? = ρ[k]?
  | .slot i, d, ρ, ρ1, k, e, h => by
    simp only [asg] at e
    split at e
    · cases e
      rw [List.getElem?_set_ne (fun z => h (by simp [slo, z]))]
    · cases e
  | .tup ts, d, ρ, ρ1, k, e, h => by
    cases d with
    | tup xs => exact asgs_out (by simpa [asg] using e) (by simpa [slo] using h)
    | _ => simp [asg] at e
theorem asgs_out : ∀ {ts : Tgs} {xs : List D} {ρ ρ1 : Ev} {k : Nat}, asgs ts xs ρ = some ρ1 → k ∉ slos ts → ρ1[k]? = ρ[k]?
  | .nil, [], _, _, _, e, _ => by simp only [asgs] at e; cases e; rfl
  | .nil, _ :: _, _, _, _, e, _ => by simp [asgs] at e
  | .cons t ts, [], _, _, _, e, _ => by simp [asgs] at e
  | .cons t ts, x :: xs, ρ, ρ1, k, e, h => by
    simp only [asgs, Option.bind_eq_some_iff] at e
    obtain ⟨ρ2, e1, e2⟩ := e
    simp only [slos, List.mem_append, not_or] at h
    rw [asgs_out e2 h.2, asg_out e1 h.1]
end
mutual
theorem asg_own : ∀ {t : Tg} {d : D} {ρ ρ1 : Ev} {k : Nat}, asg t d ρ = some ρ1 → k ∈ slo t → ∀ o, ρ1[k]? ≠ some (.own o)
  | .slot i, d, ρ, ρ1, k, e, h, o => by
    simp only [asg] at e
    split at e
    · cases e
      simp [slo] at h
      subst h
      intro z
      rcases getset z with ⟨_, y, _⟩ | ⟨hne, _⟩
      · cases y
      · exact hne rfl
    · cases e
  | .tup ts, d, ρ, ρ1, k, e, h, o => by
    cases d with
    | tup xs => exact asgs_own (by simpa [asg] using e) (by simpa [slo] using h) o
    | _ => simp [asg] at e
theorem asgs_own : ∀ {ts : Tgs} {xs : List D} {ρ ρ1 : Ev} {k : Nat}, asgs ts xs ρ = some ρ1 → k ∈ slos ts → ∀ o, ρ1[k]? ≠ some (.own o)
  | .nil, [], _, _, _, e, h, _ => by simp [slos] at h
  | .nil, _ :: _, _, _, _, e, _, _ => by simp [asgs] at e
  | .cons t ts, [], _, _, _, e, _, _ => by simp [asgs] at e
  | .cons t ts, x :: xs, ρ, ρ1, k, e, h, o => by
    simp only [asgs, Option.bind_eq_some_iff] at e
    obtain ⟨ρ2, e1, e2⟩ := e
    simp only [slos, List.mem_append] at h
    by_cases h2 : k ∈ slos ts
    · exact asgs_own e2 h2 o
    · rw [asgs_out e2 h2]
      exact asg_own e1 (h.resolve_right h2) o
end
mutual
theorem clear_not : ∀ {t : Tg} {ρ : Ev} {k : Nat} {o : Ob}, clear t ρ = true → ρ[k]? = some (.own o) → k ∉ slo t
  | .slot i, ρ, k, o, h, e => by
    simp only [clear] at h
    intro hk
    simp [slo] at hk
    subst hk
    rw [e] at h
    cases h
  | .tup ts, ρ, k, o, h, e => by
    simp only [slo]
    exact clears_not (by simpa [clear] using h) e
theorem clears_not : ∀ {ts : Tgs} {ρ : Ev} {k : Nat} {o : Ob}, clears ts ρ = true → ρ[k]? = some (.own o) → k ∉ slos ts
  | .nil, _, _, _, _, _ => by simp [slos]
  | .cons t ts, ρ, k, o, h, e => by
    simp only [clears, Bool.and_eq_true] at h
    simp only [slos, List.mem_append, not_or]
    exact ⟨clear_not h.1 e, clears_not h.2 e⟩
end
end
theorem Out.unnox {α : Type} {w : Wd} {T T' : Addr → Prop} {μ : List Addr} {H : Hp} {ok : α → Hs → List Addr → Hp → Prop} {W W' : XK} {r : Rs α} (o : Out w T μ H ok W r.nox) (ht : ∀ a, T a → T' a) : Out w T' μ H ok W' r := by
  cases r with
  | ok a h1 => exact fun μ1 H1 s1 W1 => o μ1 H1 s1 (W1.mono ht)
  | exc c fs h1 => exact o.elim
  | stuck => exact o.elim
def Wno : WX := fun _ _ _ _ => False

section
variable {P : Prg} {w : Wd} {X : Cx} {j : Nat} {M : ME} {W : WX} {c : Sig}
theorem wipe_own {ρ : Ev} {u : Ob} {k : Nat} : ∀ (vs : List Nat), k ∈ vs → (wipeE ρ vs)[k]? ≠ some (.own u) := by
  intro vs
  induction vs with
  | nil => intro h; cases h
  | cons v vs ih =>
    intro h z
    rcases getset (show ((wipeE ρ vs).set v .non)[k]? = some (.own u) from z) with ⟨_, y, _⟩ | ⟨hne, y⟩
    · cases y
    · exact ih ((List.mem_cons.mp h).resolve_left hne) y
theorem lc_tail_no {r : Rs (List D)} {dacc : List D} : ((r.bind fun ys h2 => Rs.ok ys h2).bind fun ys h2 => Rs.ok (D.lst (dacc ++ ys)) h2) = r.bind fun ys h2 => Rs.ok (D.lst (dacc ++ ys)) h2 := by
  cases r <;> rfl
theorem lc_tail_yes {r : Rs (List D)} {dacc : List D} {y : D} : ((r.bind fun ys h2 => Rs.ok (y :: ys) h2).bind fun ys h2 => Rs.ok (D.lst (dacc ++ ys)) h2) = r.bind fun ys h2 => Rs.ok (D.lst ((dacc ++ [y]) ++ ys)) h2 := by
  cases r with
  | ok a h => simp
  | exc _ _ _ => rfl
  | stuck => rfl
theorem lc_imp (hK : X.K = w.K) {elt : Ex} {t : Tg} {it : It} {wh : Exo} {own : List (Str × Nat)} (hown : own.map (·.2) = slo t) {σ : L2.St} {H : Hp} {Q : VK} (q : rdF w W c (.lc elt t it wh) σ H Q) :
    tLc (rdI w W c it) (tgR X.K t) (rdW w Wno c wh) (rdE w Wno c elt) (own.map (·.2)) σ H Q := by
  obtain ⟨μ, B, θ, h, ρ, Wr, E, o⟩ := q
  simp only [evE] at o
  have hst0 : ∀ {μ1 : List Addr} {H1 : Hp} {p : Addr}, Step μ H μ1 H1 → H1 p = none → H p = none := fun {μ1 H1 p} s hp => by
    cases q : H p with
    | none => rfl
    | some u =>
      obtain ⟨o', q'⟩ := s.there p u q
      rw [hp] at q'; cases q'
  unfold tLc
  unfold rdI
  refine ⟨μ, B, θ, h, ρ, Wr, E, ?_⟩
  have o := o.bind
  refine o.imp fun s h1 μ1 H1 s1 W1 o J hJ => ?_
  have E1 := E.step Wr s1
  split at o
  case isFalse => exact o.elim
  rename_i hcl
  simp only [Bool.and_eq_true, decide_eq_true_eq] at hcl
  obtain ⟨hcl, hlen⟩ := hcl
  rw [hown]
  intro D hD
  generalize hf : (fun (x : PV.D) (h2 : Hs) => match asg t x (wipeE ρ (slo t)) with
      | none => Rs.stuck
      | some ρ1 => (evW c wh ρ1 h2).nox.bind fun k h3 => if k = true then (evE c elt ρ1 h3).nox.bind fun y h4 => Rs.ok (some y) h4 else Rs.ok none h3) = f at o
  have hD2 := W1.newNotBox hD
  have hT1 : ∀ a, (Tot B θ ρ a ∨ a = D) → Tot B θ ρ a ∨ H1 a = none := fun a q => q.imp id fun e => by rw [e]; exact hD
  refine ⟨fun i m H' => m = s.xs.length - i ∧ i ≤ s.xs.length ∧ ∃ μ' h' dacc acc, Step μ1 H1 μ' H' ∧ H' D = some (.lst acc) ∧ D ∉ μ' ∧ HpR w μ' (fun a => Tot B θ ρ a ∨ a = D) H' h' ∧
    RepL w μ' (fun a => Tot B θ ρ a ∨ a = D) H' dacc acc ∧ dacc.length ≤ i ∧
    OutF w (Tot B θ ρ) μ1 H1 Q (fun cls d H' => W cls d σ H') ((lcGo f (s.still ρ) (s.xs.drop i) h').bind fun ys h2 => .ok (.lst (dacc ++ ys)) h2), ⟨_, rfl, Nat.zero_le _, ?_⟩, ?_⟩
  · refine ⟨μ1, h1, [], [], Step.alloc hD, upd_same, hD2.2, ?_, trivial, Nat.zero_le _, ?_⟩
    · refine W1.kstep ((Step.alloc hD).k hT1) (fun a u _ e => by rw [upd_ne (ne_of_none e hD)]; exact e) (fun a ha q => ?_) fun a q => ?_
      · rcases q with q | q
        · exact W1.nb a ha q
        · subst q; exact hD2.2 ha
      · rcases q with q | q
        · obtain ⟨u, e⟩ := W1.bt a q
          exact (Step.alloc (μ := μ1) (o := HO.lst []) hD).there a u e
        · subst q; exact ⟨_, upd_same⟩
    · simp only [List.drop_zero, List.nil_append]
      exact o
  · rintro i m H' ⟨rfl, hi2, μ', h', dacc, acc, S, hDa, hDn, Wp, ra, hl, oo⟩
    have still : s.still ρ h' = true := by
      cases hst : s.still ρ h' with
      | true => rfl
      | false =>
        cases hx : s.xs.drop i with
        | nil => rw [hx] at oo; simp only [lcGo, hst] at oo; exact oo.elim
        | cons x xs => rw [hx] at oo; simp only [lcGo, hst] at oo; exact oo.elim
    have sv : Serves w μ' (fun a => Tot B θ ρ a ∨ a = D) H' h' s.xs J := by
      cases s with
      | fix xs => exact hJ μ' _ H' h' (S.k hT1) Wp
      | own k xs => exact hJ μ' _ H' h' S hT1 Wp
      | box l xs =>
        refine hJ μ' _ H' h' (S.k hT1) Wp ?_
        simp only [Src.still] at still
        split at still
        · rename_i o ho
          exact ⟨o, ho, still⟩
        · cases still
    by_cases hlt : i < s.xs.length
    · refine .inr ?_
      have hx : s.xs[i]? = some s.xs[i] := List.getElem?_eq_getElem hlt
      generalize s.xs[i] = x at hx
      have hdrop : s.xs.drop i = x :: s.xs.drop (i + 1) := by
        rw [List.drop_eq_getElem_cons hlt] -- pv
        have := (List.getElem?_eq_some_iff.mp hx).2
        rw [this]
      obtain ⟨go, yl⟩ := sv.2 i x hx
      refine ⟨go, fun H'' => ∃ m', m' < s.xs.length - i ∧ (m' = s.xs.length - (i + 1) ∧ i + 1 ≤ s.xs.length ∧ ∃ μ' h' dacc acc, Step μ1 H1 μ' H'' ∧ H'' D = some (.lst acc) ∧ D ∉ μ' ∧ HpR w μ' (fun a => Tot B θ ρ a ∨ a = D) H'' h' ∧
    RepL w μ' (fun a => Tot B θ ρ a ∨ a = D) H'' dacc acc ∧ dacc.length ≤ i + 1 ∧
    OutF w (Tot B θ ρ) μ1 H1 Q (fun cls d H' => W cls d σ H') ((lcGo f (s.still ρ) (s.xs.drop (i + 1)) h').bind fun ys h2 => .ok (.lst (dacc ++ ys)) h2)), fun H'' q => q, fun xv H2 hy => ?_⟩
      obtain ⟨S2, W2, rx⟩ := yl xv H2 hy
      rw [hdrop] at oo
      simp only [lcGo, still, if_true] at oo
      rw [← hf] at oo
      simp only at oo
      cases ea : asg t x (wipeE ρ (slo t)) with
      | none => rw [ea] at oo; exact oo.elim
      | some ρ1 =>
        rw [ea] at oo
        simp only at oo
        rw [hf] at oo
        have hDa2 : H2 D = some (.lst acc) := S2.keep D _ hDa hDn fun ps z => by cases z
        -- the slots of the turn
        have E2 : EnvR w μ' (fun a => B a ∨ a = D) θ (L2.wipe σ (slo t)) H2 (wipeE ρ (slo t)) :=
          EnvR.wipe (E1.more W1 (S.trans S2) fun a q => q.imp id fun e => by rw [e]; exact hD) _
        have hTw : ∀ a, Tot (fun a => B a ∨ a = D) θ (wipeE ρ (slo t)) a ↔ (Tot B θ ρ a ∨ a = D) := fun a => by
          constructor
          · rintro ((q | q) | ⟨k, u, e, hk⟩)
            · exact .inl (.inl q)
            · exact .inr q
            · refine .inl (.inr ⟨k, u, ?_, hk⟩)
              by_cases hk2 : k ∈ slo t
              · exact absurd e (wipe_own _ hk2)
              · rw [wipeE_out hk2] at e; exact e
          · rintro ((q | ⟨k, u, e, hk⟩) | q)
            · exact .inl (.inl q)
            · exact .inr ⟨k, u, by rw [wipeE_out (clear_not hcl e)]; exact e, hk⟩
            · exact .inl (.inr q)
        have hT2 : ∀ a, Tot (fun a => B a ∨ a = D) θ ρ1 a ↔ (Tot B θ ρ a ∨ a = D) := fun a => by
          rw [← hTw a]
          constructor
          · rintro (q | ⟨k, u, e, hk⟩)
            · exact .inl q
            · by_cases hk2 : k ∈ slo t
              · exact absurd e (asg_own ea hk2 u)
              · exact .inr ⟨k, u, by rw [← asg_out ea hk2]; exact e, hk⟩
          · rintro (q | ⟨k, u, e, hk⟩)
            · exact .inl q
            · have hk2 : k ∉ slo t := fun hk2 => wipe_own _ hk2 e
              exact .inr ⟨k, u, by rw [asg_out ea hk2]; exact e, hk⟩
        have eT : Tot (fun a => B a ∨ a = D) θ ρ1 = fun a => Tot B θ ρ a ∨ a = D := funext fun a => propext (hT2 a)
        have eTw : Tot (fun a => B a ∨ a = D) θ (wipeE ρ (slo t)) = fun a => Tot B θ ρ a ∨ a = D := funext fun a => propext (hTw a)
        refine tg_run (B := fun a => B a ∨ a = D) hK ea E2 (by rw [eTw]; exact rx) fun σ2 E3 hw _ => ⟨?_, ?_⟩
        · rw [hw _ fun i hi => hi, wipe_wipe _ fun i hi => hi]
        · refine ⟨μ', _, θ, h', ρ1, by rw [eT]; exact W2, E3, ?_⟩
          rw [eT]
          cases e1 : evW c wh ρ1 h' with
          | stuck => rw [e1] at oo; exact oo.elim
          | exc _ _ _ => rw [e1] at oo; exact oo.elim
          | ok k h3 =>
          rw [e1] at oo
          simp only [Rs.nox, Rs.bind_ok] at oo
          intro μ3 H3 s3 W3 b hb
          cases hb
          have E4 := E3.step (by rw [eT]; exact W2) s3
          have hDn3 : D ∉ μ3 := s3.notin hDa2 hDn
          have hDa3 : H3 D = some (.lst acc) := s3.keep D _ hDa2 hDn fun ps z => by cases z
          have ra3 := (ra.step S2 fun _ q => .inl q).step s3 fun _ q => .inl q
          cases k with
          | false =>
            simp only [Bool.false_eq_true, if_false, Rs.bind_ok] at oo ⊢
            refine ⟨s.xs.length - (i + 1), by omega, rfl, hlt, μ3, h3, dacc, acc, (S.trans S2).trans s3, hDa3, hDn3, W3, ra3, by omega, ?_⟩
            rw [lc_tail_no] at oo
            exact oo
          | true =>
            simp only [if_true] at oo ⊢
            refine ⟨μ3, _, θ, h3, ρ1, by rw [eT]; exact W3, E4, ?_⟩
            rw [eT]
            cases e2 : evE c elt ρ1 h3 with
            | stuck => rw [e2] at oo; exact oo.elim
            | exc _ _ _ => rw [e2] at oo; exact oo.elim
            | ok y h4 =>
            rw [e2] at oo
            simp only [Rs.nox, Rs.bind_ok] at oo
            intro μ4 H4 s4 W4 v hv
            have hDn4 : D ∉ μ4 := s4.notin hDa3 hDn3
            have hDa4 : H4 D = some (.lst acc) := s4.keep D _ hDa3 hDn3 fun ps z => by cases z
            have ra4 := ra3.step s4 fun _ q => .inl q
            have k4 : KStep μ4 (fun a => Tot B θ ρ a ∨ a = D) H4 μ4 (fun a => Tot B θ ρ a ∨ a = D) (L2.upd H4 D (.lst (acc ++ [v]))) := KStep.upd (.inr rfl) hDa4
            refine ⟨acc, hDa4, ?_, s.xs.length - (i + 1), by omega, rfl, hlt, μ4, h4, dacc ++ [y], acc ++ [v], ?_, upd_same, hDn4, W4.updBad (.inr rfl) hDa4, ?_, by simp; omega, ?_⟩
            · have : acc.length ≤ lenMax := by rw [ra4.len]; omega
              have h2 : lenMax < sizeLine := by rw [sizeLine_eq]; decide
              omega
            · have S4 := ((S.trans S2).trans s3).trans s4
              refine ⟨S4.ext, fun a u e1 e2 e3 => ?_, fun a zs e1 => ?_, fun a u z e1 => ?_, fun a u e1 => ?_⟩
              · rw [upd_ne (ne_of_none e1 hD)]; exact S4.keep a u e1 e2 e3
              · rw [upd_ne (ne_of_none e1 hD)]; exact S4.tup a zs e1
              · rw [upd_ne (ne_of_none e1 hD)]; exact S4.frz a u z e1
              · rw [upd_ne (ne_of_none e1 hD)]; exact S4.there a u e1
            · exact RepL.app (ra4.kstep k4) ⟨Rep.kstep k4 hv, trivial⟩
            · rw [lc_tail_yes] at oo
              exact oo
    · have ei : i = s.xs.length := by omega
      subst ei
      refine .inl ⟨sv.1, ?_⟩
      rw [List.drop_of_length_le (Nat.le_refl _)] at oo
      simp only [lcGo, still, if_true] at oo
      simp only [Rs.bind_ok, List.append_nil] at oo
      exact oo μ' H' D acc S hD hDn Wp hDa ra
theorem so_lcF (G : GX P w X j M) (hh : M.hot = false) {elt : Ex} {t : Tg} {it : It} {wh : Exo} {e tg i : Expr} {ifs : List Expr} {scope : Scope} {own : List (Str × Nat)} {p : Pos} (hown : own.map (·.2) = slo t)
    (ok : BlkOk X.N X.env.scope scope own) (hi : PI X tg i (rdI w W c it)) (hs : ∀ x, foldedSetIterable i X.env x = pure x)
    (hg : ∀ (s : Shared) (H : Hp) (C : Addr) (cl : List (Str × Addr)) (fp : List Addr), PG (X.blk s H scope (compEnvC scope cl C X.env) fp) tg (tgR X.K t))
    (ht : ∀ (s : Shared) (H : Hp) (C : Addr) (cl : List (Str × Addr)) (fp : List Addr), PTs (X.blk s H scope (compEnvC scope cl C X.env) fp) ifs (rdW w Wno c wh))
    (he : ∀ (s : Shared) (H : Hp) (C : Addr) (cl : List (Str × Addr)) (fp : List Addr), PE (X.blk s H scope (compEnvC scope cl C X.env) fp) e (rdE w Wno c elt)) :
    PE X (.ListComp e [⟨tg, i, ifs, 0⟩] scope p) (rdF w W c (.lc elt t it wh)) :=
  (pe_lc (G.calm hh) G.nd hi ok hg ht he hs).imp fun σ H Q q => lc_imp G.K hown q
/-- a list that was made is a value -/
theorem F_E {m : Ex} (hl : ∀ ρ h d h1, evE c m ρ h = .ok d h1 → ∃ ds, d = .lst ds) {σ : L2.St} {H : Hp} {Q : VK} (q : rdE w W c m σ H Q) : rdF w W c m σ H Q := by
  obtain ⟨μ, B, θ, h, ρ, Wr, E, o⟩ := q
  refine ⟨μ, B, θ, h, ρ, Wr, E, ?_⟩
  cases e : evE c m ρ h with
  | ok d h1 =>
    rw [e] at o
    obtain ⟨ds, rfl⟩ := hl _ _ _ _ e
    intro μ1 H1 p xs s1 hp hn W1 hx r
    refine o μ1 H1 s1 (W1.mono fun a q => .inl q) _ ⟨p, xs, rfl, ⟨fun q => ?_, hn⟩, hx, r.step Step.refl fun a q => .inl (.inl q)⟩
    obtain ⟨u, e⟩ := Wr.bt p q
    rw [hp] at e; cases e
  | exc _ _ _ => rw [e] at o; exact o
  | stuck => rw [e] at o; exact o
end
end PV
/-! S10: the exception that a suite holds: its class and its fields. -/
namespace PV
open PySem L2

/-- a class as a value -/
def clV : Value → V
  | .ref a => .ref a
  | .type t => .ty t
  | _ => .non
theorem clV_rel {cv : Value} (h : (∃ a, cv = .ref a) ∨ ∃ t, cv = .type t) : RelV (clV cv) cv ∧ ∀ u, RelV (clV cv) u → u = cv := by
  rcases h with ⟨a, rfl⟩ | ⟨t, rfl⟩
  · exact ⟨rfl, fun u h => h⟩
  · exact ⟨rfl, fun u h => h⟩
section
variable {P : Prg} {w : Wd} {X : Cx} {j : Nat} {M : ME} {W : WX} {c : Sig}
theorem pe_cl (G : GX P w X j M) {x : Str} {k : Nat} {b : Bool} {cv : Value} {p : Pos} (hg : M.glo x = true) (hc : ClX w X.mg x k b cv) : PE X (.Name x p) (fun _ H Q => Q (clV cv) H) := by
  obtain ⟨g1, g2, g3⟩ := G.glo hg
  rcases hc.mg with e | ⟨e1, e2⟩
  · exact pe_glob g1 e (clV_rel hc.v).1 g2
  · exact pe_bltn g1 e1 e2 (clV_rel hc.v).1 g3 g2
/-- the caught exception, asked for its class -/
theorem kit_in {K : PySem.W.Frag} {X : Cx} {pins : List (Addr × Obj)} {σ : L2.St} {H : Hp} {s : Shared} {a D dd : Addr} {oe : Obj} {fs : List (Str × V)} (I : Inv X pins σ H s) (hp : s.heap.get? a = some oe) (hz : Zc (.ref D) (some dd) oe) (hf : ∃ vs, oe.data = .fields vs) (hd : H dd = some (.xd fs)) :
    ∃ od, PySem.W.InstAt s.heap a oe D (some od) := by
  obtain ⟨vs, hv⟩ := hf
  have hx : ObjOk X.prog X.w H s.heap dd (.xd fs) := I.hok dd _ hd
  obtain ⟨m, hn, _⟩ := hx
  obtain ⟨o, ho, _⟩ := lookIn_ns hn
  refine ⟨o, hp, hz.1, ?_, ?_⟩
  · unfold PySem.W.notCls
    rw [hv]
  · rw [hz.2]; exact ho
def rXi (K : PySem.W.Frag) (D dd a : Addr) : List V → Hp → VK → Prop := fun xs H Q => ∃ (cv : Value) (b : Bool) (fs : List (Str × V)), xs = [.ref a, clV cv] ∧ ((∃ a, cv = .ref a) ∨ ∃ t, cv = .type t) ∧ PySem.W.kitOne K (.ref D) cv = some b ∧ H dd = some (.xd fs) ∧ Q (.bl b) H
def rXt (K : PySem.W.Frag) (D dd a : Addr) : List V → Hp → VK → Prop := fun xs H Q => ∃ (tp : Addr) (cvs : List Value) (b : Bool) (fs : List (Str × V)), xs = [.ref a, .ref tp] ∧ (∀ cv ∈ cvs, (∃ a, cv = .ref a) ∨ ∃ t, cv = .type t) ∧ H tp = some (.tup (cvs.map clV)) ∧
  PySem.W.kitAny K (.ref D) cvs = some b ∧ H dd = some (.xd fs) ∧ Q (.bl b) H
theorem vals_cl : ∀ {cvs us : List Value}, (∀ cv ∈ cvs, (∃ a, cv = .ref a) ∨ ∃ t, cv = .type t) → Vals (cvs.map clV) us → us = cvs
  | [], [], _, _ => rfl
  | [], _ :: _, _, r => by cases r
  | c :: cs, [], _, r => by cases r
  | c :: cs, u :: us, h, r => by
    cases r with
    | cons r1 r2 =>
      rw [(clV_rel (h c List.mem_cons_self)).2 u r1, vals_cl (fun x hx => h x (List.mem_cons_of_mem _ hx)) r2]
section
variable {X0 : Cx} {a D dd : Addr} {oe : Obj} {pn : List (Addr × Obj)}
theorem call_xi (C : ExcC X0.K D) (hz : Zc (.ref D) (some dd) oe) (hf : ∃ vs, oe.data = .fields vs) : CallR (X0.suite a ((a, oe) :: pn)) (.builtin "isinstance") (rXi X0.K D dd a) := by
  intro pins s σ H xs us Q I r h -- pv
  obtain ⟨cv, b, fs, rfl, hv, e, hd, q⟩ := h
  obtain ⟨u1, u2, rfl, r1, r2⟩ := vals2 r -- pv
  cases (show u1 = Value.ref a from r1) -- pv
  cases (clV_rel hv).2 _ r2
  obtain ⟨hget, _⟩ := I.pin (a, oe) (List.mem_append.mpr (.inl List.mem_cons_self)) -- pv
  obtain ⟨cd, hc, _⟩ := PySem.W.any_some C.hd
  obtain ⟨od, iat⟩ := kit_in (K := X0.K) I hget hz hf hd
  exact PySem.W.kia_one (PySem.W.kitx_exc (by rw [hc]; rfl) C.hg C.hk C.hs C.ha C.hn C.ht C.hm) I.kIn iat e (fun z => nomatch z) fun tk => ⟨.bl b, H, I.tok tk, rfl, q⟩
theorem call_xt (C : ExcC X0.K D) (hz : Zc (.ref D) (some dd) oe) (hf : ∃ vs, oe.data = .fields vs) : CallR (X0.suite a ((a, oe) :: pn)) (.builtin "isinstance") (rXt X0.K D dd a) := by
  intro pins s σ H xs us Q I r h -- pv
  obtain ⟨tp, cvs, b, fs, rfl, hv, hT, e, hd, q⟩ := h
  obtain ⟨u1, u2, rfl, r1, r2⟩ := vals2 r -- pv
  cases (show u1 = Value.ref a from r1) -- pv
  cases (show u2 = Value.ref tp from r2) -- pv
  obtain ⟨hget, _⟩ := I.pin (a, oe) (List.mem_append.mpr (.inl List.mem_cons_self)) -- pv
  obtain ⟨cd, hc, _⟩ := PySem.W.any_some C.hd
  obtain ⟨_, its, rv, o, h1, h2, n, h3⟩ := (show ObjOk X0.prog X0.w H s.heap tp (.tup (cvs.map clV)) from I.hok tp _ hT)
  have e3 := vals_cl hv rv
  obtain ⟨oc, od, dt, sl⟩ := o
  simp only at h2 h3
  subst h2 h3
  rw [e3] at h1
  obtain ⟨od2, iat⟩ := kit_in (K := X0.K) I hget hz hf hd
  exact PySem.W.kia_tup (PySem.W.kitx_exc (by rw [hc]; rfl) C.hg C.hk C.hs C.ha C.hn C.ht C.hm) I.kIn iat h1 e (fun z => nomatch z) fun tk => ⟨.bl b, H, I.tok tk, rfl, q⟩
end
theorem slot_exc {i : Nat} {ρ : Ev} {d : D} (h : slotD i ρ = some d) : ρ[i]? = some (.val d) := by
  unfold slotD at h
  split at h
  · cases h; assumption
  · cases h
theorem fld_rep {μ : List Addr} {T : Addr → Prop} {H : Hp} {fl : List (Str × V)} {n : String} {d : D} : ∀ {ms : List String} {fs : List D} {vs : List V}, fldsAt fl (ms.map Str.ofString) vs → RepL w μ T H fs vs → fldG ms n fs = some d → n ∈ ms ∧ ∃ v, fl.lookup (Str.ofString n) = some v ∧ Rep w μ T H d v
  | [], _, _, _, _, e => by simp [fldG] at e
  | m :: ms, [], _, _, _, e => by simp [fldG] at e
  | m :: ms, d0 :: ds, [], h, _, _ => h.elim
  | m :: ms, d0 :: ds, v :: vs, h, r, e => by
    simp only [fldG] at e
    split at e
    · rename_i hm
      subst hm
      cases e
      exact ⟨List.mem_cons_self, v, h.1, r.1⟩
    · obtain ⟨h1, h2⟩ := fld_rep h.2 r.2 e
      exact ⟨List.mem_cons_of_mem _ h1, h2⟩ -- pv
theorem so_xfld (G : GX P w X j M) {i : Nat} {f : String} {e : Str} {p1 p : Pos} (hv : M.vis i e = true) (hx : M.xs = some i) (hf : c.fns = P.fns) : PE X (.Attribute (.Name e p1) (Str.ofString f) p) (rdE w W c (.xfld i f)) := by
  obtain ⟨h1, h2, h3, h4⟩ := G.vis hv
  obtain ⟨X0, a, oe, cls, d, pn, rfl, hz, hfl, hxo⟩ := G.xs i hx
  constructor
  intro pins s σ H Q I q
  obtain ⟨μ, B, θ, h, ρ, Wr, E, o⟩ := q
  simp only [evE] at o
  split at o
  case h_2 => exact o.elim
  rename_i k fs es
  rw [hf] at o
  cases ef : fldG (P.fns k) f fs with
  | none => rw [ef] at o; exact o.elim
  | some y =>
    rw [ef] at o
    obtain ⟨v, hv, a', dd, fl, vs, rfl, hxo', hn, ha, hfa, rv⟩ := E.vals i _ (slot_exc es)
    obtain ⟨rfl, rfl, rfl⟩ := hxo _ _ _ hxo'
    rw [G.tx.nms] at hfa
    obtain ⟨hm, z, hz1, hz2⟩ := fld_rep hfa rv ef
    obtain ⟨t1, t2⟩ := G.tx.xf k f hm
    have K := G.K
    rw [← K] at t1 t2
    refine (pe_xf (X := X0) t1 t2 hz hfl (pe_var h1 h2 h3 h4)).run pins s σ H Q I ?_
    exact ⟨_, hv, rfl, rfl, dd, fl, z, rfl, ha, hz1, Out.now o Wr z hz2⟩
theorem isx_any (G : GX P w X j M) : ∀ {xs : List String} {es : List Expr} {k : Nat} {b : Bool}, isCls M xs es = true → isAny P.isx xs k = some b → ∃ cvs : List Value, PA X es (fun _ H Q => Q (cvs.map clV) H) ∧ (∀ cv ∈ cvs, (∃ a, cv = .ref a) ∨ ∃ t, cv = .type t) ∧
    PySem.W.kitAny w.K (.ref (w.cls k)) cvs = some b ∧ (xs ≠ [] → ExcC w.K (w.cls k)) ∧ cvs.length = es.length
  | [], [], k, b, _, e => by
    simp only [isAny, Option.some.injEq] at e
    subst e
    exact ⟨[], pa_nil, (fun _ h => by cases h), rfl, fun h => absurd rfl h, rfl⟩
  | [], _ :: _, _, _, h, _ => by simp [isCls] at h
  | _ :: _, [], _, _, h, _ => by simp [isCls] at h
  | x :: xs, e :: es, k, b, h, ea => by
    cases e with
    | Name y p =>
      simp only [isCls, Bool.and_eq_true, beq_iff_eq] at h
      obtain ⟨⟨rfl, hg⟩, hr⟩ := h
      simp only [isAny, Option.bind_eq_some_iff, Option.map_eq_some_iff] at ea
      obtain ⟨b1, e1, b2, e2, rfl⟩ := ea
      obtain ⟨cvf, hcv⟩ := G.tx.isx
      have hc := hcv x k b1 e1
      generalize cvf x = cv at hc
      obtain ⟨cvs, hp, hv, hk, _, hl⟩ := isx_any G hr e2
      refine ⟨cv :: cvs, pa_cons (pe_cl G hg hc) hp rfl, fun z hz => ?_, ?_, fun _ => hc.xc, by simp [hl]⟩
      · rcases List.mem_cons.mp hz with rfl | hz
        · exact hc.v
        · exact hv z hz
      · simp only [PySem.W.kitAny, hc.kit]
        cases b1 with
        | true => rfl
        | false => simp [hk]
    | _ => simp [isCls] at h
theorem so_xis (G : GX P w X j M) {i : Nat} {xs : List String} {e : Str} {z : Expr} {p1 p2 p : Pos} (hg : M.glo ("isinstance" : Str) = true) (hv : M.vis i e = true) (hx : M.xs = some i) (hz : isCl1 M xs z = true) (hc : c.isx = P.isx) :
    PE X (.Call (.Name "isinstance" p1) [.Name e p2, z] [] p) (rdE w W c (.xis i xs)) := by
  obtain ⟨h1, h2, h3, h4⟩ := G.vis hv
  obtain ⟨g1, g2, g3⟩ := G.glo hg
  obtain ⟨X0, a, oe, cls, d, pn, rfl, hzc, hfl, hxo⟩ := G.xs i hx
  have hb : bootBuiltins ("isinstance" : Str) = some (.builtin "isinstance") := by decide +kernel
  have K := G.K
  constructor
  intro pins s σ H Q I q
  obtain ⟨μ, B, θ, h, ρ, Wr, E, o⟩ := q
  simp only [evE] at o
  split at o
  case h_2 => exact o.elim
  rename_i k fs es
  rw [hc] at o
  cases ea : isAny P.isx xs k with
  | none => rw [ea] at o; exact o.elim
  | some b =>
    rw [ea] at o
    obtain ⟨v, hv, a', dd, fl, vs, rfl, hxo', hn, ha, hfa, rv⟩ := E.vals i _ (slot_exc es)
    obtain ⟨rfl, rfl, rfl⟩ := hxo _ _ _ hxo'
    have tupCase : ∀ {zs : List Expr} {n : Nat} {q : Pos}, z = .Tuple zs n q → isCls M xs zs = true → xs.isEmpty = false → zs.length ≤ 1000 → wpAny (model X0.prog X0.w) (X0.suite _ _).A (eval (.Call (.Name "isinstance" p1) [.Name e p2, z] [] p) (X0.suite a' ((a', oe) :: pn)).env) (EP _ pins σ Q) (X0.suite a' ((a', oe) :: pn)).xe s := fun {zs n q} hz h5 h6 h7 => by
      obtain ⟨cvs, hp, hvs, hk, hE, hl⟩ := isx_any G h5 ea
      have hE := hE (by intro q; rw [q] at h6; cases h6)
      subst hz
      rw [← K] at hk hE
      refine (pe_callB (call_xt hE hzc hfl) g1 G.tx.isi hb (pa_cons (pe_var h1 h2 h3 h4) (pa_cons (pe_tup hp) pa_nil rfl) rfl) g3 g2 (star_cons rfl) (any_star fun e he => by simp at he; rw [he]; rfl)).run pins s σ H Q I ?_
      refine ⟨_, hv, by rw [List.length_map, hl]; exact thousand h7, fun tp htp => ?_⟩
      exact ⟨tp, cvs, b, fl, rfl, hvs, upd_same, hk, by rw [upd_ne (ne_of_none ha htp)]; exact ha, o _ _ (Step.alloc htp) (Wr.alloc htp) _ rfl⟩
    cases z with
    | Name y q =>
      have h5 : isCls M xs [.Name y q] = true := by
        cases xs with
        | nil => simp [isCl1] at hz
        | cons t ts =>
          cases ts with
          | nil => simpa [isCl1] using hz
          | cons _ _ => simp [isCl1] at hz
      obtain ⟨cvs, hp, hvs, hk, hE, hl⟩ := isx_any G h5 ea
      have hE := hE (by intro q; rw [q] at h5; simp [isCls] at h5)
      cases cvs with
      | nil => simp at hl
      | cons cv cvs =>
        cases cvs with
        | cons _ _ => simp at hl
        | nil =>
          rw [← K] at hk hE
          refine (pe_callB (call_xi hE hzc hfl) g1 G.tx.isi hb (pa_cons (pe_var h1 h2 h3 h4) hp rfl) g3 g2 (star_cons rfl) (any_star fun e he => by simp at he; rw [he]; rfl)).run pins s σ H Q I ?_
          refine ⟨_, hv, cv, b, fl, rfl, hvs cv (by simp), ?_, ha, Out.now o Wr _ rfl⟩
          simp only [PySem.W.kitAny] at hk
          split at hk
          · rename_i e1; rw [e1]; exact hk
          · rename_i e1; rw [e1]; exact hk
          · cases hk
    | Tuple zs n q =>
      have h5 : isCls M xs zs = true ∧ xs.isEmpty = false ∧ zs.length ≤ 1000 := by
        have : (isCls M xs zs && !xs.isEmpty && decide (zs.length ≤ 1000)) = true := by
          cases xs with
          | nil => simpa [isCl1] using hz
          | cons t ts => cases ts <;> simpa [isCl1] using hz
        simpa [and_assoc] using this
      exact tupCase rfl h5.1 h5.2.1 h5.2.2
    | _ => exact absurd hz (by cases xs with
      | nil => simp [isCl1]
      | cons t ts => cases ts <;> simp [isCl1])
end
end PV
/-! S11: max(xs, default = d) over a list of whole numbers. -/
namespace PV
open PySem L2 PyProof.Rows

/-- the best so far, in the loop's list -/
def Best (val : Nat → Int) (j : Nat) (ds : Array Value) : Prop :=
  (ds = #[] ∧ j = 0) ∨ ∃ (m : Int) (t : Tok), ds = #[.int m t, .int m t] ∧ (∃ i, i < j ∧ val i = m) ∧ ∀ i, i < j → val i ≤ m
def BestV (val : Nat → Int) (n : Nat) (d v : Value) : Prop :=
  (n = 0 ∧ v = d) ∨ ∃ (m : Int) (t : Tok), v = .int m t ∧ (∃ i, i < n ∧ val i = m) ∧ ∀ i, i < n → val i ≤ m
section
variable {prog : Program} {wo : World} {A : Around} {R : Result → Shared → Prop} {I : Addr} {fp wr : List Addr} {n : Nat} {Pv : Nat → Value → Prop} {St : Nat → Heap → Prop}
theorem mxd_go (W : Walks prog wo A.in1 I fp wr n Pv St) (val : Nat → Int) (hval : ∀ i v, Pv i v → ∃ t, v = .int (val i) t) (L : Addr) (hL : L ∉ fp) (d : Value) :
    ∀ (k j : Nat) (s : Shared) (ds : Array Value) (c : Nat), n = j + k → St j s.heap → Best val j ds → s.heap.get? L = some { cls := .type "list", dict := none, data := .seq ds c, slots := #[] } →
      (∀ v h' tk, BestV val n d v → (∀ b o, b ∉ wr → b ≠ L → s.heap.get? b = some o → h'.get? b = some o) → R (.ok (.ret v)) { s with heap := h', toks := tk }) →
      codeAny (model prog wo) A (.builtin "max.loop" ⟨[.ref I, .none, .ref L], [("default", d)]⟩) R s := by
  have apart : L ∉ wr := fun q => hL (W.sub _ q)
  have nm : (toString "max" ++ toString ".loop" : String) = "max.loop" := by decide
  intro k
  induction k with
  | zero =>
    intro j s ds c hn hst hb hLs hR
    have hj : j = n := by omega
    subst hj
    refine codeAny_builtin F.entry_max_loop ?_; rw [Around.under_plainId F.plain_max_loop _]
    show wpAny _ A.in1 (seqItems? (.ref L) >>= _) _ _ s; refine wpAny_bind (wpAny_seqItems hLs rfl ?_)
    show wpAny _ A.in1 (tryCatch (pyNext (.ref I)) _ >>= _) _ _ s; refine wpAny_bind (wpAny_tryCatch (W.done s _ _ hst fun h' tk kp => ?_))
    rcases hb with ⟨rfl, h0⟩ | ⟨m, t, rfl, h1, h2⟩
    · exact wpAny_bind (wpAny_rule (wpAny_pure (hR d h' tk (.inl ⟨h0, rfl⟩) fun b o q _ e => kp b o q e)))
    · have hL2 := kp L _ apart hLs
      show wpAny _ A.in1 (updateSeq L (fun _ => #[]) >>= _) _ _ _; refine wpAny_bind (wpAny_updateSeq hL2 rfl (wpAny_bind (wpAny_letGo (wpAny_pure ?_))))
      exact hR _ _ tk (.inr ⟨m, t, rfl, h1, h2⟩) fun b o q1 q2 e => (Heap.get?_update_other _ _ (Ne.symm q2)).trans (kp b o q1 e)
  | succ k ih =>
    intro j s ds c hn hst hb hLs hR
    refine codeAny_builtin F.entry_max_loop ?_; rw [Around.under_plainId F.plain_max_loop _]
    show wpAny _ A.in1 (seqItems? (.ref L) >>= _) _ _ s; refine wpAny_bind (wpAny_seqItems hLs rfl ?_)
    show wpAny _ A.in1 (tryCatch (pyNext (.ref I)) _ >>= _) _ _ s; refine wpAny_bind (wpAny_tryCatch (W.item j s _ _ (by omega) hst fun v h' tk hp hst' kp => ?_))
    obtain ⟨u, rfl⟩ := hval j v hp
    have hL2 := kp L _ apart hLs
    rcases hb with ⟨rfl, h0⟩ | ⟨m, t, rfl, ⟨i0, hi0, hi1⟩, h2⟩
    · subst h0
      show wpAny _ A.in1 (updateSeq L (fun _ => _) >>= _) _ _ _; refine wpAny_bind (wpAny_updateSeq hL2 rfl ?_); rw [nm]
      refine wpAny_pure ⟨plainId_quiet F.plain_max_loop _, ih 1 _ _ _ (by omega) (W.frame _ _ _ hst' fun b hb o e => ?_) (.inr ⟨val 0, u, rfl, ⟨0, by omega, rfl⟩, fun i hi => by obtain rfl : i = 0 := (by omega); exact Int.le_refl _⟩) (Heap.get?_update_self _ hL2 rfl) fun v' h'' tk'' hv kp2 => ?_⟩
      · exact (Heap.get?_update_other _ _ (fun z : L = b => hL (by rw [z]; exact hb))).trans e
      · exact hR v' h'' tk'' hv fun b o q1 q2 e => kp2 b o q1 q2 ((Heap.get?_update_other _ _ (Ne.symm q2)).trans (kp b o q1 e))
    · show wpAny _ A.in1 (tryCatch (holding [_, _] (richCompare .Gt (Value.int (val j) u) (Value.int m t) >>= _)) _ >>= _) _ _ _
      refine wpAny_bind (wpAny_tryCatch (wpAny_holding (wpAny_bind ((CmpOf.ints_gt (P := fun i v => ∃ t, v = .int (if i = 0 then val j else m) t) (fun i => if i = 0 then val j else m) fun _ _ q => q) 0 1 _ _ _ _ _ ⟨u, rfl⟩ ⟨t, rfl⟩ ?_))))
      refine wpAny_bind (wpAny_holding (wpAny_truthy_bool (wpAny_bind (wpAny_letGo (wpAny_pure ?_)))))
      show wpAny _ _ (if decide (val j > m) = true then _ else _) _ _ _
      by_cases hb : val j > m
      · rw [decide_eq_true hb]
        simp only [if_true]
        refine wpAny_bind (wpAny_updateSeq hL2 rfl (wpAny_bind (wpAny_letGo ?_))); rw [nm]
        refine wpAny_pure ⟨plainId_quiet F.plain_max_loop _, ih (j + 1) _ _ _ (by omega) (W.frame _ _ _ hst' fun b hb o e => ?_) (.inr ⟨val j, u, rfl, ⟨j, by omega, rfl⟩, fun i hi => ?_⟩) (Heap.get?_update_self _ hL2 rfl) fun v' h'' tk'' hv kp2 => ?_⟩
        · exact (Heap.get?_update_other _ _ (fun z : L = b => hL (by rw [z]; exact hb))).trans e
        · by_cases hij : i = j
          · subst hij; exact Int.le_refl _
          · exact Int.le_trans (h2 i (by omega)) (Int.le_of_lt hb)
        · exact hR v' h'' tk'' hv fun b o q1 q2 e => kp2 b o q1 q2 ((Heap.get?_update_other _ _ (Ne.symm q2)).trans (kp b o q1 e))
      · rw [decide_eq_false hb]
        simp only [Bool.false_eq_true, if_false] -- pv
        refine wpAny_bind (wpAny_letGo ?_); rw [nm]
        refine wpAny_pure ⟨plainId_quiet F.plain_max_loop _, ih (j + 1) _ _ c (by omega) hst' (.inr ⟨m, t, rfl, ⟨i0, by omega, hi1⟩, fun i hi => ?_⟩) hL2 fun v' h'' tk'' hv kp2 => ?_⟩
        · by_cases hij : i = j
          · subst hij; exact Int.not_lt.mp hb
          · exact h2 i (by omega)
        · exact hR v' h'' tk'' hv fun b o q1 q2 e => kp2 b o q1 q2 (kp b o q1 e)
end
theorem args_mxd (a d : Value) : argsOk "max" ⟨[a], [("default", d)]⟩ := by unfold argsOk; kernel_rfl
theorem call_mxd {prog : Program} {wo : World} {A : Around} {E : Value → Shared → Prop} {s : Shared} {l : Addr} {xs : Array (Int × Tok)} {d : Value} {Q : Value → Shared → Prop} (hh : A.handled = none) (hl : s.heap.IsList l (intItems xs))
    (h : ∀ v h' tk, BestV (numAt xs) xs.size d v → (∀ b o, s.heap.get? b = some o → h'.get? b = some o) → Q v { s with heap := h', toks := tk }) :
    wpAny (model prog wo) A (call (.builtin "max") [.ref l] [("default", d)]) Q E s := by
  have nm : (toString "max" ++ toString ".loop" : String) = "max.loop" := by decide
  refine wpAny_call (codeAny_call_builtin F.plain_max F.entry_max ?_)
  have hs : checkBuiltinCall "max" ⟨[.ref l], [("default", d)]⟩ = pure () := by
    simp only [checkBuiltinCall, F.kind_max]
    cases hsig : Manifest.signature? "max" with
    | none => rfl
    | some sig =>
      have := args_mxd (.ref l) d
      simp only [argsOk, hsig] at this
      exact this
  rw [hs]
  refine wpAny_pure ?_
  show wpAny _ A.in1 (Builtin.Builtins.bindParams "max" ["key", "default"] 0 ⟨[], [("default", d)]⟩ >>= _) _ _ s
  refine wpAny_bind (wpAny_of_eq (show Builtin.Builtins.bindParams "max" ["key", "default"] 0 ⟨[], [("default", d)]⟩ = pure [none, some d] from rfl) ?_)
  refine wpAny_bind (wpAny_pure (wpAny_bind (iter_intList hl fun s2 e st hfp hlI => ?_)))
  subst e
  refine wpAny_bind (wpAny_newObj_type ?_); rw [nm]
  have W := Walks.list (prog := prog) (w := wo) (A := A.in1) hh _ l hlI (intItems xs)
  refine wpAny_pure ⟨plainId_quiet F.plain_max_loop _, mxd_go W (numAt xs) (fun _ _ => intItems_at) _ (fun hm => Nat.lt_irrefl _ (hfp _ hm)) d (intItems xs).size 0 _ _ _ (Nat.zero_add _).symm (W.frame _ _ _ st fun b _ o e => Heap.get?_push_of_some _ e) (.inl ⟨rfl, rfl⟩) (Heap.get?_push_size _ rfl) fun v h' tk hv kp => ?_⟩
  refine h v h' tk (by simpa [intItems] using hv) fun b o e => ?_
  have hlt := Heap.lt_size e
  refine kp b o ?_ ?_ (Heap.get?_push_of_some _ (Heap.get?_push_of_some _ e))
  · intro hm
    rw [List.mem_singleton.mp hm] at hlt
    exact absurd hlt (Nat.lt_irrefl _)
  · intro z
    rw [z, Heap.size_push] at hlt
    exact absurd hlt (Nat.not_lt_of_le (Nat.le_succ _))
def rMxd (K : PySem.W.Frag) : List V → List V → Hp → VK → Prop := fun xs zs H Q => ∃ (a : Addr) (ns : List Int) (d : Int), xs = [.ref a] ∧ zs = [.int d] ∧ SqL K H a (ns.map V.int) ∧ Q (.int ((maxL ns).getD d)) H
theorem call_rMxd {X : Cx} (hc : X.calm = true) : CallRK X (.builtin "max") ["default"] (rMxd X.K) := by
  intro pins s σ H xs zs us ws Q I r rz h
  obtain ⟨a, ns, d, rfl, rfl, hs, q⟩ := h
  obtain ⟨its, rv, hl, _⟩ := I.list hs -- pv
  rw [Vals.ref1 r]
  cases rz with
  | cons r1 r2 =>
    cases r2
    obtain ⟨t, ht⟩ := r1
    subst ht
    have hi : IntsAre its ns := rv.ints
    obtain ⟨arr, e⟩ := hi.allInts.items
    have hn : numsOf (intItems arr).toList = ns := by rw [← e]; exact hi.numsOf
    rw [nums_intItems] at hn
    have hl2 := hl.isList
    rw [e] at hl2
    refine call_mxd (I.ok.hd hc) hl2 fun v h' tk hb kp => ?_
    have size : arr.size = ns.length := by rw [← hn]; simp
    have at_ : ∀ i, i < arr.size → ns[i]? = some (numAt arr i) := fun i hi => by
      rw [← hn]
      simp [numAt, hi]
    rcases hb with ⟨h0, rfl⟩ | ⟨m, t2, rfl, ⟨i, hi, e1⟩, h2⟩
    · have : ns = [] := List.eq_nil_of_length_eq_zero (by rw [← size]; exact h0)
      subst this
      exact ⟨.int d, H, I.kept (t' := tk) kp, ⟨_, rfl⟩, q⟩
    · refine ⟨.int m, H, I.kept (t' := tk) kp, ⟨_, rfl⟩, ?_⟩
      have hm : m ∈ ns := by
        rw [← e1]
        exact List.mem_of_getElem? (at_ i hi)
      have hmx : ∀ y ∈ ns, y ≤ m := fun y hy => by
        obtain ⟨k, hk⟩ := List.getElem?_of_mem hy
        have hlt : k < arr.size := by rw [size]; exact (List.getElem?_eq_some_iff.mp hk).1
        rw [at_ k hlt] at hk
        cases hk
        exact h2 k hlt
      cases ns with
      | nil => cases hm
      | cons n ns =>
        obtain ⟨k1, k2⟩ := foldl_max_mem ns n
        have e : m = ns.foldl max n := Int.le_antisymm (k2 m hm) (hmx _ k1)
        rw [e]
        exact q
theorem Rs.bind_assoc {α β γ : Type} (r : Rs α) (f : α → Hs → Rs β) (g : β → Hs → Rs γ) : (r.bind f).bind g = r.bind fun a h => (f a h).bind g := by
  cases r <;> rfl
theorem kwD_form {d : Int} : ∀ {kws : List Keyword}, kwD d kws = true → ∃ cn cp kp, kws = [⟨some "default", .Constant (.int d) cn cp, kp⟩]
  | [], h => by simp [kwD] at h
  | _ :: _ :: _, h => by simp [kwD] at h
  | [⟨arg, value, kp⟩], h => by
    simp only [kwD, Bool.and_eq_true] at h
    obtain ⟨h1, h2⟩ := h
    split at h1
    · rename_i n
      have e1 : n = ("default" : Str) := by simpa using h1
      split at h2
      · rename_i i cn cp
        have e2 : i = d := by simpa using h2
        exact ⟨cn, cp, kp, by rw [e1, e2]⟩
      · cases h2
    · cases h1
section
variable {P : Prg} {w : Wd} {X : Cx} {j : Nat} {M : ME} {W : WX} {c : Sig}
theorem so_maxd (G : GX P w X j M) (hh : M.hot = false) {d : Int} {o : Op} {x : Expr} {kws : List Keyword} {p1 p : Pos} (hg : M.glo ("max" : Str) = true) (hs : isStar x = false) (hk : kwD d kws = true) (ha : PE X x (rdO w W c o)) :
    PE X (.Call (.Name "max" p1) [x] kws p) (rdE w W c (.bi (.maxd d) (.cons o .nil))) := by
  obtain ⟨g1, g2, g3⟩ := G.glo hg
  obtain ⟨cn, cp, kp, rfl⟩ := kwD_form hk
  next =>
    refine (pe_callBK (call_rMxd (G.calm hh)) g1 (G.tx.bi (.maxd d) (.inr ⟨d, rfl⟩)) (boot_bi (.maxd d) (.inr ⟨d, rfl⟩)) (pa_cons ha pa_nil (star_cons hs)) (pk_cons pe_int pk_nil) g3 g2
      (by rw [star_cons hs]; rfl) (by rw [star_cons hs]; rfl) rfl rfl rfl).imp fun σ H Q q => ?_
    obtain ⟨μ, B, θ, h, ρ, Wr, E, o⟩ := q
    simp only [evE, evRs] at o
    refine Rdg.next Wr E (f := evR c _) (by
      rw [Rs.bind_assoc] at o
      exact o) fun μ1 h1 H1 d1 v s1 W1 E1 r1 o => ?_
    simp only [Rs.bind_ok, List.map_cons, List.map_nil] at o
    cases e : biD (.maxd d) [vw h1 d1] with
    | none => rw [e] at o; exact o.elim
    | some z =>
      rw [e] at o
      simp only [biD, Option.map_eq_some_iff] at e
      obtain ⟨is, e1, rfl⟩ := e
      obtain ⟨a, rfl, hl⟩ := lints_of e1 (ROp.rd W1 r1)
      exact ⟨a, is, d, rfl, rfl, SqL.of hl, Out.now o W1 _ rfl⟩
end
end PV
/-! S12: every expression that the matcher takes runs as the language says. -/
namespace PV
open PySem L2

section
variable {P : Prg} {w : Wd} {X : Cx} {j : Nat} {M : ME} {W : WX}
theorem GX.blk (G : GX P w X j M) (hh : M.hot = false) (s : Shared) (H : Hp) (scope : Scope) (C : Addr) (cl : List (Str × Addr)) (fp : List Addr) : GX P w (X.blk s H scope (compEnvC scope cl C X.env) fp) j (M.blk scope) where
  tx := G.tx
  fx := fun _ => G.fx hh
  K := G.K
  calm := fun _ => G.calm hh
  room := fun _ => G.room hh
  un := G.un
  nd := G.nd
  N := G.N
  sc := by
    show relS scope X.env.scope = relS scope M.sc
    rw [G.sc]
  st := fun x hx => by
    have hx2 : (match scope.names.lookup x with | some .local => true | some .cell => true | _ => false) = true := hx
    have hl : ∀ (ns : List (Str × NameKind)) (k : NameKind), (k == .free) = false → ns.lookup x = some k → (ns.map fun (n, k) => if (k == .free && X.env.scope.kind == .function && X.env.scope.names.lookup n == some .cell) then (n, NameKind.cell) else (n, k)).lookup x = some k := by
      intro ns k hk
      induction ns with
      | nil => intro h; cases h
      | cons q ns ih =>
        obtain ⟨n, k0⟩ := q
        intro h
        rw [List.lookup_cons] at h
        rw [List.map_cons]
        show List.lookup x ((if (k0 == .free && X.env.scope.kind == .function && X.env.scope.names.lookup n == some .cell) = true then (n, NameKind.cell) else (n, k0)) :: _) = some k
        cases hn : (x == n) with
        | true =>
          rw [hn] at h
          cases h
          simp only [hk, Bool.false_and, Bool.false_eq_true, if_false]
          rw [List.lookup_cons, hn]
        | false =>
          rw [hn] at h
          have := ih h
          generalize (k0 == .free && X.env.scope.kind == .function && X.env.scope.names.lookup n == some .cell) = c0
          cases c0
          · simp only [Bool.false_eq_true, if_false] -- pv
            rw [List.lookup_cons, hn]; exact this
          · simp only [if_true]
            rw [List.lookup_cons, hn]; exact this
    show Loc (relS scope X.env.scope) x ∧ ((scope.names.lookup x == some .cell) = true ∨ (relS scope X.env.scope).names.lookup x = some .local)
    split at hx2
    · rename_i e
      have := hl _ _ rfl e
      exact ⟨.inl this, .inr this⟩
    · rename_i e
      exact ⟨.inr (hl _ _ rfl e), .inl (by rw [e]; rfl)⟩
    · cases hx2
  xs := fun i h => by cases h
  noxo := fun _ => G.noxo hh
theorem takes_no {X : Cx} {W : WX} (h : ∀ c d σ H, ¬ W c d σ H) : Takes X W := fun u s' ⟨a, B, sI, pins, σ, H, cls, d, e, I, nb, up, sky, na, os, ag, q⟩ => (h _ _ _ _ q).elim
theorem fold_pure {tg : Tg} {i : It} {M : ME} {e : Expr} {env : Env} (h : isI P i M e = true) (x : Value) : foldedSetIterable e env x = pure x := by
  cases e with
  | Set _ _ _ =>
    cases i with
    | of a =>
      cases a with
      | own _ => simp [isI, isO] at h
      | ex e => cases e <;> simp [isI, isO, isE] at h
    | _ => simp [isI] at h
  | _ => rfl
theorem owns_slo : ∀ {t : Tg} {tg : Expr} {M : ME}, isG M t tg = true → (ownOf M.N t).map (·.2) = slo t
  | .slot i, tg, M, h => by
    cases tg with
    | Name x p =>
      simp only [isG, Bool.and_eq_true, beq_iff_eq] at h
      simp [ownOf, h.1, slo]
    | _ => simp [isG] at h
  | .tup ts, tg, M, h => by
    cases tg with
    | Tuple es n p =>
      simp only [isG, Bool.and_eq_true] at h
      simp only [ownOf, slo]
      exact go ts es h.2
    | _ => simp [isG] at h
where go {M : ME} : ∀ (ts : Tgs) (es : List Expr), isGs M ts es = true → (ownsOf M.N ts).map (·.2) = slos ts
  | .nil, _, _ => rfl
  | .cons t ts, [], h => by simp [isGs] at h
  | .cons t ts, e :: es, h => by
    simp only [isGs, Bool.and_eq_true] at h
    simp only [ownsOf, slos, List.map_append]
    rw [owns_slo h.1, go ts es h.2]
theorem len_take {c : Sig} : ∀ {es : Exs} {n : Nat} {xs : List Expr} {M : ME}, isEs P es M xs = true → n ≤ xs.length → ∀ ρ h ds h1, evEs c (takeE n es) ρ h = .ok ds h1 → ds.length = n
  | es, 0, xs, M, _, _, ρ, h, ds, h1, e => by
    simp only [takeE, evEs] at e; cases e; rfl
  | .nil, n + 1, [], M, _, hl, _, _, _, _, _ => by simp at hl
  | .nil, n + 1, _ :: _, M, i, _, _, _, _, _, _ => by simp [isEs] at i
  | .cons a es, n + 1, [], M, i, _, _, _, _, _, _ => by simp [isEs] at i
  | .cons a es, n + 1, x :: xs, M, i, hl, ρ, h, ds, h1, e => by
    simp only [isEs, Bool.and_eq_true] at i
    simp only [takeE, evEs] at e
    cases e1 : evE c a ρ h with
    | ok d h2 =>
      rw [e1] at e
      simp only [Rs.bind_ok] at e
      cases e2 : evEs c (takeE n es) ρ h2 with
      | ok ds2 h3 =>
        rw [e2] at e
        simp only [Rs.bind_ok] at e
        cases e
        simp [len_take i.2 (by simpa using hl) _ _ _ _ e2]
      | exc _ _ _ => rw [e2] at e; cases e
      | stuck => rw [e2] at e; cases e
    | exc _ _ _ => rw [e1] at e; cases e
    | stuck => rw [e1] at e; cases e
end
/-- a call that the matcher takes -/
theorem call_form {P : Prg} {f : Nat} {es : Exs} {M : ME} {fe : Expr} {args : List Expr} {kws : List Keyword} {p : Pos} (h : isE P (.call f es) M (.Call fe args kws p) = true) :
    ∃ p1 F, fe = .Name (P.fnm f) p1 ∧ M.glo (P.fnm f) = true ∧ M.hot = false ∧ isEs P es M (args ++ kwV kws) = true ∧ P.fn f = some F ∧ (F.ps.length == (args ++ kwV kws).length) = true ∧
      ((kws = [] ∧ args.isEmpty = false) ∨ (P.kw f args.length = true ∧ kwN (F.ps.drop args.length) kws = true)) := by
  cases fe with
  | Name x p1 =>
    simp only [isE, Bool.and_eq_true, beq_iff_eq, Bool.not_eq_true'] at h
    obtain ⟨⟨⟨⟨rfl, h2⟩, h3⟩, h4⟩, h5⟩ := h
    split at h5
    · rename_i F hF
      simp only [Bool.and_eq_true] at h5
      obtain ⟨h5, h6⟩ := h5
      refine ⟨p1, F, rfl, h2, h3, h4, hF, h5, ?_⟩
      split at h6
      · rename_i hk
        exact .inl ⟨List.isEmpty_iff.mp hk, by simpa using h6⟩
      · simp only [Bool.and_eq_true] at h6
        exact .inr h6
    · cases h5
  | _ => simp [isE] at h
theorem bi_form {P : Prg} {b : Bi} {es : Ops} {M : ME} {fe : Expr} {args : List Expr} {kws : List Keyword} {p : Pos} (h : isE P (.bi b es) M (.Call fe args kws p) = true) :
    ∃ p1, fe = .Name (bnm b) p1 ∧ M.glo (bnm b) = true ∧ M.hot = false ∧ isRs P es M args = true ∧ args.isEmpty = false ∧
      ((∃ d, b = .maxd d ∧ kwD d kws = true ∧ args.length = 1) ∨ (kws = [] ∧ b.plain = true)) := by
  cases fe with
  | Name x p1 =>
    simp only [isE, Bool.and_eq_true, beq_iff_eq, Bool.not_eq_true'] at h
    obtain ⟨⟨⟨⟨⟨rfl, h2⟩, h3⟩, h4⟩, h5⟩, h6⟩ := h
    refine ⟨p1, rfl, h2, h3, h4, h5, ?_⟩
    split at h6
    · rename_i d
      simp only [Bool.and_eq_true, beq_iff_eq] at h6
      exact .inl ⟨d, rfl, h6⟩
    · simp only [Bool.and_eq_true] at h6
      exact .inr ⟨List.isEmpty_iff.mp h6.1, h6.2⟩
  | _ => simp [isE] at h
section
variable {P : Prg} {w : Wd} {X : Cx} {j : Nat} {M : ME} {W : WX} {c : Sig}
theorem sk_nil : PK X [] (rdEs w W c .nil) := by
  constructor
  intro pos pins s σ H Q I q
  obtain ⟨μ, B, θ, h, ρ, Wr, E, o⟩ := q
  exact pk_nil.run pos pins s σ H Q I (Out.now o Wr [] trivial)
theorem sk_cons {e : Ex} {es : Exs} {k : Keyword} {ks : List Keyword} (hx : PE X k.value (rdE w W c e)) (hr : PK X ks (rdEs w W c es)) : PK X (k :: ks) (rdEs w W c (.cons e es)) := by
  constructor
  intro pos pins s σ H Q I q
  obtain ⟨kn, kv, kp⟩ := k
  refine (pk_cons (nm := kn) (kpos := kp) hx hr).run pos pins s σ H Q I ?_
  obtain ⟨μ, B, θ, h, ρ, Wr, E, o⟩ := q
  simp only [evEs] at o
  refine Rdg.next Wr E o fun μ1 h1 H1 d v s1 W1 E1 r1 o => ?_
  refine Rdg.next W1 E1 o fun μ2 h2 H2 ds vs s2 W2 E2 r2 o => ?_
  exact Out.now o W2 _ ⟨r1.step s2 fun _ q => .inl q, r2⟩
theorem si_none : PTs X [] (rdW w W c .none) := ⟨fun pos s σ H Q I q => by
  obtain ⟨μ, B, θ, h, ρ, Wr, E, o⟩ := q
  exact pts_nil.run pos s σ H Q I (Out.now o Wr _ rfl)⟩
end
def isBo : Expr → Bool
  | .BoolOp _ _ _ => true
  | _ => false
/-- as a value, as a test -/
structure Sd (w : Wd) (X : Cx) (W : WX) (c : Sig) (m : Ex) (e : Expr) : Prop where
  ve : PE X e (rdE w W c m)
  vt : PT X e (rdT w W c m)
  vb : isBo e = true → PW X e (rdT w W c m)
  vf : isF m = true → PE X e (rdF w W c m)
section
variable {P : Prg} {w : Wd} {X : Cx} {j : Nat} {M : ME} {W : WX} {c : Sig} {m : Ex} {e : Expr}
theorem Sd.stk (h : PE X e (rdE w W c m)) (hb : isBo e = false) (hs : ∀ ρ h, evT c m ρ h = .stuck) (hf : isF m = true → PE X e (rdF w W c m) := by intro q; cases q) : Sd w X W c m e :=
  ⟨h, ⟨fun pins s σ H Q I q => by
    obtain ⟨μ, B, θ, h, ρ, Wr, E, o⟩ := q
    rw [hs] at o
    exact o.elim⟩, fun q => (by rw [hb] at q; cases q), hf⟩
theorem Sd.val (G : GX P w X j M) (h : PE X e (rdE w W c m)) (hb : isBo e = false) (he : ∀ whole, isTrue e X.env whole = (do let v ← whole; standAt e.pos; holding [v] (truthy v)))
    (hm : ∀ ρ h, evT c m ρ h = (evE c m ρ h).bind fun d h1 => ofO (tru d) h1) (hf : isF m = true → PE X e (rdF w W c m) := by intro q; cases q) : Sd w X W c m e :=
  ⟨h, to_val G h he hm, fun q => (by rw [hb] at q; cases q), hf⟩
theorem ofO_tru {o : Option Bool} {h : Hs} : (ofO (o.map D.bl) h).bind (fun d h1 => ofO (tru d) h1) = ofO o h := by
  cases o <;> rfl
end
theorem lc_lst {c : Sig} {elt : Ex} {t : Tg} {it : It} {wh : Exo} : ∀ ρ h d h1, evE c (.lc elt t it wh) ρ h = .ok d h1 → ∃ ds, d = .lst ds := by
  intro ρ h d h1 e
  simp only [evE] at e
  cases e1 : evI c it ρ h with
  | ok s h2 =>
    rw [e1] at e
    simp only [Rs.bind_ok] at e
    split at e
    · revert e
      generalize lcGo _ _ _ _ = r
      intro e
      cases r with
      | ok ys h3 =>
        simp only [Rs.bind_ok] at e
        cases e
        exact ⟨ys, rfl⟩
      | exc _ _ _ => cases e
      | stuck => cases e
    · cases e
  | exc _ _ _ => rw [e1] at e; cases e
  | stuck => rw [e1] at e; cases e
section
variable (P : Prg) (w : Wd) (j : Nat)
mutual
theorem soE : ∀ (m : Ex) (X : Cx) (M : ME) (W : WX) (e : Expr), GX P w X j M → Takes X W → isE P m M e = true → Sd w X W (P.sig (P.run j)) m e
  | .var i, X, M, W, e, G, tk, h => by
    cases e with
    | Name x p =>
      refine Sd.val G (so_var G h) rfl (fun _ => rfl) fun ρ h => ?_
      simp only [evT, evE]
      cases slotD i ρ <;> rfl
    | _ => simp [isE] at h
  | .cst k, X, M, W, e, G, tk, h => by
    cases e with
    | Constant _ _ _ => exact Sd.val G (so_cst G h) rfl (fun _ => rfl) fun ρ h => rfl
    | _ => simp [isE] at h
  | .glb y i, X, M, W, e, G, tk, h => by
    cases e with
    | Name x p => exact Sd.stk (so_glb G h) rfl fun ρ h => rfl
    | _ => simp [isE] at h
  | .tup es, X, M, W, e, G, tk, h => by
    cases e with
    | Tuple xs k p =>
      simp only [isE, Bool.and_eq_true, decide_eq_true_eq] at h
      exact Sd.stk (so_tup h.1 h.2 (soEs es X M W xs G tk h.1)) rfl fun ρ h => rfl
    | _ => simp [isE] at h
  | .lst b es, X, M, W, e, G, tk, h => by
    cases e with
    | List xs p =>
      simp only [isE, Bool.and_eq_true, decide_eq_true_eq] at h
      have hes := soEs es X M W xs G tk h.1
      refine Sd.stk (so_lst h.1 h.2 hes) rfl (fun ρ h => rfl) fun q => ?_
      cases b with
      | true => cases q
      | false => exact so_lstF h.1 h.2 hes
    | _ => simp [isE] at h
  | .bin op a b, X, M, W, e, G, tk, h => by
    cases e with
    | BinOp x o y p =>
      simp only [isE, Bool.and_eq_true, beq_iff_eq] at h
      obtain ⟨⟨rfl, h2⟩, h3⟩ := h
      exact Sd.stk (so_bin G (soO a X M W x G tk h2) (soO b X M W y G tk h3)) rfl fun ρ h => rfl
    | _ => simp [isE] at h
  | .neg a, X, M, W, e, G, tk, h => by
    cases e with
    | UnaryOp op x p =>
      cases op with
      | USub => exact Sd.stk (so_neg G (soE a X M W x G tk (by simpa [isE] using h)).ve) rfl fun ρ h => rfl
      | _ => simp [isE] at h
    | _ => simp [isE] at h
  | .cmp op a b, X, M, W, e, G, tk, h => by
    cases e with
    | Compare x ops ys p =>
      match ops, ys, h with
      | [o], [y], h =>
        simp only [isE, Bool.and_eq_true, beq_iff_eq, Bool.not_eq_true'] at h
        obtain ⟨⟨⟨rfl, h2⟩, h3⟩, h4⟩ := h
        exact ⟨so_cmp G (soO a X M W x G tk h2) (soO b X M W y G tk h3) h4, to_cmp G (soO a X M W x G tk h2) (soO b X M W y G tk h3) h4, fun q => (by cases q), fun q => (by cases q)⟩
    | _ => simp [isE] at h
  | .chain o1 o2 a b d, X, M, W, e, G, tk, h => by
    cases e with
    | Compare x ops ys p =>
      match ops, ys, h with
      | [q1, q2], [y, z], h =>
        simp only [isE, Bool.and_eq_true, beq_iff_eq, Bool.not_eq_true'] at h
        obtain ⟨⟨⟨⟨⟨rfl, rfl⟩, h2⟩, h3⟩, h4⟩, h5⟩ := h
        have ha := (soE a X M W x G tk h2).ve
        have hb := (soE b X M W y G tk h3).ve
        have hd := (soE d X M W z G tk h4).ve
        exact ⟨so_chain G ha hb hd h5, to_chain G ha hb hd h5, fun q => (by cases q), fun q => (by cases q)⟩
    | _ => simp [isE] at h
  | .not a, X, M, W, e, G, tk, h => by
    cases e with
    | UnaryOp op x p =>
      cases op with
      | Not =>
        have ha := soE a X M W x G tk (by simpa [isE] using h)
        exact ⟨so_not ha.ve, to_not ha.vt, fun q => (by cases q), fun q => (by cases q)⟩
      | _ => simp [isE] at h
    | _ => simp [isE] at h
  | .and a b, X, M, W, e, G, tk, h => by
    cases e with
    | BoolOp op xs p =>
      match op, xs, h with
      | .And, x :: y :: r, h =>
        simp only [isE, Bool.and_eq_true] at h
        obtain ⟨h1, h2⟩ := h
        have ha := soE a X M W x G tk h1
        have hb : PE X (.BoolOp .And (y :: r) p) (rdE w W (P.sig (P.run j)) b) ∧ PW X (.BoolOp .And (y :: r) p) (rdT w W (P.sig (P.run j)) b) := by
          cases r with
          | nil =>
            have hb := soE b X M W y G tk h2
            exact ⟨pe_one hb.ve, pw_and1 hb.vt⟩
          | cons z r =>
            have hb := soE b X M W (.BoolOp .And (y :: z :: r) p) G tk h2
            exact ⟨hb.ve, hb.vb rfl⟩
        have hw := to_and ha.vt hb.2
        exact ⟨so_and ha.ve hb.1, hw.pt, fun _ => hw, fun q => (by cases q)⟩
    | _ => simp [isE] at h
  | .or a b, X, M, W, e, G, tk, h => by
    cases e with
    | BoolOp op xs p =>
      match op, xs, h with
      | .Or, x :: y :: r, h =>
        simp only [isE, Bool.and_eq_true] at h
        obtain ⟨h1, h2⟩ := h
        have ha := soE a X M W x G tk h1
        have hb : PE X (.BoolOp .Or (y :: r) p) (rdE w W (P.sig (P.run j)) b) ∧ PW X (.BoolOp .Or (y :: r) p) (rdT w W (P.sig (P.run j)) b) := by
          cases r with
          | nil =>
            have hb := soE b X M W y G tk h2
            exact ⟨pe_one hb.ve, pw_or1 hb.vt⟩
          | cons z r =>
            have hb := soE b X M W (.BoolOp .Or (y :: z :: r) p) G tk h2
            exact ⟨hb.ve, hb.vb rfl⟩
        have hw := to_or ha.vt hb.2
        exact ⟨so_or ha.ve hb.1, hw.pt, fun _ => hw, fun q => (by cases q)⟩
    | _ => simp [isE] at h
  | .ife t a b, X, M, W, e, G, tk, h => by
    cases e with
    | IfExp x y z p =>
      simp only [isE, Bool.and_eq_true] at h
      exact Sd.stk (so_ife (soE t X M W x G tk h.1.1).vt (soE a X M W y G tk h.1.2).ve (soE b X M W z G tk h.2).ve) rfl fun ρ h => rfl
    | _ => simp [isE] at h
  | .call f es, X, M, W, e, G, tk, h => by
    cases e with
    | Call fe args kws p =>
      obtain ⟨p1, F, rfl, h2, h3, h4, hF, h5, h6⟩ := call_form h
      refine Sd.val G ?_ rfl (fun _ => rfl) (fun ρ h => by
        simp only [evT, evE]
        cases evEs (P.sig (P.run j)) es ρ h <;> rfl)
      rcases h6 with ⟨rfl, h6⟩ | ⟨h6, h7⟩
      · simp only [kwV, List.append_nil] at h4 h5
        exact so_call G tk h3 hF h2 h6 h5 h4 (isEs_star h4) (soEs es X M W args G tk h4)
      · have hs := soKs es X M W args kws G tk h4
        exact so_callk G tk h3 hF h2 (beq_iff_eq.mp h5) h6 h7 h4 (fun e he => isEs_star h4 e (List.mem_append_left _ he)) hs.1 hs.2 (len_take h4 (by simp))
    | _ => simp [isE] at h
  | .bi b es, X, M, W, e, G, tk, h => by
    cases e with
    | Call fe args kws p =>
      obtain ⟨p1, rfl, h2, h3, h4, h5, h6⟩ := bi_form h
      refine Sd.val G ?_ rfl (fun _ => rfl) (fun ρ h => by
        simp only [evT, evE]
        cases evRs (P.sig (P.run j)) es ρ h with
        | ok ds h1 =>
          simp only [Rs.bind_ok]
          cases biD b (ds.map (vw h1)) <;> rfl
        | exc _ _ _ => rfl
        | stuck => rfl)
      rcases h6 with ⟨d, rfl, hk, hl⟩ | ⟨rfl, hp⟩
      · match es, args, hl, h4 with
        | .nil, [x], _, h4 => simp [isRs] at h4
        | .cons a r, [x], _, h4 =>
          simp only [isRs, Bool.and_eq_true, Bool.not_eq_true'] at h4
          cases r with
          | nil => exact so_maxd G h3 h2 h4.1.2 hk (soO a X M W x G tk h4.1.1)
          | cons _ _ => simp [isRs] at h4
      · exact so_bi G h3 hp h2 h5 (isRs_star h4) (soRs es X M W args G tk h4)
    | _ => simp [isE] at h
  | .isi a ts, X, M, W, e, G, tk, h => by
    cases e with
    | Call fe args kws p =>
      cases fe with
      | Name x p1 =>
        match args, h with
        | [y, z], h =>
          simp only [isE, Bool.and_eq_true, beq_iff_eq, Bool.not_eq_true'] at h
          obtain ⟨⟨⟨⟨⟨rfl, h2⟩, h3⟩, h4⟩, h5⟩, h6⟩ := h
          rw [List.isEmpty_iff] at h6
          subst h6
          refine Sd.val G (so_isi G h2 (soO a X M W y G tk h3) h4 h5) rfl (fun _ => rfl) fun ρ h => ?_
          simp only [evT, evE]
          cases evR (P.sig (P.run j)) a ρ h with
          | ok d h1 => exact ofO_tru.symm
          | exc _ _ _ => rfl
          | stuck => rfl
      | _ => simp [isE] at h
    | _ => simp [isE] at h
  | .idx a i, X, M, W, e, G, tk, h => by
    cases e with
    | Subscript x y p =>
      simp only [isE, Bool.and_eq_true, Bool.not_eq_true'] at h
      refine Sd.val G (so_idx G (soO a X M W x G tk h.1.1) (soE i X M W y G tk h.1.2).ve h.2) rfl (fun _ => rfl) fun ρ h => ?_
      simp only [evT, evE]
      cases evR (P.sig (P.run j)) a ρ h with
      | ok d h1 =>
        simp only [Rs.bind_ok]
        cases evE (P.sig (P.run j)) i ρ h1 <;> rfl
      | exc _ _ _ => rfl
      | stuck => rfl
    | _ => simp [isE] at h
  | .sli a lo hi, X, M, W, e, G, tk, h => by
    cases e with
    | Subscript x y p =>
      cases y with
      | Slice l u st p2 =>
        cases st with
        | none =>
          simp only [isE, Bool.and_eq_true] at h
          exact Sd.stk (so_sli G (soO a X M W x G tk h.1.1) (soX lo X M W l G tk h.1.2) (soX hi X M W u G tk h.2)) rfl fun ρ h => rfl
        | some _ => simp [isE] at h
      | _ => simp [isE] at h
    | _ => simp [isE] at h
  | .lc elt t it wh, X, M, W, e, G, tk, h => by
    cases e with
    | ListComp el gens scope p =>
      match gens, h with
      | [⟨tg, i, ifs, 0⟩], h =>
        simp only [isE, Bool.and_eq_true, Bool.not_eq_true'] at h
        obtain ⟨⟨⟨⟨⟨h1, h2⟩, h3⟩, h4⟩, h5⟩, h6⟩ := h
        have hb : ∀ (s : Shared) (H : Hp) (C : Addr) (cl : List (Str × Addr)) (fp : List Addr), GX P w (X.blk s H scope (compEnvC scope cl C X.env) fp) j (M.blk scope) := fun s H C cl fp => G.blk h1 s H scope C cl fp
        have hf : PE X (.ListComp el [⟨tg, i, ifs, 0⟩] scope p) (rdF w W (P.sig (P.run j)) (.lc elt t it wh)) := by
          refine so_lcF G h1 (own := ownOf M.N t) (owns_slo (M := M.blk scope) h3) (by rw [G.N, G.sc]; exact blkOk_by h6) (soI it X M W i tg G tk h2) (fun x => fold_pure (tg := t) h2 x) (fun s H C cl fp => ?_) (fun s H C cl fp => ?_) fun s H C cl fp => ?_
          · have g := hb s H C cl fp
            exact pg_of g.calm g.nd g.N g.st h3
          · exact soIf wh _ _ Wno ifs (hb s H C cl fp) (takes_no fun _ _ _ _ => id) h5
          · exact (soE elt _ _ Wno el (hb s H C cl fp) (takes_no fun _ _ _ _ => id) h4).ve
        exact Sd.stk (hf.imp fun σ H Q q => F_E lc_lst q) rfl (fun ρ h => rfl) fun _ => hf
    | _ => simp [isE] at h
  | .fld a f, X, M, W, e, G, tk, h => by simp [isE] at h
  | .xfld i f, X, M, W, e, G, tk, h => by
    cases e with
    | Attribute x n p =>
      cases x with
      | Name y p1 =>
        simp only [isE, Bool.and_eq_true, beq_iff_eq] at h
        obtain ⟨⟨h1, rfl⟩, h3⟩ := h
        exact Sd.stk (so_xfld G h1 h3 rfl) rfl fun ρ h => rfl
      | _ => simp [isE] at h
    | _ => simp [isE] at h
  | .xis i xs, X, M, W, e, G, tk, h => by
    cases e with
    | Call fe args kws p =>
      cases fe with
      | Name x p1 =>
        match args, h with
        | [.Name y p2, z], h =>
          simp only [isE, Bool.and_eq_true, beq_iff_eq] at h
          obtain ⟨⟨⟨⟨⟨rfl, h2⟩, h3⟩, h4⟩, h5⟩, h6⟩ := h
          rw [List.isEmpty_iff] at h5
          subst h5
          refine Sd.val G (so_xis G h2 h3 h4 h6 rfl) rfl (fun _ => rfl) fun ρ h => ?_
          simp only [evT, evE]
          split
          · exact ofO_tru.symm
          · rfl
      | _ => simp [isE] at h
    | _ => simp [isE] at h
theorem soEs : ∀ (es : Exs) (X : Cx) (M : ME) (W : WX) (xs : List Expr), GX P w X j M → Takes X W → isEs P es M xs = true → PA X xs (rdEs w W (P.sig (P.run j)) es)
  | .nil, X, M, W, [], G, tk, h => so_nil
  | .nil, X, M, W, _ :: _, G, tk, h => by simp [isEs] at h
  | .cons e es, X, M, W, [], G, tk, h => by simp [isEs] at h
  | .cons e es, X, M, W, x :: xs, G, tk, h => by
    simp only [isEs, Bool.and_eq_true, Bool.not_eq_true'] at h
    exact so_cons (soE e X M W x G tk h.1.1).ve (soEs es X M W xs G tk h.2) h.1.2
theorem soKs : ∀ (es : Exs) (X : Cx) (M : ME) (W : WX) (xs : List Expr) (kws : List Keyword), GX P w X j M → Takes X W → isEs P es M (xs ++ kwV kws) = true →
    PA X xs (rdEs w W (P.sig (P.run j)) (takeE xs.length es)) ∧ PK X kws (rdEs w W (P.sig (P.run j)) (dropE xs.length es))
  | .nil, X, M, W, [], [], G, tk, h => ⟨so_nil, sk_nil⟩
  | .nil, X, M, W, [], _ :: _, G, tk, h => by simp [isEs, kwV] at h
  | .nil, X, M, W, _ :: _, _, G, tk, h => by simp [isEs] at h
  | .cons e es, X, M, W, [], [], G, tk, h => by simp [isEs, kwV] at h
  | .cons e es, X, M, W, [], k :: ks, G, tk, h => by
    simp only [List.nil_append, kwV, isEs, Bool.and_eq_true, Bool.not_eq_true'] at h
    exact ⟨so_nil, sk_cons (soE e X M W k.value G tk h.1.1).ve (soKs es X M W [] ks G tk h.2).2⟩
  | .cons e es, X, M, W, x :: xs, kws, G, tk, h => by
    simp only [List.cons_append, isEs, Bool.and_eq_true, Bool.not_eq_true'] at h
    have r := soKs es X M W xs kws G tk h.2
    exact ⟨so_cons (soE e X M W x G tk h.1.1).ve r.1 h.1.2, r.2⟩
theorem soX : ∀ (m : Exo) (X : Cx) (M : ME) (W : WX) (e : Option Expr), GX P w X j M → Takes X W → isX P m M e = true → PO X e (rdX w W (P.sig (P.run j)) m)
  | .none, X, M, W, none, G, tk, h => ox_none
  | .none, X, M, W, some _, G, tk, h => by simp [isX] at h
  | .some e, X, M, W, none, G, tk, h => by simp [isX] at h
  | .some e, X, M, W, some x, G, tk, h => ox_some (soE e X M W x G tk (by simpa [isX] using h)).ve
theorem soIf : ∀ (m : Exo) (X : Cx) (M : ME) (W : WX) (es : List Expr), GX P w X j M → Takes X W → isIfs P m M es = true → PTs X es (rdW w W (P.sig (P.run j)) m)
  | .none, X, M, W, [], G, tk, h => si_none
  | .none, X, M, W, _ :: _, G, tk, h => by simp [isIfs] at h
  | .some e, X, M, W, [], G, tk, h => by simp [isIfs] at h
  | .some e, X, M, W, [x], G, tk, h => pts_one (soE e X M W x G tk (by simpa [isIfs] using h)).vt
  | .some e, X, M, W, _ :: _ :: _, G, tk, h => by simp [isIfs] at h
theorem soO : ∀ (m : Op) (X : Cx) (M : ME) (W : WX) (e : Expr), GX P w X j M → Takes X W → isO P m M e = true → PE X e (rdO w W (P.sig (P.run j)) m)
  | .own i, X, M, W, e, G, tk, h => so_own G h
  | .ex m, X, M, W, e, G, tk, h => so_ex (soE m X M W e G tk (by
      have : isO P (.ex m) M e = isE P m M e := by cases e <;> rfl
      rw [this] at h; exact h)).ve
theorem soRs : ∀ (es : Ops) (X : Cx) (M : ME) (W : WX) (xs : List Expr), GX P w X j M → Takes X W → isRs P es M xs = true → PA X xs (rdRs w W (P.sig (P.run j)) es)
  | .nil, X, M, W, [], G, tk, h => ro_nil
  | .nil, X, M, W, _ :: _, G, tk, h => by simp [isRs] at h
  | .cons e es, X, M, W, [], G, tk, h => by simp [isRs] at h
  | .cons e es, X, M, W, x :: xs, G, tk, h => by
    simp only [isRs, Bool.and_eq_true, Bool.not_eq_true'] at h
    exact ro_cons (soO e X M W x G tk h.1.1) (soRs es X M W xs G tk h.2) h.1.2
theorem soI : ∀ (m : It) (X : Cx) (M : ME) (W : WX) (e tg : Expr), GX P w X j M → Takes X W → isI P m M e = true → PI X tg e (rdI w W (P.sig (P.run j)) m)
  | .of a, X, M, W, e, tg, G, tk, h => by
    have h : isO P a M e = true := by simpa [isI] using h
    cases a with
    | own i => exact si_own G h
    | ex m =>
      exact si_of G (soE m X M W e G tk (by
        have : isO P (.ex m) M e = isE P m M e := by cases e <;> rfl
        rw [this] at h; exact h)).ve
  | .rng1 a, X, M, W, e, tg, G, tk, h => by
    cases e with
    | Call fe args kws p =>
      cases fe with
      | Name x p1 =>
        match args, h with
        | [y], h =>
          simp only [isI, Bool.and_eq_true, beq_iff_eq, Bool.not_eq_true'] at h
          obtain ⟨⟨⟨⟨rfl, h2⟩, h3⟩, h4⟩, h5⟩ := h
          rw [List.isEmpty_iff] at h5
          subst h5
          exact si_rng1 G h2 (soE a X M W y G tk h3).ve h4
      | _ => simp [isI] at h
    | _ => simp [isI] at h
  | .rng2 a b, X, M, W, e, tg, G, tk, h => by
    cases e with
    | Call fe args kws p =>
      cases fe with
      | Name x p1 =>
        match args, h with
        | [y, z], h =>
          simp only [isI, Bool.and_eq_true, beq_iff_eq, Bool.not_eq_true'] at h
          obtain ⟨⟨⟨⟨⟨⟨rfl, h2⟩, h3⟩, h3b⟩, h4⟩, h4b⟩, h5⟩ := h
          rw [List.isEmpty_iff] at h5
          subst h5
          exact si_rng2 G h2 (soE a X M W y G tk h3).ve (soE b X M W z G tk h3b).ve h4 h4b
      | _ => simp [isI] at h
    | _ => simp [isI] at h
  | .rng3 _ _ _, X, M, W, e, tg, G, tk, h => by simp [isI] at h
  | .enum _, X, M, W, e, tg, G, tk, h => by simp [isI] at h
  | .zip _ _, X, M, W, e, tg, G, tk, h => by simp [isI] at h
end
end
end PV
/-! S13: the state of a def's frame, and what a statement leaves. -/
namespace PV
open PySem L2

/-- the frame's state, from the def's entry (μ0, H0) on -/
structure SR (w : Wd) (μ0 : List Addr) (H0 : Hp) (B : Addr → Prop) (μ : List Addr) (θ : Nat → Addr) (σ : L2.St) (H : Hp) (ρ : Ev) (h : Hs) : Prop where
  hp : HpR w μ (Tot B θ ρ) H h
  env : EnvR w μ B θ σ H ρ
  step : Step μ0 H0 μ H
  fresh : ∀ (i : Nat) (o : Ob), ρ[i]? = some (.own o) → H0 (θ i) = none
/-- K of the next state -/
def OutN (w : Wd) (μ0 : List Addr) (H0 : Hp) (B : Addr → Prop) (μ : List Addr) (T : Addr → Prop) (H : Hp) (K : L2.St → Hp → Prop) (ρ1 : Ev) (h1 : Hs) : Prop :=
  ∀ μ1 H1 θ1 σ1, SR w μ0 H0 B μ1 θ1 σ1 H1 ρ1 h1 → KStep μ T H μ1 (Tot B θ1 ρ1) H1 → K σ1 H1
def OutS (w : Wd) (W : WX) (D : Ends) (μ0 : List Addr) (H0 : Hp) (B : Addr → Prop) (μ : List Addr) (T : Addr → Prop) (H : Hp) : Rs Fl → Prop
  | .ok fl h1 => (match fl with
    | .nx ρ1 => OutN w μ0 H0 B μ T H D.nx ρ1 h1
    | .brk ρ1 => OutN w μ0 H0 B μ T H D.bk ρ1 h1
    | .cnt ρ1 => OutN w μ0 H0 B μ T H D.ct ρ1 h1
    | .ret d => ∀ μ1 H1 v, Step μ0 H0 μ1 H1 → HpR w μ1 B H1 h1 → Rep w μ1 B H1 d v → D.rt v H1
    | .xc c fs ρ1 => ∀ μ1 H1 θ1 σ1 d fl vs, SR w μ0 H0 B μ1 θ1 σ1 H1 ρ1 h1 → KStep μ T H μ1 (Tot B θ1 ρ1) H1 → (¬ Tot B θ1 ρ1 d ∧ d ∉ μ1) → H1 d = some (.xd fl) → fldsAt fl (w.nms c) vs → RepL w μ1 (Tot B θ1 ρ1) H1 fs vs →
        W (.ref (w.cls c)) (some d) σ1 H1)
  | .exc _ _ _ => False
  | .stuck => False
def rdS0 (w : Wd) (W : WX) (f : Ev → Hs → Rs Fl) : TS := fun D σ H => ∃ μ0 H0 B μ θ h ρ, SR w μ0 H0 B μ θ σ H ρ h ∧ OutS w W D μ0 H0 B μ (Tot B θ ρ) H (f ρ h)
def rdS (w : Wd) (W : WX) (c : Sig) (m : St) : TS := rdS0 w W (exS c m)
def rdSs (w : Wd) (W : WX) (c : Sig) (m : Sts) : TS := rdS0 w W (exSs c m)

section
variable {w : Wd} {W : WX} {D : Ends} {μ0 μ μ1 : List Addr} {H0 H H1 : Hp} {B T T1 : Addr → Prop} {θ : Nat → Addr} {σ : L2.St} {ρ : Ev} {h h1 : Hs}
theorem OutN.trans {K : L2.St → Hp → Prop} {ρ1 : Ev} (k : KStep μ T H μ1 T1 H1) (o : OutN w μ0 H0 B μ T H K ρ1 h1) : OutN w μ0 H0 B μ1 T1 H1 K ρ1 h1 := fun μ2 H2 θ2 σ2 S k2 => o μ2 H2 θ2 σ2 S (k.trans k2)
theorem OutS.trans {r : Rs Fl} (k : KStep μ T H μ1 T1 H1) (o : OutS w W D μ0 H0 B μ T H r) : OutS w W D μ0 H0 B μ1 T1 H1 r := by
  cases r with
  | ok fl h1 =>
    cases fl with
    | nx ρ1 => exact OutN.trans k o
    | brk ρ1 => exact OutN.trans k o
    | cnt ρ1 => exact OutN.trans k o
    | ret d => exact o
    | xc c fs ρ1 => exact fun μ2 H2 θ2 σ2 d fl vs S k2 => o μ2 H2 θ2 σ2 d fl vs S (k.trans k2)
  | exc c fs h1 => exact o.elim
  | stuck => exact o.elim
theorem SR.to (S : SR w μ0 H0 B μ θ σ H ρ h) (s : Step μ H μ1 H1) (W1 : HpR w μ1 (Tot B θ ρ) H1 h1) : SR w μ0 H0 B μ1 θ σ H1 ρ h1 := ⟨W1, S.env.step S.hp s, S.step.trans s, S.fresh⟩
theorem SR.kst (S : SR w μ0 H0 B μ θ σ H ρ h) (s : Step μ H μ1 H1) : KStep μ (Tot B θ ρ) H μ1 (Tot B θ ρ) H1 := s.k fun _ q => .inl q
/-- an expression amid a statement -/
theorem lft_out {α : Type} {r : Rs α} {g : α → Hs → Rs Fl} (S : SR w μ0 H0 B μ θ σ H ρ h) (o : OutS w W D μ0 H0 B μ (Tot B θ ρ) H (lft ρ r g)) :
    Out w (Tot B θ ρ) μ H (fun a h1 μ1 H1 => SR w μ0 H0 B μ1 θ σ H1 ρ h1 ∧ Step μ H μ1 H1 ∧ OutS w W D μ0 H0 B μ1 (Tot B θ ρ) H1 (g a h1)) (fun cls d H' => W cls d σ H') r := by
  cases r with
  | ok a h1 => exact fun μ1 H1 s1 W1 => ⟨S.to s1 W1, s1, OutS.trans (S.kst s1) o⟩
  | exc c fs h1 => exact fun μ1 H1 d fl vs s1 W1 n hd hf rv => o μ1 H1 θ σ d fl vs (S.to s1 W1) (S.kst s1) n hd hf rv
  | stuck => exact o.elim
theorem lft_rd {α β : Type} {f : Ev → Hs → Rs α} {g : α → Hs → Rs Fl} {R : List Addr → (Addr → Prop) → Hp → Hs → α → β → Prop} {K : β → Hp → Prop} (S : SR w μ0 H0 B μ θ σ H ρ h) (o : OutS w W D μ0 H0 B μ (Tot B θ ρ) H (lft ρ (f ρ h) g))
    (k : ∀ μ1 h1 H1 a b, Step μ H μ1 H1 → SR w μ0 H0 B μ1 θ σ H1 ρ h1 → R μ1 (Tot B θ ρ) H1 h1 a b → OutS w W D μ0 H0 B μ1 (Tot B θ ρ) H1 (g a h1) → K b H1) : Rdg w W f R σ H K :=
  ⟨μ, B, θ, h, ρ, S.hp, S.env, (lft_out S o).imp fun a h1 μ1 H1 s1 W1 ⟨S1, _, q⟩ b hb => k μ1 h1 H1 a b s1 S1 hb q⟩
theorem lft_rdF {m : Ex} {c : Sig} {g : PV.D → Hs → Rs Fl} {K : VK} (S : SR w μ0 H0 B μ θ σ H ρ h) (o : OutS w W D μ0 H0 B μ (Tot B θ ρ) H (lft ρ (evE c m ρ h) g)) (hl : ∀ ds h1, g ds h1 ≠ .stuck → ∃ xs, ds = .lst xs)
    (k : ∀ μ1 h1 H1 p ds xs, Step μ H μ1 H1 → H p = none → p ∉ μ1 → HpR w μ1 (fun a => Tot B θ ρ a ∨ a = p) H1 h1 → H1 p = some (.lst xs) → RepL w μ1 (fun a => Tot B θ ρ a ∨ a = p) H1 ds xs →
      OutS w W D μ0 H0 B μ (Tot B θ ρ) H (g (.lst ds) h1) → K (.ref p) H1) : rdF w W c m σ H K := by
  refine ⟨μ, B, θ, h, ρ, S.hp, S.env, ?_⟩
  cases e : evE c m ρ h with
  | ok d h1 =>
    rw [e] at o
    simp only [lft_ok] at o
    obtain ⟨ds, rfl⟩ := hl d h1 (fun z => by rw [z] at o; exact o.elim)
    exact fun μ1 H1 p xs s1 hp hn W1 hx r => k μ1 h1 H1 p ds xs s1 hp hn W1 hx r o
  | exc c fs h1 =>
    rw [e] at o
    exact fun μ1 H1 d fl vs s1 W1 n hd hf rv => o μ1 H1 θ σ d fl vs (S.to s1 W1) (S.kst s1) n hd hf rv
  | stuck => rw [e] at o; exact o.elim
/-- a name takes data -/
theorem SR.put (S : SR w μ0 H0 B μ θ σ H ρ h) {i : Nat} {d : PV.D} {v : V} (hi : i < ρ.length) (r : Rep w μ (Tot B θ ρ) H d v) : SR w μ0 H0 B μ θ (σ.set i (some v)) H (ρ.set i (.val d)) h ∧ KStep μ (Tot B θ ρ) H μ (Tot B θ (ρ.set i (.val d))) H := by
  have sub := tot_sub (B := B) (θ := θ) (ρ := ρ) (i := i) (s := .val d) (fun o z => by cases z)
  refine ⟨⟨S.hp.mono sub, S.env.put hi r, S.step, fun k o e => ?_⟩, Step.refl.k fun a q => .inl (sub a q)⟩
  rcases getset e with ⟨_, z, _⟩ | ⟨_, z⟩
  · cases z
  · exact S.fresh k o z
theorem SR.drop (S : SR w μ0 H0 B μ θ σ H ρ h) {i : Nat} {s : Option V} : SR w μ0 H0 B μ θ (σ.set i s) H (ρ.set i .non) h ∧ KStep μ (Tot B θ ρ) H μ (Tot B θ (ρ.set i .non)) H := by
  have sub := tot_sub (B := B) (θ := θ) (ρ := ρ) (i := i) (s := .non) (fun o z => by cases z)
  refine ⟨⟨S.hp.mono sub, S.env.drop, S.step, fun k o e => ?_⟩, Step.refl.k fun a q => .inl (sub a q)⟩
  rcases getset e with ⟨_, z, _⟩ | ⟨_, z⟩
  · cases z
  · exact S.fresh k o z
/-- an own list becomes data -/
theorem SR.frz (S : SR w μ0 H0 B μ θ σ H ρ h) {i : Nat} {ds : List PV.D} (e : ρ[i]? = some (.own (.lst ds))) : SR w μ0 H0 B μ θ σ H (ρ.set i (.val (.lst ds))) h ∧ KStep μ (Tot B θ ρ) H μ (Tot B θ (ρ.set i (.val (.lst ds)))) H := by
  have sub := tot_sub (B := B) (θ := θ) (ρ := ρ) (i := i) (s := .val (.lst ds)) (fun o z => by cases z)
  have hi : i < ρ.length := (List.getElem?_eq_some_iff.mp e).1
  obtain ⟨hs, hB, xs, hx, r⟩ := S.env.owns i _ e
  have nm : θ i ∉ μ := fun q => S.hp.nb _ q (.inr ⟨i, _, e, rfl⟩)
  have nt : ¬ Tot B θ (ρ.set i (.val (.lst ds))) (θ i) := by
    rintro (q | ⟨k, o, ek, hk⟩)
    · exact hB q
    · rcases getset ek with ⟨_, z, _⟩ | ⟨hne, z⟩
      · cases z
      · exact hne (S.env.inj k i o _ z e hk)
  have k0 : KStep μ (Tot B θ ρ) H μ (Tot B θ (ρ.set i (.val (.lst ds)))) H := Step.refl.k fun a q => .inl (sub a q)
  refine ⟨⟨S.hp.mono sub, ⟨by simp [S.env.len], fun k d ek => ?_, fun k o ek => ?_, fun k l o u ek el => ?_⟩, S.step, fun k o ek => ?_⟩, k0⟩
  · rcases getset ek with ⟨rfl, z, _⟩ | ⟨hne, z⟩
    · cases z
      exact ⟨_, hs, θ k, xs, rfl, ⟨nt, nm⟩, hx, r.kstep k0⟩
    · obtain ⟨v, h1, h2⟩ := S.env.vals k d z
      exact ⟨v, h1, h2.kstep k0⟩
  · rcases getset ek with ⟨_, z, _⟩ | ⟨hne, z⟩
    · cases z
    · obtain ⟨h1, h2, h3⟩ := S.env.owns k o z
      exact ⟨h1, h2, h3.step Step.refl (fun a q => .inl (sub a q)) fun _ q => q⟩
  · rcases getset ek with ⟨_, z, _⟩ | ⟨hne, z⟩
    · cases z
    · rcases getset el with ⟨_, y, _⟩ | ⟨_, y⟩
      · cases y
      · exact S.env.inj k l o u z y
  · rcases getset ek with ⟨_, z, _⟩ | ⟨_, z⟩
    · cases z
    · exact S.fresh k o z
theorem tot_own {i : Nat} {o o' : Ob} (e : ρ[i]? = some (.own o)) : Tot B θ (ρ.set i (.own o')) = Tot B θ ρ := by
  funext a
  apply propext
  constructor
  · rintro (q | ⟨k, u, ek, hk⟩)
    · exact .inl q
    · rcases getset ek with ⟨rfl, z, _⟩ | ⟨_, z⟩
      · exact .inr ⟨k, o, e, hk⟩
      · exact .inr ⟨k, u, z, hk⟩
  · rintro (q | ⟨k, u, ek, hk⟩)
    · exact .inl q
    · by_cases hki : i = k
      · subst hki
        exact .inr ⟨i, o', by rw [List.getElem?_set_self (List.getElem?_eq_some_iff.mp e).1], hk⟩
      · exact .inr ⟨k, u, by rw [List.getElem?_set_ne hki]; exact ek, hk⟩
/-- an own list is changed -/
theorem SR.mut (S : SR w μ0 H0 B μ θ σ H ρ h) {i : Nat} {ds es : List PV.D} {xs ys : List V} (e : ρ[i]? = some (.own (.lst ds))) (hx : H (θ i) = some (.lst xs)) (r : RepL w μ (Tot B θ ρ) H es ys) :
    SR w μ0 H0 B μ θ σ (L2.upd H (θ i) (.lst ys)) (ρ.set i (.own (.lst es))) h ∧ KStep μ (Tot B θ ρ) H μ (Tot B θ (ρ.set i (.own (.lst es)))) (L2.upd H (θ i) (.lst ys)) := by
  have hT : Tot B θ ρ (θ i) := .inr ⟨i, _, e, rfl⟩
  have k0 : KStep μ (Tot B θ ρ) H μ (Tot B θ ρ) (L2.upd H (θ i) (.lst ys)) := KStep.upd hT hx
  have eT := tot_own (B := B) (θ := θ) (o' := .lst es) e
  rw [eT]
  have hf := S.fresh i _ e
  have nm : θ i ∉ μ := fun q => S.hp.nb _ q hT
  refine ⟨⟨by rw [eT]; exact S.hp.updBad hT hx, ⟨by simp [S.env.len], fun k d ek => ?_, fun k o ek => ?_, fun k l o u ek el => ?_⟩, ⟨S.step.ext, fun a o h1 h2 h3 => ?_, fun a zs h1 => ?_, fun a o u h1 => ?_, fun a o h1 => ?_⟩, fun k o ek => ?_⟩, k0⟩
  · rw [eT]
    rcases getset ek with ⟨_, z, _⟩ | ⟨hne, z⟩
    · cases z
    · obtain ⟨v, h1, h2⟩ := S.env.vals k d z
      exact ⟨v, h1, h2.kstep k0⟩
  · rw [eT]
    rcases getset ek with ⟨rfl, z, _⟩ | ⟨hne, z⟩
    · cases z
      obtain ⟨h1, h2, _⟩ := S.env.owns k _ e
      exact ⟨h1, h2, ys, upd_same, r.kstep k0⟩
    · obtain ⟨h1, h2, h3⟩ := S.env.owns k o z
      refine ⟨h1, h2, ?_⟩
      have ne : θ k ≠ θ i := fun q => hne (S.env.inj k i o _ z e q)
      cases o with
      | lst fs =>
        obtain ⟨zs, hz, rz⟩ := h3
        exact ⟨zs, by rw [upd_ne ne]; exact hz, rz.kstep k0⟩
      | dct _ => exact h3.elim
      | ins _ _ => exact h3.elim
      | gone => exact h3.elim
  · have back : ∀ {m : Nat} {o : Ob}, (ρ.set i (.own (.lst es)))[m]? = some (.own o) → ∃ o', ρ[m]? = some (.own o') := fun {m o} q => by
      rcases getset q with ⟨rfl, _, _⟩ | ⟨_, z⟩
      · exact ⟨_, e⟩
      · exact ⟨_, z⟩
    obtain ⟨o1, q1⟩ := back ek
    obtain ⟨o2, q2⟩ := back el
    exact S.env.inj k l o1 o2 q1 q2
  · rw [upd_ne (fun z => by rw [z, hf] at h1; cases h1)]; exact S.step.keep a o h1 h2 h3
  · rw [upd_ne (fun z => by rw [z, hf] at h1; cases h1)]; exact S.step.tup a zs h1
  · rw [upd_ne (fun z => by rw [z, hf] at h1; cases h1)]; exact S.step.frz a o u h1
  · rw [upd_ne (fun z => by rw [z, hf] at h1; cases h1)]; exact S.step.there a o h1
  · rcases getset ek with ⟨rfl, _, _⟩ | ⟨_, z⟩
    · exact hf
    · exact S.fresh k o z
/-- a name takes a list that was just made -/
theorem SR.own (S : SR w μ0 H0 B μ θ σ H ρ h) {i : Nat} {p : Addr} {ds : List PV.D} {xs : List V} (hi : i < ρ.length) (s1 : Step μ H μ1 H1) (hp : H p = none) (hn : p ∉ μ1) (W1 : HpR w μ1 (fun a => Tot B θ ρ a ∨ a = p) H1 h1)
    (hx : H1 p = some (.lst xs)) (r : RepL w μ1 (fun a => Tot B θ ρ a ∨ a = p) H1 ds xs) :
    SR w μ0 H0 B μ1 (fun k => if k = i then p else θ k) (σ.set i (some (.ref p))) H1 (ρ.set i (.own (.lst ds))) h1 ∧ KStep μ (Tot B θ ρ) H μ1 (Tot B (fun k => if k = i then p else θ k) (ρ.set i (.own (.lst ds)))) H1 := by
  have sub : ∀ a, Tot B (fun k => if k = i then p else θ k) (ρ.set i (.own (.lst ds))) a → Tot B θ ρ a ∨ a = p := by
    rintro a (q | ⟨k, o, ek, hk⟩)
    · exact .inl (.inl q)
    · rcases getset ek with ⟨rfl, _, _⟩ | ⟨hne, z⟩
      · exact .inr (by rw [← hk]; simp)
      · simp only [if_neg hne] at hk
        exact .inl (.inr ⟨k, o, z, hk⟩)
  have kst : KStep μ (Tot B θ ρ) H μ1 (Tot B (fun k => if k = i then p else θ k) (ρ.set i (.own (.lst ds)))) H1 := s1.k fun a q => (sub a q).imp id fun z => by rw [z]; exact hp
  have nB : ¬ Tot B θ ρ p := fun q => by
    obtain ⟨u, e⟩ := S.hp.bt p q
    rw [hp] at e; cases e
  have old : ∀ {k : Nat} {o : Ob}, ρ[k]? = some (.own o) → θ k ≠ p := fun {k o} e q => nB (.inr ⟨k, o, e, q⟩)
  have E1 := S.env.step S.hp s1
  refine ⟨⟨W1.mono sub, ⟨by simp [S.env.len], fun k d ek => ?_, fun k o ek => ?_, fun k l o u ek el => ?_⟩, S.step.trans s1, fun k o ek => ?_⟩, kst⟩
  · rcases getset ek with ⟨_, z, _⟩ | ⟨hne, z⟩
    · cases z
    · obtain ⟨v, h1, h2⟩ := S.env.vals k d z
      exact ⟨v, by rw [List.getElem?_set_ne (fun z => hne z.symm)]; exact h1, h2.kstep kst⟩
  · rcases getset ek with ⟨rfl, z, _⟩ | ⟨hne, z⟩
    · cases z
      simp only [if_true]
      exact ⟨by rw [List.getElem?_set_self (by rw [S.env.len]; exact hi)], fun q => nB (.inl q), xs, hx, r.step Step.refl fun a q => .inl (sub a q)⟩
    · obtain ⟨h1, h2, h3⟩ := E1.owns k o z
      simp only [if_neg hne]
      refine ⟨by rw [List.getElem?_set_ne (fun z => hne z.symm)]; exact h1, h2, ?_⟩
      obtain ⟨_, _, h4⟩ := S.env.owns k o z
      cases o with
      | lst fs =>
        obtain ⟨zs, hz, rz⟩ := h4
        refine ⟨zs, s1.keep _ _ hz (fun q => S.hp.nb _ q (.inr ⟨k, _, z, rfl⟩)) (fun ps z => by cases z), rz.kstep kst⟩
      | dct _ => exact h4.elim
      | ins _ _ => exact h4.elim
      | gone => exact h4.elim
  · rcases getset ek with ⟨rfl, _, _⟩ | ⟨hk, zk⟩
    · rcases getset el with ⟨rfl, _, _⟩ | ⟨hl, zl⟩
      · exact fun _ => rfl
      · simp only [if_true, if_neg hl]
        exact fun q => absurd q.symm (old zl)
    · rcases getset el with ⟨rfl, _, _⟩ | ⟨hl, zl⟩
      · simp only [if_true, if_neg hk]
        exact fun q => absurd q (old zk)
      · simp only [if_neg hk, if_neg hl]
        exact S.env.inj k l o u zk zl
  · rcases getset ek with ⟨rfl, _, _⟩ | ⟨hne, z⟩
    · simp only [if_true]
      cases q : H0 p with
      | none => rfl
      | some u =>
        obtain ⟨u', e⟩ := S.step.there p u q
        rw [hp] at e; cases e
    · simp only [if_neg hne]
      exact S.fresh k o z
/-- a box is changed -/
theorem SR.box (S : SR w μ0 H0 B μ θ σ H ρ h) {l : Nat} {a : Addr} {ds es : List PV.D} {xs ys : List V} (hl : μ[l]? = some a) (hh : h[l]? = some (.lst ds)) (hx : H a = some (.lst xs)) (r : RepL w μ (Tot B θ ρ) H es ys) (hp : pureAll es = true) :
    SR w μ0 H0 B μ θ σ (L2.upd H a (.lst ys)) ρ (h.set l (.lst es)) ∧ KStep μ (Tot B θ ρ) H μ (Tot B θ ρ) (L2.upd H a (.lst ys)) := by
  have hm : a ∈ μ := List.mem_of_getElem? hl
  have nt : ¬ Tot B θ ρ a := S.hp.nb a hm
  have st : Step μ H μ (L2.upd H a (.lst ys)) := by
    refine ⟨⟨[], by simp, fun b hb => by cases hb⟩, fun b o h1 h2 _ => ?_, fun b zs h1 => ?_, fun b o u h1 => ?_, fun b o h1 => ?_⟩
    · rw [upd_ne (fun z => h2 (by rw [z]; exact hm))]; exact h1
    · rw [upd_ne (fun z => by rw [z, hx] at h1; cases h1)]; exact h1
    · rw [upd_ne (fun z => by rw [z, hx] at h1; cases h1)]; exact h1
    · by_cases e : b = a
      · subst e; exact ⟨_, upd_same⟩
      · exact ⟨o, by rw [upd_ne e]; exact h1⟩
  have hlt : l < h.length := (List.getElem?_eq_some_iff.mp hh).1
  have Wn : HpR w μ (Tot B θ ρ) (L2.upd H a (.lst ys)) (h.set l (.lst es)) := by
    refine ⟨by rw [List.length_set]; exact S.hp.len, S.hp.nd, S.hp.nb, fun b q => ?_, fun m b o h1 h2 => ?_, fun o ho => ?_⟩
    · obtain ⟨u, e⟩ := S.hp.bt b q
      exact st.there b u e
    · rcases getset h2 with ⟨rfl, rfl, _⟩ | ⟨hne, z⟩
      · rw [hl] at h1; cases h1
        exact ⟨ys, upd_same, r.step st fun _ q => .inl q⟩
      · have hab : b ≠ a := fun q => by
          subst q
          exact hne ((List.getElem?_inj (List.getElem?_eq_some_iff.mp h1).1 S.hp.nd).mp (by rw [h1, hl]))
        have x := S.hp.at_ m b o h1 z
        exact x.step st (fun _ q => .inl q) fun u q => by rw [upd_ne hab]; exact q
    · rcases List.mem_or_eq_of_mem_set ho with ho | rfl
      · exact S.hp.pu o ho
      · exact hp
  exact ⟨S.to st Wn, S.kst st⟩
end
end PV
/-! S14: the statements, one by one. -/
theorem L2.PS.imp {X : L2.Cx} {e : PySem.Stmt} {t t' : L2.TS} (p : L2.PS X e t) (h : ∀ D σ H, t' D σ H → t D σ H) : L2.PS X e t' := ⟨fun pins s σ H D I q => p.run pins s σ H D I (h D σ H q)⟩
theorem L2.PSs.imp {X : L2.Cx} {e : List PySem.Stmt} {t t' : L2.TS} (p : L2.PSs X e t) (h : ∀ D σ H, t' D σ H → t D σ H) : L2.PSs X e t' := ⟨fun pins s σ H D I q => p.run pins s σ H D I (h D σ H q)⟩
namespace PV
open PySem L2

def isComp : Expr → Bool
  | .ListComp _ _ _ _ => true | .SetComp _ _ _ _ => true | .DictComp _ _ _ _ _ => true
  | _ => false
theorem sw_no {v : Expr} {t : Option Expr} {l : Nat} {env : Env} (h : isComp v = false) : swapsWith v t l env = pure false := by
  cases v <;> first | rfl | (simp [isComp] at h)
theorem sole {v t : Expr} {l : Nat} {env : Env} : swapsWithSole [t] v l env = swapsWith v (some t) l env := by
  unfold swapsWithSole
  rfl
section
variable {w : Wd} {W : WX} {D : Ends} {μ0 μ μ1 : List Addr} {H0 H H1 : Hp} {B T T1 : Addr → Prop} {θ : Nat → Addr} {σ : L2.St} {ρ : Ev} {h h1 : Hs} {i : Nat}
theorem set_out {d : PV.D} {v : V} (S : SR w μ0 H0 B μ θ σ H ρ h) (s1 : Step μ H μ1 H1) (W1 : HpR w μ1 (Tot B θ ρ) H1 h1) (r : Rep w μ1 (Tot B θ ρ) H1 d v) (o : OutS w W D μ0 H0 B μ (Tot B θ ρ) H (nxO (putS i (.val d) ρ) h1)) : D.nx (σ.set i (some v)) H1 := by
  unfold putS at o
  split at o
  · rename_i hi
    obtain ⟨S2, k2⟩ := (S.to s1 W1).put hi r
    exact o _ _ _ _ S2 ((S.kst s1).trans k2)
  · exact o.elim
theorem own_out {ds : List PV.D} {xs : List V} {p : Addr} (S : SR w μ0 H0 B μ θ σ H ρ h) (s1 : Step μ H μ1 H1) (hp : H p = none) (hn : p ∉ μ1) (W1 : HpR w μ1 (fun a => Tot B θ ρ a ∨ a = p) H1 h1) (hx : H1 p = some (.lst xs))
    (r : RepL w μ1 (fun a => Tot B θ ρ a ∨ a = p) H1 ds xs) (o : OutS w W D μ0 H0 B μ (Tot B θ ρ) H (nxO (putS i (.own (.lst ds)) ρ) h1)) : D.nx (σ.set i (some (.ref p))) H1 := by
  unfold putS at o
  split at o
  · rename_i hi
    obtain ⟨S2, k2⟩ := S.own hi s1 hp hn W1 hx r
    exact o _ _ _ _ S2 k2
  · exact o.elim
theorem fresh_rep {ds : List PV.D} {xs : List V} {p : Addr} (S : SR w μ0 H0 B μ θ σ H ρ h) (hp : H p = none) (hn : p ∉ μ1) (hx : H1 p = some (.lst xs)) (r : RepL w μ1 (fun a => Tot B θ ρ a ∨ a = p) H1 ds xs) : Rep w μ1 (Tot B θ ρ) H1 (.lst ds) (.ref p) := by
  refine ⟨p, xs, rfl, ⟨fun q => ?_, hn⟩, hx, r.step Step.refl fun a q => .inl (.inl q)⟩
  obtain ⟨u, e⟩ := S.hp.bt p q
  rw [hp] at e; cases e
theorem slot_own {xs : List PV.D} (S : SR w μ0 H0 B μ θ σ H ρ h) (e : ρ[i]? = some (.own (.lst xs))) : σ[i]? = some (some (.ref (θ i))) ∧ ∃ ys, H (θ i) = some (.lst ys) ∧ RepL w μ (Tot B θ ρ) H xs ys := by
  obtain ⟨h1, _, ys, h2, h3⟩ := S.env.owns i _ e
  exact ⟨h1, ys, h2, h3⟩
theorem setL_ix {xs es : List PV.D} {k y : PV.D} (e : setL xs k y = some es) : ∃ (n : Int) (m : Nat), k = .int n ∧ PV.ixN xs.length n = some m ∧ es = xs.set m y := by
  cases k with
  | int n =>
    simp only [setL, Option.map_eq_some_iff] at e
    obtain ⟨m, e1, e2⟩ := e
    exact ⟨n, m, rfl, e1, e2.symm⟩
  | _ => simp [setL] at e
theorem pure_set : ∀ {xs : List PV.D} {d : PV.D}, pureAll xs = true → d.pure = true → ∀ n, pureAll (xs.set n d) = true
  | [], _, _, _, _ => rfl
  | x :: xs, d, h, hd, 0 => by
    simp only [pureAll, Bool.and_eq_true] at h
    simp [pureAll, hd, h.2]
  | x :: xs, d, h, hd, n + 1 => by
    simp only [pureAll, Bool.and_eq_true] at h
    simp [pureAll, h.1, pure_set h.2 hd n]
theorem len_lim {n : Nat} (h : n < lenMax) : n < sizeLine := by
  have : lenMax < sizeLine := by rw [sizeLine_eq]; decide
  omega
end
section
variable {P : Prg} {w : Wd} {X : Cx} {j : Nat} {M : ME} {W : WX} {c : Sig}
def isN (M : ME) (i : Nat) (x : Str) : Bool := (M.N[i]? == some x) && M.st x
theorem GX.nm (G : GX P w X j M) {i : Nat} {x : Str} (h : isN M i x = true) : X.N[i]? = some x ∧ Loc X.env.scope x ∧ (X.fn x = true ∨ X.env.scope.names.lookup x = some .local) := by
  simp only [isN, Bool.and_eq_true, beq_iff_eq] at h
  obtain ⟨k1, k2⟩ := G.st x h.2
  exact ⟨by rw [G.N]; exact h.1, k1, k2⟩
theorem ss_set (G : GX P w X j M) {i : Nat} {m : Ex} {x : Str} {v : Expr} {p pos : Pos} (hn : isN M i x = true) (hc : isComp v = false) (hv : PE X v (rdE w W c m)) : PS X (.Assign [.Name x p] v pos) (rdS w W c (.set i m)) := by
  obtain ⟨k1, k2, k3⟩ := G.nm hn
  refine (ps_set G.nd k1 k2 hv (sw_no hc) k3).imp fun D σ H q => ?_
  obtain ⟨μ0, H0, B, μ, θ, h, ρ, S, o⟩ := q
  simp only [exS] at o
  refine lft_rd S o fun μ1 h1 H1 a b s1 S1 r o => ?_
  exact set_out S1 Step.refl S1.hp r o
theorem ss_setLc (G : GX P w X j M) (hh : M.hot = false) {i : Nat} {x : Str} {py spos : Pos} (hn : isN M i x = true) (hl : X.env.scope.names.lookup x = some .local) {elt : Ex} {t : Tg} {it : It} {wh : Exo} {e tg ie : Expr} {ifs : List Expr} {scope : Scope} {own : List (Str × Nat)} {p : Pos} (hown : own.map (·.2) = slo t)
    (hsw : swapsWith (.ListComp e [⟨tg, ie, ifs, 0⟩] scope p) (some (.Name x py)) spos.line X.env = pure true)
    (ok : BlkOk X.N X.env.scope scope own) (hi : PI X tg ie (rdI w W c it)) (hs : ∀ x, foldedSetIterable ie X.env x = pure x)
    (hg : ∀ (s : Shared) (H : Hp) (C : Addr) (cl : List (Str × Addr)) (fp : List Addr), PG (X.blk s H scope (compEnvC scope cl C X.env) fp) tg (tgR X.K t))
    (ht : ∀ (s : Shared) (H : Hp) (C : Addr) (cl : List (Str × Addr)) (fp : List Addr), PTs (X.blk s H scope (compEnvC scope cl C X.env) fp) ifs (rdW w Wno c wh))
    (he : ∀ (s : Shared) (H : Hp) (C : Addr) (cl : List (Str × Addr)) (fp : List Addr), PE (X.blk s H scope (compEnvC scope cl C X.env) fp) e (rdE w Wno c elt)) (own? : Bool) :
    PS X (.Assign [.Name x py] (.ListComp e [⟨tg, ie, ifs, 0⟩] scope p) spos) (rdS w W c (if own? then .own i (.lc elt t it wh) else .set i (.lc elt t it wh))) := by
  obtain ⟨k1, k2, k3⟩ := G.nm hn
  refine (ps_setLc (G.calm hh) G.nd k1 hl hsw hi ok hg ht he hs).imp fun D σ H q => ?_
  obtain ⟨μ0, H0, B, μ, θ, h, ρ, S, o⟩ := q
  refine lc_imp G.K hown ?_
  cases own? with
  | false =>
    simp only [exS, Bool.false_eq_true, if_false] at o
    refine F_E lc_lst ?_
    refine lft_rd S o fun μ1 h1 H1 a b s1 S1 r o => ?_
    exact set_out S1 Step.refl S1.hp r o
  | true =>
    simp only [exS, if_true] at o
    refine lft_rdF S o (fun d h1 hne => ?_) fun μ1 h1 H1 p ds xs s1 hp hn W1 hx r o => own_out S s1 hp hn W1 hx r o
    cases d <;> first | exact ⟨_, rfl⟩ | exact absurd rfl hne
theorem ss_own (G : GX P w X j M) {i : Nat} {m : Ex} {x : Str} {v : Expr} {p pos : Pos} (hn : isN M i x = true) (hc : isComp v = false) (hv : PE X v (rdF w W c m)) : PS X (.Assign [.Name x p] v pos) (rdS w W c (.own i m)) := by
  obtain ⟨k1, k2, k3⟩ := G.nm hn
  refine (ps_set G.nd k1 k2 hv (sw_no hc) k3).imp fun D σ H q => ?_
  obtain ⟨μ0, H0, B, μ, θ, h, ρ, S, o⟩ := q
  simp only [exS] at o
  refine lft_rdF S o (fun d h1 hne => ?_) fun μ1 h1 H1 p ds xs s1 hp hn W1 hx r o => own_out S s1 hp hn W1 hx r o
  cases d <;> first | exact ⟨_, rfl⟩ | exact absurd rfl hne
theorem ss_app (G : GX P w X j M) {i : Nat} {m : Ex} {x : Str} {v : Expr} {p ap cp pos : Pos} (hn : M.vis i x = true) (hs : isStar v = false) (hl : (ap.endLine == cp.line) = true) (hv : PE X v (rdE w W c m)) :
    PS X (.Expr (.Call (.Attribute (.Name x p) "append" ap) [v] [] cp) pos) (rdS w W c (.app i m)) := by
  obtain ⟨h1, h2, h3, h4⟩ := G.vis hn
  refine (ps_expr (pe_bm PySem.F.plainAttrs_list PySem.F.slot_list_append PySem.F.type_list_append mt_append (pe_var h1 h2 h3 h4) (pa_cons hv pa_nil (star_cons hs)) rfl (by rw [star_cons hs]; rfl) hl (star_cons hs) rfl)).imp fun D σ H q => ?_
  obtain ⟨μ0, H0, B, μ, θ, h, ρ, S, o⟩ := q
  simp only [exS] at o
  split at o
  case h_2 => exact o.elim
  rename_i xs eo
  obtain ⟨v1, ys, v2, v3⟩ := slot_own S eo
  refine ⟨_, v1, .inl ⟨rfl, _, SqL.of v2⟩, ?_⟩
  refine lft_rd S o fun μ1 h1 H1 a b s1 S1 r o => ?_
  split at o
  · rename_i hlen
    obtain ⟨_, zs, w2, w3⟩ := slot_own S1 eo
    refine ⟨_, zs, b, rfl, rfl, w2, by rw [w3.len]; exact len_lim hlen, ?_⟩
    obtain ⟨S2, k2⟩ := S1.mut eo w2 (RepL.app w3 (show RepL w μ1 (Tot B θ ρ) H1 [a] [b] from ⟨r, trivial⟩))
    exact o _ _ _ _ S2 k2
  · exact o.elim
theorem sub_plain {o kx : Expr} {sp : Pos} {env : Env} (h : isSlc kx = false) (v : Value) : assign (.Subscript o kx sp) env v = (do let ov ← holding [v] (eval o env); let iv ← holding [v, ov] (eval kx env); standAt sp; holding [v, ov, iv] (setItem ov iv v); release [v, ov, iv] []) := by
  cases kx <;> first | rfl | (simp [isSlc] at h)
/-- x[k] = e -/
theorem ss_stx (G : GX P w X j M) {i : Nat} {m k : Ex} {x : Str} {v kx : Expr} {p sp pos : Pos} (hn : M.vis i x = true) (hc : isComp v = false) (hs : isSlc kx = false) (hv : PE X v (rdE w W c m)) (hk : PE X kx (rdE w W c k)) :
    PS X (.Assign [.Subscript (.Name x p) kx sp] v pos) (rdS w W c (.stx i k m)) := by
  obtain ⟨h1, h2, h3, h4⟩ := G.vis hn
  refine (ps_asg hv (pg_sub (pe_var h1 h2 h3 h4) hk set_list (sub_plain hs)) (sole.trans (sw_no hc)) rfl rfl).imp fun D σ H q => ?_
  obtain ⟨μ0, H0, B, μ, θ, h, ρ, S, o⟩ := q
  simp only [exS] at o
  refine lft_rd S o fun μ1 h1 H1 a b s1 S1 r o => ?_
  split at o
  case h_2 => exact o.elim
  rename_i xs eo
  obtain ⟨v1, ys, v2, v3⟩ := slot_own S1 eo
  refine ⟨_, v1, ?_⟩
  refine lft_rd S1 o fun μ2 h2 H2 y kv s2 S2 r2 o => ?_
  cases e : setL xs y a with
  | none => rw [e] at o; exact o.elim
  | some es =>
    rw [e] at o
    obtain ⟨n, m2, rfl, e1, rfl⟩ := setL_ix e
    obtain ⟨_, zs, w2, w3⟩ := slot_own S2 eo
    obtain ⟨S3, k3⟩ := S2.mut eo w2 (RepL.set m2 w3 (r.step s2 fun _ q => .inl q))
    exact ⟨_, zs, n, m2, rfl, r2, w2, by rw [w3.len]; exact e1, o _ _ _ _ S3 k3⟩
/-- a[k] = e, a box -/
theorem ss_bix (G : GX P w X j M) {a k m : Ex} {ax kx v : Expr} {sp pos : Pos} (hc : isComp v = false) (ha : PE X ax (rdE w W c a)) (hk : PE X kx (rdE w W c k)) (hv : PE X v (rdE w W c m)) (hs : isSlc kx = false) :
    PS X (.Assign [.Subscript ax kx sp] v pos) (rdS w W c (.bix a k m)) := by
  refine (ps_asg hv (pg_sub ha hk set_list (sub_plain hs)) (sole.trans (sw_no hc)) rfl rfl).imp fun D σ H q => ?_
  obtain ⟨μ0, H0, B, μ, θ, h, ρ, S, o⟩ := q
  simp only [exS] at o
  refine lft_rd S o fun μ1 h1 H1 d dv s1 S1 r o => ?_
  refine lft_rd S1 o fun μ2 h2 H2 b bv s2 S2 r2 o => ?_
  refine lft_rd S2 o fun μ3 h3 H3 y kv s3 S3 r3 o => ?_
  cases b with
  | ref l =>
    simp only at o
    have hx : ∃ xs es, h3[l]? = some (.lst xs) ∧ setL xs y d = some es ∧ d.pure = true ∧ OutS w W D μ0 H0 B μ3 (Tot B θ ρ) H3 (.ok (.nx ρ) (h3.set l (.lst es))) := by
      cases q1 : h3[l]? with
      | none => rw [q1] at o; exact o.elim
      | some ob =>
        rw [q1] at o
        cases ob with
        | lst xs =>
          simp only at o
          cases q2 : setL xs y d with
          | none => rw [q2] at o; exact o.elim
          | some es =>
            rw [q2] at o
            simp only at o
            by_cases hp : d.pure = true
            · rw [if_pos hp] at o
              exact ⟨xs, es, rfl, q2, hp, o⟩
            · rw [if_neg hp] at o; exact o.elim
        | _ => exact o.elim
    clear o
    obtain ⟨xs, es, hl, e, hp, o⟩ := hx
    obtain ⟨n, m2, rfl, e1, rfl⟩ := setL_ix e
    obtain ⟨ad, rfl, hm⟩ := r2
    have hm3 := s3.at hm
    obtain ⟨ys, hy, ry⟩ := S3.hp.at_ l ad _ hm3 hl
    have rd := (r.step s2 fun _ q => .inl q).step s3 fun _ q => .inl q
    have pu : pureAll (xs.set m2 d) = true := by
      have h1 : (Ob.lst xs).pure = true := S3.hp.pu _ (List.mem_of_getElem? hl)
      exact pure_set h1 hp m2
    obtain ⟨S4, k4⟩ := S3.box hm3 hl hy (RepL.set m2 ry rd) pu
    exact ⟨_, ys, n, m2, rfl, r3, hy, by rw [ry.len]; exact e1, o _ _ _ _ S4 k4⟩
  | _ => exact o.elim
end
end PV
/-! S15: more statements: blocks, branches, loops. -/
namespace PV
open PySem L2

section
variable {P : Prg} {w : Wd} {X : Cx} {j : Nat} {M : ME} {W : WX} {c : Sig}
/-- x[k1], x[k2] = e1, e2 -/
theorem ss_swp (G : GX P w X j M) (hh : M.hot = false) (hkd : X.env.scope.kind = .function) {i : Nat} {e1 e2 k1 k2 : Ex} {x : Str} {v1 v2 y1 y2 : Expr} {p1 p2 sp1 sp2 tp vp pos : Pos} {n1 n2 : Nat} (hn : M.vis i x = true) (hs1 : isSlc y1 = false) (hs2 : isSlc y2 = false)
    (hi : isEs P (.cons e1 (.cons e2 .nil)) M [v1, v2] = true) (hv : PA X [v1, v2] (rdEs w W c (.cons e1 (.cons e2 .nil)))) (hk1 : PE X y1 (rdE w W c k1)) (hk2 : PE X y2 (rdE w W c k2)) :
    PS X (.Assign [.Tuple [.Subscript (.Name x p1) y1 sp1, .Subscript (.Name x p2) y2 sp2] n1 tp] (.Tuple [v1, v2] n2 vp) pos) (rdS w W c (.swp i k1 k2 e1 e2)) := by
  obtain ⟨h1, h2, h3, h4⟩ := G.vis hn
  have pv : ∀ {p : Pos}, PE X (.Name x p) (tVar i) := pe_var h1 h2 h3 h4
  have sw : swappedStores [.Tuple [.Subscript (.Name x p1) y1 sp1, .Subscript (.Name x p2) y2 sp2] n1 tp] (.Tuple [v1, v2] n2 vp) X.env = pure none := by
    unfold swappedStores
    simp only
    split
    · rfl
    · split
      · rfl
      · rfl
  refine (ps_asg (pe_tup hv) (pg_tup (G.calm hh) (pgs_cons (pg_sub pv hk1 set_list (sub_plain hs1)) (pgs_cons (pg_sub pv hk2 set_list (sub_plain hs2)) pgs_nil rfl) rfl) rfl rfl) rfl sw rfl).imp fun D σ H q => ?_
  obtain ⟨μ0, H0, B, μ, θ, h, ρ, S, o⟩ := q
  simp only [exS] at o
  refine lft_rd S o fun μ1 h1 H1 ds vs s1 S1 r o => ?_
  match ds, vs, r, o with
  | [d1, d2], [u1, u2], r, o =>
    refine ⟨by rw [sizeLine_eq]; exact (by decide : 2 ≤ 16777216), fun p hp => ?_⟩
    have al : Step μ1 H1 μ1 (L2.upd H1 p (.tup [u1, u2])) := Step.alloc hp
    have S1 := S1.to al (S1.hp.alloc hp)
    have ra : Rep w μ1 (Tot B θ ρ) (L2.upd H1 p (.tup [u1, u2])) d1 u1 := r.1.step al fun _ q => .inl q
    have rb : Rep w μ1 (Tot B θ ρ) (L2.upd H1 p (.tup [u1, u2])) d2 u2 := r.2.1.step al fun _ q => .inl q
    refine ⟨p, [u1, u2], rfl, SqT.of upd_same, rfl, u1, [u2], rfl, ?_⟩
    simp only at o
    cases eo : ρ[i]? with
    | none => rw [eo] at o; exact o.elim
    | some sl =>
      cases sl with
      | own ob =>
        cases ob with
        | lst xs =>
          rw [eo] at o
          simp only at o
          obtain ⟨w1, _⟩ := slot_own S1 eo
          refine ⟨_, w1, ?_⟩
          refine lft_rd S1 (OutS.trans (al.k fun _ q => .inl q) o) fun μ2 h2 H2 y kv s2 S2 r2 o => ?_
          cases e : setL xs y d1 with
          | none => rw [e] at o; exact o.elim
          | some es =>
            rw [e] at o
            simp only at o
            obtain ⟨n, m2, rfl, e1, rfl⟩ := setL_ix e
            obtain ⟨_, zs, w2, w3⟩ := slot_own S2 eo
            obtain ⟨S3, k3⟩ := S2.mut eo w2 (RepL.set m2 w3 (ra.step s2 fun _ q => .inl q))
            have eo3 : (ρ.set i (.own (.lst (xs.set m2 d1))))[i]? = some (.own (.lst (xs.set m2 d1))) := List.getElem?_set_self (List.getElem?_eq_some_iff.mp eo).1
            have rb3 := (rb.step s2 fun _ q => .inl q).kstep k3
            refine ⟨_, zs, n, m2, rfl, r2, w2, by rw [w3.len]; exact e1, u2, [], rfl, ?_⟩
            obtain ⟨w4, _⟩ := slot_own S3 eo3
            refine ⟨_, w4, ?_⟩
            refine lft_rd S3 (OutS.trans k3 o) fun μ4 h4 H4 y2 kv2 s4 S4 r4 o => ?_
            cases f : setL (xs.set m2 d1) y2 d2 with
            | none => rw [f] at o; exact o.elim
            | some fs =>
              rw [f] at o
              obtain ⟨n2, m4, rfl, f1, rfl⟩ := setL_ix f
              obtain ⟨_, zs4, w5, w6⟩ := slot_own S4 eo3
              obtain ⟨S5, k5⟩ := S4.mut eo3 w5 (RepL.set m4 w6 (rb3.step s4 fun _ q => .inl q))
              exact ⟨_, zs4, n2, m4, rfl, r4, w5, by rw [w6.len]; exact f1, rfl, o _ _ _ _ S5 k5⟩
        | _ => rw [eo] at o; exact o.elim
      | _ => rw [eo] at o; exact o.elim
  | [], _, _, o => exact o.elim
  | [_], _, _, o => exact o.elim
  | _ :: _ :: _ :: _, _, _, o => exact o.elim
theorem ss_ast (G : GX P w X j M) {t : Tg} {m : Ex} {tg v : Expr} {pos : Pos} (hc : isComp v = false) (hg : isG M t tg = true) (hsw : swappedStores [tg] v X.env = pure none) (hv : PE X v (rdE w W c m)) : PS X (.Assign [tg] v pos) (rdS w W c (.ast t m)) := by
  have h1 : (assignEach [tg] X.env).map (·.2) = [assign tg X.env] := by
    cases tg <;> first | rfl | (cases t <;> simp [isG] at hg)
  refine (ps_asg hv (pg_of G.calm G.nd G.N G.st hg) (sole.trans (sw_no hc)) hsw h1).imp fun D σ H q => ?_
  obtain ⟨μ0, H0, B, μ, θ, h, ρ, S, o⟩ := q
  simp only [exS] at o
  refine lft_rd S o fun μ1 h1 H1 a b s1 S1 r o => ?_
  cases e : asg t a ρ with
  | none => rw [e] at o; exact o.elim
  | some ρ1 =>
    rw [e] at o
    refine tg_run G.K e S1.env r fun σ2 E2 _ hs => o _ _ _ _ ⟨S1.hp.mono hs, E2, S1.step, fun k u ek => ?_⟩ (Step.refl.k fun a q => .inl (hs a q))
    by_cases hk : k ∈ slo t
    · exact absurd ek (asg_own e hk u)
    · rw [asg_out e hk] at ek
      exact S1.fresh k u ek
theorem ss_aug (G : GX P w X j M) {i : Nat} {op : BOp} {m : Ex} {x : Str} {v : Expr} {p pos : Pos} (hop : op = .add ∨ op = .sub) (hn : isN M i x = true) (hv : PE X v (rdE w W c m)) : PS X (.AugAssign (.Name x p) (opB op) v pos) (rdS w W c (.aug i op m)) := by
  obtain ⟨k1, k2, k3⟩ := G.nm hn
  have core : ∀ (f : Int → Int → Int), PIp X (opB op) (ipI f) → (∀ a b z, augD op a b = some z → ∃ i j, a = .int i ∧ b = .int j ∧ z = .int (f i j)) → PS X (.AugAssign (.Name x p) (opB op) v pos) (rdS w W c (.aug i op m)) := fun f hf hz => by
    refine (ps_aug G.nd k1 k2 hv hf k3).imp fun D σ H q => ?_
    obtain ⟨μ0, H0, B, μ, θ, h, ρ, S, o⟩ := q
    simp only [exS] at o
    cases es : slotD i ρ with
    | none => rw [es] at o; exact o.elim
    | some a =>
      rw [es] at o
      simp only at o
      obtain ⟨v0, hv0, rv⟩ := S.env.vals i a (slot_exc es)
      refine ⟨v0, hv0, ?_⟩
      refine lft_rd S o fun μ1 h1 H1 b bv s1 S1 r o => ?_
      cases ez : augD op a b with
      | none => rw [ez] at o; exact o.elim
      | some z =>
        rw [ez] at o
        obtain ⟨i1, j1, rfl, rfl, rfl⟩ := hz a b z ez
        exact ⟨i1, j1, rv, r, set_out (d := .int (f i1 j1)) (v := .int (f i1 j1)) S1 Step.refl S1.hp rfl o⟩
  rcases hop with rfl | rfl
  · refine core (fun a b => a + b) ip_add fun a b z e => ?_
    cases a <;> cases b <;> simp [augD] at e
    exact ⟨_, _, rfl, rfl, e.symm⟩
  · refine core (fun a b => a - b) ip_sub fun a b z e => ?_
    cases a <;> cases b <;> simp [augD] at e
    exact ⟨_, _, rfl, rfl, e.symm⟩
theorem ss_exp {m : Ex} {v : Expr} {pos : Pos} (hc : isComp v = false) (hv : PE X v (rdE w W c m)) : PS X (.Expr v pos) (rdS w W c (.exp m)) := by
  refine (ps_expr hv (sw_no hc)).imp fun D σ H q => ?_
  obtain ⟨μ0, H0, B, μ, θ, h, ρ, S, o⟩ := q
  simp only [exS] at o
  refine lft_rd S o fun μ1 h1 H1 a b s1 S1 r o => ?_
  exact o _ _ _ _ S1 KStep.refl
theorem ret_out {D : Ends} {μ0 μ : List Addr} {H0 H : Hp} {B : Addr → Prop} {θ : Nat → Addr} {σ : L2.St} {ρ : Ev} {h : Hs} {d : PV.D} {v : V} (S : SR w μ0 H0 B μ θ σ H ρ h) (r : Rep w μ (Tot B θ ρ) H d v) {T : Addr → Prop} {μ1 : List Addr} {H1 : Hp}
    (o : OutS w W D μ0 H0 B μ1 T H1 (.ok (.ret d) h)) : D.rt v H := by
  exact o μ H v S.step (S.hp.mono fun a q => .inl q) (r.step Step.refl fun a q => .inl (.inl q))
theorem ss_ret {m : Ex} {v : Expr} {pos : Pos} (hv : PE X v (rdE w W c m)) : PS X (.Return (some v) pos) (rdS w W c (.ret m)) := by
  refine (ps_ret hv).imp fun D σ H q => ?_
  obtain ⟨μ0, H0, B, μ, θ, h, ρ, S, o⟩ := q
  simp only [exS] at o
  refine lft_rd S o fun μ1 h1 H1 a b s1 S1 r o => ?_
  exact ret_out S1 r o
theorem ss_retn {pos : Pos} : PS X (.Return none pos) (rdS w W c .retn) := by
  refine ps_retN.imp fun D σ H q => ?_
  obtain ⟨μ0, H0, B, μ, θ, h, ρ, S, o⟩ := q
  simp only [exS] at o
  exact ret_out S (d := .non) (v := .non) rfl o
theorem ss_brk {pos : Pos} : PS X (.Break pos) (rdS w W c .brk) := by
  refine ps_break.imp fun D σ H q => ?_
  obtain ⟨μ0, H0, B, μ, θ, h, ρ, S, o⟩ := q
  simp only [exS] at o
  exact o _ _ _ _ S KStep.refl
theorem ss_cnt {pos : Pos} : PS X (.Continue pos) (rdS w W c .cnt) := by
  refine ps_continue.imp fun D σ H q => ?_
  obtain ⟨μ0, H0, B, μ, θ, h, ρ, S, o⟩ := q
  simp only [exS] at o
  exact o _ _ _ _ S KStep.refl
theorem ss_pas {pos : Pos} : PS X (.Pass pos) (rdS w W c .pas) := by
  refine ps_pass.imp fun D σ H q => ?_
  obtain ⟨μ0, H0, B, μ, θ, h, ρ, S, o⟩ := q
  simp only [exS] at o
  exact o _ _ _ _ S KStep.refl
/-! blocks -/
theorem ss_nil : PSs X [] (rdSs w W c .nil) := by
  refine pss_nil.imp fun D σ H q => ?_
  obtain ⟨μ0, H0, B, μ, θ, h, ρ, S, o⟩ := q
  simp only [exSs] at o
  exact o _ _ _ _ S KStep.refl
theorem ss_cons {m : PV.St} {r : Sts} {s : Stmt} {rest : List Stmt} (hs : PS X s (rdS w W c m)) (hr : PSs X rest (rdSs w W c r)) : PSs X (s :: rest) (rdSs w W c (.cons m r)) := by
  refine (pss_cons hs hr).imp fun D σ H q => ?_
  obtain ⟨μ0, H0, B, μ, θ, h, ρ, S, o⟩ := q
  refine ⟨μ0, H0, B, μ, θ, h, ρ, S, ?_⟩
  simp only [exSs] at o
  cases e : exS c m ρ h with
  | ok fl h1 =>
    rw [e] at o
    cases fl with
    | nx ρ1 => exact fun μ1 H1 θ1 σ1 S1 k1 => ⟨μ0, H0, B, μ1, θ1, h1, ρ1, S1, OutS.trans k1 o⟩
    | brk ρ1 => exact o
    | cnt ρ1 => exact o
    | ret d => exact o
    | xc k fs ρ1 => exact o
  | exc _ _ _ => rw [e] at o; exact o
  | stuck => rw [e] at o; exact o
theorem ss_frz {i : Nat} {r : Sts} {ss : List Stmt} (hr : PSs X ss (rdSs w W c r)) : PSs X ss (rdSs w W c (.cons (.frz i) r)) := by
  refine hr.imp fun D σ H q => ?_
  obtain ⟨μ0, H0, B, μ, θ, h, ρ, S, o⟩ := q
  simp only [exSs, exS] at o
  cases eo : ρ[i]? with
  | none =>
    have : ownD i ρ = none := by simp [ownD, eo]
    rw [this] at o; exact o.elim
  | some sl =>
    cases sl with
    | own ob =>
      cases ob with
      | lst xs =>
        have : ownD i ρ = some (.lst xs) := by simp [ownD, eo]
        rw [this] at o
        have hl : i < ρ.length := (List.getElem?_eq_some_iff.mp eo).1
        simp only [putS, if_pos hl, nxO, Rs.bind_ok] at o
        obtain ⟨S2, k2⟩ := S.frz eo
        exact ⟨μ0, H0, B, μ, θ, h, _, S2, OutS.trans k2 o⟩
      | dct _ => exact (S.env.owns i _ eo).2.2.elim
      | ins _ _ => exact (S.env.owns i _ eo).2.2.elim
      | gone => exact (S.env.owns i _ eo).2.2.elim
    | non =>
      have : ownD i ρ = none := by simp [ownD, eo]
      rw [this] at o; exact o.elim
    | val d =>
      have : ownD i ρ = none := by simp [ownD, eo]
      rw [this] at o; exact o.elim
theorem ss_ife {t : Ex} {a b : Sts} {x : Expr} {y z : List Stmt} {pos : Pos} (ht : PT X x (rdT w W c t)) (ha : PSs X y (rdSs w W c a)) (hb : PSs X z (rdSs w W c b)) : PS X (.If x y z pos) (rdS w W c (.ife t a b)) := by
  refine (ps_if ht ha hb).imp fun D σ H q => ?_
  obtain ⟨μ0, H0, B, μ, θ, h, ρ, S, o⟩ := q
  simp only [exS] at o
  refine lft_rd S o fun μ1 h1 H1 k kb s1 S1 r o => ?_
  cases r
  cases k with
  | true => exact ⟨μ0, H0, B, μ1, θ, h1, ρ, S1, o⟩
  | false => exact ⟨μ0, H0, B, μ1, θ, h1, ρ, S1, o⟩
/-- what a turn leaves to the rest of its loop -/
theorem turn_out {D D' : Ends} {μ0 μ : List Addr} {H0 H : Hp} {B T : Addr → Prop} {r : Rs Fl} {g : Ev → Hs → Rs Fl}
    (o : OutS w W D μ0 H0 B μ T H (r.bind fun fl h1 => match fl with | .nx ρ1 => g ρ1 h1 | .cnt ρ1 => g ρ1 h1 | .brk ρ1 => .ok (.nx ρ1) h1 | .ret d => .ok (.ret d) h1 | .xc c fs ρ1 => .ok (.xc c fs ρ1) h1))
    (h1 : ∀ μ1 H1 θ1 σ1 ρ1 h1, SR w μ0 H0 B μ1 θ1 σ1 H1 ρ1 h1 → KStep μ T H μ1 (Tot B θ1 ρ1) H1 → OutS w W D μ0 H0 B μ1 (Tot B θ1 ρ1) H1 (g ρ1 h1) → D'.nx σ1 H1 ∧ D'.ct σ1 H1) (h2 : D'.bk = D.nx) (h3 : D'.rt = D.rt) : OutS w W D' μ0 H0 B μ T H r := by
  cases r with
  | ok fl hh =>
    cases fl with
    | nx ρ1 => exact fun μ1 H1 θ1 σ1 S1 k1 => (h1 μ1 H1 θ1 σ1 ρ1 hh S1 k1 (OutS.trans k1 o)).1
    | cnt ρ1 => exact fun μ1 H1 θ1 σ1 S1 k1 => (h1 μ1 H1 θ1 σ1 ρ1 hh S1 k1 (OutS.trans k1 o)).2
    | brk ρ1 =>
      show OutN _ _ _ _ _ _ _ D'.bk _ _
      rw [h2]; exact o
    | ret d => exact fun μ1 H1 v s1 W1 r1 => by rw [h3]; exact o μ1 H1 v s1 W1 r1
    | xc k fs ρ1 => exact o
  | exc _ _ _ => exact o
  | stuck => exact o
theorem ss_whl (hp : PassesOwn (model X.prog X.w) X.A X.env X.xe) {t : Ex} {b : Sts} {x : Expr} {body : List Stmt} {pos : Pos} (ht : PT X x (rdT w W c t)) (hb : PSs X body (rdSs w W c b)) : PS X (.While x body [] pos) (rdS w W c (.whl t b)) := by
  refine (ps_while hp ht hb).imp fun D σ H q => ?_
  obtain ⟨μ0, H0, B, μ, θ, h, ρ, S, o⟩ := q
  simp only [exS] at o
  refine ⟨fun n σ H => ∃ μ θ h ρ, SR w μ0 H0 B μ θ σ H ρ h ∧ OutS w W D μ0 H0 B μ (Tot B θ ρ) H (whlGo (evT c t) (exSs c b) n ρ h), ⟨c.fuel, μ, θ, h, ρ, S, o⟩, ?_⟩
  rintro n σ H ⟨μ, θ, h, ρ, S, o⟩
  cases n with
  | zero => exact o.elim
  | succ n =>
    simp only [whlGo] at o
    refine lft_rd S o fun μ1 h1 H1 k kb s1 S1 r o => ?_
    cases r
    cases k with
    | false =>
      simp only [Bool.false_eq_true, if_false] at o ⊢
      exact o _ _ _ _ S1 KStep.refl
    | true =>
      simp only [if_true] at o ⊢
      refine ⟨fun σ' H' => ∃ μ θ h ρ, SR w μ0 H0 B μ θ σ' H' ρ h ∧ OutS w W D μ0 H0 B μ (Tot B θ ρ) H' (whlGo (evT c t) (exSs c b) n ρ h), fun σ' H' q => ⟨n, Nat.lt_succ_self n, q⟩, ?_⟩
      exact ⟨μ0, H0, B, μ1, θ, h1, ρ, S1, turn_out o (fun μ2 H2 θ2 σ2 ρ2 h2 S2 k2 o2 => ⟨⟨μ2, θ2, h2, ρ2, S2, o2⟩, ⟨μ2, θ2, h2, ρ2, S2, o2⟩⟩) rfl rfl⟩
end
end PV
/-! S16: for; raise. -/
namespace PV
open PySem L2

section
variable {P : Prg} {w : Wd} {X : Cx} {j : Nat} {M : ME} {W : WX} {c : Sig}
theorem ss_for (G : GX P w X j M) (hh : M.hot = false) (hp : PassesOwn (model X.prog X.w) X.A X.env X.xe) {t : Tg} {it : It} {b : Sts} {tg ie : Expr} {body : List Stmt} {pos : Pos} (hi : PI X tg ie (rdI w W c it)) (hg : isG M t tg = true)
    (hs : ∀ x, foldedSetIterable ie X.env x = pure x) (hb : PSs X body (rdSs w W c b)) : PS X (.For tg ie body [] pos) (rdS w W c (.for t it b)) := by
  refine (ps_for hp (G.calm hh) hi (pg_of G.calm G.nd G.N G.st hg) hb hs).imp fun D σ H q => ?_
  obtain ⟨μ0, H0, B, μ, θ, h, ρ, S, o⟩ := q
  simp only [exS] at o
  unfold tFor
  unfold rdI
  refine lft_rd S o fun μ1 h1 H1 s J s1 S1 hJ o => ?_
  have hown : s.isOwn = false := by
    cases e : s.isOwn with
    | false => rfl
    | true => rw [e] at o; exact o.elim
  rw [hown] at o
  simp only [Bool.false_eq_true, if_false] at o
  generalize hf : (fun (x : PV.D) (ρ1 : Ev) (h2 : Hs) => match asg t x ρ1 with | some ρ2 => exSs c b ρ2 h2 | none => Rs.stuck) = f at o
  refine ⟨fun i m σ' H' => m = s.xs.length - i ∧ i ≤ s.xs.length ∧ ∃ μ' θ' h' ρ', SR w μ0 H0 B μ' θ' σ' H' ρ' h' ∧ KStep μ1 (Tot B θ ρ) H1 μ' (Tot B θ' ρ') H' ∧ OutS w W D μ0 H0 B μ' (Tot B θ' ρ') H' (forGo f s.still (s.xs.drop i) ρ' h'),
    ⟨_, rfl, Nat.zero_le _, μ1, θ, h1, ρ, S1, KStep.refl, by rw [List.drop_zero]; exact o⟩, ?_⟩
  rintro i m σ' H' ⟨rfl, hi2, μ', θ', h', ρ', S', k', o'⟩
  have still : s.still ρ' h' = true := by
    cases hst : s.still ρ' h' with
    | true => rfl
    | false =>
      cases hx : s.xs.drop i with
      | nil => rw [hx] at o'; simp only [forGo, hst] at o'; exact o'.elim
      | cons x xs => rw [hx] at o'; simp only [forGo, hst] at o'; exact o'.elim
  have sv : Serves w μ' (Tot B θ' ρ') H' h' s.xs J := by
    cases s with
    | fix xs => exact hJ μ' _ H' h' k' S'.hp
    | own k xs => cases hown
    | box l xs =>
      refine hJ μ' _ H' h' k' S'.hp ?_
      simp only [Src.still] at still
      split at still
      · rename_i ob ho
        exact ⟨ob, ho, still⟩
      · cases still
  by_cases hlt : i < s.xs.length
  · refine .inr ?_
    have hx : s.xs[i]? = some s.xs[i] := List.getElem?_eq_getElem hlt
    generalize s.xs[i] = x at hx
    have hdrop : s.xs.drop i = x :: s.xs.drop (i + 1) := by
      rw [List.drop_eq_getElem_cons hlt, (List.getElem?_eq_some_iff.mp hx).2]
    obtain ⟨go, yl⟩ := sv.2 i x hx
    rw [hdrop] at o'
    simp only [forGo, still, if_true] at o'
    refine ⟨go, fun σ'' H'' => ∃ m', m' < s.xs.length - i ∧ (m' = s.xs.length - (i + 1) ∧ i + 1 ≤ s.xs.length ∧ ∃ μ' θ' h' ρ', SR w μ0 H0 B μ' θ' σ'' H'' ρ' h' ∧ KStep μ1 (Tot B θ ρ) H1 μ' (Tot B θ' ρ') H'' ∧
      OutS w W D μ0 H0 B μ' (Tot B θ' ρ') H'' (forGo f s.still (s.xs.drop (i + 1)) ρ' h')), fun _ _ q => q, fun xv H2 hy => ?_⟩
    obtain ⟨S2, W2, rx⟩ := yl xv H2 hy
    have SR2 := S'.to S2 W2
    have o2 := OutS.trans (S'.kst S2) o'
    rw [← hf] at o2
    simp only at o2
    cases ea : asg t x ρ' with
    | none => rw [ea] at o2; exact o2.elim
    | some ρ1 =>
      rw [ea] at o2
      simp only at o2
      rw [hf] at o2
      refine tg_run G.K ea SR2.env rx fun σ2 E3 _ hs2 => ?_
      have k3 : KStep μ' (Tot B θ' ρ') H2 μ' (Tot B θ' ρ1) H2 := Step.refl.k fun a q => .inl (hs2 a q)
      have SR3 : SR w μ0 H0 B μ' θ' σ2 H2 ρ1 h' := ⟨SR2.hp.mono hs2, E3, SR2.step, fun k u ek => by
        by_cases hk : k ∈ slo t
        · exact absurd ek (asg_own ea hk u)
        · rw [asg_out ea hk] at ek
          exact SR2.fresh k u ek⟩
      refine ⟨μ0, H0, B, μ', θ', h', ρ1, SR3, turn_out (OutS.trans k3 o2) (fun μ4 H4 θ4 σ4 ρ4 h4 S4 k4 o4 => ?_) rfl rfl⟩
      have kk := ((k'.trans (S'.kst S2)).trans k3).trans k4
      exact ⟨⟨_, by omega, rfl, hlt, μ4, θ4, h4, ρ4, S4, kk, o4⟩, ⟨_, by omega, rfl, hlt, μ4, θ4, h4, ρ4, S4, kk, o4⟩⟩
  · have ei : i = s.xs.length := by omega
    subst ei
    refine .inl ⟨sv.1, ?_⟩
    rw [List.drop_of_length_le (Nat.le_refl _)] at o'
    simp only [forGo, still, if_true] at o'
    exact o' _ _ _ _ S' KStep.refl
/-- an own exception is raised -/
theorem ss_rse (G : GX P w X j M) (hh : M.hot = false) (tk : Takes X W) {k : Nat} {es : Exs} {xs : List Expr} {p1 p pos : Pos} (hini : P.ini k = true) (hg : M.glo (P.cnm k) = true) (hne : xs.isEmpty = false) (hl : xs.length ≤ 1000) (hln : xs.length = (P.fns k).length)
    (hi : isEs P es M xs = true) (ha : PA X xs (rdEs w W c es)) : PS X (.Raise (some (.Call (.Name (P.cnm k) p1) xs [] p)) none pos) (rdS w W c (.rse k es)) := by
  obtain ⟨fI, fd, ps, t1, t2, t3, hb, hm, hfn⟩ := (G.fx hh).ini k hini
  obtain ⟨g1, g2, _⟩ := G.glo hg
  have hst := isEs_star hi
  cases xs with
  | nil => simp at hne
  | cons x xs =>
    rw [← G.K] at t1 t2 t3 hb hfn
    refine (ps_raise (G.calm hh) tk (pmk_oex (ds := []) (dvs := []) t1 t2 t3 hfn (G.room hh) hb .nil (fun pins σ H s e s' I ⟨_, _, _, _, _, _, _, _, _, _, _, _, z⟩ => z.elim) g1 hm ha g2 (star_cons (hst x List.mem_cons_self)) (any_star fun e he => hst e (List.mem_cons_of_mem _ he)))).imp fun D σ H q => ?_
    obtain ⟨μ0, H0, B, μ, θ, h, ρ, S, o⟩ := q
    simp only [exS] at o
    have hlen : ∀ ds h1, evEs c es ρ h = .ok ds h1 → ds.length = (x :: xs).length := fun ds h1 e => evEs_len hi e
    refine ⟨μ, B, θ, h, ρ, S.hp, S.env, ?_⟩
    cases ev : evEs c es ρ h with
    | exc cc fs h1 =>
      rw [ev] at o
      exact fun μ1 H1 d fl vs s1 W1 n hd hf rv => o μ1 H1 θ σ d fl vs (S.to s1 W1) (S.kst s1) n hd hf rv
    | stuck => rw [ev] at o; exact o.elim
    | ok ds h1 =>
      rw [ev] at o
      simp only [lft_ok] at o
      intro μ1 H1 s1 W1 vs rs
      have hv : vs.length = (x :: xs).length := (RepL.len rs).trans (hlen ds h1 ev)
      refine ⟨by rw [hv]; exact hl, fun a hna => ⟨a, vs, by rw [List.append_nil], by rw [G.tx.nms, List.length_map, hv, hln], upd_same, fun H2 dx fl hdx hne h2a h2d hfl hk => ⟨rfl, dx, fl, h2a, h2d, ?_, ?_⟩⟩⟩
      · rw [upd_ne hne] at hdx; exact hdx
      · rw [upd_ne hne] at hdx
        have eH : L2.upd (del H2 a) dx (.xd fl) = L2.upd H1 dx (.xd fl) := by
          funext b
          by_cases e1 : b = dx
          · subst e1; rw [upd_same, upd_same]
          · rw [upd_ne e1, upd_ne e1]
            by_cases e2 : b = a
            · subst e2; rw [del_same]; exact hna.symm
            · rw [del_ne e2, hk b e2 e1, upd_ne e2]
        rw [eH]
        have al : Step μ1 H1 μ1 (L2.upd H1 dx (.xd fl)) := Step.alloc hdx
        have S1 := (S.to s1 W1).to al (W1.alloc hdx)
        refine o μ1 _ θ σ dx fl vs S1 ((S.kst s1).trans (al.k fun _ q => .inl q)) (W1.newNotBox hdx) upd_same hfl (rs.step al fun _ q => .inl q)
end
end PV
/-! S17: try with any number of except clauses, with names or without. -/
namespace L2
open PySem PySem.Spec PyProof.Rows -- pv

abbrev Hnd := Value × Option Nat × (Addr → Value → Option Addr → TS)
/-- a suite's ends behind its name -/
def gone (n : Option Nat) (D : Ends) : Ends := match n with
  | none => D
  | some i => { nx := fun τ G => D.nx (τ.set i none) G, rt := D.rt, bk := fun τ G => D.bk (τ.set i none) G, ct := fun τ G => D.ct (τ.set i none) G }
def held (n : Option Nat) (a : Addr) (σ : St) : St := match n with
  | none => σ
  | some i => σ.set i (some (.ref a))
/-- what is wanted of an exception ahead of these clauses -/
def wHs (K : PySem.W.Frag) (Wo : WX) (D : Ends) : List Hnd → WX
  | [] => Wo
  | (c, n, ts) :: r => fun cls d σ H => ∃ b, PySem.W.exmOne K cls c = some b ∧ (b = true → ∀ a, H a = none → ts a cls d (gone n D) (held n a σ) H) ∧ (b = false → wHs K Wo D r cls d σ H)
inductive HndOk (X : Cx) : List ExceptHandler → List Hnd → Prop
  | nil : HndOk X [] []
  | bare {x : Str} {c : Value} {ts : Addr → Value → Option Addr → TS} {b0 : Stmt} {bs : List Stmt} {np hp : Pos} {hds : List ExceptHandler} {l : List Hnd} (hc : Names X x c)
      (su : ∀ (a : Addr) (oe : Obj) (cls : Value) (d : Option Addr) (pn : List (Addr × Obj)), Zc cls d oe → (∃ vs, oe.data = .fields vs) → PSs (X.suite a ((a, oe) :: pn)) (b0 :: bs) (ts a cls d)) (r : HndOk X hds l) :
      HndOk X (.ExceptHandler (some (.Name x np)) none (b0 :: bs) hp :: hds) ((c, none, ts) :: l)
  | named {x n : Str} {i : Nat} {c : Value} {ts : Addr → Value → Option Addr → TS} {b0 : Stmt} {bs : List Stmt} {np hp : Pos} {hds : List ExceptHandler} {l : List Hnd} (hc : Names X x c) (hi : X.N[i]? = some n) (hn : X.env.kindOf n = some .local)
      (su : ∀ (a : Addr) (oe : Obj) (cls : Value) (d : Option Addr) (pn : List (Addr × Obj)), Zc cls d oe → (∃ vs, oe.data = .fields vs) → PSs (X.suite a ((a, oe) :: pn)) (b0 :: bs) (ts a cls d)) (r : HndOk X hds l) :
      HndOk X (.ExceptHandler (some (.Name x np)) (some n) (b0 :: bs) hp :: hds) ((c, some i, ts) :: l)
section
variable {X : Cx} {body : List Stmt} {hd : ExceptHandler} {hds : List ExceptHandler} {l : List Hnd} {pos : Pos} {tb : WX → TS} {Wo : WX}
theorem ps_tryx (stk : X.stack = X.env :: X.outer) (frm : X.env.frame = some X.env.locals) (nd : X.N.Nodup) (tk : Takes X Wo)
    (hb : ∀ (W : WX) (pn : List (Addr × Obj)) (xe : Value → Shared → Prop), Takes (X.tr pn xe) W → PassesOwn (model X.prog X.w) X.A X.env xe → PSs (X.tr pn xe) body (tb W)) (hok : HndOk X (hd :: hds) l) :
    PS X (.Try body (hd :: hds) [] [] pos) (fun D σ H => tb (wHs X.K Wo D l) D σ H) := by
  constructor
  intro pins s σ H D I q; have ok := I.ok
  have fr : X.A.frames = some (X.env :: X.outer) := ok.frames.trans (congrArg some stk)
  refine wpAny_Try_except (wpAny_mono ((hb (wHs X.K Wo D l) (X.pn ++ pins) (fun e s1 => wpAny (model X.prog X.w) X.A (noteFrame e X.env) (fun _ s2 => wpAny (model X.prog X.w) X.A (setFlight e none) (fun _ s3 => wpAny (model X.prog X.w) X.A (handleBy e X.env (hd :: hds)) (SP X pins D) X.xe s3) X.xe s2) X.xe s1)
    (fun u t flies => ?_) PassesOwn.looking).run [] s σ H D (I.toTry _) q) (fun f s1 z => ?_) (fun _ _ z => z))
  rotate_left
  · cases f with
    | next => obtain ⟨τ, G, J, z⟩ := z; exact wpAny_execs_nil ⟨τ, G, J.ofTry ok, z⟩
    | brk => obtain ⟨τ, G, J, z⟩ := z; exact ⟨τ, G, J.ofTry ok, z⟩
    | cont => obtain ⟨τ, G, J, z⟩ := z; exact ⟨τ, G, J.ofTry ok, z⟩
    | ret u => obtain ⟨v, τ, G, J, r, z⟩ := z; exact ⟨v, τ, G, J.ofTry ok, r, z⟩
  obtain ⟨a, Bh, sI, ps, τ, G, cls, d, rfl, Jt, nb, up, sky, na, os, ag, want⟩ := flies
  have J : Inv X pins τ G sI := Jt.ofTry ok
  show wpAny (model X.prog X.w) X.A (noteFrame (.ref a) X.env) _ _ _; rw [stk] at sky
  refine Sky.land Zc.steady fr frm sky fun hp fl up2 => ?_
  have JL : Inv X pins τ G { t with heap := hp } := J.landed nb fl.1 (up.trans up2) os ag
  obtain ⟨oe, vs, eo, zo, fo⟩ := fl.there
  have out : a ∉ frs (X.env :: X.outer) := fun hm => by
    obtain ⟨_, o, e, no⟩ := fl.2.2.1.mem hm
    rw [eo] at e; cases e
    exact no _ fo
  have aL : a ≠ X.env.locals := fun z => out (List.mem_filterMap.mpr ⟨X.env, List.mem_cons_self, frm.trans (congrArg some z.symm)⟩)
  have aF : a ∉ X.fs := fun hm => by
    obtain ⟨e, he, z⟩ := List.mem_filterMap.mp hm
    exact out (List.mem_filterMap.mpr ⟨e, List.mem_cons_of_mem _ he, z⟩)
  have JS := JL.suite eo fo na aL aF
  have ask : ∀ {c : Value} {x : Str} {np : Pos} {Q : Value → Shared → Prop} {E : Value → Shared → Prop}, Names X x c → Q c { t with heap := hp } → wpAny (model X.prog X.w) (X.A.mark (some (.ref a))) (eval (.Name x np) X.env) Q E { t with heap := hp } := by
    intro c x np Q E hc z; obtain ⟨g, dbg, m | ⟨m, v, nn⟩⟩ := hc
    · exact ld_glob (X := X.suite a ((a, oe) :: (X.pn ++ pins))) JS g m z dbg
    · exact ld_blt (X := X.suite a ((a, oe) :: (X.pn ++ pins))) JS g m v z nn dbg
  have cl : PySem.W.Looks (model X.prog X.w) hp (typeOf (.ref a)) cls := fun A Q E s k z => wpAny_typeOf_ref (k _ _ eo) (zo.1.symm ▸ z)
  have walk : ∀ {hs : List ExceptHandler} {ks : List Hnd}, HndOk X hs ks → wHs X.K Wo D ks cls d τ G → wpAny (model X.prog X.w) X.A (handleBy (.ref a) X.env hs) (SP X pins D) X.xe { t with heap := hp } := by
    intro hs ks hk; induction hk with
    | nil =>
      intro want; refine wpAny_handleBy_nil ?_
      obtain ⟨_, _, _, ob, fs, T, _, _, ho, _, hof, hf1, _⟩ := id fl
      unfold PySem.passOn; refine wpAny_bind (wpAny_field ho hof hf1 ?_)
      rw [if_neg (show ¬ ((Value.ref T == Value.none) = true) by simp)]
      have last : wpAny (model X.prog X.w) X.A (setFlight (.ref a) X.env.frame) (fun _ s4 => wpAny (model X.prog X.w) X.A (throw (.ref a) : Sem Flow) (SP X pins D) X.xe s4) X.xe { t with heap := hp } := by
        rw [frm]; refine HandSPX.setFlight_upZ fl fun g hg up3 => wpAny_throw (tk _ _ ⟨a, Bh, sI, pins, τ, G, cls, d, rfl, J, nb, (up.trans up2).trans up3, .inr (.inr (by rw [stk]; exact hg)), na, os, ag, want⟩)
      first | exact wpAny_bind (wpAny_pure (wpAny_bind last)) | exact wpAny_bind last
    | @bare x c ts b0 bs np hps hds2 l2 hc su r ih =>
      intro want; obtain ⟨b, hb1, yes, no⟩ := want
      refine wpAny_handleBy_cons (codeAny_handlers_test (ask hc ((PySem.W.exm_one (M := model X.prog X.w) JL.kIn cl hb1).here ?_))) (by intro q; cases q)
      cases b with
      | false => exact ih (no rfl)
      | true =>
        refine codeAny_handlers_suite (HandSPX.lands_againZ fl fun g fl4 up4 => ?_)
        have J4 : Inv X pins τ G { t with heap := g } := J.landed nb fl4.1 ((up.trans up2).trans up4) os ag
        obtain ⟨oe4, vs4, e4, z4, f4⟩ := fl4.there
        have S4 := J4.suite e4 f4 na aL aF
        refine wpAny_mono ((su a oe4 cls d (X.pn ++ pins) z4 ⟨_, f4⟩).run [] _ _ G _ S4 (yes rfl a na)) (fun f s6 z => ?_) (fun _ _ z => z.elim)
        cases f with
        | next => obtain ⟨τ6, G6, J6, z⟩ := z; exact ⟨τ6, G6, J6.unsuite ok, z⟩
        | brk => obtain ⟨τ6, G6, J6, z⟩ := z; exact ⟨τ6, G6, J6.unsuite ok, z⟩
        | cont => obtain ⟨τ6, G6, J6, z⟩ := z; exact ⟨τ6, G6, J6.unsuite ok, z⟩
        | ret u => obtain ⟨v, τ6, G6, J6, rv, z⟩ := z; exact ⟨v, τ6, G6, J6.unsuite ok, rv, z⟩
    | @named x n i c ts b0 bs np hps hds2 l2 hc hi hn su r ih =>
      intro want; obtain ⟨b, hb1, yes, no⟩ := want
      refine wpAny_handleBy_cons (codeAny_handlers_test (ask hc ((PySem.W.exm_one (M := model X.prog X.w) JL.kIn cl hb1).here ?_))) (by intro q; cases q)
      cases b with
      | false => exact ih (no rfl)
      | true =>
        refine codeAny_handlers_suite_as (HandSPX.lands_againZ fl fun g fl4 up4 => ?_)
        have J4 : Inv X pins τ G { t with heap := g } := J.landed nb fl4.1 ((up.trans up2).trans up4) os ag
        obtain ⟨oe4, vs4, e4, z4, f4⟩ := fl4.there
        have S4 := J4.suite e4 f4 na aL aF
        refine store_ok (X := X.suite a ((a, oe4) :: (X.pn ++ pins))) (v := .ref a) S4 nd hi (.inl hn) rfl (fun s5 S5 => ?_) (.inr hn)
        refine wpAny_mono ((su a oe4 cls d (X.pn ++ pins) z4 ⟨_, f4⟩).run [] s5 _ G _ S5 (yes rfl a na)) (fun f s6 z => ?_) (fun _ _ z => z.elim)
        have wipes : ∀ {τ6 : St} {G6 : Hp} {Q : Shared → Prop}, Inv (X.suite a ((a, oe4) :: (X.pn ++ pins))) [] τ6 G6 s6 → (∀ s7, Inv X pins (τ6.set i none) G6 s7 → Q s7) → wpAny (model X.prog X.w) X.A (do bindName X.env n .none; unbindBehindTheSuite X.env n hps) (fun _ s7 => Q s7) X.xe s6 :=
          fun {τ6 G6 Q} S6 z => gone_ok (S6.unsuite ok) nd hi hn z
        cases f with
        | next => obtain ⟨τ6, G6, J6, z⟩ := z; exact wipes J6 fun s7 J7 => ⟨_, G6, J7, z⟩
        | brk => obtain ⟨τ6, G6, J6, z⟩ := z; exact wipes J6 fun s7 J7 => ⟨_, G6, J7, z⟩
        | cont => obtain ⟨τ6, G6, J6, z⟩ := z; exact wipes J6 fun s7 J7 => ⟨_, G6, J7, z⟩
        | ret u => obtain ⟨v, τ6, G6, J6, rv, z⟩ := z; exact wipes J6 fun s7 J7 => ⟨v, _, G6, J7, rv, z⟩
  exact walk hok want
end
end L2
/-! S18: try as the language has it; every statement that the matcher takes. -/
namespace PV
open PySem L2

section
variable {w : Wd} {μ : List Addr} {T : Addr → Prop} {H : Hp} {q : Addr → Nat → Addr → Prop}
mutual
theorem Rep.xo (hx : ∀ a c d, w.xo a c d → q a c d) : ∀ {d : D} {v : V}, Rep w μ T H d v → Rep { w with xo := q } μ T H d v
  | .non, _, h => h
  | .bl _, _, h => h
  | .int _, _, h => h
  | .str _, _, h => h
  | .tup ds, v, h => by
    obtain ⟨a, xs, e, ha, r⟩ := h
    exact ⟨a, xs, e, ha, RepL.xo hx r⟩
  | .lst ds, v, h => by
    obtain ⟨a, xs, e, n, ha, r⟩ := h
    exact ⟨a, xs, e, n, ha, RepL.xo hx r⟩
  | .dct _, _, h => h.elim
  | .obj c fs, v, h => by
    obtain ⟨a, dx, fl, vs, e, n, ha, hf, r⟩ := h
    exact ⟨a, dx, fl, vs, e, n, ha, hf, RepL.xo hx r⟩
  | .exc c fs, v, h => by
    obtain ⟨a, d, fl, vs, e, hy, n, ha, hf, r⟩ := h
    exact ⟨a, d, fl, vs, e, hx _ _ _ hy, n, ha, hf, RepL.xo hx r⟩
  | .ref l, v, h => h
  | .scr is, v, h => h
theorem RepL.xo (hx : ∀ a c d, w.xo a c d → q a c d) : ∀ {ds : List D} {vs : List V}, RepL w μ T H ds vs → RepL { w with xo := q } μ T H ds vs
  | [], [], h => h
  | d :: ds, v :: vs, h => ⟨Rep.xo hx h.1, RepL.xo hx h.2⟩
  | [], _ :: _, h => h.elim
  | _ :: _, [], h => h.elim
end
mutual
theorem Rep.unxo : ∀ {d : D} {v : V}, d.pure = true → Rep { w with xo := q } μ T H d v → Rep w μ T H d v
  | .non, _, _, h => h
  | .bl _, _, _, h => h
  | .int _, _, _, h => h
  | .str _, _, _, h => h
  | .tup ds, v, p, h => by
    obtain ⟨a, xs, e, ha, r⟩ := h
    exact ⟨a, xs, e, ha, RepL.unxo (by simpa [D.pure] using p) r⟩
  | .lst ds, v, p, h => by
    obtain ⟨a, xs, e, n, ha, r⟩ := h
    exact ⟨a, xs, e, n, ha, RepL.unxo (by simpa [D.pure] using p) r⟩
  | .dct _, _, _, h => h.elim
  | .obj c fs, v, p, h => by
    obtain ⟨a, dx, fl, vs, e, n, ha, hf, r⟩ := h
    exact ⟨a, dx, fl, vs, e, n, ha, hf, RepL.unxo (by simpa [D.pure] using p) r⟩
  | .exc c fs, v, p, h => by simp [D.pure] at p
  | .ref l, v, _, h => h
  | .scr is, v, _, h => h
theorem RepL.unxo : ∀ {ds : List D} {vs : List V}, pureAll ds = true → RepL { w with xo := q } μ T H ds vs → RepL w μ T H ds vs
  | [], [], _, h => h
  | d :: ds, v :: vs, p, h => by
    simp only [pureAll, Bool.and_eq_true] at p
    exact ⟨Rep.unxo p.1 h.1, RepL.unxo p.2 h.2⟩
  | [], _ :: _, _, h => h.elim
  | _ :: _, [], _, h => h.elim
end
theorem ObR.xo {a : Addr} {o : Ob} (hx : ∀ a c d, w.xo a c d → q a c d) (h : ObR w μ T H a o) : ObR { w with xo := q } μ T H a o := by
  cases o with
  | lst ds => obtain ⟨xs, e, r⟩ := h; exact ⟨xs, e, r.xo hx⟩
  | _ => exact h.elim
theorem HpR.xo {h : Hs} (hx : ∀ a c d, w.xo a c d → q a c d) (W : HpR w μ T H h) : HpR { w with xo := q } μ T H h :=
  ⟨W.len, W.nd, W.nb, W.bt, fun l a o h1 h2 => (W.at_ l a o h1 h2).xo hx, W.pu⟩
theorem HpR.unxo {h : Hs} (W : HpR { w with xo := q } μ T H h) : HpR w μ T H h :=
  ⟨W.len, W.nd, W.nb, W.bt, fun l a o h1 h2 => by
    have x := W.at_ l a o h1 h2
    have p := W.pu o (List.mem_of_getElem? h2)
    cases o with
    | lst ds => obtain ⟨xs, e, r⟩ := x; exact ⟨xs, e, r.unxo p⟩
    | _ => exact x.elim, W.pu⟩
theorem EnvR.xo {B : Addr → Prop} {θ : Nat → Addr} {σ : L2.St} {ρ : Ev} (hx : ∀ a c d, w.xo a c d → q a c d) (E : EnvR w μ B θ σ H ρ) : EnvR { w with xo := q } μ B θ σ H ρ :=
  ⟨E.len, fun i d e => by obtain ⟨v, h1, h2⟩ := E.vals i d e; exact ⟨v, h1, h2.xo hx⟩, fun i o e => by obtain ⟨h1, h2, h3⟩ := E.owns i o e; exact ⟨h1, h2, h3.xo hx⟩, E.inj⟩
theorem SR.xo {μ0 : List Addr} {H0 : Hp} {B : Addr → Prop} {θ : Nat → Addr} {σ : L2.St} {ρ : Ev} {h : Hs} (hx : ∀ a c d, w.xo a c d → q a c d) (S : SR w μ0 H0 B μ θ σ H ρ h) : SR { w with xo := q } μ0 H0 B μ θ σ H ρ h :=
  ⟨S.hp.xo hx, S.env.xo hx, S.step, S.fresh⟩
end
/-- the world within the suite of the exception a -/
def suW (w : Wd) (a : Addr) (cls : Value) (d : Option Addr) : Wd := { w with xo := fun a' c' d' => a' = a ∧ cls = .ref (w.cls c') ∧ d = some d' }
def ME.su (M : ME) (xs : Option Nat) : ME := { M with hot := true, xs := xs }
section
variable {P : Prg} {w : Wd} {X : Cx} {j : Nat} {M : ME}
/-- what statements want of their context -/
structure GS (P : Prg) (w : Wd) (X : Cx) (j : Nat) (M : ME) : Prop where
  g : GX P w X j M
  pass : PassesOwn (model X.prog X.w) X.A X.env X.xe
  stk : M.hot = false → X.stack = X.env :: X.outer
  frm : M.hot = false → X.env.frame = some X.env.locals
  kd : X.env.scope.kind = .function
theorem TX.su {mg : Str → Option Value} {w' : Wd} (hK : w'.K = w.K) (hc : w'.cls = w.cls) (hn : w'.nms = w.nms) (t : TX P w mg) : TX P w' mg := by
  obtain ⟨bi, ty, rng, isi, con, ⟨cv, isx⟩, nms, xf⟩ := t
  refine ⟨bi, ty, rng, isi, con, ⟨cv, fun x k b e => ?_⟩, fun k => by rw [hn]; exact nms k, fun k n hm => by rw [hK, hc]; exact xf k n hm⟩
  obtain ⟨a, b, c, d, e⟩ := isx x k b e
  exact ⟨a, b, by rw [hK, hc]; exact c, by rw [hK, hc]; exact d, by rw [hK, hc]; exact e⟩
theorem GX.suite (G : GX P w X j M) {w' : Wd} (hK : w'.K = w.K) (hc : w'.cls = w.cls) (hn : w'.nms = w.nms) {a : Addr} {oe : Obj} {pn : List (Addr × Obj)} {xs : Option Nat} (hx : ∀ i, xs = some i → InSuite w' (X.suite a ((a, oe) :: pn))) :
    GX P w' (X.suite a ((a, oe) :: pn)) j (M.su xs) where
  tx := G.tx.su hK hc hn
  fx := fun h => by cases h
  K := by rw [hK]; exact G.K
  calm := fun h => by cases h
  room := fun h => by cases h
  un := G.un
  nd := G.nd
  N := G.N
  sc := G.sc
  st := G.st
  xs := hx
  noxo := fun h => by cases h
theorem GS.suite (G : GS P w X j M) {w' : Wd} (hK : w'.K = w.K) (hc : w'.cls = w.cls) (hn : w'.nms = w.nms) {a : Addr} {oe : Obj} {pn : List (Addr × Obj)} {xs : Option Nat} (hx : ∀ i, xs = some i → InSuite w' (X.suite a ((a, oe) :: pn))) :
    GS P w' (X.suite a ((a, oe) :: pn)) j (M.su xs) where
  g := G.g.suite hK hc hn hx
  pass := PassesOwn.never
  stk := fun h => by cases h
  frm := fun h => by cases h
  kd := G.kd
theorem GS.tr (G : GS P w X j M) {pn : List (Addr × Obj)} {xe : Value → Shared → Prop} (hp : PassesOwn (model X.prog X.w) X.A X.env xe) (hh : M.hot = false) : GS P w (X.tr pn xe) j M where
  g := ⟨G.g.tx, G.g.fx, G.g.K, G.g.calm, G.g.room, G.g.un, G.g.nd, G.g.N, G.g.sc, G.g.st, fun i e => (by
    obtain ⟨X0, a, oe, cls, d, pn', e1, _⟩ := G.g.xs i e
    have := G.g.calm hh
    rw [e1] at this
    cases this), G.g.noxo⟩
  pass := hp
  stk := G.stk
  frm := G.frm
  kd := G.kd
end
def hnds (w : Wd) (cv : String → Value) (c : Sig) : Hds → List Hnd
  | .nil => []
  | .cons x i b r => (cv x, i, fun a cls d => match i with
    | none => rdSs w Wno c b
    | some _ => rdSs (suW w a cls d) Wno c b) :: hnds w cv c r
section
variable {P : Prg} {w : Wd} {X : Cx} {j : Nat} {M : ME} {W : WX} {c : Sig} {D : Ends} {μ0 μ : List Addr} {H0 H : Hp} {B : Addr → Prop} {θ : Nat → Addr} {σ : L2.St} {ρ : Ev} {h : Hs}
theorem nox_out {r : Rs Fl} {T : Addr → Prop} (o : OutS w W D μ0 H0 B μ T H (r.bind fun fl h1 => match fl with | .xc _ _ _ => .stuck | fl => .ok fl h1)) : OutS w Wno D μ0 H0 B μ T H r := by
  cases r with
  | ok fl h1 => cases fl <;> first | exact o | exact o.elim
  | exc _ _ _ => exact o.elim
  | stuck => exact o.elim
theorem pure_out {r : Rs Fl} {T : Addr → Prop} {q : Addr → Nat → Addr → Prop} {i : Nat} (o : OutS w W D μ0 H0 B μ T H (r.bind fun fl h1 => match fl with | .ret d => if d.pure then .ok (.ret d) h1 else .stuck | _ => .stuck)) :
    OutS { w with xo := q } Wno (gone (some i) D) μ0 H0 B μ T H r := by
  cases r with
  | ok fl h1 =>
    cases fl with
    | ret d =>
      simp only [Rs.bind_ok] at o
      by_cases hp : d.pure = true
      · rw [if_pos hp] at o
        exact fun μ1 H1 v s1 W1 r1 => o μ1 H1 v s1 W1.unxo (r1.unxo hp)
      · rw [if_neg hp] at o; exact o.elim
    | _ => exact o.elim
  | exc _ _ _ => exact o.elim
  | stuck => exact o.elim
/-- an exception before the clauses -/
theorem try_out (G : GX P w X j M) (hh : M.hot = false) {cv : String → Value} (hcv : ∀ x k b, P.isx x k = some b → ClX w X.mg (Str.ofString x) k b (cv x)) (hc : c.isx = P.isx) {k : Nat} {fs : List PV.D} {d : Addr} {fl : List (Str × V)} {vs : List V}
    (S : SR w μ0 H0 B μ θ σ H ρ h) (n : ¬ Tot B θ ρ d ∧ d ∉ μ) (hd : H d = some (.xd fl)) (hf : fldsAt fl (w.nms k) vs) (rv : RepL w μ (Tot B θ ρ) H fs vs) : ∀ {hs : Hds}, OutS w W D μ0 H0 B μ (Tot B θ ρ) H (exH c hs k fs ρ h) → wHs X.K W D (hnds w cv c hs) (.ref (w.cls k)) (some d) σ H
  | .nil, o => by
    simp only [exH] at o
    exact o μ H θ σ d fl vs S KStep.refl n hd hf rv
  | .cons x i b r, o => by
    simp only [exH, hc] at o
    cases ex : P.isx x k with
    | none => rw [ex] at o; exact o.elim
    | some bb =>
      have cl := hcv x k bb ex
      rw [ex] at o
      refine ⟨bb, by rw [G.K]; exact cl.exm, fun hb a ha => ?_, fun hb => ?_⟩
      · subst hb
        simp only at o
        cases i with
        | none =>
          simp only at o
          exact ⟨μ0, H0, B, μ, θ, h, ρ, S, nox_out o⟩
        | some i =>
          simp only at o
          unfold putS at o
          split at o
          · rename_i ρ1 e1
            split at e1
            · rename_i hi
              cases e1
              have S1 : SR (suW w a (.ref (w.cls k)) (some d)) μ0 H0 B μ θ σ H ρ h := S.xo fun a' c' d' z => (G.noxo hh _ _ _ z).elim
              have re : Rep (suW w a (.ref (w.cls k)) (some d)) μ (Tot B θ ρ) H (.exc k fs) (.ref a) := ⟨a, d, fl, vs, rfl, ⟨rfl, rfl, rfl⟩, n, hd, hf, rv.xo fun a' c' d' z => (G.noxo hh _ _ _ z).elim⟩
              obtain ⟨S2, k2⟩ := S1.put hi re
              exact ⟨μ0, H0, B, μ, θ, h, _, S2, OutS.trans k2 (pure_out o)⟩
            · cases e1
          · exact o.elim
      · subst hb
        simp only at o
        exact try_out G hh hcv hc S n hd hf rv o
theorem ss_try (G : GS P w X j M) (hh : M.hot = false) (tk : Takes X W) {cv : String → Value} (hcv : ∀ x k b, P.isx x k = some b → ClX w X.mg (Str.ofString x) k b (cv x)) (hc : c.isx = P.isx) {b : Sts} {hs : Hds} {body : List Stmt} {hd : ExceptHandler} {hds : List ExceptHandler} {pos : Pos}
    (hb : ∀ (W : WX) (pn : List (Addr × Obj)) (xe : Value → Shared → Prop), Takes (X.tr pn xe) W → PassesOwn (model X.prog X.w) X.A X.env xe → PSs (X.tr pn xe) body (rdSs w W c b)) (hok : HndOk X (hd :: hds) (hnds w cv c hs)) :
    PS X (.Try body (hd :: hds) [] [] pos) (rdS w W c (.try b hs)) := by
  refine (ps_tryx (tb := fun W => rdSs w W c b) (G.stk hh) (G.frm hh) G.g.nd tk hb hok).imp fun D σ H q => ?_
  obtain ⟨μ0, H0, B, μ, θ, h, ρ, S, o⟩ := q
  simp only [exS] at o
  refine ⟨μ0, H0, B, μ, θ, h, ρ, S, ?_⟩
  cases e : exSs c b ρ h with
  | ok fl h1 =>
    rw [e] at o
    cases fl with
    | nx ρ1 => exact o
    | brk ρ1 => exact o
    | cnt ρ1 => exact o
    | ret d => exact o
    | xc k fs ρ1 => exact fun μ1 H1 θ1 σ1 d fl vs S1 k1 n hd hf rv => try_out G.g hh hcv hc S1 n hd hf rv (OutS.trans k1 o)
  | exc _ _ _ => rw [e] at o; exact o.elim
  | stuck => rw [e] at o; exact o.elim
end
end PV
/-! S19: the matcher of statements, and that they run as the language says. -/
namespace PV
open PySem L2

def isTup : Expr → Bool
  | .Tuple _ _ _ => true
  | _ => false
def swC (M : ME) (x : Str) (py : Pos) (v : Expr) : Bool := match v with
  | .ListComp _ _ sc vp => (M.sc.names.lookup x == some .local) && (py.line == vp.line) && !(sc.names.any fun (n, k) => n == x && (k == .local || k == .cell))
  | _ => false
def BOp.pm : BOp → Bool
  | .add => true | .sub => true
  | _ => false
section
variable (P : Prg)
mutual
def isS : St → ME → Stmt → Bool
  | .set i e, M, .Assign [.Name x py] v _ => isN M i x && isE P e M v && (!isComp v || swC M x py v)
  | .own i e, M, .Assign [.Name x py] v _ => isN M i x && isE P e M v && isF e && (!isComp v || swC M x py v)
  | .app i e, M, .Expr (.Call (.Attribute (.Name x _) n ap) [v] kws cp) _ => M.vis i x && (n == ("append" : Str)) && isE P e M v && !isStar v && kws.isEmpty && (ap.endLine == cp.line)
  | .stx i k e, M, .Assign [.Subscript (.Name x _) kx _] v _ => M.vis i x && isE P k M kx && isE P e M v && !isComp v && !isSlc kx
  | .bix a k e, M, .Assign [.Subscript ax kx _] v _ => isE P a M ax && isE P k M kx && isE P e M v && !isComp v && !isSlc kx
  | .swp i k1 k2 e1 e2, M, .Assign [.Tuple [.Subscript (.Name x _) y1 _, .Subscript (.Name x2 _) y2 _] _ _] (.Tuple [v1, v2] _ _) _ => !M.hot && M.vis i x && (x2 == x) && isE P k1 M y1 && isE P k2 M y2 && isEs P (.cons e1 (.cons e2 .nil)) M [v1, v2] && !isSlc y1 && !isSlc y2
  | .ast t e, M, .Assign [tg] v _ => isG M t tg && isE P e M v && !isComp v && !isTup v
  | .aug i op e, M, .AugAssign (.Name x _) o v _ => isN M i x && (o == opB op) && op.pm && isE P e M v
  | .exp e, M, .Expr v _ => isE P e M v && !isComp v
  | .ret e, M, .Return (some v) _ => isE P e M v
  | .retn, _, .Return none _ => true
  | .ife t a b, M, .If x y z _ => isE P t M x && isSs a M y && isSs b M z
  | .whl t b, M, .While x y [] _ => isE P t M x && isSs b M y
  | .for t it b, M, .For tg ie body [] _ => !M.hot && isI P it M ie && isG M t tg && isSs b M body
  | .brk, _, .Break _ => true
  | .cnt, _, .Continue _ => true
  | .pas, _, .Pass _ => true
  | .rse k es, M, .Raise (some (.Call (.Name x _) xs kws _)) none _ => !M.hot && (x == P.cnm k) && M.glo x && P.ini k && isEs P es M xs && kws.isEmpty && !xs.isEmpty && decide (xs.length ≤ 1000) && (xs.length == (P.fns k).length)
  | .try b hs, M, .Try body hds [] [] _ => !M.hot && isSs b M body && isH hs M hds && !hds.isEmpty
  | _, _, _ => false
def isSs : Sts → ME → List Stmt → Bool
  | .nil, _, [] => true
  | .cons (.frz _) r, M, ss => isSs r M ss
  | .cons m r, M, s :: ss => isS m M s && isSs r M ss
  | _, _, _ => false
def isH : Hds → ME → List ExceptHandler → Bool
  | .nil, _, [] => true
  | .cons x none b r, M, .ExceptHandler (some (.Name y _)) none (b0 :: bs) _ :: hds => (y == Str.ofString x) && M.glo y && (P.isx x 0).isSome && isSs b (M.su none) (b0 :: bs) && isH r M hds
  | .cons x (some i) b r, M, .ExceptHandler (some (.Name y _)) (some n) (b0 :: bs) _ :: hds => (y == Str.ofString x) && M.glo y && (P.isx x 0).isSome && (M.N[i]? == some n) && (M.sc.names.lookup n == some .local) && isSs b (M.su (some i)) (b0 :: bs) && isH r M hds
  | _, _, _ => false
end
end
theorem swap_none {M : ME} {t : Tg} {tg v : Expr} {env : Env} (hg : isG M t tg = true) (h : isTup v = false) : swappedStores [tg] v env = pure none := by
  cases tg with
  | Name x p => cases v <;> rfl
  | Tuple es n p => cases v <;> first | rfl | (simp [isTup] at h)
  | _ => cases t <;> simp [isG] at hg
section
variable (P : Prg) (j : Nat)
/-- a comprehension that is stored in a name -/
theorem stLc {w : Wd} {X : Cx} {M : ME} {W : WX} (G : GS P w X j M) (tk : Takes X W) {i : Nat} {e : Ex} {x : Str} {py pos : Pos} {v : Expr} (hn : isN M i x = true) (he : isE P e M v = true) (hs : swC M x py v = true) :
    PS X (.Assign [.Name x py] v pos) (rdS w W (P.sig (P.run j)) (.set i e)) ∧ PS X (.Assign [.Name x py] v pos) (rdS w W (P.sig (P.run j)) (.own i e)) := by
  cases v with
  | ListComp el gens scope p =>
    cases e with
    | lc elt t it wh =>
      match gens, he with
      | [⟨tg, ie, ifs, 0⟩], he =>
        simp only [isE, Bool.and_eq_true, Bool.not_eq_true'] at he
        obtain ⟨⟨⟨⟨⟨h1, h2⟩, h3⟩, h4⟩, h5⟩, h6⟩ := he
        simp only [swC, Bool.and_eq_true, beq_iff_eq, Bool.not_eq_true'] at hs
        obtain ⟨⟨s1, s2⟩, s3⟩ := hs
        have hb : ∀ (s : Shared) (H : Hp) (C : Addr) (cl : List (Str × Addr)) (fp : List Addr), GX P w (X.blk s H scope (compEnvC scope cl C X.env) fp) j (M.blk scope) := fun s H C cl fp => G.g.blk h1 s H scope C cl fp
        have hl : X.env.scope.names.lookup x = some .local := by rw [G.g.sc]; exact s1
        have fin := fun b => ss_setLc (c := P.sig (P.run j)) (W := W) (own? := b) (py := py) (spos := pos) G.g h1 hn hl (own := ownOf M.N t) (owns_slo (M := M.blk scope) h3) (sw_true G.kd hl (by simpa using s2) s3) (by rw [G.g.N, G.g.sc]; exact blkOk_by h6) (soI P w j it X M W ie tg G.g tk h2) (fun x => fold_pure (tg := t) h2 x)
          (fun s H C cl fp => pg_of (hb s H C cl fp).calm (hb s H C cl fp).nd (hb s H C cl fp).N (hb s H C cl fp).st h3) (fun s H C cl fp => soIf P w j wh _ _ Wno ifs (hb s H C cl fp) (takes_no fun _ _ _ _ => id) h5) fun s H C cl fp => (soE P w j elt _ _ Wno el (hb s H C cl fp) (takes_no fun _ _ _ _ => id) h4).ve
        exact ⟨fin false, fin true⟩
    | _ => simp [isE] at he
  | _ => simp [swC] at hs
mutual
theorem stS : ∀ (m : St) (w : Wd) (X : Cx) (M : ME) (W : WX) (s : Stmt), GS P w X j M → Takes X W → isS P m M s = true → PS X s (rdS w W (P.sig (P.run j)) m)
  | .set i e, w, X, M, W, s, G, tk, h => by
    cases s with
    | Assign tgs v pos =>
      match tgs, h with
      | [.Name x py], h =>
        simp only [isS, Bool.and_eq_true] at h
        obtain ⟨⟨h1, h2⟩, h3⟩ := h
        cases hc : isComp v with
        | false => exact ss_set G.g h1 hc (soE P w j e X M W v G.g tk h2).ve
        | true => exact (stLc P j G tk h1 h2 (by simpa [hc] using h3)).1
    | _ => simp [isS] at h
  | .own i e, w, X, M, W, s, G, tk, h => by
    cases s with
    | Assign tgs v pos =>
      match tgs, h with
      | [.Name x py], h =>
        simp only [isS, Bool.and_eq_true] at h
        obtain ⟨⟨⟨h1, h2⟩, hf⟩, h3⟩ := h
        cases hc : isComp v with
        | false => exact ss_own G.g h1 hc ((soE P w j e X M W v G.g tk h2).vf hf)
        | true => exact (stLc P j G tk h1 h2 (by simpa [hc] using h3)).2
    | _ => simp [isS] at h
  | .owd _, w, X, M, W, s, G, tk, h => by simp [isS] at h
  | .frz _, w, X, M, W, s, G, tk, h => by simp [isS] at h
  | .app i e, w, X, M, W, s, G, tk, h => by
    cases s with
    | Expr v pos =>
      match v, h with
      | .Call (.Attribute (.Name x p) n ap) [v] kws cp, h =>
        simp only [isS, Bool.and_eq_true, beq_iff_eq, Bool.not_eq_true'] at h
        obtain ⟨⟨⟨⟨⟨h1, rfl⟩, h2⟩, h3⟩, h4⟩, h5⟩ := h
        rw [List.isEmpty_iff] at h4
        subst h4
        exact ss_app G.g h1 h3 (by simpa using h5) (soE P w j e X M W v G.g tk h2).ve
    | _ => simp [isS] at h
  | .stx i k e, w, X, M, W, s, G, tk, h => by
    cases s with
    | Assign tgs v pos =>
      match tgs, h with
      | [.Subscript (.Name x p) kx sp], h =>
        simp only [isS, Bool.and_eq_true, Bool.not_eq_true'] at h
        obtain ⟨⟨⟨⟨h1, h2⟩, h3⟩, h4⟩, h5⟩ := h
        exact ss_stx G.g h1 h4 h5 (soE P w j e X M W v G.g tk h3).ve (soE P w j k X M W kx G.g tk h2).ve
    | _ => simp [isS] at h
  | .bix a k e, w, X, M, W, s, G, tk, h => by
    cases s with
    | Assign tgs v pos =>
      match tgs, h with
      | [.Subscript ax kx sp], h =>
        simp only [isS, Bool.and_eq_true, Bool.not_eq_true'] at h
        obtain ⟨⟨⟨⟨h1, h2⟩, h3⟩, h4⟩, h5⟩ := h
        exact ss_bix G.g h4 (soE P w j a X M W ax G.g tk h1).ve (soE P w j k X M W kx G.g tk h2).ve (soE P w j e X M W v G.g tk h3).ve h5
    | _ => simp [isS] at h
  | .swp i k1 k2 e1 e2, w, X, M, W, s, G, tk, h => by
    cases s with
    | Assign tgs v pos =>
      match tgs, v, h with
      | [.Tuple [.Subscript (.Name x p1) y1 sp1, .Subscript (.Name x2 p2) y2 sp2] n1 tp], .Tuple [v1, v2] n2 vp, h =>
        simp only [isS, Bool.and_eq_true, beq_iff_eq, Bool.not_eq_true'] at h
        obtain ⟨⟨⟨⟨⟨⟨⟨h0, h1⟩, rfl⟩, h2⟩, h3⟩, h4⟩, h5⟩, h6⟩ := h
        exact ss_swp G.g h0 G.kd h1 h5 h6 h4 (soEs P w j _ X M W _ G.g tk h4) (soE P w j k1 X M W y1 G.g tk h2).ve (soE P w j k2 X M W y2 G.g tk h3).ve
    | _ => simp [isS] at h
  | .ast t e, w, X, M, W, s, G, tk, h => by
    cases s with
    | Assign tgs v pos =>
      match tgs, h with
      | [tg], h =>
        simp only [isS, Bool.and_eq_true, Bool.not_eq_true'] at h
        obtain ⟨⟨⟨h1, h2⟩, h3⟩, h4⟩ := h -- pv
        exact ss_ast G.g h3 h1 (swap_none h1 h4) (soE P w j e X M W v G.g tk h2).ve
    | _ => simp [isS] at h
  | .par _ _ _ _, w, X, M, W, s, G, tk, h => by simp [isS] at h
  | .aug i op e, w, X, M, W, s, G, tk, h => by
    cases s with
    | AugAssign tg o v pos =>
      cases tg with
      | Name x p =>
        simp only [isS, Bool.and_eq_true, beq_iff_eq] at h
        obtain ⟨⟨⟨h1, rfl⟩, h3⟩, h4⟩ := h
        exact ss_aug G.g (by cases op <;> simp [BOp.pm] at h3 <;> simp) h1 (soE P w j e X M W v G.g tk h4).ve
      | _ => simp [isS] at h
    | _ => simp [isS] at h
  | .exp e, w, X, M, W, s, G, tk, h => by
    cases s with
    | Expr v pos =>
      simp only [isS, Bool.and_eq_true, Bool.not_eq_true'] at h
      exact ss_exp h.2 (soE P w j e X M W v G.g tk h.1).ve
    | _ => simp [isS] at h
  | .ret e, w, X, M, W, s, G, tk, h => by
    cases s with
    | Return v pos =>
      cases v with
      | some v => exact ss_ret (soE P w j e X M W v G.g tk (by simpa [isS] using h)).ve
      | none => simp [isS] at h
    | _ => simp [isS] at h
  | .retn, w, X, M, W, s, G, tk, h => by
    cases s with
    | Return v pos =>
      cases v with
      | some v => simp [isS] at h
      | none => exact ss_retn
    | _ => simp [isS] at h
  | .ife t a b, w, X, M, W, s, G, tk, h => by
    cases s with
    | If x y z pos =>
      simp only [isS, Bool.and_eq_true] at h
      exact ss_ife (soE P w j t X M W x G.g tk h.1.1).vt (stSs a w X M W y G tk h.1.2) (stSs b w X M W z G tk h.2)
    | _ => simp [isS] at h
  | .whl t b, w, X, M, W, s, G, tk, h => by
    cases s with
    | While x y z pos =>
      cases z with
      | nil =>
        simp only [isS, Bool.and_eq_true] at h
        exact ss_whl G.pass (soE P w j t X M W x G.g tk h.1).vt (stSs b w X M W y G tk h.2)
      | cons _ _ => simp [isS] at h
    | _ => simp [isS] at h
  | .for t it b, w, X, M, W, s, G, tk, h => by
    cases s with
    | For tg ie body z pos =>
      cases z with
      | nil =>
        simp only [isS, Bool.and_eq_true, Bool.not_eq_true'] at h
        obtain ⟨⟨⟨h1, h2⟩, h3⟩, h4⟩ := h -- pv
        exact ss_for G.g h1 G.pass (soI P w j it X M W ie tg G.g tk h2) h3 (fun x => fold_pure (tg := t) h2 x) (stSs b w X M W body G tk h4)
      | cons _ _ => simp [isS] at h
    | _ => simp [isS] at h
  | .brk, w, X, M, W, s, G, tk, h => by
    cases s with
    | Break pos => exact ss_brk
    | _ => simp [isS] at h
  | .cnt, w, X, M, W, s, G, tk, h => by
    cases s with
    | Continue pos => exact ss_cnt
    | _ => simp [isS] at h
  | .pas, w, X, M, W, s, G, tk, h => by
    cases s with
    | Pass pos => exact ss_pas
    | _ => simp [isS] at h
  | .rse k es, w, X, M, W, s, G, tk, h => by
    cases s with
    | Raise ex cause pos =>
      match ex, cause, h with
      | some (.Call (.Name x p1) xs kws p), none, h =>
        simp only [isS, Bool.and_eq_true, beq_iff_eq, Bool.not_eq_true', decide_eq_true_eq] at h
        obtain ⟨⟨⟨⟨⟨⟨⟨⟨h0, rfl⟩, h2⟩, h3⟩, h4⟩, h5⟩, h6⟩, h7⟩, h8⟩ := h
        rw [List.isEmpty_iff] at h5
        subst h5
        exact ss_rse G.g h0 tk h3 h2 h6 h7 h8 h4 (soEs P w j es X M W xs G.g tk h4)
    | _ => simp [isS] at h
  | .try b hs, w, X, M, W, s, G, tk, h => by
    cases s with
    | Try body hds oe fb pos =>
      match hds, oe, fb, h with
      | hd :: hds, [], [], h =>
        simp only [isS, Bool.and_eq_true, Bool.not_eq_true'] at h
        obtain ⟨⟨⟨h0, h1⟩, h2⟩, _⟩ := h
        obtain ⟨cv, hcv⟩ := G.g.tx.isx
        exact ss_try G h0 tk hcv rfl (fun W' pn xe tk' hp => stSs b w (X.tr pn xe) M W' body (G.tr hp h0) tk' h1) (stH hs w X M (hd :: hds) cv hcv G h2)
      | [], [], [], h => simp [isS] at h
    | _ => simp [isS] at h
theorem stSs : ∀ (m : Sts) (w : Wd) (X : Cx) (M : ME) (W : WX) (s : List Stmt), GS P w X j M → Takes X W → isSs P m M s = true → PSs X s (rdSs w W (P.sig (P.run j)) m)
  | .nil, w, X, M, W, [], G, tk, h => ss_nil
  | .nil, w, X, M, W, _ :: _, G, tk, h => by simp [isSs] at h
  | .cons m r, w, X, M, W, ss, G, tk, h => by
    by_cases hm : ∃ i, m = .frz i
    · obtain ⟨i, rfl⟩ := hm
      exact ss_frz (stSs r w X M W ss G tk (by simpa [isSs] using h))
    · cases ss with
      | nil => cases m <;> first | (exact absurd ⟨_, rfl⟩ hm) | simp [isSs] at h
      | cons s ss =>
        have h2 : isS P m M s = true ∧ isSs P r M ss = true := by
          cases m <;> first | (exact absurd ⟨_, rfl⟩ hm) | simpa [isSs] using h
        exact ss_cons (stS m w X M W s G tk h2.1) (stSs r w X M W ss G tk h2.2)
theorem stH : ∀ (hs : Hds) (w : Wd) (X : Cx) (M : ME) (hds : List ExceptHandler) (cv : String → Value), (∀ x k b, P.isx x k = some b → ClX w X.mg (Str.ofString x) k b (cv x)) → GS P w X j M → isH P hs M hds = true → HndOk X hds (hnds w cv (P.sig (P.run j)) hs)
  | .nil, w, X, M, hds, cv, hcv, G, h => by
    cases hds with
    | nil => exact .nil
    | cons _ _ => simp [isH] at h
  | .cons x none b r, w, X, M, hds, cv, hcv, G, h => by
    match hds, h with
    | .ExceptHandler (some (.Name y np)) none (b0 :: bs) hp :: hds, h =>
      simp only [isH, Bool.and_eq_true, beq_iff_eq] at h
      obtain ⟨⟨⟨⟨rfl, h1⟩, h2⟩, h3⟩, h4⟩ := h
      obtain ⟨g1, g2, g3⟩ := G.g.glo h1
      obtain ⟨bb, e⟩ := Option.isSome_iff_exists.mp h2
      have cl := hcv x 0 bb e
      refine .bare ⟨g1, g2, ?_⟩ (fun a oe cls d pn z f => ?_) (stH r w X M hds cv hcv G h4)
      · rcases cl.mg with q | ⟨q1, q2⟩
        · exact .inl q
        · exact .inr ⟨q1, q2, g3⟩
      · exact stSs b w (X.suite a ((a, oe) :: pn)) (M.su none) Wno (b0 :: bs) (G.suite rfl rfl rfl fun i e => by cases e) (takes_no fun _ _ _ _ => id) h3
  | .cons x (some i) b r, w, X, M, hds, cv, hcv, G, h => by
    match hds, h with
    | .ExceptHandler (some (.Name y np)) (some n) (b0 :: bs) hp :: hds, h =>
      simp only [isH, Bool.and_eq_true, beq_iff_eq] at h
      obtain ⟨⟨⟨⟨⟨⟨rfl, h1⟩, h2⟩, h5⟩, h6⟩, h3⟩, h4⟩ := h
      obtain ⟨g1, g2, g3⟩ := G.g.glo h1
      obtain ⟨bb, e⟩ := Option.isSome_iff_exists.mp h2
      have cl := hcv x 0 bb e
      refine .named ⟨g1, g2, ?_⟩ (by rw [G.g.N]; exact h5) (by show X.env.scope.names.lookup n = _; rw [G.g.sc]; exact h6) (fun a oe cls d pn z f => ?_) (stH r w X M hds cv hcv G h4)
      · rcases cl.mg with q | ⟨q1, q2⟩
        · exact .inl q
        · exact .inr ⟨q1, q2, g3⟩
      · exact stSs b (suW w a cls d) (X.suite a ((a, oe) :: pn)) (M.su (some i)) Wno (b0 :: bs) (G.suite (w' := suW w a cls d) rfl rfl rfl fun i e => ⟨X, a, oe, cls, d, pn, rfl, z, f, fun a' c' d' q => q⟩) (takes_no fun _ _ _ _ => id) h3
end
end
end PV
/-! S20: a def keeps its promise; all defs, at every level. -/
namespace PV
open PySem L2

section
variable {w : Wd} {μ μ1 : List Addr} {T : Addr → Prop} {H H1 : Hp}
mutual
/-- data without boxes needs fewer boxes -/
theorem Rep.cut (hm : ∀ a ∈ μ, a ∈ μ1) : ∀ {d : D} {v : V}, d.pure = true → Rep w μ1 T H d v → Rep w μ T H d v
  | .non, _, _, h => h
  | .bl _, _, _, h => h
  | .int _, _, _, h => h
  | .str _, _, _, h => h
  | .tup ds, v, p, h => by
    obtain ⟨a, xs, e, ha, r⟩ := h
    exact ⟨a, xs, e, ha, RepL.cut hm (by simpa [D.pure] using p) r⟩
  | .lst ds, v, p, h => by
    obtain ⟨a, xs, e, n, ha, r⟩ := h
    exact ⟨a, xs, e, ⟨n.1, fun q => n.2 (hm a q)⟩, ha, RepL.cut hm (by simpa [D.pure] using p) r⟩
  | .dct _, _, _, h => h.elim
  | .obj c fs, v, p, h => by
    obtain ⟨a, dx, fl, vs, e, n, ha, hf, r⟩ := h
    exact ⟨a, dx, fl, vs, e, ⟨n.1, fun q => n.2 (hm a q)⟩, ha, hf, RepL.cut hm (by simpa [D.pure] using p) r⟩
  | .exc c fs, v, p, h => by simp [D.pure] at p
  | .ref l, v, p, h => by simp [D.pure] at p
  | .scr is, v, _, h => h
theorem RepL.cut (hm : ∀ a ∈ μ, a ∈ μ1) : ∀ {ds : List D} {vs : List V}, pureAll ds = true → RepL w μ1 T H ds vs → RepL w μ T H ds vs
  | [], [], _, h => h
  | d :: ds, v :: vs, p, h => by
    simp only [pureAll, Bool.and_eq_true] at p
    exact ⟨Rep.cut hm p.1 h.1, RepL.cut hm p.2 h.2⟩
  | [], _ :: _, _, h => h.elim
  | _ :: _, [], _, h => h.elim
end
theorem ObR.cut (hm : ∀ a ∈ μ, a ∈ μ1) {a : Addr} {o : Ob} (p : o.pure = true) (h : ObR w μ1 T H a o) : ObR w μ T H a o := by
  cases o with
  | lst ds => obtain ⟨xs, e, r⟩ := h; exact ⟨xs, e, r.cut hm p⟩
  | _ => exact h.elim
theorem HpR.cut {h h1 : Hs} (W0 : HpR w μ T H h) (s : Step μ H μ1 H1) (W : HpR w μ1 T H1 h1) : Step μ H μ H1 ∧ HpR w μ T H1 (h1.take h.length) ∧ (∀ a ∈ μ, a ∈ μ1) := by
  obtain ⟨e, he, hn⟩ := s.ext
  have hm : ∀ a ∈ μ, a ∈ μ1 := fun a ha => by rw [he]; exact List.mem_append_left _ ha
  have hl : h.length ≤ h1.length := by rw [← W0.len, ← W.len, he, List.length_append]; exact Nat.le_add_right _ _
  refine ⟨⟨⟨[], by simp, fun a ha => by cases ha⟩, s.keep, s.tup, s.frz, s.there⟩, ⟨by rw [List.length_take, W0.len]; exact (Nat.min_eq_left hl).symm, W0.nd, fun a ha => W.nb a (hm a ha), W.bt, fun l a o h2 h3 => ?_, fun o ho => W.pu o (List.mem_of_mem_take ho)⟩, hm⟩
  rw [List.getElem?_take] at h3
  split at h3
  · have h2' : μ1[l]? = some a := by rw [he, List.getElem?_append_left (List.getElem?_eq_some_iff.mp h2).1]; exact h2
    exact (W.at_ l a o h2' h3).cut hm (W.pu o (List.mem_of_getElem? h3))
  · cases h3
/-- what a def hands back -/
theorem back_out {h h1 : Hs} {rb : Bool} {d : D} {v : V} {W : XK} {Q : VK} (W0 : HpR w μ T H h) (o : Out w T μ H (fun d h' μ' H' => ∀ v, Rep w μ' T H' d v → Q v H') W (back rb h.length d h1)) (s : Step μ H μ1 H1) (W1 : HpR w μ1 T H1 h1) (r : Rep w μ1 T H1 d v) : Q v H1 := by
  unfold back at o
  split at o
  · exact o μ1 H1 s W1 v r
  · split at o
    · cases d with
      | ref l =>
        simp only at o
        cases hl : h1[l]? with
        | none => rw [hl] at o; exact o.elim
        | some ob =>
          rw [hl] at o
          simp only at o
          split at o
          · rename_i hle
            obtain ⟨a, rfl, ha⟩ := r
            obtain ⟨e, he, hn⟩ := s.ext
            obtain ⟨s2, W2, hm⟩ := W0.cut s W1
            have hae : a ∈ e := by
              rw [he, List.getElem?_append_right (by rw [W0.len]; exact hle)] at ha
              exact List.mem_of_getElem? ha
            have hna : H a = none := hn a hae
            have ham : a ∉ μ := fun q => by
              have nd := W1.nd
              rw [he, List.nodup_append] at nd
              exact nd.2.2 a q a hae rfl
            have hm2 : ∀ b ∈ μ ++ [a], b ∈ μ1 := fun b hb => by
              rcases List.mem_append.mp hb with hb | hb -- pv
              · exact hm b hb
              · rw [List.mem_singleton.mp hb, he]; exact List.mem_append_right _ hae
            have s3 : Step μ H (μ ++ [a]) H1 := ⟨⟨[a], rfl, fun b hb => by rw [List.mem_singleton.mp hb]; exact hna⟩, s.keep, s.tup, s.frz, s.there⟩
            have hlt : (h1.take h.length).length = h.length := W2.len.symm.trans W0.len
            refine o _ H1 s3 ⟨by rw [List.length_append, List.length_append, hlt, W0.len]; rfl, ?_, fun b hb => W1.nb b (hm2 b hb), W1.bt, fun m b ob2 h2 h3 => ?_, fun ob2 ho => ?_⟩ _ ⟨a, rfl, ?_⟩
            · rw [List.nodup_append]
              exact ⟨W0.nd, by simp, fun b hb c hc => by rw [List.mem_singleton.mp hc]; intro q; rw [q] at hb; exact ham hb⟩
            · by_cases hmn : m < h.length
              · rw [List.getElem?_append_left (by rw [W0.len]; exact hmn)] at h2
                rw [List.getElem?_append_left (by rw [hlt]; exact hmn)] at h3
                have x := W2.at_ m b ob2 h2 h3
                have p := W2.pu ob2 (List.mem_of_getElem? h3)
                cases ob2 with
                | lst ds =>
                  have h2' : μ1[m]? = some b := s.at h2
                  have h3' : h1[m]? = some (.lst ds) := by
                    rw [List.getElem?_take, if_pos hmn] at h3
                    exact h3
                  exact (W1.at_ m b _ h2' h3').cut hm2 p
                | _ => exact x.elim
              · have hge : h.length ≤ m := Nat.le_of_not_lt hmn
                rw [List.getElem?_append_right (by rw [W0.len]; exact hge)] at h2
                rw [List.getElem?_append_right (by rw [hlt]; exact hge)] at h3
                rw [W0.len] at h2
                rw [hlt] at h3
                have hm0 : m - h.length = 0 := by
                  cases q : m - h.length with
                  | zero => rfl
                  | succ n => rw [q] at h2; simp at h2
                rw [hm0] at h2 h3
                simp at h2 h3
                subst h2 h3
                have ha2 : μ1[l]? = some a := ha
                exact (W1.at_ l a _ ha2 hl).cut hm2 (W1.pu _ (List.mem_of_getElem? hl))
            · rcases List.mem_append.mp ho with ho | ho
              · exact W2.pu ob2 ho
              · rw [List.mem_singleton.mp ho]; exact W1.pu _ (List.mem_of_getElem? hl)
            · rw [List.getElem?_append_right (by rw [W0.len]; exact Nat.le_refl _), W0.len]
              simp
          · exact o.elim
      | _ => exact o.elim
    · split at o
      · rename_i hp
        obtain ⟨s2, W2, hm⟩ := W0.cut s W1
        exact o μ H1 s2 W2 v (r.cut hm hp)
      · exact o.elim
end
section
variable {w : Wd} {P : Prg} {mg : Str → Option Value} {prog : Program} {wo : World} {base : Heap}
def fnME (F : Fn) (sc : Scope) : ME := ⟨F.N, sc, fun x => match sc.names.lookup x with | some .local => true | some .cell => true | _ => false, false, none⟩
/-- a def of the text -/
structure DefK (P : Prg) (w : Wd) (mg : Str → Option Value) (f : Nat) (F : Fn) : Prop where
  ex : ∃ (fa : Addr) (name qual : Str) (params : Arguments) (body : List Stmt) (scope : Scope) (dV kV doc pm cdv ct oc : Value) (an od : Option Addr) (osl : Array (Option Value)),
    w.K.lookup fa = some ⟨oc, od, .func (PySem.W.fnOf name qual params body scope dV kV doc pm an cdv ct), osl⟩ ∧ PySem.W.codeIn w.K cdv qual = true ∧ FnScope F.N F.ps scope ∧ isSs P F.body (fnME F scope) body = true ∧
      mg (P.fnm f) = some (.ref fa) ∧ PySem.W.keepIn w.K (.ref fa) = true ∧ Binds w.K (PySem.W.fnOf name qual params body scope dV kV doc pm an cdv ct) F.ps [] ∧
      ∀ n, P.kw f n = true → KBn w.K (PySem.W.fnOf name qual params body scope dV kV doc pm an cdv ct) F.ps n (F.ps.drop n) (fun us ws => us ++ ws) (fun vs zs => vs ++ zs)
/-- an exception's class and its __init__ -/
structure IniK (w : Wd) (prog : Program) (wo : World) (mg : Str → Option Value) (base : Heap) (P : Prg) (k : Nat) : Prop where
  ex : ∃ fI fd ps, OexC w.K (w.cls k) ∧ PySem.W.findIn w.K (.ref (w.cls k)) "__init__" = some (some (.ref fI)) ∧ PySem.W.typeIn w.K (.ref fI) = some (.type "function") ∧ Binds w.K fd ps [] ∧
    mg (P.cnm k) = some (.ref (w.cls k)) ∧ ∀ j, FnOk prog wo w.K mg base (L2.CX prog wo) (j + 1) fI fd ps (spI w k)
theorem ent_no {F : Fn} {ds : List D} : ∀ (i : Nat) (o : Ob), (ent F ds)[i]? ≠ some (.own o) := fun i o e => by
  unfold ent at e
  by_cases hi : i < ds.length
  · rw [List.getElem?_append_left (by simpa using hi), List.getElem?_map] at e
    cases q : ds[i]? <;> rw [q] at e <;> cases e
  · rw [List.getElem?_append_right (by simpa using Nat.le_of_not_lt hi)] at e
    have := List.mem_of_getElem? e
    rw [List.mem_replicate] at this
    cases this.2
theorem tot_ent {F : Fn} {ds : List D} {B : Addr → Prop} {θ : Nat → Addr} : Tot B θ (ent F ds) = B := by
  funext a
  apply propext
  constructor
  · rintro (q | ⟨i, o, e, _⟩)
    · exact q
    · exact absurd e (ent_no i o)
  · exact .inl
theorem start_env {F : Fn} {ds : List D} {vs : List V} {μ : List Addr} {T : Addr → Prop} {H : Hp} {h : Hs} (W : HpR w μ T H h) (r : RepL w μ T H ds vs) : SR w μ H T μ (fun _ => 0) (L2.start F.N vs) H (ent F ds) h := by
  have hl := r.len
  refine ⟨by rw [tot_ent]; exact W, ⟨?_, fun i d e => ?_, fun i o e => absurd e (ent_no i o), fun i k o u e => absurd e (ent_no i o)⟩, Step.refl, fun i o e => absurd e (ent_no i o)⟩
  · unfold L2.start ent
    simp [hl]
  · rw [tot_ent]
    unfold ent at e
    by_cases hi : i < ds.length
    · rw [List.getElem?_append_left (by simpa using hi), List.getElem?_map] at e
      cases q : ds[i]? with
      | none => rw [q] at e; cases e -- pv
      | some d2 =>
        rw [q] at e
        cases e
        obtain ⟨v, h1, h2⟩ := r.get q
        refine ⟨v, ?_, h2⟩
        unfold L2.start
        rw [List.getElem?_append_left (by simpa [hl] using hi), List.getElem?_map, h1]
        rfl
    · rw [List.getElem?_append_right (by simpa using Nat.le_of_not_lt hi)] at e
      have := List.mem_of_getElem? e
      rw [List.mem_replicate] at this
      cases this.2
/-- the body's ends -/
theorem fin_out {F : Fn} {ds : List D} {vs : List V} {μ : List Addr} {T : Addr → Prop} {H : Hp} {h : Hs} {Q : VK} {E : XK} {r : Rs Fl} (W : HpR w μ T H h) (o : Out w T μ H (fun d h' μ' H' => ∀ v, Rep w μ' T H' d v → Q v H') E (fin F.rb h.length r)) :
    OutS w (fun cls d _ H => E cls d H) { nx := fun _ H' => Q .non H', rt := Q } μ H T μ (Tot T (fun _ => 0) (ent F ds)) H r := by
  cases r with
  | exc c fs h1 => exact o.elim
  | stuck => exact o.elim
  | ok fl h1 =>
    cases fl with
    | nx ρ1 => exact fun μ1 H1 θ1 σ1 S k => back_out (d := .non) (v := .non) W o S.step (S.hp.mono fun a q => .inl q) rfl
    | ret d => exact fun μ1 H1 v s1 W1 r1 => back_out W o s1 W1 r1
    | brk ρ1 => exact o.elim
    | cnt ρ1 => exact o.elim
    | xc c fs ρ1 =>
      intro μ1 H1 θ1 σ1 d fl vs S k n hd hf rv
      have W1 : HpR w μ1 T H1 h1 := S.hp.mono fun a q => .inl q
      have nT : ¬ T d ∧ d ∉ μ1 := ⟨fun q => n.1 (.inl q), n.2⟩
      have rv1 : RepL w μ1 T H1 fs vs := rv.step Step.refl fun a q => .inl (.inl q)
      simp only [fin] at o
      split at o
      · exact o μ1 H1 d fl vs S.step W1 nT hd hf rv1
      · split at o
        · rename_i hp
          obtain ⟨s2, W2, hm⟩ := W.cut S.step W1
          exact o μ H1 d fl vs s2 W2 ⟨nT.1, fun q => nT.2 (hm d q)⟩ hd hf (rv1.cut hm hp)
        · exact o.elim
theorem fn_step (tx : TX P w mg) (nx : ∀ a c d, ¬ w.xo a c d) {j : Nat} (ih : FX P w prog wo mg base j) {f : Nat} {F : Fn} (hF : P.fn f = some F) {fa : Addr} {name qual : Str} {params : Arguments} {body : List Stmt} {scope : Scope} {dV kV doc pm cdv ct oc : Value} {an od : Option Addr} {osl : Array (Option Value)}
    (lk : w.K.lookup fa = some ⟨oc, od, .func (PySem.W.fnOf name qual params body scope dV kV doc pm an cdv ct), osl⟩) (hcd : PySem.W.codeIn w.K cdv qual = true) (S : FnScope F.N F.ps scope) (hs : isSs P F.body (fnME F scope) body = true) :
    FnOk prog wo w.K mg base (L2.CX prog wo) (j + 1 + 2) fa (PySem.W.fnOf name qual params body scope dV kV doc pm an cdv ct) F.ps (spF w F.ps.length (P.run (j + 1) f)) := by
  refine fn_of lk hcd S (fun vs H Q E ⟨μ, T, h, ds, _, r, hl, _⟩ => (RepL.len r).trans hl) fun A outer s H vs Q E hr ⟨μ, T, h, ds, W, r, hl, o⟩ => ?_
  have tk : Takes (cxOf (L2.CX prog wo) prog wo w.K mg base F.N qual scope fa cdv A outer s H E) (fun cls d _ H => E cls d H) := takes_of rfl rfl rfl rfl
  have G : GS P w (cxOf (L2.CX prog wo) prog wo w.K mg base F.N qual scope fa cdv A outer s H E) j (fnME F scope) := by
    refine ⟨⟨tx, fun _ => ih, rfl, fun _ => rfl, fun _ => hr, ?_, S.nd, rfl, rfl, fun x hx => ?_, fun i e => (by cases e), fun _ => nx⟩, ?_, fun _ => rfl, fun _ => rfl, S.kind⟩
    · have := hr.un
      show (A.deeper _).units + 65 < cLine
      omega
    · have hx2 : (match scope.names.lookup x with | some .local => true | some .cell => true | _ => false) = true := hx
      refine ⟨?_, .inl rfl⟩
      show scope.names.lookup x = some .local ∨ scope.names.lookup x = some .cell
      split at hx2
      · exact .inl (by assumption)
      · exact .inr (by assumption)
      · cases hx2
    · exact PassesOwn.leaving
  refine ⟨_, stSs P j F.body w _ (fnME F scope) _ body G tk hs, μ, H, T, μ, _, h, _, start_env W r, ?_⟩
  simp only [Prg.run, hF] at o
  rw [if_pos hl] at o
  exact fin_out (vs := vs) W o
theorem fx_all (tx : TX P w mg) (nx : ∀ a c d, ¬ w.xo a c d) (hd : ∀ f F, P.fn f = some F → DefK P w mg f F) (hi : ∀ k, P.ini k = true → IniK w prog wo mg base P k) : ∀ j, FX P w prog wo mg base j := by
  have ini : ∀ j k, P.ini k = true → ∃ fI fd ps, OexC w.K (w.cls k) ∧ PySem.W.findIn w.K (.ref (w.cls k)) "__init__" = some (some (.ref fI)) ∧ PySem.W.typeIn w.K (.ref fI) = some (.type "function") ∧ Binds w.K fd ps [] ∧
      mg (P.cnm k) = some (.ref (w.cls k)) ∧ FnOk prog wo w.K mg base (L2.CX prog wo) (j + 1) fI fd ps (spI w k) := fun j k hk => by
    obtain ⟨fI, fd, ps, t1, t2, t3, hb, hm, hf⟩ := (hi k hk).ex
    exact ⟨fI, fd, ps, t1, t2, t3, hb, hm, hf j⟩
  intro j
  induction j with
  | zero =>
    refine ⟨fun f F hF => ?_, ini 0⟩
    obtain ⟨fa, name, qual, params, body, scope, dV, kV, doc, pm, cdv, ct, oc, an, od, osl, lk, hcd, S, hs, hm, hk, hb, hkb⟩ := (hd f F hF).ex
    refine ⟨fa, _, hm, hk, hb, hkb, ?_⟩
    refine fn_of lk hcd S (fun vs H Q E ⟨μ, T, h, ds, _, r, hl, _⟩ => (RepL.len r).trans hl) fun A outer s H vs Q E hr ⟨μ, T, h, ds, _, _, _, o⟩ => ?_
    exact o.elim
  | succ j ih =>
    refine ⟨fun f F hF => ?_, ini (j + 1)⟩
    obtain ⟨fa, name, qual, params, body, scope, dV, kV, doc, pm, cdv, ct, oc, an, od, osl, lk, hcd, S, hs, hm, hk, hb, hkb⟩ := (hd f F hF).ex
    refine ⟨fa, _, hm, hk, hb, hkb, ?_⟩
    exact fn_step tx nx ih hF lk hcd S hs
end
end PV
/-! S21: a text's words: what the head must tell of it. -/
namespace PV
open PySem L2

structure Txt where
  fns : List (String × Fn)
  exs : List (String × List String × Bool)
  isx : List (String × Nat × Bool)
  con : List (String × Int)
  kws : List (Nat × Nat)
  fuel : Nat
def Txt.prg (t : Txt) : Prg where
  fn := fun f => (t.fns[f]?).map (·.2)
  fnm := fun f => match t.fns[f]? with | some q => Str.ofString q.1 | none => Str.empty
  cnm := fun k => match t.exs[k]? with | some q => Str.ofString q.1 | none => Str.empty
  con := fun x => t.con.lookup x
  kw := fun f n => t.kws.contains (f, n)
  isx := fun x k => t.isx.findSome? fun q => if q.1 = x ∧ q.2.1 = k then some q.2.2 else none
  fns := fun k => match t.exs[k]? with | some q => q.2.1 | none => []
  ini := fun k => match t.exs[k]? with | some q => q.2.2 | none => false
  fuel := t.fuel
def Txt.wd (t : Txt) (K : PySem.W.Frag) : Wd := ⟨K, fun k => He.ga K (t.prg.cnm k), fun k => (t.prg.fns k).map Str.ofString, fun _ _ _ => False⟩
def Txt.own (t : Txt) (x : String) : Bool := t.exs.any fun q => q.1 == x
def Txt.cv (t : Txt) (K : PySem.W.Frag) (x : String) : Value := if t.own x then .ref (He.ga K (Str.ofString x)) else .type x
def bnames : List String := ["len", "tuple", "list", "int", "abs", "max", "min", "sorted", "sum", "str", "bool", "dict", "range", "isinstance"]
/-- the class at C of an exception with its own text -/
def oexB (K : PySem.W.Frag) (C : Addr) : Bool := match K.lookup C with
  | some ⟨.type T, _, .cls cd, sl⟩ => T == "type" && (match cd.mro, sl.toList with
    | .ref C' :: bm, [_, _, _, _, some (.builtin n), _] => C' == C && n == "ValueError.__new__" && !cd.hasDel && cd.hasDict && PySem.HandSPX.refsVE bm
    | _, _ => false)
  | _ => false
theorem oexB_ok {K : PySem.W.Frag} {C : Addr} (h : oexB K C = true) : ∃ nm q N bs bm sn sub ab col dd k0 k1 k2 k3 k5, K.lookup C = some (excClassObj nm q C N bs bm true sn sub ab col dd k0 k1 k2 k3 k5 "ValueError.__new__") ∧ PySem.HandSPX.refsVE bm = true := by
  unfold oexB at h
  split at h
  · rename_i T dd cd sl e
    simp only [Bool.and_eq_true, beq_iff_eq] at h
    obtain ⟨rfl, h⟩ := h
    split at h
    · rename_i C' bm k0 k1 k2 k3 n k5 hm hs -- pv
      simp only [Bool.and_eq_true, beq_iff_eq, Bool.not_eq_true'] at h
      obtain ⟨⟨⟨⟨rfl, rfl⟩, hd⟩, hx⟩, hr⟩ := h
      cases cd with
      | mk nm bs mro ns qn hdct sn sub ab col del =>
        simp only at hm hd hx
        subst hm hd hx
        have : sl = #[k0, k1, k2, k3, some (.builtin "ValueError.__new__"), k5] := by
          cases sl with
          | mk l => simp only at hs; rw [hs]
        subst this
        exact ⟨nm, qn, ns, bs, bm, sn, sub, ab, col, dd, k0, k1, k2, k3, k5, e, hr⟩
    · cases h
  · cases h
def fndB (K : PySem.W.Frag) (C : Addr) (x : Str) (v : Option Value) : Bool := decide (PySem.W.findIn K (.ref C) x = some v)
theorem fndB_ok {K : PySem.W.Frag} {C : Addr} {x : Str} {v : Option Value} (h : fndB K C x v = true) : PySem.W.findIn K (.ref C) x = some v := of_decide_eq_true h
def exB (K : PySem.W.Frag) (C : Addr) (fs : List String) (ini : Bool) : Bool :=
  oexB K C && fndB K C "__setattr__" (some (.builtin "object.__setattr__")) && decide (PySem.W.subIn K (.ref C) (.type "BaseException") = some true) && decide (PySem.W.typeIn K (.ref C) = some (.type "type")) && PySem.W.keepIn K (.ref C) &&
    fndB K C "__getattribute__" (some (.builtin "BaseException.__getattribute__")) && fndB K C "__getattr__" none && PySem.W.hasDictIn K C && fndB K C "__class__" (some (.builtin "object.__class__")) &&
    decide (PySem.W.specialIn K (.builtin "object.__class__") "__get__" = some (some (.builtin "getset_descriptor.__get__"))) && decide (PySem.W.takesIn K (.builtin "object.__class__") = some true) && decide (PySem.W.mroIn K C (.type "object") = some true) &&
    (fs.all fun f => fndB K C (Str.ofString f) none) && (!ini || (fndB K C "__init__" (some (.ref (He.ma K C "__init__"))) && decide (PySem.W.typeIn K (.ref (He.ma K C "__init__")) = some (.type "function"))))
structure ExK (K : PySem.W.Frag) (C : Addr) (fs : List String) (ini : Bool) : Prop where
  oe : OexC K C
  xc : ExcC K C
  xf : ∀ f ∈ fs, XfC K C ∧ PySem.W.findIn K (.ref C) (Str.ofString f) = some none
  ini : ini = true → PySem.W.findIn K (.ref C) "__init__" = some (some (.ref (He.ma K C "__init__"))) ∧ PySem.W.typeIn K (.ref (He.ma K C "__init__")) = some (.type "function")
theorem exB_ok {K : PySem.W.Frag} {C : Addr} {fs : List String} {ini : Bool} (h : exB K C fs ini = true) : ExK K C fs ini := by
  simp only [exB, Bool.and_eq_true, decide_eq_true_eq, List.all_eq_true, Bool.or_eq_true, Bool.not_eq_true'] at h
  obtain ⟨⟨⟨⟨⟨⟨⟨⟨⟨⟨⟨⟨⟨h1, h2⟩, h3⟩, h4⟩, h5⟩, h6⟩, h7⟩, h8⟩, h9⟩, h10⟩, h11⟩, h12⟩, h13⟩, h14⟩ := h
  refine ⟨⟨oexB_ok h1, fndB_ok h2, h3, h4, h5⟩, ⟨fndB_ok h6, fndB_ok h7, h3, h8, fndB_ok h9, h10, h11, h12⟩, fun f hf => ⟨⟨fndB_ok h6, fndB_ok h7, h3, h8⟩, fndB_ok (h13 f hf)⟩, fun hi => ?_⟩
  rcases h14 with q | q
  · rw [hi] at q; cases q
  · exact ⟨fndB_ok q.1, q.2⟩
def Txt.exsB (t : Txt) (K : PySem.W.Frag) : Bool := t.exs.all fun q => exB K (He.ga K (Str.ofString q.1)) q.2.1 q.2.2
def Txt.relB (t : Txt) (K : PySem.W.Frag) : Bool := t.isx.all fun q => decide (PySem.W.kitOne K (.ref ((t.wd K).cls q.2.1)) (t.cv K q.1) = some q.2.2) && decide (PySem.W.exmOne K (.ref ((t.wd K).cls q.2.1)) (t.cv K q.1) = some q.2.2)
def Txt.clsB (t : Txt) (K : PySem.W.Frag) : Bool := t.exsB K && t.relB K
/-- of the text alone -/
def Txt.ok (t : Txt) : Bool := t.isx.all fun q => decide (q.2.1 < t.exs.length) && (t.own q.1 || decide (bootBuiltins (Str.ofString q.1) = some (.type q.1)))
def Txt.fa (t : Txt) : List He.Fa := bnames.map (fun x => He.Fa.free (Str.ofString x)) ++ t.fns.map (fun q => He.Fa.glo (Str.ofString q.1)) ++ t.exs.map (fun q => He.Fa.glo (Str.ofString q.1)) ++ t.con.map (fun q => He.Fa.int (Str.ofString q.1) q.2) ++
  (t.isx.filter fun q => !t.own q.1).map fun q => He.Fa.free (Str.ofString q.1)
def Txt.hook (t : Txt) (n : Nat) (fn : List He.DefD) : PySem.W.Hook where
  α := He.AlD × Bool
  obs := fun s => (fun K => (He.obsD t.fa fn K, t.clsB K)) (He.frG s.heap.get? (He.asD s.heap.get? n))
  val := fun _ => (He.valD fn, true)
  says := fun _ h => ∃ K : PySem.W.Frag, K.In h ∧ He.SaysD t.fa fn K ∧ t.clsB K = true
  of := fun _ _ e => ⟨_, He.frG_in, congrArg (fun z : He.AlD × Bool => z.1) e, congrArg (fun z : He.AlD × Bool => z.2) e⟩
  keeps := fun _ _ _ ⟨K, hK, c⟩ k => ⟨K, PySem.W.Frag.In.keeps hK k, c⟩ -- pv
def Txt.ob (t : Txt) (n : Nat) (fn : List He.DefD) (g : Addr → Option Obj) : He.AlD × Bool := (fun K => (He.obsD t.fa fn K, t.clsB K)) (He.frG g (He.asD g n))
theorem Txt.ob_eq (t : Txt) {n : Nat} {fn : List He.DefD} {g : Addr → Option Obj} {s : Shared} (h : ∀ a, g a = s.heap.get? a) : t.ob n fn g = (t.hook n fn).obs s := by
  have e : g = s.heap.get? := funext h -- pv
  rw [e] <;> rfl
section
variable {t : Txt} {K : PySem.W.Frag} {h : Heap} {mg : Str → Option Value} {fn : List He.DefD}
theorem says_fa (c : He.SaysD t.fa fn K) {f : He.Fa} (hf : f ∈ t.fa) : f.ok K = true := by
  obtain ⟨i, e⟩ := List.getElem?_of_mem hf
  exact c.fact i e
theorem free_of (X : K.In h) (G : h.Ns mainGlobals mg) (c : He.SaysD t.fa fn K) {x : String} (hx : x ∈ bnames) : mg (Str.ofString x) = none := by
  refine He.free_ok X G (says_fa c ?_)
  unfold Txt.fa
  simp only [List.mem_append, List.mem_map]
  exact .inl (.inl (.inl (.inl ⟨x, hx, rfl⟩)))
theorem exs_of (cB : t.clsB K = true) {k : Nat} {q : String × List String × Bool} (e : t.exs[k]? = some q) : ExK K ((t.wd K).cls k) (t.prg.fns k) (t.prg.ini k) := by
  have h1 : t.exsB K = true := by
    unfold Txt.clsB at cB
    exact (Bool.and_eq_true_iff.mp cB).1
  have h2 := List.all_eq_true.mp h1 q (List.mem_of_getElem? e)
  have : ExK K (He.ga K (Str.ofString q.1)) q.2.1 q.2.2 := exB_ok h2
  simp only [Txt.wd, Txt.prg, e]
  exact this
theorem no_pl {b : Bi} (h : b.plain = true ∨ ∃ d, b = .maxd d) (h1 : b.plain = false) (h2 : ∀ d, b ≠ .maxd d) : False := by
  rcases h with h | ⟨d, h⟩
  · rw [h1] at h; cases h
  · exact h2 d h
theorem tx_of (X : K.In h) (G : h.Ns mainGlobals mg) (c : He.SaysD t.fa fn K) (cB : t.clsB K = true) (hok : t.ok = true) : TX t.prg (t.wd K) mg where
  bi := fun b hb => by
    have hm : ∀ x : String, x ∈ bnames → mg (Str.ofString x) = none := fun x hx => free_of X G c hx
    cases b with
    | gcd => exact (no_pl hb rfl fun d q => by cases q).elim
    | repr => exact (no_pl hb rfl fun d q => by cases q).elim
    | any => exact (no_pl hb rfl fun d q => by cases q).elim
    | all => exact (no_pl hb rfl fun d q => by cases q).elim
    | bitlen => exact (no_pl hb rfl fun d q => by cases q).elim
    | index => exact (no_pl hb rfl fun d q => by cases q).elim
    | _ => exact hm _ (by decide)
  ty := fun b hb => by
    have hm : ∀ x : String, x ∈ bnames → mg (Str.ofString x) = none := fun x hx => free_of X G c hx
    cases b with
    | own k => exact absurd hb (by simp [Ty.plain])
    | _ => exact hm _ (by decide)
  rng := free_of X G c (x := "range") (by decide)
  isi := free_of X G c (x := "isinstance") (by decide)
  con := fun x i e => by
    refine He.int_ok X G (says_fa c ?_)
    unfold Txt.fa
    simp only [List.mem_append, List.mem_map]
    refine .inl (.inr ⟨(x, i), ?_, rfl⟩)
    have e : t.con.lookup x = some i := e
    clear hok cB c
    revert e
    induction t.con with
    | nil => intro e; cases e
    | cons q l ih =>
      intro e
      rw [List.lookup_cons] at e
      split at e
      · rename_i hq
        cases e
        rw [beq_iff_eq] at hq
        subst hq
        exact List.mem_cons_self
      · exact List.mem_cons_of_mem _ (ih e)
  isx := ⟨t.cv K, fun x k b e => by
    obtain ⟨q, hq, e2⟩ := List.exists_of_findSome?_eq_some (show (t.isx.findSome? fun q => if q.1 = x ∧ q.2.1 = k then some q.2.2 else none) = some b from e)
    split at e2
    · rename_i hxk
      obtain ⟨rfl, rfl⟩ := hxk
      cases e2
      have h1 := List.all_eq_true.mp hok q hq
      simp only [Bool.and_eq_true, Bool.or_eq_true, decide_eq_true_eq] at h1
      obtain ⟨hlt, hown⟩ := h1
      have h2 : t.relB K = true := by
        unfold Txt.clsB at cB
        exact (Bool.and_eq_true_iff.mp cB).2
      have h3 := List.all_eq_true.mp h2 q hq
      simp only [Bool.and_eq_true, decide_eq_true_eq] at h3 -- pv
      have ex := exs_of cB (List.getElem?_eq_getElem hlt)
      refine ⟨?_, ?_, h3.1, h3.2, ex.xc⟩
      · unfold Txt.cv
        cases ho : t.own q.1 with
        | true =>
          refine .inl ?_
          rw [if_pos rfl]
          refine He.glo_ok X G (says_fa c ?_)
          unfold Txt.fa
          simp only [List.mem_append, List.mem_map]
          obtain ⟨q2, hq2, hq3⟩ := List.any_eq_true.mp ho
          exact .inl (.inl (.inr ⟨q2, hq2, by rw [beq_iff_eq.mp hq3]⟩))
        | false =>
          refine .inr ⟨?_, ?_⟩
          · refine He.free_ok X G (says_fa c ?_)
            unfold Txt.fa
            simp only [List.mem_append, List.mem_map]
            exact .inr ⟨q, List.mem_filter.mpr ⟨hq, by rw [ho]; rfl⟩, rfl⟩
          · rw [if_neg (by simp)]
            rcases hown with h | h
            · rw [ho] at h; cases h
            · exact h
      · unfold Txt.cv
        split
        · exact .inl ⟨_, rfl⟩
        · exact .inr ⟨_, rfl⟩
    · cases e2⟩
  nms := fun k => rfl
  xf := fun k n hn => by
    cases e : t.exs[k]? with
    | none => simp [Txt.prg, e] at hn
    | some q => exact (exs_of cB e).xf n hn
end
end PV
/-! S22: from the words of the text to the law. -/
namespace PV
open PySem L2

abbrev dD (nm : String) (st : Stmt) : He.DefD := ⟨(Str.ofString nm, none), Str.ofString nm, Str.ofString nm, defArgs st, defBody st, defScope st, [], []⟩
abbrev dI (cn : String) (st : Stmt) : He.DefD := ⟨(Str.ofString cn, some "__init__"), "__init__", Str.ofString (cn ++ ".__init__"), defArgs st, defBody st, defScope st, [], []⟩
def scB (N ps : List Str) (sc : Scope) : Bool := (match sc.kind with | .function => true | _ => false) && !sc.isCoroutine && !sc.isGenerator && decide N.Nodup && decide (N.take ps.length = ps) &&
  (ps.all fun x => match sc.names.lookup x with | some .local => true | some .cell => true | _ => false) && sc.names.all fun y => match y.2 with | .free => false | _ => true
theorem scB_ok {N ps : List Str} {sc : Scope} (h : scB N ps sc = true) : FnScope N ps sc := by
  simp only [scB, Bool.and_eq_true, Bool.not_eq_true', decide_eq_true_eq, List.all_eq_true] at h
  obtain ⟨⟨⟨⟨⟨⟨h1, h2⟩, h3⟩, h4⟩, h5⟩, h6⟩, h7⟩ := h -- pv
  refine ⟨?_, h2, h3, h4, h5, fun x hx => ?_, fun y hy e => ?_⟩
  · split at h1
    · assumption
    · cases h1
  · have := h6 x hx
    split at this
    · exact .inl (by assumption)
    · exact .inr (by assumption)
    · cases this
  · have := h7 y hy
    rw [e] at this
    cases this
def BindOk (d : He.DefD) (ps : List Str) : Prop := ∀ (kV doc pm : Value) (an : Option Addr) (cdv ct : Value) (us : List Value), us.length = ps.length → bindArgs (PySem.W.fnOf d.name d.qual d.params d.body d.scope .none kV doc pm an cdv ct) ⟨us, []⟩ = pure (ps.zip us)
def KwOk (d : He.DefD) (ps : List Str) (n : Nat) : Prop := ∀ (kV doc pm : Value) (an : Option Addr) (cdv ct : Value) (us ws : List Value), us.length = n → ws.length = (ps.drop n).length →
  bindArgs (PySem.W.fnOf d.name d.qual d.params d.body d.scope .none kV doc pm an cdv ct) ⟨us, (ps.drop n).zip ws⟩ = pure (ps.zip (us ++ ws))
section
variable {t : Txt} {K : PySem.W.Frag} {h : Heap} {mg : Str → Option Value} {fn : List He.DefD}
theorem glo_fn (X : K.In h) (G : h.Ns mainGlobals mg) (c : He.SaysD t.fa fn K) {i : Nat} {q : String × Fn} (e : t.fns[i]? = some q) : mg (Str.ofString q.1) = some (.ref (He.ga K (Str.ofString q.1))) := by
  refine He.glo_ok X G (says_fa c ?_)
  unfold Txt.fa
  simp only [List.mem_append, List.mem_map]
  exact .inl (.inl (.inl (.inr ⟨q, List.mem_of_getElem? e, rfl⟩)))
theorem glo_ex (X : K.In h) (G : h.Ns mainGlobals mg) (c : He.SaysD t.fa fn K) {i : Nat} {q : String × List String × Bool} (e : t.exs[i]? = some q) : mg (Str.ofString q.1) = some (.ref (He.ga K (Str.ofString q.1))) := by
  refine He.glo_ok X G (says_fa c ?_)
  unfold Txt.fa
  simp only [List.mem_append, List.mem_map]
  exact .inl (.inl (.inr ⟨q, List.mem_of_getElem? e, rfl⟩))
theorem no_dfl {x qual : Str} {params : Arguments} {body : List Stmt} {scope : Scope} {f : Addr} {fd : FuncData} (F : FunD K x qual params body scope [] [] f fd) : ∃ (oc : Value) (od : Option Addr) (kV doc pm : Value) (an : Option Addr) (cdv ct : Value) (osl : Array (Option Value)),
    fd = PySem.W.fnOf x qual params body scope .none kV doc pm an cdv ct ∧ K.lookup f = some ⟨oc, od, .func fd, osl⟩ ∧ PySem.W.codeIn K cdv qual = true := by
  obtain ⟨oc, od, dV, kV, doc, pm, an, cdv, ct, osl, e, lk, hcd, hD, _⟩ := F.ex
  rcases hD with ⟨_, rfl⟩ | ⟨q, _⟩
  · exact ⟨oc, od, kV, doc, pm, an, cdv, ct, osl, e, lk, hcd⟩
  · exact absurd rfl q
theorem defK_of (X : K.In h) (G : h.Ns mainGlobals mg) (c : He.SaysD t.fa fn K) {i m : Nat} {nm : String} {F : Fn} {st : Stmt} (e : t.fns[i]? = some (nm, F)) (hd : fn[m]? = some (dD nm st)) (hm : isSs t.prg F.body (fnME F (defScope st)) (defBody st) = true)
    (hs : scB F.N F.ps (defScope st) = true) (hb : BindOk (dD nm st) F.ps) (hk : ∀ n, t.prg.kw i n = true → KwOk (dD nm st) F.ps n) : DefK t.prg (t.wd K) mg i F := by
  obtain ⟨fd, FD⟩ := c.def_ m hd
  obtain ⟨oc, od, kV, doc, pm, an, cdv, ct, osl, rfl, lk, hcd⟩ := no_dfl FD
  refine ⟨_, _, _, _, _, _, _, _, _, _, _, _, _, _, _, _, lk, hcd, scB_ok hs, hm, ?_, FD.kp, .all (hb kV doc pm an cdv ct), fun n hn => ⟨fun s us ws _ h1 h2 => .of_eq (hk n hn kV doc pm an cdv ct us ws h1 h2), fun r1 r2 => r1.append r2⟩⟩
  have := glo_fn X G c e
  simp only [Txt.prg, e]
  exact this
/-- an __init__ of one field -/
theorem iniK1 {prog : Program} {wo : World} {base : Heap} (X : K.In h) (G : h.Ns mainGlobals mg) (c : He.SaysD t.fa fn K) (cB : t.clsB K = true) {k m : Nat} {cn : String} {f : String} {st : Stmt} {s x : Str} {p1 p2 p3 p4 : Pos} (e : t.exs[k]? = some (cn, [f], true)) (hd : fn[m]? = some (dI cn st))
    (hbd : defBody st = [.Assign [.Attribute (.Name s p1) (Str.ofString f) p2] (.Name x p3) p4]) (hs : scB [s, x] [s, x] (defScope st) = true) (hd1 : (s == ("__debug__" : Str)) = false) (hd2 : (s == ("__classdict__" : Str)) = false) (hd3 : (x == ("__debug__" : Str)) = false) (hd4 : (x == ("__classdict__" : Str)) = false)
    (hb : BindOk (dI cn st) [s, x]) : IniK (t.wd K) prog wo mg base t.prg k := by
  obtain ⟨fd, FD⟩ := c.def_ m hd
  have ek := exs_of cB e
  have hini : t.prg.ini k = true := by simp only [Txt.prg, e]
  have hcl : (t.wd K).cls k = He.ga K (Str.ofString cn) := by simp only [Txt.wd, Txt.prg, e]
  have hfs : t.prg.fns k = [f] := by simp only [Txt.prg, e]
  obtain ⟨i1, i2⟩ := ek.ini hini
  have S := scB_ok hs
  have FD2 := FD
  obtain ⟨oc, od, kV, doc, pm, an, cdv, ct, osl, rfl, lk, hcd⟩ := no_dfl FD
  have hAd : He.fAd K (dI cn st).at_ = He.ma K ((t.wd K).cls k) "__init__" := by rw [hcl]; rfl
  refine ⟨He.ma K ((t.wd K).cls k) "__init__", _, [s, x], ek.oe, i1, i2, .all (hb kV doc pm an cdv ct), ?_, fun j => ?_⟩
  · have := glo_ex X G c e
    rw [hcl]
    simp only [Txt.prg, e]
    exact this
  · rw [← hAd]
    refine FD2.ok S (fun vs H Q E ⟨a, us, e1, e2, _⟩ => ?_) fun cdv A outer sh H vs Q E hr ⟨a, us, e1, e2, e3, e4⟩ => ?_
    · rw [e1]
      simp only [Txt.wd, hfs, List.map_cons, List.map_nil, List.length_cons, List.length_nil] at e2
      simp [e2]
    · simp only [Txt.wd, hfs, List.map_cons, List.map_nil, List.length_cons, List.length_nil] at e2
      match us, e2 with
      | [u], _ =>
        have vis : ∀ y ∈ [s, x], Vis (defScope st) y := fun y hy => by
          rcases S.par y hy with q | q
          · exact .inl q
          · exact .inr (.inl q)
        rw [show (dI cn st).body = _ from hbd]
        subst e1
        refine ⟨_, pss_one (ps_ost (pe_var (i := 0) rfl (vis s (by simp)) hd1 hd2) (pe_var (i := 1) rfl (vis x (by simp)) hd3 hd4)), ?_⟩
        refine ⟨u, rfl, .ref a, rfl, a, (t.wd K).cls k, rfl, ek.oe, (ek.xf f (by rw [hfs]; simp)).2, .inl ⟨e3, fun dx h1 h2 => ?_⟩⟩
        refine e4 _ dx _ h1 h2 upd_same (by rw [upd_ne h2, upd_same]) ?_ fun b hb1 hb2 => by rw [upd_ne hb1, upd_ne hb2]
        simp only [Txt.wd, hfs, List.map_cons, List.map_nil]
        exact ⟨by simp [List.lookup], trivial⟩
end
/-- the law's call, its promise kept in every world -/
theorem walk_pv {l : PySem.W.OpenLaw} {n k : Nat} {q : Program} {loose : List Str} {XP : (Str → Option Value) → Heap → Prop} {YP : World → Heap → Prop} {d : DefRec} {x : Str} (hn : l.most = some n) (hn2 : n ≤ sizeLine) (hdf : d.params.defaults = []) (hr : Room k callerA)
    (F : ∀ (w : World) (mg : Str → Option Value) (fa : Addr) (h : Heap), YP w h → h.Ns mainGlobals mg → mg d.name = some (.ref fa) → ∃ (K : PySem.W.Frag) (fd : FuncData) (sp : Sp), K.In h ∧ (∀ (s : Shared) (u : Value), BindsTo s fd ⟨[u], []⟩ [(x, u)]) ∧
      (∀ (H : Hp) (a : Addr) (ns : List Int), ns.length ≤ n → Only H → SqL K H a (ns.map V.int) → sp [.ref a] H (fun v _ => v = .bl true) fun _ _ _ => False) ∧ ∀ base : Heap, K.In base → base.Ns mainGlobals mg → FnOk l.prog w K mg base (L2.CX l.prog w) k fa fd [x] sp) :
    PySem.W.WalkO q loose XP YP l.row.toRowW d [] (fun f vs => PySem.call f vs) := by -- pv
  refine Att.attach_call hn hdf fun w s0 s1 mg mb fa o pm cd doc a vs ns G Y ho hd hcd hmg hobj hints hlen hg => ?_
  obtain ⟨K, fd, sp, KX, hb, hsp, hF⟩ := F w mg fa _ Y G.T.g hmg -- pv
  exact law_call KX G.T.g G.T.b G.T.builtins G.T.nolimit hg hobj hints (Nat.le_trans hlen hn2) hr hF hb (fun H hO hS => hsp H a ns hlen hO hS) fun H e s' ⟨_, _, _, _, _, _, _, _, _, _, _, _, z⟩ => z
/-- what the law's def promises -/
theorem law_sp {P : Prg} {w : Wd} {f j : Nat} {H : Hp} {a : Addr} {ns : List Int} (hO : Only H) (hS : SqL w.K H a (ns.map V.int)) (run : P.run j f [.scr ns] [] = .ok (.bl true) []) : spF w 1 (P.run j f) [.ref a] H (fun v _ => v = .bl true) fun _ _ _ => False := by
  refine ⟨[], fun _ => False, [], [.scr ns], ⟨rfl, List.nodup_nil, fun a h => (by cases h), fun a h => False.elim h, fun l a o h => (by simp at h), fun o h => (by cases h)⟩, ⟨⟨a, rfl, ?_⟩, trivial⟩, rfl, ?_⟩
  · rcases hS with (q | ⟨o, q⟩) | q
    · rcases hO a with z | ⟨o, xs, z⟩
      · rw [z] at q; cases q
      · rw [z] at q; cases q
    · exact .inl ⟨o, q⟩
    · exact .inr q
  · rw [run]
    exact fun μ' H' _ _ v r => r
theorem law_F {t : Txt} {fn : List He.DefD} {w : World} {prog : Program} {K : PySem.W.Frag} {h : Heap} {mg : Str → Option Value} (X : K.In h) (G : h.Ns mainGlobals mg) (c : He.SaysD t.fa fn K) (cB : t.clsB K = true) (hok : t.ok = true)
    (defs : ∀ f F, t.prg.fn f = some F → DefK t.prg (t.wd K) mg f F) (inis : ∀ base k, t.prg.ini k = true → IniK (t.wd K) prog w mg base t.prg k) {i j : Nat} {F : Fn} {st : Stmt} (e : t.fns[i]? = some ("law", F)) (hd : fn[i]? = some (dD "law" st))
    (hm : isSs t.prg F.body (fnME F (defScope st)) (defBody st) = true) (hs : scB F.N F.ps (defScope st) = true) (hb : BindOk (dD "law" st) F.ps) (hp : F.ps = [("script" : Str)]) (run : ∀ ns : List Int, ns.length ≤ 63 → t.prg.run (j + 1) i [.scr ns] [] = .ok (.bl true) [])
    {fa : Addr} (hmg : mg ("law" : Str) = some (.ref fa)) : ∃ (K : PySem.W.Frag) (fd : FuncData) (sp : Sp), K.In h ∧ (∀ (s : Shared) (u : Value), BindsTo s fd ⟨[u], []⟩ [(("script" : Str), u)]) ∧
      (∀ (H : Hp) (a : Addr) (ns : List Int), ns.length ≤ 63 → Only H → SqL K H a (ns.map V.int) → sp [.ref a] H (fun v _ => v = .bl true) fun _ _ _ => False) ∧ ∀ base : Heap, K.In base → base.Ns mainGlobals mg → FnOk prog w K mg base (L2.CX prog w) (j + 1 + 2) fa fd ["script"] sp := by
  obtain ⟨fd, FD⟩ := c.def_ i hd
  have FD2 := FD
  obtain ⟨oc, od, kV, doc, pm, an, cdv, ct, osl, efd, lk, hcd⟩ := no_dfl FD
  have hfa : fa = He.ga K ("law" : Str) := by
    have := (glo_fn X G c e).symm.trans hmg
    injection this with this
    injection this with this
    exact this.symm
  subst hfa
  refine ⟨K, fd, spF (t.wd K) 1 (t.prg.run (j + 1) i), X, fun s u => ?_, fun H a ns hl hO hS => law_sp hO hS (run ns hl), fun base _ _ => ?_⟩
  · subst efd
    have := hb kV doc pm an cdv ct [u] (by rw [hp]; rfl)
    rw [hp] at this
    exact .of_eq this
  · subst efd
    have tx := tx_of X G c cB hok
    have nx : ∀ a c d, ¬ (t.wd K).xo a c d := fun _ _ _ => id
    have fx := fx_all (prog := prog) (wo := w) (base := base) tx nx defs (inis base) j
    have hF : t.prg.fn i = some F := by simp only [Txt.prg, e, Option.map_some]
    have := fn_step tx nx fx hF (dV := .none) lk hcd (scB_ok hs) hm
    rw [hp] at this
    exact this
end PV
/-! D1: the draw: what it yields. -/
namespace PV
def dr0 : St := (.ife (.cmp .lt (.ex (.var 1)) (.ex (.cst (.int 2)))) (.cons (.set 1 (.cst (.int 1))) .nil) .nil)
def dr1 : St := (.ife (.and (.cmp .eq (.ex (.idx (.ex (.var 0)) (.cst (.int 3)))) (.ex (.cst (.int 0)))) (.cmp .lt (.ex (.idx (.ex (.var 0)) (.cst (.int 1)))) (.ex (.bi .len (.cons (.ex (.idx (.ex (.var 0)) (.cst (.int 0)))) .nil))))) (.cons (.set 2 (.bi .abs (.cons (.ex (.bi .int (.cons (.ex (.idx (.ex (.idx (.ex (.var 0)) (.cst (.int 0)))) (.idx (.ex (.var 0)) (.cst (.int 1))))) .nil))) .nil))) (.cons (.bix (.var 0) (.cst (.int 1)) (.bin .add (.ex (.idx (.ex (.var 0)) (.cst (.int 1)))) (.ex (.cst (.int 1))))) (.cons (.bix (.var 0) (.cst (.int 3)) (.cst (.int 4))) (.cons (.ife (.cmp .ge (.ex (.var 2)) (.ex (.bin .pow (.ex (.cst (.int 10))) (.ex (.cst (.int 18)))))) (.cons (.bix (.var 0) (.cst (.int 2)) (.var 2)) (.cons (.bix (.var 0) (.cst (.int 3)) (.cst (.int 60))) .nil)) (.cons (.bix (.var 0) (.cst (.int 4)) (.bin .mod (.ex (.bi .int (.cons (.ex (.bin .add (.ex (.bin .add (.ex (.bin .mul (.ex (.idx (.ex (.var 0)) (.cst (.int 4)))) (.ex (.cst (.int 48271))))) (.ex (.var 2)))) (.ex (.idx (.ex (.var 0)) (.cst (.int 1)))))) .nil))) (.ex (.cst (.int 2147483647))))) .nil)) .nil)))) .nil)
def dr2 : St := (.ife (.cmp .gt (.ex (.idx (.ex (.var 0)) (.cst (.int 2)))) (.ex (.cst (.int 0)))) (.cons (.set 3 (.bin .mod (.ex (.bi .int (.cons (.ex (.idx (.ex (.var 0)) (.cst (.int 2)))) .nil))) (.ex (.var 1)))) (.cons (.bix (.var 0) (.cst (.int 2)) (.bin .fdiv (.ex (.idx (.ex (.var 0)) (.cst (.int 2)))) (.ex (.var 1)))) (.cons (.bix (.var 0) (.cst (.int 3)) (.bin .sub (.ex (.idx (.ex (.var 0)) (.cst (.int 3)))) (.ex (.cst (.int 1))))) (.cons (.ife (.or (.cmp .eq (.ex (.idx (.ex (.var 0)) (.cst (.int 2)))) (.ex (.cst (.int 0)))) (.cmp .eq (.ex (.idx (.ex (.var 0)) (.cst (.int 3)))) (.ex (.cst (.int 0))))) (.cons (.bix (.var 0) (.cst (.int 2)) (.cst (.int 0))) (.cons (.bix (.var 0) (.cst (.int 3)) (.cst (.int 0))) .nil)) .nil) (.cons (.ret (.var 3)) .nil))))) .nil)
def dr3 : St := (.bix (.var 0) (.cst (.int 3)) (.bi .max2 (.cons (.ex (.cst (.int 0))) (.cons (.ex (.bin .sub (.ex (.idx (.ex (.var 0)) (.cst (.int 3)))) (.ex (.cst (.int 1))))) .nil))))
def dr4 : St := (.bix (.var 0) (.cst (.int 4)) (.bin .mod (.ex (.bi .int (.cons (.ex (.bin .add (.ex (.bin .mul (.ex (.idx (.ex (.var 0)) (.cst (.int 4)))) (.ex (.cst (.int 48271))))) (.ex (.cst (.int 12345))))) .nil))) (.ex (.cst (.int 2147483647)))))
def dr5 : St := (.ret (.bin .mod (.ex (.bi .int (.cons (.ex (.bin .mod (.ex (.bi .int (.cons (.ex (.bin .add (.ex (.bin .mul (.ex (.idx (.ex (.var 0)) (.cst (.int 4)))) (.ex (.cst (.int 40692))))) (.ex (.cst (.int 3791))))) .nil))) (.ex (.cst (.int 2147483399))))) .nil))) (.ex (.var 1))))
def b_draw : Sts := (.cons dr0 (.cons dr1 (.cons dr2 (.cons dr3 (.cons dr4 (.cons dr5 .nil))))))
/-- the box of a state -/
def stO (sc : List Int) (a b c d : Int) : Ob := .lst [.lst (sc.map D.int), .int a, .int b, .int c, .int d]
theorem vw_ref {h : Hs} {l : Nat} {xs : List D} (e : h[l]? = some (.lst xs)) : vw h (.ref l) = .lst xs := by simp [vw, e]
theorem vw_int {h : Hs} {i : Int} : vw h (.int i) = .int i := rfl
theorem vw_lst {h : Hs} {xs : List D} : vw h (.lst xs) = .lst xs := rfl
theorem vw_tup {h : Hs} {xs : List D} : vw h (.tup xs) = .tup xs := rfl
theorem set_set {h : Hs} {l : Nat} {x y : Ob} : (h.set l x).set l y = h.set l y := by simp
theorem get_set {h : Hs} {l : Nat} {x y : Ob} (e : h[l]? = some x) : (h.set l y)[l]? = some y := List.getElem?_set_self (List.getElem?_eq_some_iff.mp e).1
section
variable {c : Sig} {h : Hs} {l : Nat} {sc : List Int} {a b k d lim : Int} {x y : Sl}
theorem dr0_ok : exS c dr0 [.val (.ref l), .val (.int lim), x, y] h = .ok (.nx [.val (.ref l), .val (.int (if lim < 2 then 1 else lim)), x, y]) h := by
  simp only [dr0, exS, evT, evR, evE, slotD, ofO, Rs.bind_ok, vw_int, Cst.d, cmpD, ltD, lft_ok]
  by_cases hl : lim < 2
  · simp [hl, evT, evR, evE, slotD, ofO, vw, cmpD, ltD, exSs, exS, putS, nxO, lft, Cst.d]
  · simp [hl, evT, evR, evE, slotD, ofO, vw, cmpD, ltD, exSs, exS, putS, nxO, lft, Cst.d]
theorem idx_st {m : Nat} {v : D} (e : h[l]? = some (stO sc a b k d)) (hm : [D.lst (sc.map D.int), .int a, .int b, .int k, .int d][m]? = some v) {ρ : Ev} (hr : slotD 0 ρ = some (.ref l)) :
    evE c (.idx (.ex (.var 0)) (.cst (.int m))) ρ h = .ok v h := by
  have hm5 : m < 5 := (List.getElem?_eq_some_iff.mp hm).1
  have e2 : ixN 5 (m : Int) = some m := by
    unfold ixN
    rw [if_pos (by omega), if_pos (by omega)] -- pv
    rfl
  simp only [evE, evR, hr, ofO_some, Rs.bind_ok, vw_ref e, Cst.d, idxD, atI, List.length_cons, List.length_nil, Nat.zero_add, Nat.reduceAdd, e2, Option.bind_some, hm]
theorem bix_st {m : Nat} {v : D} {ex : Ex} {xs : List D} {ρ : Ev} (hv : evE c ex ρ h = .ok v h) (hp : v.pure = true) (e : h[l]? = some (.lst xs)) (hm : m < xs.length) (hr : slotD 0 ρ = some (.ref l)) :
    exS c (.bix (.var 0) (.cst (.int m)) ex) ρ h = .ok (.nx ρ) (h.set l (.lst (xs.set m v))) := by
  have e2 : ixN xs.length (m : Int) = some m := by
    unfold ixN
    rw [if_pos (by omega), if_pos (by omega)] -- pv
    rfl
  simp only [exS, hv, lft_ok, evE, hr, ofO_some, Cst.d, e, setL, e2, Option.map_some, hp, if_true]
end
theorem set_same {h : Hs} {l : Nat} {x : Ob} (e : h[l]? = some x) : h.set l x = h := by
  obtain ⟨hl, rfl⟩ := List.getElem?_eq_some_iff.mp e
  simp
theorem eq_int (i j : Int) : cmpD .eq (.int i) (.int j) = some (i == j) := by
  simp [cmpD, D.cmpOk, D.flat, D.dep, D.eqv]
section
variable {c : Sig} {h : Hs} {l : Nat} {sc : List Int} {a b k d lim : Int} {x y : Sl} {ρ : Ev}
theorem st0 (e : h[l]? = some (stO sc a b k d)) (hr : slotD 0 ρ = some (.ref l)) : evE c (.idx (.ex (.var 0)) (.cst (.int 0))) ρ h = .ok (.lst (sc.map D.int)) h := idx_st (m := 0) e rfl hr
theorem st1 (e : h[l]? = some (stO sc a b k d)) (hr : slotD 0 ρ = some (.ref l)) : evE c (.idx (.ex (.var 0)) (.cst (.int 1))) ρ h = .ok (.int a) h := idx_st (m := 1) e rfl hr
theorem st2 (e : h[l]? = some (stO sc a b k d)) (hr : slotD 0 ρ = some (.ref l)) : evE c (.idx (.ex (.var 0)) (.cst (.int 2))) ρ h = .ok (.int b) h := idx_st (m := 2) e rfl hr
theorem st3 (e : h[l]? = some (stO sc a b k d)) (hr : slotD 0 ρ = some (.ref l)) : evE c (.idx (.ex (.var 0)) (.cst (.int 3))) ρ h = .ok (.int k) h := idx_st (m := 3) e rfl hr
theorem st4 (e : h[l]? = some (stO sc a b k d)) (hr : slotD 0 ρ = some (.ref l)) : evE c (.idx (.ex (.var 0)) (.cst (.int 4))) ρ h = .ok (.int d) h := idx_st (m := 4) e rfl hr
theorem wr1 {ex : Ex} {v : Int} (e : h[l]? = some (stO sc a b k d)) (hr : slotD 0 ρ = some (.ref l)) (hv : evE c ex ρ h = .ok (.int v) h) : exS c (.bix (.var 0) (.cst (.int 1)) ex) ρ h = .ok (.nx ρ) (h.set l (stO sc v b k d)) := bix_st (m := 1) hv rfl e (by simp) hr
theorem wr2 {ex : Ex} {v : Int} (e : h[l]? = some (stO sc a b k d)) (hr : slotD 0 ρ = some (.ref l)) (hv : evE c ex ρ h = .ok (.int v) h) : exS c (.bix (.var 0) (.cst (.int 2)) ex) ρ h = .ok (.nx ρ) (h.set l (stO sc a v k d)) := bix_st (m := 2) hv rfl e (by simp) hr
theorem wr3 {ex : Ex} {v : Int} (e : h[l]? = some (stO sc a b k d)) (hr : slotD 0 ρ = some (.ref l)) (hv : evE c ex ρ h = .ok (.int v) h) : exS c (.bix (.var 0) (.cst (.int 3)) ex) ρ h = .ok (.nx ρ) (h.set l (stO sc a b v d)) := bix_st (m := 3) hv rfl e (by simp) hr
theorem wr4 {ex : Ex} {v : Int} (e : h[l]? = some (stO sc a b k d)) (hr : slotD 0 ρ = some (.ref l)) (hv : evE c ex ρ h = .ok (.int v) h) : exS c (.bix (.var 0) (.cst (.int 4)) ex) ρ h = .ok (.nx ρ) (h.set l (stO sc a b k v)) := bix_st (m := 4) hv rfl e (by simp) hr
/-! operators on whole numbers -/
theorem e_bin {op : BOp} {p q : Ex} {i j r : Int} (hp : evE c p ρ h = .ok (.int i) h) (hq : evE c q ρ h = .ok (.int j) h) (hr : binI op i j = some r) : evE c (.bin op (.ex p) (.ex q)) ρ h = .ok (.int r) h := by
  simp only [evE, evR, hp, hq, Rs.bind_ok, vw_int]
  have : binD op (.int i) (.int j) = some (.int r) := by simp [binD, hr]
  rw [this]; rfl
theorem e_int {p : Ex} {i : Int} (hp : evE c p ρ h = .ok (.int i) h) : evE c (.bi .int (.cons (.ex p) .nil)) ρ h = .ok (.int i) h := by
  simp only [evE, evRs, evR, hp, Rs.bind_ok, List.map_cons, List.map_nil, vw_int, biD, ofO_some]
theorem e_abs {p : Ex} {i : Int} (hp : evE c p ρ h = .ok (.int i) h) : evE c (.bi .abs (.cons (.ex p) .nil)) ρ h = .ok (.int (if i < 0 then -i else i)) h := by
  simp only [evE, evRs, evR, hp, Rs.bind_ok, List.map_cons, List.map_nil, vw_int, biD, ofO_some]
theorem e_max2 {p q : Ex} {i j : Int} (hp : evE c p ρ h = .ok (.int i) h) (hq : evE c q ρ h = .ok (.int j) h) : evE c (.bi .max2 (.cons (.ex p) (.cons (.ex q) .nil))) ρ h = .ok (.int (if j > i then j else i)) h := by
  simp only [evE, evRs, evR, hp, hq, Rs.bind_ok, List.map_cons, List.map_nil, vw_int, biD, ofO_some]
theorem e_cst {k : Cst} : evE c (.cst k) ρ h = .ok k.d h := by simp [evE]
theorem e_var {i : Nat} {v : D} (hv : slotD i ρ = some v) : evE c (.var i) ρ h = .ok v h := by simp [evE, hv]
theorem t_cmp {op : COp} {p q : Ex} {u v : D} {r : Bool} {h1 h2 : Hs} (hp : evE c p ρ h = .ok u h1) (hq : evE c q ρ h1 = .ok v h2) (hr : cmpD op (vw h2 u) (vw h2 v) = some r) : evT c (.cmp op (.ex p) (.ex q)) ρ h = .ok r h2 := by
  simp only [evT, evR, hp, hq, Rs.bind_ok, hr, ofO_some]
theorem v_cmp {op : COp} {p q : Ex} {u v : D} {r : Bool} {h1 h2 : Hs} (hp : evE c p ρ h = .ok u h1) (hq : evE c q ρ h1 = .ok v h2) (hr : cmpD op (vw h2 u) (vw h2 v) = some r) : evE c (.cmp op (.ex p) (.ex q)) ρ h = .ok (.bl r) h2 := by
  simp only [evE, evR, hp, hq, Rs.bind_ok, hr, Option.map_some, ofO_some]
theorem t_and {p q : Ex} {r1 : Bool} {h1 : Hs} (hp : evT c p ρ h = .ok r1 h1) : evT c (.and p q) ρ h = if r1 then evT c q ρ h1 else .ok false h1 := by
  simp only [evT, hp, Rs.bind_ok]
theorem t_or {p q : Ex} {r1 : Bool} {h1 : Hs} (hp : evT c p ρ h = .ok r1 h1) : evT c (.or p q) ρ h = if r1 then .ok true h1 else evT c q ρ h1 := by
  simp only [evT, hp, Rs.bind_ok]
theorem x_ife {t : Ex} {p q : Sts} {r : Bool} {h1 : Hs} (ht : evT c t ρ h = .ok r h1) : exS c (.ife t p q) ρ h = if r then exSs c p ρ h1 else exSs c q ρ h1 := by
  simp only [exS, ht, lft_ok]
theorem x_cons {s : St} {r : Sts} {ρ1 : Ev} {h1 : Hs} (hs : exS c s ρ h = .ok (.nx ρ1) h1) : exSs c (.cons s r) ρ h = exSs c r ρ1 h1 := by
  simp only [exSs, hs, Rs.bind_ok]
theorem x_set {i : Nat} {e : Ex} {v : D} {h1 : Hs} (he : evE c e ρ h = .ok v h1) (hi : i < ρ.length) : exS c (.set i e) ρ h = .ok (.nx (ρ.set i (.val v))) h1 := by
  simp only [exS, he, lft_ok, putS, if_pos hi, nxO]
theorem x_ret {e : Ex} {v : D} {h1 : Hs} {r : Sts} (he : evE c e ρ h = .ok v h1) : exSs c (.cons (.ret e) r) ρ h = .ok (.ret v) h1 := by
  simp only [exSs, exS, he, lft_ok, Rs.bind_ok]
end
theorem x_nil {c : Sig} {ρ : Ev} {h : Hs} : exSs c .nil ρ h = .ok (.nx ρ) h := by simp [exSs]
theorem mul_ok {i j : Int} (h : j.natAbs < 2 ^ 64) : binI .mul i j = some (i * j) := by
  have hm : mulOk i j = true := by simp [mulOk, h]
  simp [binI, hm]
theorem mod_ok {i j : Int} (h : 0 < j) : binI .mod i j = some (i % j) := by simp [binI, h]
theorem fdiv_ok {i j : Int} (h : 0 < j) (h2 : j.natAbs.log2 < 9000) : binI .fdiv i j = some (i / j) := by simp [binI, divOk, h, h2]
section
variable {c : Sig} {h : Hs} {l : Nat} {sc : List Int} {a b k d lim : Int} {x y : Sl} {ρ : Ev}
theorem dr1_ok (e : h[l]? = some (stO sc a b k d)) (ha : 0 ≤ a) : ∃ x' a' b' k' d', 0 ≤ a' ∧ exS c dr1 [.val (.ref l), .val (.int lim), x, y] h = .ok (.nx [.val (.ref l), .val (.int lim), x', y]) (h.set l (stO sc a' b' k' d')) := by
  have hr : ∀ z, slotD 0 [.val (.ref l), .val (.int lim), z, y] = some (.ref l) := fun z => rfl
  have c0 : ∀ {k : Int} {ρ : Ev} {h : Hs}, evE c (.cst (.int k)) ρ h = .ok (.int k) h := fun {k ρ h} => e_cst
  have t1 : evT c (.cmp .eq (.ex (.idx (.ex (.var 0)) (.cst (.int 3)))) (.ex (.cst (.int 0)))) [.val (.ref l), .val (.int lim), x, y] h = .ok (k == 0) h := t_cmp (st3 e (hr x)) c0 (eq_int k 0)
  have hlen : evE c (.bi .len (.cons (.ex (.idx (.ex (.var 0)) (.cst (.int 0)))) .nil)) [.val (.ref l), .val (.int lim), x, y] h = .ok (.int sc.length) h := by
    have s := st0 (c := c) e (hr x)
    simp only [evE, evRs, evR] at s ⊢
    rw [s]
    simp [vw, biD, lenD, ofO]
  have t2 : evT c (.cmp .lt (.ex (.idx (.ex (.var 0)) (.cst (.int 1)))) (.ex (.bi .len (.cons (.ex (.idx (.ex (.var 0)) (.cst (.int 0)))) .nil)))) [.val (.ref l), .val (.int lim), x, y] h = .ok (decide (a < sc.length)) h :=
    t_cmp (st1 e (hr x)) hlen rfl
  unfold dr1
  rw [x_ife ((t_and t1).trans (by rw [t2]; cases (k == 0) <;> rfl : _ = Rs.ok ((k == 0) && decide (a < sc.length)) h))]
  cases hc : ((k == 0) && decide (a < sc.length)) with
  | false =>
    refine ⟨x, a, b, k, d, ha, ?_⟩
    simp only [Bool.false_eq_true, if_false] -- pv
    rw [x_nil, set_same e]
  | true =>
    simp only [Bool.and_eq_true, beq_iff_eq, decide_eq_true_eq] at hc
    simp only [if_true]
    obtain ⟨rfl, hlt⟩ := hc
    have hin : a.toNat < sc.length := by omega
    have hz : sc[a.toNat]? = some sc[a.toNat] := List.getElem?_eq_getElem hin
    generalize sc[a.toNat] = z at hz
    have hcell : evE c (.idx (.ex (.idx (.ex (.var 0)) (.cst (.int 0)))) (.idx (.ex (.var 0)) (.cst (.int 1)))) [.val (.ref l), .val (.int lim), x, y] h = .ok (.int z) h := by
      have s0 := st0 (c := c) e (hr x)
      have s1 := st1 (c := c) e (hr x)
      rw [evE, evR, s0, Rs.bind_ok, s1, Rs.bind_ok, vw_lst]
      have e2 : ixN sc.length a = some a.toNat := by
        unfold ixN
        rw [if_pos ha, if_pos hlt]
      simp [idxD, atI, e2, hz, ofO]
    rw [x_cons (x_set (e_abs (e_int hcell)) (by simp))]
    generalize (if z < 0 then -z else z) = v
    have hr2 : slotD 0 ([.val (.ref l), .val (.int lim), x, y].set 2 (.val (.int v))) = some (.ref l) := rfl
    have hv2 : slotD 2 ([.val (.ref l), .val (.int lim), x, y].set 2 (.val (.int v))) = some (.int v) := rfl
    have e3 : ([.val (.ref l), .val (.int lim), x, y] : Ev).set 2 (.val (.int v)) = [.val (.ref l), .val (.int lim), .val (.int v), y] := rfl
    rw [e3] at hr2 hv2 ⊢
    rw [x_cons (wr1 e hr2 (e_bin (st1 e hr2) c0 rfl))]
    have f1 := get_set (y := stO sc (a + 1) b 0 d) e
    rw [x_cons (wr3 f1 hr2 c0), set_set]
    have f2 := get_set (y := stO sc (a + 1) b 4 d) e
    have t3 : evT c (.cmp .ge (.ex (.var 2)) (.ex (.bin .pow (.ex (.cst (.int 10))) (.ex (.cst (.int 18)))))) [.val (.ref l), .val (.int lim), .val (.int v), y] (h.set l (stO sc (a + 1) b 4 d)) = .ok (!decide (v < 10 ^ 18)) (h.set l (stO sc (a + 1) b 4 d)) :=
      t_cmp (e_var hv2) (e_bin c0 c0 (by decide +kernel : binI .pow 10 18 = some (10 ^ 18))) rfl
    cases hb : (!decide (v < 10 ^ 18)) with
    | true =>
      rw [hb] at t3
      rw [x_cons (ρ1 := [.val (.ref l), .val (.int lim), .val (.int v), y]) (h1 := h.set l (stO sc (a + 1) v 60 d)) ?_, x_nil]
      · exact ⟨_, a + 1, v, 60, d, by omega, rfl⟩
      · rw [x_ife t3, if_pos rfl, x_cons (wr2 f2 hr2 (e_var hv2)), set_set]
        have f3 := get_set (y := stO sc (a + 1) v 4 d) e
        rw [x_cons (wr3 f3 hr2 c0), set_set, x_nil]
    | false =>
      rw [hb] at t3
      rw [x_cons (ρ1 := [.val (.ref l), .val (.int lim), .val (.int v), y]) (h1 := h.set l (stO sc (a + 1) b 4 ((d * 48271 + v + (a + 1)) % 2147483647))) ?_, x_nil]
      · exact ⟨_, a + 1, b, 4, _, by omega, rfl⟩
      · rw [x_ife t3, if_neg (by simp), x_cons (wr4 f2 hr2 (e_bin (e_int (e_bin (e_bin (e_bin (st4 f2 hr2) c0 (mul_ok (by decide))) (e_var hv2) rfl) (st1 f2 hr2) rfl)) c0 (mod_ok (by decide)))), set_set, x_nil]
/-- the draw from what is left of a wide cell -/
theorem dr2_ok (e : h[l]? = some (stO sc a b k d)) (hl : 1 ≤ lim) (hl2 : lim ≤ 2 ^ 64) : ∃ b' k', (exS c dr2 [.val (.ref l), .val (.int lim), x, y] h = .ok (.nx [.val (.ref l), .val (.int lim), x, y]) h) ∨
    ∃ r, 0 ≤ r ∧ r < lim ∧ exS c dr2 [.val (.ref l), .val (.int lim), x, y] h = .ok (.ret (.int r)) (h.set l (stO sc a b' k' d)) := by
  have hr : slotD 0 [.val (.ref l), .val (.int lim), x, y] = some (.ref l) := rfl
  have c0 : ∀ {k : Int} {ρ : Ev} {h : Hs}, evE c (.cst (.int k)) ρ h = .ok (.int k) h := fun {k ρ h} => e_cst
  have t1 : evT c (.cmp .gt (.ex (.idx (.ex (.var 0)) (.cst (.int 2)))) (.ex (.cst (.int 0)))) [.val (.ref l), .val (.int lim), x, y] h = .ok (decide (0 < b)) h := t_cmp (st2 e hr) c0 rfl
  unfold dr2
  rw [x_ife t1]
  by_cases hb : 0 < b
  · rw [decide_eq_true hb, if_pos rfl]
    have hlog : lim.natAbs.log2 < 9000 := by
      have h1 : lim.natAbs ≤ 2 ^ 64 := by omega
      have h2 : lim.natAbs.log2 ≤ 64 := by
        rcases Nat.eq_or_lt_of_le h1 with q | q
        · rw [q, Nat.log2_two_pow]; exact Nat.le_refl _
        · exact Nat.le_of_lt ((Nat.log2_lt (by omega)).mpr q)
      omega
    rw [x_cons (x_set (e_bin (e_int (st2 e hr)) (e_var rfl) (mod_ok (by omega))) (by simp))]
    generalize hrr : b % lim = r
    have hr0 : 0 ≤ r := by rw [← hrr]; exact Int.emod_nonneg _ (by omega)
    have hr1 : r < lim := by rw [← hrr]; exact Int.emod_lt_of_pos _ (by omega)
    have e3 : ([.val (.ref l), .val (.int lim), x, y] : Ev).set 3 (.val (.int r)) = [.val (.ref l), .val (.int lim), x, .val (.int r)] := rfl
    rw [e3]
    have hr2 : slotD 0 [.val (.ref l), .val (.int lim), x, .val (.int r)] = some (.ref l) := rfl
    rw [x_cons (wr2 e hr2 (e_bin (st2 e hr2) (e_var rfl) (fdiv_ok (by omega) hlog)))]
    have f1 := get_set (y := stO sc a (b / lim) k d) e
    rw [x_cons (wr3 f1 hr2 (e_bin (st3 f1 hr2) c0 rfl)), set_set]
    have f2 := get_set (y := stO sc a (b / lim) (k - 1) d) e
    have t2 : ∃ q, evT c (.or (.cmp .eq (.ex (.idx (.ex (.var 0)) (.cst (.int 2)))) (.ex (.cst (.int 0)))) (.cmp .eq (.ex (.idx (.ex (.var 0)) (.cst (.int 3)))) (.ex (.cst (.int 0))))) [.val (.ref l), .val (.int lim), x, .val (.int r)] (h.set l (stO sc a (b / lim) (k - 1) d)) = .ok q (h.set l (stO sc a (b / lim) (k - 1) d)) := by
      rw [t_or (t_cmp (st2 f2 hr2) c0 (eq_int _ _)), t_cmp (st3 f2 hr2) c0 (eq_int _ _)]
      split
      · exact ⟨_, rfl⟩
      · exact ⟨_, rfl⟩
    obtain ⟨q, t2⟩ := t2
    cases q with
    | true =>
      refine ⟨0, 0, .inr ⟨r, hr0, hr1, ?_⟩⟩
      rw [x_cons (ρ1 := [.val (.ref l), .val (.int lim), x, .val (.int r)]) (h1 := h.set l (stO sc a 0 0 d)) ?_, x_ret (e_var rfl)]
      rw [x_ife t2, if_pos rfl, x_cons (wr2 f2 hr2 c0), set_set]
      have f3 := get_set (y := stO sc a 0 (k - 1) d) e
      rw [x_cons (wr3 f3 hr2 c0), set_set, x_nil]
    | false =>
      refine ⟨b / lim, k - 1, .inr ⟨r, hr0, hr1, ?_⟩⟩
      rw [x_cons (ρ1 := [.val (.ref l), .val (.int lim), x, .val (.int r)]) (h1 := h.set l (stO sc a (b / lim) (k - 1) d)) ?_, x_ret (e_var rfl)]
      rw [x_ife t2, if_neg (by simp), x_nil]
  · rw [decide_eq_false hb, if_neg (by simp), x_nil]
    exact ⟨0, 0, .inl rfl⟩
/-- the draw -/
theorem draw_ok (e : h[l]? = some (stO sc a b k d)) (ha : 0 ≤ a) (hl2 : lim ≤ 2 ^ 64) : ∃ r a' b' k' d', 0 ≤ a' ∧ 0 ≤ r ∧ r < (if lim < 2 then 1 else lim) ∧ exSs c b_draw [.val (.ref l), .val (.int lim), .non, .non] h = .ok (.ret (.int r)) (h.set l (stO sc a' b' k' d')) := by
  have c0 : ∀ {k : Int} {ρ : Ev} {h : Hs}, evE c (.cst (.int k)) ρ h = .ok (.int k) h := fun {k ρ h} => e_cst
  unfold b_draw
  rw [x_cons dr0_ok]
  have hm1 : 1 ≤ (if lim < 2 then 1 else lim) := by split <;> omega
  have hm2 : (if lim < 2 then 1 else lim) ≤ 2 ^ 64 := by split <;> omega
  generalize (if lim < 2 then 1 else lim) = m at hm1 hm2 ⊢
  obtain ⟨x1, a1, b1, k1, d1, ha1, q1⟩ := dr1_ok (c := c) (lim := m) (x := .non) (y := .non) e ha
  rw [x_cons q1]
  have e1 := get_set (y := stO sc a1 b1 k1 d1) e
  obtain ⟨b2, k2, q2 | ⟨r, r0, r1, q2⟩⟩ := dr2_ok (c := c) (x := x1) (y := .non) e1 hm1 hm2
  · rw [x_cons q2]
    have hr : slotD 0 [.val (.ref l), .val (.int m), x1, .non] = some (.ref l) := rfl
    unfold dr3 dr4 dr5
    rw [x_cons (wr3 e1 hr (e_max2 c0 (e_bin (st3 e1 hr) c0 rfl))), set_set]
    generalize (if k1 - 1 > 0 then k1 - 1 else 0) = k3
    have e3 := get_set (y := stO sc a1 b1 k3 d1) e
    rw [x_cons (wr4 e3 hr (e_bin (e_int (e_bin (e_bin (st4 e3 hr) c0 (mul_ok (by decide))) c0 rfl)) c0 (mod_ok (by decide)))), set_set]
    generalize ((d1 * 48271 + 12345) % 2147483647) = d3
    have e4 := get_set (y := stO sc a1 b1 k3 d3) e
    rw [x_ret (e_bin (e_int (e_bin (e_int (e_bin (e_bin (st4 e4 hr) c0 (mul_ok (by decide))) c0 rfl)) c0 (mod_ok (by decide)))) (e_var rfl) (mod_ok (by omega)))]
    exact ⟨_, a1, b1, k3, d3, ha1, Int.emod_nonneg _ (by omega), Int.emod_lt_of_pos _ (by omega), rfl⟩
  · refine ⟨r, a1, b2, k2, d1, ha1, r0, r1, ?_⟩
    simp only [exSs, q2, Rs.bind_ok, set_set]
end
end PV
/-! D2: steps of the evaluator. -/
namespace PV
section
variable {c : Sig} {ρ : Ev} {h : Hs}
theorem t_not {p : Ex} {r : Bool} {h1 : Hs} (hp : evT c p ρ h = .ok r h1) : evT c (.not p) ρ h = .ok (!r) h1 := by
  simp only [evT, hp, Rs.bind_ok]
theorem v_not {p : Ex} {r : Bool} {h1 : Hs} (hp : evE c p ρ h = .ok (.bl r) h1) : evE c (.not p) ρ h = .ok (.bl (!r)) h1 := by
  simp only [evE, hp, Rs.bind_ok]
theorem v_and {p q : Ex} {r1 : Bool} {h1 : Hs} (hp : evE c p ρ h = .ok (.bl r1) h1) : evE c (.and p q) ρ h = if r1 then evE c q ρ h1 else .ok (.bl false) h1 := by
  simp only [evE, hp, Rs.bind_ok]
theorem t_call {f : Nat} {es : Exs} {ds : List D} {v : D} {r : Bool} {h1 h2 : Hs} (he : evEs c es ρ h = .ok ds h1) (hc : c.call f ds h1 = .ok v h2) (ht : tru v = some r) : evT c (.call f es) ρ h = .ok r h2 := by
  simp only [evT, he, Rs.bind_ok, hc, ht, ofO_some]
theorem e_call {f : Nat} {es : Exs} {ds : List D} {h1 : Hs} (he : evEs c es ρ h = .ok ds h1) : evE c (.call f es) ρ h = c.call f ds h1 := by
  simp only [evE, he, Rs.bind_ok]
theorem es_nil : evEs c .nil ρ h = .ok [] h := by simp only [evEs]
theorem es_cons {e : Ex} {es : Exs} {v : D} {vs : List D} {h1 h2 : Hs} (he : evE c e ρ h = .ok v h1) (hs : evEs c es ρ h1 = .ok vs h2) : evEs c (.cons e es) ρ h = .ok (v :: vs) h2 := by
  simp only [evEs, he, hs, Rs.bind_ok]
theorem t_isi {p : Ex} {ts : List Ty} {v : D} {r : Bool} {h1 : Hs} (hp : evE c p ρ h = .ok v h1) (hr : isiD ts (vw h1 v) = some r) : evT c (.isi (.ex p) ts) ρ h = .ok r h1 := by
  simp only [evT, evR, hp, Rs.bind_ok, hr, ofO_some]
theorem t_chain {o1 o2 : COp} {p q s : Ex} {u v z : D} {b1 : Bool} {b2 : Bool} {h1 h2 : Hs} (hp : evE c p ρ h = .ok u h1) (hq : evE c q ρ h1 = .ok v h2) (h12 : cmpD o1 u v = some b1) (hs : evE c s ρ h2 = .ok z h2) (h23 : cmpD o2 v z = some b2) :
    evT c (.chain o1 o2 p q s) ρ h = .ok (b1 && b2) h2 := by
  simp only [evT, hp, hq, Rs.bind_ok, h12, ofO_some]
  cases b1 with
  | true => simp only [if_true, hs, Rs.bind_ok, h23, ofO_some, Bool.true_and]
  | false => simp
theorem x_rse {k : Nat} {es : Exs} {ds : List D} {h1 : Hs} {r : Sts} (he : evEs c es ρ h = .ok ds h1) : exSs c (.cons (.rse k es) r) ρ h = .ok (.xc k ds ρ) h1 := by
  simp only [exSs, exS, he, lft_ok, Rs.bind_ok]
theorem x_if1 {t : Ex} {p q : Sts} {h1 : Hs} (ht : evT c t ρ h = .ok true h1) : exS c (.ife t p q) ρ h = exSs c p ρ h1 := by simp only [exS, ht, lft_ok, if_true]
theorem x_if0 {t : Ex} {p q : Sts} {h1 : Hs} (ht : evT c t ρ h = .ok false h1) : exS c (.ife t p q) ρ h = exSs c q ρ h1 := by simp only [exS, ht, lft_ok, Bool.false_eq_true, if_false]
theorem x_skip {t : Ex} {p : Sts} {h1 : Hs} (ht : evT c t ρ h = .ok false h1) : exS c (.ife t p .nil) ρ h = .ok (.nx ρ) h1 := by rw [x_if0 ht, x_nil]
/-- the statement ends the block -/
def Fl.ends : Fl → Bool
  | .nx _ => false
  | _ => true
theorem x_end {s : St} {r : Sts} {fl : Fl} {h1 : Hs} (hs : exS c s ρ h = .ok fl h1) (he : fl.ends = true) : exSs c (.cons s r) ρ h = .ok fl h1 := by
  simp only [exSs, hs, Rs.bind_ok]
  cases fl <;> first | rfl | cases he
theorem le_int (i j : Int) : cmpD .le (.int i) (.int j) = some (decide (i ≤ j)) := by
  have : decide (i ≤ j) = !decide (j < i) := by
    by_cases q : j < i
    · simp [q]
    · simp [q, Int.not_lt.mp q]
  simp [cmpD, intLt, this]
theorem lt_int (i j : Int) : cmpD .lt (.int i) (.int j) = some (decide (i < j)) := rfl
theorem gt_int (i j : Int) : cmpD .gt (.int i) (.int j) = some (decide (j < i)) := rfl
theorem for_nil {f : D → Ev → Hs → Rs Fl} {still : Ev → Hs → Bool} (hs : still ρ h = true) : forGo f still [] ρ h = .ok (.nx ρ) h := by simp [forGo, hs]
theorem for_nx {f : D → Ev → Hs → Rs Fl} {still : Ev → Hs → Bool} {x : D} {xs : List D} {ρ1 : Ev} {h1 : Hs} (hs : still ρ h = true) (hf : f x ρ h = .ok (.nx ρ1) h1) : forGo f still (x :: xs) ρ h = forGo f still xs ρ1 h1 := by simp [forGo, hs, hf]
theorem for_xc {f : D → Ev → Hs → Rs Fl} {still : Ev → Hs → Bool} {x : D} {xs : List D} {ρ1 : Ev} {h1 : Hs} {k : Nat} {fs : List D} (hs : still ρ h = true) (hf : f x ρ h = .ok (.xc k fs ρ1) h1) : forGo f still (x :: xs) ρ h = .ok (.xc k fs ρ1) h1 := by simp [forGo, hs, hf]
theorem for_ret {f : D → Ev → Hs → Rs Fl} {still : Ev → Hs → Bool} {x : D} {xs : List D} {h1 : Hs} {d : D} (hs : still ρ h = true) (hf : f x ρ h = .ok (.ret d) h1) : forGo f still (x :: xs) ρ h = .ok (.ret d) h1 := by simp [forGo, hs, hf]
/-- a turn of a loop -/
def turn (c : Sig) (t : Tg) (b : Sts) (x : D) (ρ1 : Ev) (h2 : Hs) : Rs Fl := match asg t x ρ1 with
  | some ρ2 => exSs c b ρ2 h2
  | none => .stuck
theorem x_for {t : Tg} {it : It} {b : Sts} {s : Src} {h1 : Hs} (hi : evI c it ρ h = .ok s h1) (ho : s.isOwn = false) : exS c (.for t it b) ρ h = forGo (turn c t b) s.still s.xs ρ h1 := by
  simp only [exS, hi, lft_ok, ho, Bool.false_eq_true, if_false]
  rfl
theorem i_of {e : Ex} {v : D} {s : Src} {h1 : Hs} (he : evE c e ρ h = .ok v h1) (hs : srcD h1 v = some s) : evI c (.of (.ex e)) ρ h = .ok s h1 := by
  simp only [evI, he, Rs.bind_ok, hs, ofO_some]
theorem i_rng1 {e : Ex} {n : Int} {h1 : Hs} (he : evE c e ρ h = .ok (.int n) h1) (hb : big n = true) : evI c (.rng1 e) ρ h = .ok (.fix (rngL 0 n.toNat)) h1 := by
  have : rngD (.int 0) (.int n) = some (rngL 0 n.toNat) := by
    unfold rngD
    simp [hb]
    decide
  simp only [evI, he, Rs.bind_ok, this, Option.map_some, ofO_some]
theorem whl_done {t : Ev → Hs → Rs Bool} {f : Ev → Hs → Rs Fl} {n : Nat} {h1 : Hs} (ht : t ρ h = .ok false h1) : whlGo t f (n + 1) ρ h = .ok (.nx ρ) h1 := by simp [whlGo, ht, lft]
theorem whl_nx {t : Ev → Hs → Rs Bool} {f : Ev → Hs → Rs Fl} {n : Nat} {h1 h2 : Hs} {ρ1 : Ev} (ht : t ρ h = .ok true h1) (hf : f ρ h1 = .ok (.nx ρ1) h2) : whlGo t f (n + 1) ρ h = whlGo t f n ρ1 h2 := by simp [whlGo, ht, lft, hf]
theorem whl_brk {t : Ev → Hs → Rs Bool} {f : Ev → Hs → Rs Fl} {n : Nat} {h1 h2 : Hs} {ρ1 : Ev} (ht : t ρ h = .ok true h1) (hf : f ρ h1 = .ok (.brk ρ1) h2) : whlGo t f (n + 1) ρ h = .ok (.nx ρ1) h2 := by simp [whlGo, ht, lft, hf]
theorem x_whl {t : Ex} {b : Sts} : exS c (.whl t b) ρ h = whlGo (evT c t) (exSs c b) c.fuel ρ h := by simp only [exS]
theorem x_app {i : Nat} {e : Ex} {xs : List D} {v : D} {h1 : Hs} (ho : ρ[i]? = some (.own (.lst xs))) (he : evE c e ρ h = .ok v h1) (hl : xs.length < lenMax) : exS c (.app i e) ρ h = .ok (.nx (ρ.set i (.own (.lst (xs ++ [v]))))) h1 := by
  simp only [exS, ho, he, lft_ok, if_pos hl]
theorem x_own {i : Nat} {e : Ex} {xs : List D} {h1 : Hs} (he : evE c e ρ h = .ok (.lst xs) h1) (hi : i < ρ.length) : exS c (.own i e) ρ h = .ok (.nx (ρ.set i (.own (.lst xs)))) h1 := by
  simp only [exS, he, lft_ok, putS, if_pos hi, nxO]
theorem x_frz {i : Nat} {xs : List D} (ho : ρ[i]? = some (.own (.lst xs))) : exS c (.frz i) ρ h = .ok (.nx (ρ.set i (.val (.lst xs)))) h := by
  have hi : i < ρ.length := (List.getElem?_eq_some_iff.mp ho).1
  simp only [exS, ownD, ho, putS, if_pos hi, nxO]
theorem x_exp {e : Ex} {v : D} {h1 : Hs} (he : evE c e ρ h = .ok v h1) : exS c (.exp e) ρ h = .ok (.nx ρ) h1 := by simp only [exS, he, lft_ok]
theorem x_exp_x {e : Ex} {k : Nat} {fs : List D} {h1 : Hs} (he : evE c e ρ h = .exc k fs h1) : exS c (.exp e) ρ h = .ok (.xc k fs ρ) h1 := by simp only [exS, he, lft_exc]
theorem x_brk {r : Sts} : exSs c (.cons .brk r) ρ h = .ok (.brk ρ) h := by simp [exSs, exS]
theorem e_lnil : evE c (.lst false .nil) ρ h = .ok (.lst []) h := by simp [evE, evEs]
end
end PV
/-! V1: symbolic runs: what is wanted of a run, construct by construct. -/
namespace PV
section
variable {α β : Type} {Q : α → Hs → Prop} {E : Nat → List D → Hs → Prop}
theorem post_ok {a : α} {h : Hs} : (Rs.ok a h).post Q E = Q a h := rfl
theorem post_exc {c : Nat} {fs : List D} {h : Hs} : (Rs.exc c fs h : Rs α).post Q E = E c fs h := rfl
theorem post_stuck : (Rs.stuck : Rs α).post Q E = False := rfl
theorem post_bind {r : Rs β} {f : β → Hs → Rs α} : (r.bind f).post Q E = r.post (fun b h => (f b h).post Q E) E := by cases r <;> rfl
def optK (o : Option α) (K : α → Prop) : Prop := match o with | some a => K a | none => False
theorem optK_some {a : α} {K : α → Prop} : optK (some a) K = K a := rfl
theorem optK_none {K : α → Prop} : optK (none : Option α) K = False := rfl
theorem optK_ite {c : Prop} [Decidable c] {z : α} {K : α → Prop} : optK (if c then some z else none) K = (c ∧ K z) := by
  by_cases h : c <;> simp [h, optK]
theorem optK_map {o : Option β} {f : β → α} {K : α → Prop} : optK (o.map f) K = optK o (fun b => K (f b)) := by cases o <;> rfl
theorem optK_bind {o : Option β} {f : β → Option α} {K : α → Prop} : optK (o.bind f) K = optK o (fun b => optK (f b) K) := by cases o <;> rfl
theorem post_ofO {o : Option α} {h : Hs} : (ofO o h).post Q E = optK o (fun a => Q a h) := by cases o <;> rfl
end
/-- a truth value decides -/
def bK (b : Bool) (P N : Unit → Prop) : Prop := match b with
  | true => P ()
  | false => N ()
theorem bK_true {P N : Unit → Prop} : bK true P N = P () := rfl
theorem bK_false {P N : Unit → Prop} : bK false P N = N () := rfl
theorem bK_not {b : Bool} {P N : Unit → Prop} : bK (!b) P N = bK b N P := by cases b <;> rfl
def flK (fl : Fl) (h : Hs) (K : Ev → Hs → Prop) (Q : Fl → Hs → Prop) : Prop := match fl with
  | .nx ρ => K ρ h
  | fl => Q fl h
section
variable {h : Hs} {K : Ev → Hs → Prop} {Q : Fl → Hs → Prop} {ρ : Ev} {d : D} {c : Nat} {fs : List D}
theorem flK_nx : flK (.nx ρ) h K Q = K ρ h := rfl
theorem flK_ret : flK (.ret d) h K Q = Q (.ret d) h := rfl
theorem flK_brk : flK (.brk ρ) h K Q = Q (.brk ρ) h := rfl
theorem flK_cnt : flK (.cnt ρ) h K Q = Q (.cnt ρ) h := rfl
theorem flK_xc : flK (.xc c fs ρ) h K Q = Q (.xc c fs ρ) h := rfl
end
/-! slots -/
def setE : Nat → Sl → Ev → Option Ev
  | 0, s, _ :: ρ => some (s :: ρ)
  | i + 1, s, x :: ρ => match setE i s ρ with
    | some r => some (x :: r)
    | none => none
  | _, _, [] => none
theorem setE_eq : ∀ (i : Nat) (s : Sl) (ρ : Ev), setE i s ρ = if i < ρ.length then some (ρ.set i s) else none
  | 0, s, [] => rfl
  | 0, s, x :: ρ => by simp [setE]
  | i + 1, s, [] => rfl
  | i + 1, s, x :: ρ => by
    simp only [setE, setE_eq i s ρ]
    by_cases h : i < ρ.length <;> simp [h]
def pu (i : Nat) (s : Sl) (ρ : Ev) (K : Ev → Prop) : Prop := match setE i s ρ with
  | some r => K r
  | none => False
theorem pu_eq {i : Nat} {s : Sl} {ρ : Ev} {K : Ev → Prop} : pu i s ρ K = (i < ρ.length ∧ K (ρ.set i s)) := by
  simp only [pu, setE_eq]
  by_cases h : i < ρ.length <;> simp [h]
def slK (i : Nat) (ρ : Ev) (K : D → Prop) : Prop := match slotD i ρ with | some d => K d | none => False
theorem slK_zero {d : D} {ρ : Ev} {K : D → Prop} : slK 0 (.val d :: ρ) K = K d := rfl
theorem slK_succ {i : Nat} {s : Sl} {ρ : Ev} {K : D → Prop} : slK (i + 1) (s :: ρ) K = slK i ρ K := by simp [slK, slotD]
def owK (i : Nat) (ρ : Ev) (K : Ob → Prop) : Prop := match ρ[i]? with | some (.own o) => K o | _ => False
theorem owK_zero {o : Ob} {ρ : Ev} {K : Ob → Prop} : owK 0 (.own o :: ρ) K = K o := rfl
theorem owK_succ {i : Nat} {s : Sl} {ρ : Ev} {K : Ob → Prop} : owK (i + 1) (s :: ρ) K = owK i ρ K := by simp [owK]
def lstK (o : Ob) (K : List D → Prop) : Prop := match o with | .lst xs => K xs | _ => False
theorem lstK_lst {xs : List D} {K : List D → Prop} : lstK (.lst xs) K = K xs := rfl
def dlK (d : D) (K : List D → Prop) : Prop := match d with | .lst xs => K xs | _ => False
theorem dlK_lst {xs : List D} {K : List D → Prop} : dlK (.lst xs) K = K xs := rfl
def intK (d : D) (K : Int → Prop) : Prop := match d with | .int i => K i | _ => False
theorem intK_int {i : Int} {K : Int → Prop} : intK (.int i) K = K i := rfl
def blK (d : D) (K : Bool → Prop) : Prop := match d with | .bl i => K i | _ => False
theorem blK_bl {i : Bool} {K : Bool → Prop} : blK (.bl i) K = K i := rfl

/-! ### expressions -/
section
variable {c : Sig} {ρ : Ev} {h : Hs} {E : Nat → List D → Hs → Prop}
section
variable {Q : D → Hs → Prop}
theorem E_var {i : Nat} : (evE c (.var i) ρ h).post Q E = slK i ρ (fun d => Q d h) := by
  simp only [evE, post_ofO, slK]
  cases slotD i ρ <;> rfl
theorem E_cst {k : Cst} : (evE c (.cst k) ρ h).post Q E = Q k.d h := by simp only [evE, post_ok]
theorem E_glb {x : String} {i : Int} : (evE c (.glb x i) ρ h).post Q E = Q (.int i) h := by simp only [evE, post_ok]
theorem E_tup {es : Exs} : (evE c (.tup es) ρ h).post Q E = (evEs c es ρ h).post (fun ds h1 => Q (.tup ds) h1) E := by simp only [evE, post_bind, post_ok]
theorem E_lst {es : Exs} : (evE c (.lst false es) ρ h).post Q E = (evEs c es ρ h).post (fun ds h1 => Q (.lst ds) h1) E := by simp only [evE, post_bind, post_ok, Bool.false_eq_true, if_false]
theorem E_bin {op : BOp} {a b : Op} : (evE c (.bin op a b) ρ h).post Q E = (evR c a ρ h).post (fun x h1 => (evR c b ρ h1).post (fun y h2 => optK (binD op (vw h2 x) (vw h2 y)) (fun z => Q z h2)) E) E := by
  simp only [evE, post_bind, post_ofO]
theorem E_neg {a : Ex} : (evE c (.neg a) ρ h).post Q E = (evE c a ρ h).post (fun x h1 => intK x (fun i => Q (.int (-i)) h1)) E := by
  simp only [evE, post_bind]
  congr 1; funext x h1
  cases x <;> rfl
theorem E_cmp {op : COp} {a b : Op} : (evE c (.cmp op a b) ρ h).post Q E = (evR c a ρ h).post (fun x h1 => (evR c b ρ h1).post (fun y h2 => optK (cmpD op (vw h2 x) (vw h2 y)) (fun z => Q (.bl z) h2)) E) E := by
  simp only [evE, post_bind, post_ofO, optK_map]
theorem E_chain {o1 o2 : COp} {a b d : Ex} : (evE c (.chain o1 o2 a b d) ρ h).post Q E = (evE c a ρ h).post (fun x h1 => (evE c b ρ h1).post (fun y h2 => optK (cmpD o1 x y) (fun k => bK k (fun _ => (evE c d ρ h2).post (fun z h4 => optK (cmpD o2 y z) (fun r => Q (.bl r) h4)) E) (fun _ => Q (.bl false) h2))) E) E := by
  simp only [evE, post_bind, post_ofO]
  congr 1; funext x h1
  congr 1; funext y h2
  congr 1; funext k
  cases k <;> simp [bK, post_bind, post_ofO, optK_map, post_ok]
theorem E_not {a : Ex} : (evE c (.not a) ρ h).post Q E = (evE c a ρ h).post (fun x h1 => blK x (fun k => Q (.bl (!k)) h1)) E := by
  simp only [evE, post_bind]
  congr 1; funext x h1
  cases x <;> rfl
theorem E_and {a b : Ex} : (evE c (.and a b) ρ h).post Q E = (evE c a ρ h).post (fun x h1 => blK x (fun k => bK k (fun _ => (evE c b ρ h1).post Q E) (fun _ => Q (.bl false) h1))) E := by
  simp only [evE, post_bind]
  congr 1; funext x h1
  cases x <;> try rfl
  rename_i k
  cases k <;> rfl
theorem E_or {a b : Ex} : (evE c (.or a b) ρ h).post Q E = (evE c a ρ h).post (fun x h1 => blK x (fun k => bK k (fun _ => Q (.bl true) h1) (fun _ => (evE c b ρ h1).post Q E))) E := by
  simp only [evE, post_bind]
  congr 1; funext x h1
  cases x <;> try rfl
  rename_i k
  cases k <;> rfl
theorem E_ife {t a b : Ex} : (evE c (.ife t a b) ρ h).post Q E = (evT c t ρ h).post (fun k h1 => bK k (fun _ => (evE c a ρ h1).post Q E) (fun _ => (evE c b ρ h1).post Q E)) E := by
  simp only [evE, post_bind]
  congr 1; funext k h1
  cases k <;> rfl
theorem E_call {f : Nat} {es : Exs} : (evE c (.call f es) ρ h).post Q E = (evEs c es ρ h).post (fun ds h1 => (c.call f ds h1).post Q E) E := by simp only [evE, post_bind]
theorem E_bi {b : Bi} {es : Ops} : (evE c (.bi b es) ρ h).post Q E = (evRs c es ρ h).post (fun ds h1 => optK (biD b (ds.map (vw h1))) (fun z => Q z h1)) E := by simp only [evE, post_bind, post_ofO]
theorem E_isi {a : Op} {ts : List Ty} : (evE c (.isi a ts) ρ h).post Q E = (evR c a ρ h).post (fun x h1 => optK (isiD ts (vw h1 x)) (fun z => Q (.bl z) h1)) E := by simp only [evE, post_bind, post_ofO, optK_map]
theorem E_idx {a : Op} {i : Ex} : (evE c (.idx a i) ρ h).post Q E = (evR c a ρ h).post (fun x h1 => (evE c i ρ h1).post (fun y h2 => optK (idxD (vw h2 x) y) (fun z => Q z h2)) E) E := by simp only [evE, post_bind, post_ofO]
def sliD (d : D) (l u : Option Int) : Option D := match d with
  | .lst xs => some (.lst (cut xs l u))
  | .tup xs => some (.tup (cut xs l u))
  | _ => none
theorem sli_lst {xs : List D} {l u : Option Int} : sliD (.lst xs) l u = some (.lst (cut xs l u)) := rfl
theorem sli_tup {xs : List D} {l u : Option Int} : sliD (.tup xs) l u = some (.tup (cut xs l u)) := rfl
theorem E_sli {a : Op} {lo hi : Exo} : (evE c (.sli a lo hi) ρ h).post Q E = (evR c a ρ h).post (fun x h1 => (evO c lo ρ h1).post (fun l h2 => (evO c hi ρ h2).post (fun u h3 => optK (sliD (vw h3 x) l u) (fun z => Q z h3)) E) E) E := by
  simp only [evE, post_bind]
  congr 1; funext x h1
  congr 1; funext l h2
  congr 1; funext u h3
  cases vw h3 x <;> rfl
/-- a turn of a comprehension -/
def lcT (c : Sig) (elt : Ex) (t : Tg) (w : Exo) (ρ : Ev) (x : D) (h2 : Hs) : Rs (Option D) := match asg t x (wipeE ρ (slo t)) with
  | none => .stuck
  | some ρ1 => (evW c w ρ1 h2).nox.bind fun k h3 => if k then (evE c elt ρ1 h3).nox.bind fun y h4 => .ok (some y) h4 else .ok none h3
theorem E_lc {elt : Ex} {t : Tg} {it : It} {w : Exo} : (evE c (.lc elt t it w) ρ h).post Q E = (evI c it ρ h).post (fun s h1 => clear t ρ = true ∧ s.xs.length ≤ lenMax ∧ (lcGo (lcT c elt t w ρ) (s.still ρ) s.xs h1).post (fun ys h2 => Q (.lst ys) h2) E) E := by
  simp only [evE, post_bind]
  congr 1; funext s h1
  by_cases hc : clear t ρ = true
  · by_cases hl : s.xs.length ≤ lenMax
    · simp only [hc, hl, decide_true, Bool.and_self, if_true, post_bind, post_ok, true_and]
      rfl
    · simp [hl, post_stuck]
  · simp [hc, post_stuck]
def excK (o : Option D) (K : Nat → List D → Prop) : Prop := match o with | some (.exc k fs) => K k fs | _ => False
theorem E_xfld {i : Nat} {f : String} : (evE c (.xfld i f) ρ h).post Q E = slK i ρ (fun d => excK (some d) (fun k fs => optK (fldG (c.fns k) f fs) (fun z => Q z h))) := by
  simp only [evE, slK]
  cases slotD i ρ with
  | none => rfl
  | some d => cases d <;> first | rfl | exact post_ofO
theorem E_xis {i : Nat} {xs : List String} : (evE c (.xis i xs) ρ h).post Q E = slK i ρ (fun d => excK (some d) (fun k fs => optK (isAny c.isx xs k) (fun z => Q (.bl z) h))) := by
  simp only [evE, slK]
  cases slotD i ρ with
  | none => rfl
  | some d => cases d <;> first | rfl | exact post_ofO.trans optK_map
theorem excK_exc {k : Nat} {fs : List D} {K : Nat → List D → Prop} : excK (some (.exc k fs)) K = K k fs := rfl
end
section
variable {Q : Bool → Hs → Prop}
theorem T_not {a : Ex} : (evT c (.not a) ρ h).post Q E = (evT c a ρ h).post (fun k h1 => Q (!k) h1) E := by simp only [evT, post_bind, post_ok]
theorem T_and {a b : Ex} : (evT c (.and a b) ρ h).post Q E = (evT c a ρ h).post (fun k h1 => bK k (fun _ => (evT c b ρ h1).post Q E) (fun _ => Q false h1)) E := by
  simp only [evT, post_bind]
  congr 1; funext k h1
  cases k <;> rfl
theorem T_or {a b : Ex} : (evT c (.or a b) ρ h).post Q E = (evT c a ρ h).post (fun k h1 => bK k (fun _ => Q true h1) (fun _ => (evT c b ρ h1).post Q E)) E := by
  simp only [evT, post_bind]
  congr 1; funext k h1
  cases k <;> rfl
theorem T_var {i : Nat} : (evT c (.var i) ρ h).post Q E = slK i ρ (fun d => optK (tru d) (fun k => Q k h)) := by
  simp only [evT, post_ofO, slK]
  cases slotD i ρ <;> rfl
theorem T_cst {k : Cst} : (evT c (.cst k) ρ h).post Q E = optK (tru k.d) (fun k => Q k h) := by simp only [evT, post_ofO]
theorem T_cmp {op : COp} {a b : Op} : (evT c (.cmp op a b) ρ h).post Q E = (evR c a ρ h).post (fun x h1 => (evR c b ρ h1).post (fun y h2 => optK (cmpD op (vw h2 x) (vw h2 y)) (fun z => Q z h2)) E) E := by
  simp only [evT, post_bind, post_ofO]
theorem T_chain {o1 o2 : COp} {a b d : Ex} : (evT c (.chain o1 o2 a b d) ρ h).post Q E = (evE c a ρ h).post (fun x h1 => (evE c b ρ h1).post (fun y h2 => optK (cmpD o1 x y) (fun k => bK k (fun _ => (evE c d ρ h2).post (fun z h4 => optK (cmpD o2 y z) (fun r => Q r h4)) E) (fun _ => Q false h2))) E) E := by
  simp only [evT, post_bind, post_ofO]
  congr 1; funext x h1
  congr 1; funext y h2
  congr 1; funext k
  cases k <;> simp [bK, post_bind, post_ofO, post_ok]
theorem T_call {f : Nat} {es : Exs} : (evT c (.call f es) ρ h).post Q E = (evEs c es ρ h).post (fun ds h1 => (c.call f ds h1).post (fun d h2 => optK (tru d) (fun k => Q k h2)) E) E := by simp only [evT, post_bind, post_ofO]
theorem T_bi {b : Bi} {es : Ops} : (evT c (.bi b es) ρ h).post Q E = (evRs c es ρ h).post (fun ds h1 => optK (biD b (ds.map (vw h1))) (fun z => optK (tru z) (fun k => Q k h1))) E := by simp only [evT, post_bind, post_ofO, optK_bind]
theorem T_isi {a : Op} {ts : List Ty} : (evT c (.isi a ts) ρ h).post Q E = (evR c a ρ h).post (fun x h1 => optK (isiD ts (vw h1 x)) (fun z => Q z h1)) E := by simp only [evT, post_bind, post_ofO]
theorem T_idx {a : Op} {i : Ex} : (evT c (.idx a i) ρ h).post Q E = (evR c a ρ h).post (fun x h1 => (evE c i ρ h1).post (fun y h2 => optK (idxD (vw h2 x) y) (fun z => optK (tru z) (fun k => Q k h2))) E) E := by simp only [evT, post_bind, post_ofO]
theorem T_xis {i : Nat} {xs : List String} : (evT c (.xis i xs) ρ h).post Q E = slK i ρ (fun d => excK (some d) (fun k fs => optK (isAny c.isx xs k) (fun z => Q z h))) := by
  simp only [evT, slK]
  cases slotD i ρ with
  | none => rfl
  | some d => cases d <;> first | rfl | exact post_ofO
end
theorem Es_nil {Q : List D → Hs → Prop} : (evEs c .nil ρ h).post Q E = Q [] h := by simp only [evEs, post_ok]
theorem Es_cons {Q : List D → Hs → Prop} {e : Ex} {es : Exs} : (evEs c (.cons e es) ρ h).post Q E = (evE c e ρ h).post (fun x h1 => (evEs c es ρ h1).post (fun xs h2 => Q (x :: xs) h2) E) E := by simp only [evEs, post_bind, post_ok]
theorem O_none {Q : Option Int → Hs → Prop} : (evO c .none ρ h).post Q E = Q none h := by simp only [evO, post_ok]
theorem O_some {Q : Option Int → Hs → Prop} {e : Ex} : (evO c (.some e) ρ h).post Q E = (evE c e ρ h).post (fun x h1 => intK x (fun i => Q (some i) h1)) E := by
  simp only [evO, post_bind]
  congr 1; funext x h1
  cases x <;> rfl
theorem W_none {Q : Bool → Hs → Prop} : (evW c .none ρ h).post Q E = Q true h := by simp only [evW, post_ok]
theorem W_some {Q : Bool → Hs → Prop} {e : Ex} : (evW c (.some e) ρ h).post Q E = (evT c e ρ h).post Q E := by simp only [evW]
def obD (o : Ob) (K : D → Prop) : Prop := match o with | .lst xs => K (.lst xs) | .dct kvs => K (.dct kvs) | _ => False
theorem obD_lst {xs : List D} {K : D → Prop} : obD (.lst xs) K = K (.lst xs) := rfl
theorem R_own {Q : D → Hs → Prop} {i : Nat} : (evR c (.own i) ρ h).post Q E = owK i ρ (fun o => obD o (fun d => Q d h)) := by
  simp only [evR, post_ofO, owK, ownD]
  cases ρ[i]? with
  | none => rfl
  | some s => cases s with
    | own o => cases o <;> rfl
    | _ => rfl
theorem R_ex {Q : D → Hs → Prop} {e : Ex} : (evR c (.ex e) ρ h).post Q E = (evE c e ρ h).post Q E := by simp only [evR]
theorem Rs_nil {Q : List D → Hs → Prop} : (evRs c .nil ρ h).post Q E = Q [] h := by simp only [evRs, post_ok]
theorem Rs_cons {Q : List D → Hs → Prop} {e : Op} {es : Ops} : (evRs c (.cons e es) ρ h).post Q E = (evR c e ρ h).post (fun x h1 => (evRs c es ρ h1).post (fun xs h2 => Q (x :: xs) h2) E) E := by simp only [evRs, post_bind, post_ok]
theorem I_ex {Q : Src → Hs → Prop} {e : Ex} : (evI c (.of (.ex e)) ρ h).post Q E = (evE c e ρ h).post (fun x h1 => optK (srcD h1 x) (fun s => Q s h1)) E := by simp only [evI, post_bind, post_ofO]
theorem I_own {Q : Src → Hs → Prop} {i : Nat} : (evI c (.of (.own i)) ρ h).post Q E = owK i ρ (fun o => lstK o (fun xs => Q (.own i xs) h)) := by
  simp only [evI, owK, ownD]
  cases ρ[i]? with
  | none => rfl
  | some s => cases s with
    | own o => cases o <;> rfl
    | _ => rfl
theorem I_rng1 {Q : Src → Hs → Prop} {a : Ex} : (evI c (.rng1 a) ρ h).post Q E = (evE c a ρ h).post (fun x h1 => optK (rngD (.int 0) x) (fun xs => Q (.fix xs) h1)) E := by simp only [evI, post_bind, post_ofO, optK_map]
theorem I_rng2 {Q : Src → Hs → Prop} {a b : Ex} : (evI c (.rng2 a b) ρ h).post Q E = (evE c a ρ h).post (fun x h1 => (evE c b ρ h1).post (fun y h2 => optK (rngD x y) (fun xs => Q (.fix xs) h2)) E) E := by simp only [evI, post_bind, post_ofO, optK_map]
end
/-! ### statements -/
section
variable {c : Sig} {ρ : Ev} {h : Hs} {Q : Fl → Hs → Prop} {E : Nat → List D → Hs → Prop}
theorem post_lft {α : Type} {r : Rs α} {f : α → Hs → Rs Fl} : (lft ρ r f).post Q E = r.post (fun a h1 => (f a h1).post Q E) (fun k fs h1 => Q (.xc k fs ρ) h1) := by cases r <;> rfl
theorem post_nxO {o : Option Ev} : (nxO o h).post Q E = optK o (fun ρ1 => Q (.nx ρ1) h) := by cases o <;> rfl
theorem optK_putS {i : Nat} {s : Sl} {K : Ev → Prop} : optK (putS i s ρ) K = pu i s ρ K := by
  simp only [putS, optK_ite, pu_eq]
theorem Ss_nil : (exSs c .nil ρ h).post Q E = Q (.nx ρ) h := by simp only [exSs, post_ok]
theorem Ss_cons {s : St} {r : Sts} : (exSs c (.cons s r) ρ h).post Q E = (exS c s ρ h).post (fun fl h1 => flK fl h1 (fun ρ1 h2 => (exSs c r ρ1 h2).post Q E) Q) E := by
  simp only [exSs, post_bind]
  congr 1; funext fl h1
  cases fl <;> rfl
theorem S_set {i : Nat} {e : Ex} : (exS c (.set i e) ρ h).post Q E = (evE c e ρ h).post (fun d h1 => pu i (.val d) ρ (fun ρ1 => Q (.nx ρ1) h1)) (fun k fs h1 => Q (.xc k fs ρ) h1) := by
  simp only [exS, post_lft, post_nxO, optK_putS]
theorem S_own {i : Nat} {e : Ex} : (exS c (.own i e) ρ h).post Q E = (evE c e ρ h).post (fun d h1 => dlK d (fun xs => pu i (.own (.lst xs)) ρ (fun ρ1 => Q (.nx ρ1) h1))) (fun k fs h1 => Q (.xc k fs ρ) h1) := by
  simp only [exS, post_lft]
  congr 1; funext d h1
  cases d <;> first | rfl | (simp only [post_nxO, optK_putS, dlK])
theorem S_frz {i : Nat} : (exS c (.frz i) ρ h).post Q E = owK i ρ (fun o => obD o (fun d => pu i (.val d) ρ (fun ρ1 => Q (.nx ρ1) h))) := by
  simp only [exS, owK, ownD]
  cases ρ[i]? with
  | none => rfl
  | some s => cases s with
    | own o => cases o <;> first | rfl | (simp only [post_nxO, optK_putS, obD])
    | _ => rfl
theorem set_pu {i : Nat} {s : Sl} {o : Ob} {K : Ev → Prop} (e : ρ[i]? = some (.own o)) : K (ρ.set i s) = pu i s ρ K := by
  have := (List.getElem?_eq_some_iff.mp e).1
  simp [pu_eq, this]
theorem S_app {i : Nat} {e : Ex} : (exS c (.app i e) ρ h).post Q E = owK i ρ (fun o => lstK o (fun xs => (evE c e ρ h).post (fun d h1 => xs.length < lenMax ∧ pu i (.own (.lst (xs ++ [d]))) ρ (fun ρ1 => Q (.nx ρ1) h1)) (fun k fs h1 => Q (.xc k fs ρ) h1))) := by
  simp only [exS, owK]
  cases hr : ρ[i]? with
  | none => rfl
  | some s => cases s with
    | own o => cases o with
      | lst xs =>
        simp only [post_lft, lstK]
        congr 1; funext d h1
        by_cases hl : xs.length < lenMax
        · simp only [if_pos hl, post_ok, hl, true_and]
          exact set_pu (K := fun ρ1 => Q (.nx ρ1) h1) hr
        · simp [hl, post_stuck]
      | _ => rfl
    | _ => rfl
def stK (xs : List D) (k y : D) (K : List D → Prop) : Prop := optK (setL xs k y) K
theorem S_stx {i : Nat} {k e : Ex} : (exS c (.stx i k e) ρ h).post Q E = (evE c e ρ h).post (fun d h1 => owK i ρ (fun o => lstK o (fun xs => (evE c k ρ h1).post (fun y h2 => stK xs y d (fun xs' => pu i (.own (.lst xs')) ρ (fun ρ1 => Q (.nx ρ1) h2))) (fun k fs h1 => Q (.xc k fs ρ) h1)))) (fun k fs h1 => Q (.xc k fs ρ) h1) := by
  simp only [exS, post_lft, owK]
  congr 1; funext d h1
  cases hr : ρ[i]? with
  | none => rfl
  | some s => cases s with
    | own o => cases o with
      | lst xs =>
        simp only [post_lft, lstK, post_nxO, optK_map, stK]
        congr 1; funext y h2
        congr 1; funext xs'
        exact set_pu (K := fun ρ1 => Q (.nx ρ1) h2) hr
      | _ => rfl
    | _ => rfl
def boxK (h : Hs) (b : D) (K : Nat → List D → Prop) : Prop := match b with
  | .ref l => (match h[l]? with | some (.lst xs) => K l xs | _ => False)
  | _ => False
theorem boxK_ref {h : Hs} {l : Nat} {xs : List D} {K : Nat → List D → Prop} (e : h[l]? = some (.lst xs)) : boxK h (.ref l) K = K l xs := by simp [boxK, e]
theorem S_bix {a k e : Ex} : (exS c (.bix a k e) ρ h).post Q E = (evE c e ρ h).post (fun d h1 => (evE c a ρ h1).post (fun b h2 => (evE c k ρ h2).post (fun y h3 => boxK h3 b (fun l xs => stK xs y d (fun xs' => d.pure = true ∧ Q (.nx ρ) (h3.set l (.lst xs'))))) (fun k fs h1 => Q (.xc k fs ρ) h1)) (fun k fs h1 => Q (.xc k fs ρ) h1)) (fun k fs h1 => Q (.xc k fs ρ) h1) := by
  simp only [exS, post_lft]
  congr 1; funext d h1
  congr 1; funext b h2
  congr 1; funext y h3
  cases b <;> try rfl
  rename_i l
  simp only [boxK]
  cases h3[l]? with
  | none => rfl
  | some o => cases o with
    | lst xs =>
      simp only [stK]
      cases setL xs y d with
      | none => rfl
      | some xs' =>
        simp only [optK]
        by_cases hp : d.pure = true
        · simp [hp, post_ok]
        · simp [hp, post_stuck]
    | _ => rfl
theorem S_ast {t : Tg} {e : Ex} : (exS c (.ast t e) ρ h).post Q E = (evE c e ρ h).post (fun d h1 => optK (asg t d ρ) (fun ρ1 => Q (.nx ρ1) h1)) (fun k fs h1 => Q (.xc k fs ρ) h1) := by
  simp only [exS, post_lft, post_nxO]
theorem S_aug {i : Nat} {op : BOp} {e : Ex} : (exS c (.aug i op e) ρ h).post Q E = slK i ρ (fun x => (evE c e ρ h).post (fun y h1 => optK (augD op x y) (fun z => pu i (.val z) ρ (fun ρ1 => Q (.nx ρ1) h1))) (fun k fs h1 => Q (.xc k fs ρ) h1)) := by
  simp only [exS, slK]
  cases slotD i ρ with
  | none => rfl
  | some x => simp only [post_lft, post_nxO, optK_bind, optK_putS]
theorem S_exp {e : Ex} : (exS c (.exp e) ρ h).post Q E = (evE c e ρ h).post (fun d h1 => Q (.nx ρ) h1) (fun k fs h1 => Q (.xc k fs ρ) h1) := by
  simp only [exS, post_lft, post_ok]
theorem S_ret {e : Ex} : (exS c (.ret e) ρ h).post Q E = (evE c e ρ h).post (fun d h1 => Q (.ret d) h1) (fun k fs h1 => Q (.xc k fs ρ) h1) := by
  simp only [exS, post_lft, post_ok]
theorem S_retn : (exS c .retn ρ h).post Q E = Q (.ret .non) h := by simp only [exS, post_ok]
theorem S_ife {t : Ex} {a b : Sts} : (exS c (.ife t a b) ρ h).post Q E = (evT c t ρ h).post (fun k h1 => bK k (fun _ => (exSs c a ρ h1).post Q E) (fun _ => (exSs c b ρ h1).post Q E)) (fun k fs h1 => Q (.xc k fs ρ) h1) := by
  simp only [exS, post_lft]
  congr 1; funext k h1
  cases k <;> rfl
theorem S_whl {t : Ex} {b : Sts} : (exS c (.whl t b) ρ h).post Q E = (whlGo (evT c t) (exSs c b) c.fuel ρ h).post Q E := by simp only [exS]
/-- a turn of a loop -/
def trn (c : Sig) (t : Tg) (b : Sts) (x : D) (ρ1 : Ev) (h2 : Hs) : Rs Fl := match asg t x ρ1 with
  | some ρ2 => exSs c b ρ2 h2
  | none => .stuck
theorem post_trn {t : Tg} {b : Sts} {x : D} : (trn c t b x ρ h).post Q E = optK (asg t x ρ) (fun ρ2 => (exSs c b ρ2 h).post Q E) := by
  unfold trn
  cases asg t x ρ <;> rfl
theorem S_for {t : Tg} {it : It} {b : Sts} : (exS c (.for t it b) ρ h).post Q E = (evI c it ρ h).post (fun s h1 => s.isOwn = false ∧ (forGo (trn c t b) s.still s.xs ρ h1).post Q E) (fun k fs h1 => Q (.xc k fs ρ) h1) := by
  simp only [exS, post_lft]
  congr 1; funext s h1
  cases hs : s.isOwn
  · simp only [Bool.false_eq_true, if_false, true_and]; rfl
  · simp [post_stuck]
theorem S_brk : (exS c .brk ρ h).post Q E = Q (.brk ρ) h := by simp only [exS, post_ok]
theorem S_cnt : (exS c .cnt ρ h).post Q E = Q (.cnt ρ) h := by simp only [exS, post_ok]
theorem S_pas : (exS c .pas ρ h).post Q E = Q (.nx ρ) h := by simp only [exS, post_ok]
theorem S_rse {k : Nat} {es : Exs} : (exS c (.rse k es) ρ h).post Q E = (evEs c es ρ h).post (fun ds h1 => Q (.xc k ds ρ) h1) (fun k fs h1 => Q (.xc k fs ρ) h1) := by
  simp only [exS, post_lft, post_ok]
def xcK (fl : Fl) (h : Hs) (K : Nat → List D → Ev → Hs → Prop) (Q : Fl → Hs → Prop) : Prop := match fl with
  | .xc k fs ρ => K k fs ρ h
  | fl => Q fl h
theorem S_try {b : Sts} {hs : Hds} : (exS c (.try b hs) ρ h).post Q E = (exSs c b ρ h).post (fun fl h1 => xcK fl h1 (fun k fs ρ1 h2 => (exH c hs k fs ρ1 h2).post Q E) Q) E := by
  simp only [exS, post_bind]
  congr 1; funext fl h1
  cases fl <;> rfl
section
variable {K : Nat → List D → Ev → Hs → Prop} {d : D} {k : Nat} {fs : List D}
theorem xcK_nx : xcK (.nx ρ) h K Q = Q (.nx ρ) h := rfl
theorem xcK_ret : xcK (.ret d) h K Q = Q (.ret d) h := rfl
theorem xcK_brk : xcK (.brk ρ) h K Q = Q (.brk ρ) h := rfl
theorem xcK_cnt : xcK (.cnt ρ) h K Q = Q (.cnt ρ) h := rfl
theorem xcK_xc : xcK (.xc k fs ρ) h K Q = K k fs ρ h := rfl
end
theorem H_nil {k : Nat} {fs : List D} : (exH c .nil k fs ρ h).post Q E = Q (.xc k fs ρ) h := by simp only [exH, post_ok]
theorem H_none {x : String} {b : Sts} {r : Hds} {k : Nat} {fs : List D} : (exH c (.cons x none b r) k fs ρ h).post Q E = optK (c.isx x k) (fun i => bK i (fun _ => (exSs c b ρ h).post (fun fl h1 => xcK fl h1 (fun _ _ _ _ => False) Q) E) (fun _ => (exH c r k fs ρ h).post Q E)) := by
  simp only [exH]
  cases c.isx x k with
  | none => rfl
  | some i => cases i with
    | false => rfl
    | true =>
      simp only [post_bind, optK, bK, if_true]
      congr 1; funext fl h1
      cases fl <;> rfl
def retK (fl : Fl) (h : Hs) (Q : Fl → Hs → Prop) : Prop := match fl with
  | .ret d => d.pure = true ∧ Q (.ret d) h
  | _ => False
theorem retK_ret {d : D} : retK (.ret d) h Q = (d.pure = true ∧ Q (.ret d) h) := rfl
theorem H_some {x : String} {i : Nat} {b : Sts} {r : Hds} {k : Nat} {fs : List D} : (exH c (.cons x (some i) b r) k fs ρ h).post Q E = optK (c.isx x k) (fun j => bK j (fun _ => pu i (.val (.exc k fs)) ρ (fun ρ1 => (exSs c b ρ1 h).post (fun fl h1 => retK fl h1 Q) E)) (fun _ => (exH c r k fs ρ h).post Q E)) := by
  simp only [exH]
  cases c.isx x k with
  | none => rfl
  | some j => cases j with
    | false => rfl
    | true =>
      simp only [optK, bK, if_true]
      rw [← optK_putS]
      cases putS i (.val (.exc k fs)) ρ with
      | none => rfl
      | some ρ1 =>
        simp only [post_bind, optK]
        congr 1; funext fl h1
        cases fl <;> try rfl
        rename_i d
        simp only [retK]
        by_cases hp : d.pure = true
        · simp [hp, post_ok]
        · simp [hp, post_stuck]
end
/-! ### a def's run -/
section
variable {Q : D → Hs → Prop} {E : Nat → List D → Hs → Prop}
def finK (rb : Bool) (n : Nat) (Q : D → Hs → Prop) (E : Nat → List D → Hs → Prop) : Fl → Hs → Prop
  | .nx _, h => (back rb n .non h).post Q E
  | .ret d, h => (back rb n d h).post Q E
  | .xc c fs _, h => if h.length = n then E c fs h else (pureAll fs = true ∧ E c fs (h.take n))
  | _, _ => False
theorem post_fin {rb : Bool} {n : Nat} {r : Rs Fl} : (fin rb n r).post Q E = r.post (finK rb n Q E) (fun _ _ _ => False) := by
  cases r with
  | ok fl h =>
    cases fl <;> try rfl
    rename_i c fs ρ
    simp only [fin, Rs.post, finK]
    by_cases hn : h.length = n
    · simp [hn]
    · by_cases hp : pureAll fs = true
      · simp [hn, hp]
      · simp [hn, hp]
  | exc c fs h => rfl
  | stuck => rfl
theorem finK_ret {rb : Bool} {n : Nat} {d : D} {h : Hs} (e : h.length = n) : finK rb n Q E (.ret d) h = Q d h := by simp [finK, back, e, Rs.post]
theorem finK_nx {rb : Bool} {n : Nat} {ρ : Ev} {h : Hs} (e : h.length = n) : finK rb n Q E (.nx ρ) h = Q .non h := by simp [finK, back, e, Rs.post]
theorem finK_xc {rb : Bool} {n : Nat} {ρ : Ev} {c : Nat} {fs : List D} {h : Hs} (e : h.length = n) : finK rb n Q E (.xc c fs ρ) h = E c fs h := by simp [finK, e]
theorem post_run {P : Prg} {k f : Nat} {ds : List D} {h : Hs} {F : Fn} (hF : P.fn f = some F) (hl : ds.length = F.ps.length) (g : (exSs (P.sig (P.run k)) F.body (ent F ds) h).post (finK F.rb h.length Q E) (fun _ _ _ => False)) : (P.run (k + 1) f ds h).post Q E := by
  simp only [Prg.run, hF, if_pos hl]
  rw [post_fin]
  exact g
end
/-! ### loops -/
section
variable {Q : Fl → Hs → Prop} {E : Nat → List D → Hs → Prop}
/-- where a turn may end -/
def turnK (I : Ev → Hs → Prop) (Q : Fl → Hs → Prop) : Fl → Hs → Prop
  | .nx ρ, h => I ρ h
  | .cnt ρ, h => I ρ h
  | .brk ρ, h => Q (.nx ρ) h
  | fl, h => Q fl h
theorem Rs.post_imp {α : Type} {r : Rs α} {Q Q' : α → Hs → Prop} {E E' : Nat → List D → Hs → Prop} (p : r.post Q E) (h1 : ∀ a h, Q a h → Q' a h) (h2 : ∀ k fs h, E k fs h → E' k fs h) : r.post Q' E' := by
  cases r with
  | ok a h => exact h1 _ _ p
  | exc k fs h => exact h2 _ _ _ p
  | stuck => exact p
theorem for_post {f : D → Ev → Hs → Rs Fl} {still : Ev → Hs → Bool} (hst : ∀ ρ h, still ρ h = true) (I : Nat → Ev → Hs → Prop) (xs : List D) {ρ : Ev} {h : Hs} (h0 : I 0 ρ h)
    (step : ∀ i x ρ h, xs[i]? = some x → I i ρ h → (f x ρ h).post (turnK (I (i + 1)) Q) E) (hend : ∀ ρ h, I xs.length ρ h → Q (.nx ρ) h) : (forGo f still xs ρ h).post Q E := by
  induction xs generalizing I ρ h with
  | nil => simp only [forGo, hst, if_true]; exact hend ρ h h0
  | cons x xs ih =>
    simp only [forGo, hst, if_true]
    rw [post_bind]
    refine Rs.post_imp (step 0 x ρ h rfl h0) (fun fl h1 q => ?_) fun _ _ _ q => q
    cases fl with
    | nx ρ1 => exact ih (fun i => I (i + 1)) q (fun i y ρ h e => step (i + 1) y ρ h (by simpa using e)) hend
    | cnt ρ1 => exact ih (fun i => I (i + 1)) q (fun i y ρ h e => step (i + 1) y ρ h (by simpa using e)) hend
    | brk ρ1 => exact q
    | ret d => exact q
    | xc k fs ρ1 => exact q
theorem while_post {t : Ev → Hs → Rs Bool} {f : Ev → Hs → Rs Fl} (I : Nat → Ev → Hs → Prop) {n m : Nat} {ρ : Ev} {h : Hs} (hm : m < n) (h0 : I m ρ h)
    (step : ∀ i ρ h, I i ρ h → (t ρ h).post (fun b h1 => bK b (fun _ => (f ρ h1).post (turnK (fun ρ h => ∃ j, j < i ∧ I j ρ h) Q) E) (fun _ => Q (.nx ρ) h1)) (fun k fs h1 => Q (.xc k fs ρ) h1)) : (whlGo t f n ρ h).post Q E := by
  induction n generalizing m ρ h with
  | zero => omega
  | succ n ih =>
    simp only [whlGo]
    rw [post_lft]
    refine Rs.post_imp (step m ρ h h0) (fun b h1 q => ?_) fun _ _ _ q => q
    cases b with
    | false => exact q
    | true =>
      simp only [if_true]
      rw [post_bind]
      refine Rs.post_imp (show (f ρ h1).post _ E from q) (fun fl h2 q => ?_) fun _ _ _ q => q
      cases fl with
      | nx ρ1 => obtain ⟨j, hj, q⟩ := q; exact ih (by omega) q
      | cnt ρ1 => obtain ⟨j, hj, q⟩ := q; exact ih (by omega) q
      | brk ρ1 => exact q
      | ret d => exact q
      | xc k fs ρ1 => exact q
theorem turnK_nx {I : Ev → Hs → Prop} {ρ : Ev} {h : Hs} : turnK I Q (.nx ρ) h = I ρ h := rfl
theorem turnK_cnt {I : Ev → Hs → Prop} {ρ : Ev} {h : Hs} : turnK I Q (.cnt ρ) h = I ρ h := rfl
theorem turnK_brk {I : Ev → Hs → Prop} {ρ : Ev} {h : Hs} : turnK I Q (.brk ρ) h = Q (.nx ρ) h := rfl
theorem turnK_ret {I : Ev → Hs → Prop} {d : D} {h : Hs} : turnK I Q (.ret d) h = Q (.ret d) h := rfl
theorem turnK_xc {I : Ev → Hs → Prop} {k : Nat} {fs : List D} {ρ : Ev} {h : Hs} : turnK I Q (.xc k fs ρ) h = Q (.xc k fs ρ) h := rfl
end
section
variable {E : Nat → List D → Hs → Prop}
/-- a comprehension: the turns one by one -/
theorem lc_post {Q : List D → Hs → Prop} {f : D → Hs → Rs (Option D)} {still : Hs → Bool} (I : Nat → List D → Hs → Prop) (xs : List D) {h : Hs} (hst : ∀ i ys h, I i ys h → still h = true) (h0 : I 0 [] h)
    (step : ∀ i x ys h, xs[i]? = some x → I i ys h → (f x h).post (fun o h1 => match o with | some y => I (i + 1) (ys ++ [y]) h1 | none => I (i + 1) ys h1) E) (hend : ∀ ys h, I xs.length ys h → Q ys h) : (lcGo f still xs h).post Q E := by
  suffices g : ∀ (xs : List D) (I : Nat → List D → Hs → Prop) (h : Hs) (acc : List D), (∀ i ys h, I i ys h → still h = true) → I 0 acc h →
      (∀ i x ys h, xs[i]? = some x → I i ys h → (f x h).post (fun o h1 => match o with | some y => I (i + 1) (ys ++ [y]) h1 | none => I (i + 1) ys h1) E) → (∀ ys h, I xs.length ys h → Q ys h) → (lcGo f still xs h).post (fun ys h1 => Q (acc ++ ys) h1) E by
    exact Rs.post_imp (g xs I h [] hst h0 step hend) (fun ys h q => by simpa using q) fun _ _ _ q => q
  intro xs
  induction xs with
  | nil =>
    intro I h acc hst h0 step hend
    simp only [lcGo, hst 0 acc h h0, if_true, post_ok, List.append_nil]
    exact hend acc h h0
  | cons x xs ih =>
    intro I h acc hst h0 step hend
    simp only [lcGo, hst 0 acc h h0, if_true]
    rw [post_bind]
    refine Rs.post_imp (step 0 x acc h rfl h0) (fun o h1 q => ?_) fun _ _ _ q => q
    cases o with
    | some y =>
      rw [post_bind]
      refine Rs.post_imp (ih (fun i => I (i + 1)) h1 (acc ++ [y]) (fun i => hst (i + 1)) q (fun i z ys h e => step (i + 1) z ys h (by simpa using e)) hend) (fun ys h2 q => ?_) fun _ _ _ q => q
      simp only [post_ok]
      simpa using q
    | none =>
      rw [post_bind]
      exact Rs.post_imp (ih (fun i => I (i + 1)) h1 acc (fun i => hst (i + 1)) q (fun i z ys h e => step (i + 1) z ys h (by simpa using e)) hend) (fun ys h2 q => q) fun _ _ _ q => q
theorem post_nox {α : Type} {r : Rs α} {Q : α → Hs → Prop} : r.nox.post Q E = r.post Q (fun _ _ _ => False) := by cases r <;> rfl
theorem post_lcT {c : Sig} {elt : Ex} {t : Tg} {w : Exo} {ρ : Ev} {x : D} {h : Hs} {Q : Option D → Hs → Prop} : (lcT c elt t w ρ x h).post Q E = optK (asg t x (wipeE ρ (slo t))) (fun ρ1 => (evW c w ρ1 h).post (fun k h3 => bK k (fun _ => (evE c elt ρ1 h3).post (fun y h4 => Q (some y) h4) (fun _ _ _ => False)) (fun _ => Q none h3)) (fun _ _ _ => False)) := by
  unfold lcT
  cases asg t x (wipeE ρ (slo t)) with
  | none => rfl
  | some ρ1 =>
    simp only [post_bind, post_nox, optK]
    congr 1; funext k h3
    cases k <;> simp [bK, post_bind, post_nox, post_ok]
end

/-! ### wanted of a run, by the words alone -/
structure callK (c : Sig) (f : Nat) (ds : List D) (h : Hs) (Q : D → Hs → Prop) (X : Nat → List D → Hs → Prop) : Prop where
  to : (c.call f ds h).post Q X
structure forK (c : Sig) (t : Tg) (b : Sts) (s : Src) (ρ : Ev) (h : Hs) (Q : Fl → Hs → Prop) (X : Nat → List D → Hs → Prop) : Prop where
  to : s.isOwn = false ∧ (forGo (trn c t b) s.still s.xs ρ h).post Q X
structure whlK (c : Sig) (t : Ex) (b : Sts) (n : Nat) (ρ : Ev) (h : Hs) (Q : Fl → Hs → Prop) (X : Nat → List D → Hs → Prop) : Prop where
  to : (whlGo (evT c t) (exSs c b) n ρ h).post Q X
structure lcK (c : Sig) (elt : Ex) (t : Tg) (w : Exo) (s : Src) (ρ : Ev) (h : Hs) (Q : List D → Hs → Prop) (X : Nat → List D → Hs → Prop) : Prop where
  to : clear t ρ = true ∧ s.xs.length ≤ lenMax ∧ (lcGo (lcT c elt t w ρ) (s.still ρ) s.xs h).post Q X
/-- decided by what is known -/
structure dK (p : Prop) [Decidable p] (K : Bool → Prop) : Prop where
  to : K (decide p)
structure mulK (i j : Int) (K : Int → Prop) : Prop where
  to : mulOk i j = true ∧ K (i * j)
structure divK (i j : Int) (K : Int → Prop) : Prop where
  to : divOk j = true ∧ K (i / j)
structure modK (i j : Int) (K : Int → Prop) : Prop where
  to : 0 < j ∧ K (i % j)
structure powK (i j : Int) (K : Int → Prop) : Prop where
  to : powOk i j = true ∧ K (i ^ j.toNat)
structure shlK (i j : Int) (K : Int → Prop) : Prop where
  to : powOk i j = true ∧ K (i * 2 ^ j.toNat)
structure shrK (i j : Int) (K : Int → Prop) : Prop where
  to : 0 ≤ j ∧ K (i / 2 ^ j.toNat)
structure lenK (n : Nat) (K : Prop) : Prop where
  to : n ≤ lenMax ∧ K
structure rngK (i j : Int) (K : List D → Prop) : Prop where
  to : (big i = true ∧ big j = true) ∧ K (rngL i (j - i).toNat)
structure eqK (a b : D) (K : Bool → Prop) : Prop where
  to : (a.cmpOk = true ∧ b.cmpOk = true) ∧ K (a.eqv b)
structure atK (xs : List D) (k : Int) (K : D → Prop) : Prop where
  to : optK (atI xs k) K
def binK (op : BOp) (a b : D) (K : D → Prop) : Prop := match op, a, b with
  | .add, .int i, .int j => K (.int (i + j))
  | .sub, .int i, .int j => K (.int (i - j))
  | .mul, .int i, .int j => mulK i j (fun r => K (.int r))
  | .fdiv, .int i, .int j => divK i j (fun r => K (.int r))
  | .mod, .int i, .int j => modK i j (fun r => K (.int r))
  | .pow, .int i, .int j => powK i j (fun r => K (.int r))
  | .shl, .int i, .int j => shlK i j (fun r => K (.int r))
  | .shr, .int i, .int j => shrK i j (fun r => K (.int r))
  | .add, .lst xs, .lst ys => lenK (xs.length + ys.length) (K (.lst (xs ++ ys)))
  | .add, .tup xs, .tup ys => lenK (xs.length + ys.length) (K (.tup (xs ++ ys)))
  | op, a, b => optK (binD op a b) K
theorem optK_if {α : Type} {p : Prop} [Decidable p] {z : α} {K : α → Prop} (h : p ∧ K z) : optK (if p then some z else none) K := by
  rw [if_pos h.1]; exact h.2
theorem binK_of {op : BOp} {a b : D} {K : D → Prop} (h : binK op a b K) : optK (binD op a b) K := by
  have e : ∀ {b : Bool} {i : Int} {K : D → Prop}, b = true ∧ K (.int i) → optK ((if b then some i else none).map D.int) K := fun {b i K} h => by rw [if_pos h.1]; exact h.2
  unfold binK at h
  split at h
  · exact h
  · exact h
  · have h := h.to; exact e h
  · have h := h.to; exact e h
  · have h := h.to
    simp only [binD, binI, if_pos h.1]; exact h.2
  · have h := h.to; exact e h
  · have h := h.to; exact e h
  · have h := h.to
    simp only [binD, binI, if_pos h.1]; exact h.2
  · have h := h.to; exact optK_if h
  · have h := h.to; exact optK_if h
  · exact h
def cmpK (op : COp) (a b : D) (K : Bool → Prop) : Prop := match op, a, b with
  | .eq, .int i, .int j => dK (i = j) K
  | .ne, .int i, .int j => dK (i = j) (fun b => K (!b))
  | .lt, .int i, .int j => dK (i < j) K
  | .le, .int i, .int j => dK (i ≤ j) K
  | .gt, .int i, .int j => dK (j < i) K
  | .ge, .int i, .int j => dK (j ≤ i) K
  | .eq, .bl i, .bl j => dK (i = j) K
  | .ne, .bl i, .bl j => dK (i = j) (fun b => K (!b))
  | .eq, a, b => eqK a b K
  | .ne, a, b => eqK a b (fun b => K (!b))
  | op, a, b => optK (cmpD op a b) K
theorem cmpK_of {op : COp} {a b : D} {K : Bool → Prop} (h : cmpK op a b K) : optK (cmpD op a b) K := by
  unfold cmpK at h
  split at h
  · have h := h.to
    simp [cmpD, D.cmpOk, D.flat, D.dep, D.eqv, optK]
    exact h
  · have h := h.to
    simp [cmpD, D.cmpOk, D.flat, D.dep, D.eqv, optK]
    exact h
  · have h := h.to; exact h
  · rename_i i j
    have h := h.to
    have : decide (i ≤ j) = !decide (j < i) := by
      by_cases q : j < i
      · simp [q]
      · simp [q, Int.not_lt.mp q]
    rw [this] at h; exact h
  · have h := h.to; exact h
  · rename_i i j
    have h := h.to
    have : decide (j ≤ i) = !decide (i < j) := by
      by_cases q : i < j
      · simp [q]
      · simp [q, Int.not_lt.mp q]
    rw [this] at h; exact h
  · rename_i i j
    have h := h.to
    cases i <;> cases j <;> exact h
  · rename_i i j
    have h := h.to
    cases i <;> cases j <;> exact h
  · have h := h.to
    simp only [cmpD, h.1.1, h.1.2, Bool.and_self, if_true]; exact h.2
  · have h := h.to
    simp only [cmpD, h.1.1, h.1.2, Bool.and_self, if_true]; exact h.2
  · exact h
def rngKD (a b : D) (K : List D → Prop) : Prop := match a, b with
  | .int i, .int j => rngK i j K
  | _, _ => False
theorem rngKD_of {a b : D} {K : List D → Prop} (h : rngKD a b K) : optK (rngD a b) K := by
  unfold rngKD at h
  split at h
  · have h := h.to
    simp only [rngD, h.1.1, h.1.2, Bool.and_self, if_true]; exact h.2
  · exact h.elim
def idxK (a i : D) (K : D → Prop) : Prop := match a, i with
  | .tup xs, .int k => atK xs k K
  | .lst xs, .int k => atK xs k K
  | a, i => optK (idxD a i) K
theorem idxK_of {a i : D} {K : D → Prop} (h : idxK a i K) : optK (idxD a i) K := by
  unfold idxK at h
  split at h
  · have h := h.to; exact h
  · have h := h.to; exact h
  · exact h
section
variable (c : Sig)
mutual
def wE : Ex → Ev → Hs → (D → Hs → Prop) → (Nat → List D → Hs → Prop) → Prop
  | .var i, ρ, h, Q, _ => slK i ρ (fun d => Q d h)
  | .cst k, _, h, Q, _ => Q k.d h
  | .glb _ i, _, h, Q, _ => Q (.int i) h
  | .tup es, ρ, h, Q, X => wEs es ρ h (fun ds h1 => Q (.tup ds) h1) X
  | .lst false es, ρ, h, Q, X => wEs es ρ h (fun ds h1 => Q (.lst ds) h1) X
  | .bin op a b, ρ, h, Q, X => wR a ρ h (fun x h1 => wR b ρ h1 (fun y h2 => binK op (vw h2 x) (vw h2 y) (fun z => Q z h2)) X) X
  | .neg a, ρ, h, Q, X => wE a ρ h (fun x h1 => intK x (fun i => Q (.int (-i)) h1)) X
  | .cmp op a b, ρ, h, Q, X => wR a ρ h (fun x h1 => wR b ρ h1 (fun y h2 => cmpK op (vw h2 x) (vw h2 y) (fun z => Q (.bl z) h2)) X) X
  | .chain o1 o2 a b d, ρ, h, Q, X => wE a ρ h (fun x h1 => wE b ρ h1 (fun y h2 => cmpK o1 x y (fun k => bK k (fun _ => wE d ρ h2 (fun z h4 => cmpK o2 y z (fun r => Q (.bl r) h4)) X) (fun _ => Q (.bl false) h2))) X) X
  | .not a, ρ, h, Q, X => wE a ρ h (fun x h1 => blK x (fun k => Q (.bl (!k)) h1)) X
  | .and a b, ρ, h, Q, X => wE a ρ h (fun x h1 => blK x (fun k => bK k (fun _ => wE b ρ h1 Q X) (fun _ => Q (.bl false) h1))) X
  | .or a b, ρ, h, Q, X => wE a ρ h (fun x h1 => blK x (fun k => bK k (fun _ => Q (.bl true) h1) (fun _ => wE b ρ h1 Q X))) X
  | .ife t a b, ρ, h, Q, X => wT t ρ h (fun k h1 => bK k (fun _ => wE a ρ h1 Q X) (fun _ => wE b ρ h1 Q X)) X
  | .call f es, ρ, h, Q, X => wEs es ρ h (fun ds h1 => callK c f ds h1 Q X) X
  | .bi b es, ρ, h, Q, X => wRs es ρ h (fun ds h1 => optK (biD b (ds.map (vw h1))) (fun z => Q z h1)) X
  | .isi a ts, ρ, h, Q, X => wR a ρ h (fun x h1 => optK (isiD ts (vw h1 x)) (fun z => Q (.bl z) h1)) X
  | .idx a i, ρ, h, Q, X => wR a ρ h (fun x h1 => wE i ρ h1 (fun y h2 => idxK (vw h2 x) y (fun z => Q z h2)) X) X
  | .sli a lo hi, ρ, h, Q, X => wR a ρ h (fun x h1 => wO lo ρ h1 (fun l h2 => wO hi ρ h2 (fun u h3 => optK (sliD (vw h3 x) l u) (fun z => Q z h3)) X) X) X
  | .lc elt t it w, ρ, h, Q, X => wI it ρ h (fun s h1 => lcK c elt t w s ρ h1 (fun ys h2 => Q (.lst ys) h2) X) X
  | .xfld i f, ρ, h, Q, _ => slK i ρ (fun d => excK (some d) (fun k fs => optK (fldG (c.fns k) f fs) (fun z => Q z h)))
  | .xis i xs, ρ, h, Q, _ => slK i ρ (fun d => excK (some d) (fun k fs => optK (isAny c.isx xs k) (fun z => Q (.bl z) h)))
  | .lst true es, ρ, h, Q, X => wEs es ρ h (fun ds h1 => match pureAll ds with | true => Q (.ref h1.length) (h1 ++ [.lst ds]) | false => False) X
  | .fld _ _, _, _, _, _ => False
def wT : Ex → Ev → Hs → (Bool → Hs → Prop) → (Nat → List D → Hs → Prop) → Prop
  | .not a, ρ, h, Q, X => wT a ρ h (fun k h1 => Q (!k) h1) X
  | .and a b, ρ, h, Q, X => wT a ρ h (fun k h1 => bK k (fun _ => wT b ρ h1 Q X) (fun _ => Q false h1)) X
  | .or a b, ρ, h, Q, X => wT a ρ h (fun k h1 => bK k (fun _ => Q true h1) (fun _ => wT b ρ h1 Q X)) X
  | .var i, ρ, h, Q, _ => slK i ρ (fun d => optK (tru d) (fun k => Q k h))
  | .cst k, _, h, Q, _ => optK (tru k.d) (fun k => Q k h)
  | .cmp op a b, ρ, h, Q, X => wR a ρ h (fun x h1 => wR b ρ h1 (fun y h2 => cmpK op (vw h2 x) (vw h2 y) (fun z => Q z h2)) X) X
  | .chain o1 o2 a b d, ρ, h, Q, X => wE a ρ h (fun x h1 => wE b ρ h1 (fun y h2 => cmpK o1 x y (fun k => bK k (fun _ => wE d ρ h2 (fun z h4 => cmpK o2 y z (fun r => Q r h4)) X) (fun _ => Q false h2))) X) X
  | .call f es, ρ, h, Q, X => wEs es ρ h (fun ds h1 => callK c f ds h1 (fun d h2 => optK (tru d) (fun k => Q k h2)) X) X
  | .bi b es, ρ, h, Q, X => wRs es ρ h (fun ds h1 => optK (biD b (ds.map (vw h1))) (fun z => optK (tru z) (fun k => Q k h1))) X
  | .isi a ts, ρ, h, Q, X => wR a ρ h (fun x h1 => optK (isiD ts (vw h1 x)) (fun z => Q z h1)) X
  | .idx a i, ρ, h, Q, X => wR a ρ h (fun x h1 => wE i ρ h1 (fun y h2 => idxK (vw h2 x) y (fun z => optK (tru z) (fun k => Q k h2))) X) X
  | .xis i xs, ρ, h, Q, _ => slK i ρ (fun d => excK (some d) (fun k fs => optK (isAny c.isx xs k) (fun z => Q z h)))
  | _, _, _, _, _ => False
def wEs : Exs → Ev → Hs → (List D → Hs → Prop) → (Nat → List D → Hs → Prop) → Prop
  | .nil, _, h, Q, _ => Q [] h
  | .cons e es, ρ, h, Q, X => wE e ρ h (fun x h1 => wEs es ρ h1 (fun xs h2 => Q (x :: xs) h2) X) X
def wO : Exo → Ev → Hs → (Option Int → Hs → Prop) → (Nat → List D → Hs → Prop) → Prop
  | .none, _, h, Q, _ => Q none h
  | .some e, ρ, h, Q, X => wE e ρ h (fun x h1 => intK x (fun i => Q (some i) h1)) X
def wW : Exo → Ev → Hs → (Bool → Hs → Prop) → (Nat → List D → Hs → Prop) → Prop
  | .none, _, h, Q, _ => Q true h
  | .some e, ρ, h, Q, X => wT e ρ h Q X
def wR : Op → Ev → Hs → (D → Hs → Prop) → (Nat → List D → Hs → Prop) → Prop
  | .own i, ρ, h, Q, _ => owK i ρ (fun o => obD o (fun d => Q d h))
  | .ex e, ρ, h, Q, X => wE e ρ h Q X
def wRs : Ops → Ev → Hs → (List D → Hs → Prop) → (Nat → List D → Hs → Prop) → Prop
  | .nil, _, h, Q, _ => Q [] h
  | .cons e es, ρ, h, Q, X => wR e ρ h (fun x h1 => wRs es ρ h1 (fun xs h2 => Q (x :: xs) h2) X) X
def wI : It → Ev → Hs → (Src → Hs → Prop) → (Nat → List D → Hs → Prop) → Prop
  | .of (.ex e), ρ, h, Q, X => wE e ρ h (fun x h1 => optK (srcD h1 x) (fun s => Q s h1)) X
  | .of (.own i), ρ, h, Q, _ => owK i ρ (fun o => lstK o (fun xs => Q (.own i xs) h))
  | .rng1 a, ρ, h, Q, X => wE a ρ h (fun x h1 => rngKD (.int 0) x (fun xs => Q (.fix xs) h1)) X
  | .rng2 a b, ρ, h, Q, X => wE a ρ h (fun x h1 => wE b ρ h1 (fun y h2 => rngKD x y (fun xs => Q (.fix xs) h2)) X) X
  | _, _, _, _, _ => False
end
end
section
variable {c : Sig}
theorem Rs.post_to {α : Type} {r : Rs α} {Q Q' : α → Hs → Prop} {X : Nat → List D → Hs → Prop} (p : r.post Q X) (h1 : ∀ a h, Q a h → Q' a h) : r.post Q' X := Rs.post_imp p h1 fun _ _ _ q => q
theorem intK_imp {d : D} {K K' : Int → Prop} (p : intK d K) (h : ∀ i, K i → K' i) : intK d K' := by cases d <;> first | exact h _ p | exact p
theorem blK_imp {d : D} {K K' : Bool → Prop} (p : blK d K) (h : ∀ i, K i → K' i) : blK d K' := by cases d <;> first | exact h _ p | exact p
theorem dlK_imp {d : D} {K K' : List D → Prop} (p : dlK d K) (h : ∀ i, K i → K' i) : dlK d K' := by cases d <;> first | exact h _ p | exact p
theorem optK_imp {α : Type} {o : Option α} {K K' : α → Prop} (p : optK o K) (h : ∀ i, K i → K' i) : optK o K' := by cases o <;> first | exact h _ p | exact p
theorem bK_imp {b : Bool} {P N P' N' : Unit → Prop} (p : bK b P N) (h1 : P () → P' ()) (h2 : N () → N' ()) : bK b P' N' := by cases b <;> first | exact h1 p | exact h2 p
theorem slK_imp {i : Nat} {ρ : Ev} {K K' : D → Prop} (p : slK i ρ K) (h : ∀ d, K d → K' d) : slK i ρ K' := by
  unfold slK at p ⊢
  cases e : slotD i ρ <;> rw [e] at p <;> first | exact h _ p | exact p
theorem owK_imp {i : Nat} {ρ : Ev} {K K' : Ob → Prop} (p : owK i ρ K) (h : ∀ d, K d → K' d) : owK i ρ K' := by
  unfold owK at p ⊢
  cases e : ρ[i]? with
  | none => rw [e] at p; exact p
  | some s =>
    rw [e] at p
    cases s <;> first | exact h _ p | exact p
theorem lstK_imp {o : Ob} {K K' : List D → Prop} (p : lstK o K) (h : ∀ i, K i → K' i) : lstK o K' := by cases o <;> first | exact h _ p | exact p
theorem excK_imp {o : Option D} {K K' : Nat → List D → Prop} (p : excK o K) (h : ∀ i fs, K i fs → K' i fs) : excK o K' := by
  cases o with
  | none => exact p
  | some d => cases d <;> first | exact h _ _ p | exact p
mutual
theorem sE : ∀ (e : Ex) (ρ : Ev) (h : Hs) (Q : D → Hs → Prop) (X : Nat → List D → Hs → Prop), wE c e ρ h Q X → (evE c e ρ h).post Q X
  | .var i, ρ, h, Q, X, g => by rw [E_var]; exact g
  | .cst k, ρ, h, Q, X, g => by rw [E_cst]; exact g
  | .glb _ i, ρ, h, Q, X, g => by rw [E_glb]; exact g
  | .tup es, ρ, h, Q, X, g => by rw [E_tup]; exact sEs es ρ h _ X g
  | .lst false es, ρ, h, Q, X, g => by rw [E_lst]; exact sEs es ρ h _ X g
  | .lst true es, ρ, h, Q, X, g => by
    simp only [evE, post_bind, if_true]
    refine Rs.post_to (sEs es ρ h _ X g) fun ds h1 g => ?_
    split at g
    · rename_i hp; rw [if_pos hp]; exact g
    · exact g.elim
  | .bin op a b, ρ, h, Q, X, g => by rw [E_bin]; exact Rs.post_to (sR a ρ h _ X g) fun x h1 g => Rs.post_to (sR b ρ h1 _ X g) fun y h2 g => binK_of g
  | .neg a, ρ, h, Q, X, g => by rw [E_neg]; exact sE a ρ h _ X g
  | .cmp op a b, ρ, h, Q, X, g => by
    rw [E_cmp]
    exact Rs.post_to (sR a ρ h _ X g) fun x h1 g => Rs.post_to (sR b ρ h1 _ X g) fun y h2 g => cmpK_of g
  | .chain o1 o2 a b d, ρ, h, Q, X, g => by
    rw [E_chain]
    refine Rs.post_to (sE a ρ h _ X g) fun x h1 g => Rs.post_to (sE b ρ h1 _ X g) fun y h2 g => ?_
    refine optK_imp (cmpK_of g) fun k g => bK_imp g (fun g => ?_) fun g => g
    exact Rs.post_to (sE d ρ h2 _ X g) fun z h4 g => cmpK_of g
  | .not a, ρ, h, Q, X, g => by rw [E_not]; exact sE a ρ h _ X g
  | .and a b, ρ, h, Q, X, g => by rw [E_and]; exact Rs.post_to (sE a ρ h _ X g) fun x h1 g => blK_imp g fun k g => bK_imp g (fun g => sE b ρ h1 Q X g) fun g => g
  | .or a b, ρ, h, Q, X, g => by rw [E_or]; exact Rs.post_to (sE a ρ h _ X g) fun x h1 g => blK_imp g fun k g => bK_imp g (fun g => g) fun g => sE b ρ h1 Q X g
  | .ife t a b, ρ, h, Q, X, g => by rw [E_ife]; exact Rs.post_to (sT t ρ h _ X g) fun k h1 g => bK_imp g (fun g => sE a ρ h1 Q X g) fun g => sE b ρ h1 Q X g
  | .call f es, ρ, h, Q, X, g => by
    rw [E_call]
    refine Rs.post_to (sEs es ρ h _ X g) fun ds h1 g => ?_
    have g := g.to; exact g
  | .bi b es, ρ, h, Q, X, g => by rw [E_bi]; exact sRs es ρ h _ X g
  | .isi a ts, ρ, h, Q, X, g => by rw [E_isi]; exact sR a ρ h _ X g
  | .idx a i, ρ, h, Q, X, g => by rw [E_idx]; exact Rs.post_to (sR a ρ h _ X g) fun x h1 g => Rs.post_to (sE i ρ h1 _ X g) fun y h2 g => idxK_of g
  | .sli a lo hi, ρ, h, Q, X, g => by rw [E_sli]; exact Rs.post_to (sR a ρ h _ X g) fun x h1 g => Rs.post_to (sO lo ρ h1 _ X g) fun l h2 g => sO hi ρ h2 _ X g
  | .lc elt t it w, ρ, h, Q, X, g => by
    rw [E_lc]
    refine Rs.post_to (sI it ρ h _ X g) fun s h1 g => ?_
    have g := g.to; exact g
  | .xfld i f, ρ, h, Q, X, g => by rw [E_xfld]; exact g
  | .xis i xs, ρ, h, Q, X, g => by rw [E_xis]; exact g
  | .fld _ _, ρ, h, Q, X, g => g.elim
theorem sT : ∀ (e : Ex) (ρ : Ev) (h : Hs) (Q : Bool → Hs → Prop) (X : Nat → List D → Hs → Prop), wT c e ρ h Q X → (evT c e ρ h).post Q X
  | .not a, ρ, h, Q, X, g => by rw [T_not]; exact sT a ρ h _ X g
  | .and a b, ρ, h, Q, X, g => by rw [T_and]; exact Rs.post_to (sT a ρ h _ X g) fun k h1 g => bK_imp g (fun g => sT b ρ h1 Q X g) fun g => g
  | .or a b, ρ, h, Q, X, g => by rw [T_or]; exact Rs.post_to (sT a ρ h _ X g) fun k h1 g => bK_imp g (fun g => g) fun g => sT b ρ h1 Q X g
  | .var i, ρ, h, Q, X, g => by rw [T_var]; exact g
  | .cst k, ρ, h, Q, X, g => by rw [T_cst]; exact g
  | .cmp op a b, ρ, h, Q, X, g => by
    rw [T_cmp]
    exact Rs.post_to (sR a ρ h _ X g) fun x h1 g => Rs.post_to (sR b ρ h1 _ X g) fun y h2 g => cmpK_of g
  | .chain o1 o2 a b d, ρ, h, Q, X, g => by
    rw [T_chain]
    refine Rs.post_to (sE a ρ h _ X g) fun x h1 g => Rs.post_to (sE b ρ h1 _ X g) fun y h2 g => ?_
    refine optK_imp (cmpK_of g) fun k g => bK_imp g (fun g => ?_) fun g => g
    exact Rs.post_to (sE d ρ h2 _ X g) fun z h4 g => cmpK_of g
  | .call f es, ρ, h, Q, X, g => by
    rw [T_call]
    refine Rs.post_to (sEs es ρ h _ X g) fun ds h1 g => ?_
    have g := g.to; exact g
  | .bi b es, ρ, h, Q, X, g => by rw [T_bi]; exact sRs es ρ h _ X g
  | .isi a ts, ρ, h, Q, X, g => by rw [T_isi]; exact sR a ρ h _ X g
  | .idx a i, ρ, h, Q, X, g => by rw [T_idx]; exact Rs.post_to (sR a ρ h _ X g) fun x h1 g => Rs.post_to (sE i ρ h1 _ X g) fun y h2 g => idxK_of g
  | .xis i xs, ρ, h, Q, X, g => by rw [T_xis]; exact g
  | .glb _ _, ρ, h, Q, X, g => g.elim
  | .tup _, ρ, h, Q, X, g => g.elim
  | .lst _ _, ρ, h, Q, X, g => g.elim
  | .bin _ _ _, ρ, h, Q, X, g => g.elim
  | .neg _, ρ, h, Q, X, g => g.elim
  | .ife _ _ _, ρ, h, Q, X, g => g.elim
  | .sli _ _ _, ρ, h, Q, X, g => g.elim
  | .lc _ _ _ _, ρ, h, Q, X, g => g.elim
  | .xfld _ _, ρ, h, Q, X, g => g.elim
  | .fld _ _, ρ, h, Q, X, g => g.elim
theorem sEs : ∀ (e : Exs) (ρ : Ev) (h : Hs) (Q : List D → Hs → Prop) (X : Nat → List D → Hs → Prop), wEs c e ρ h Q X → (evEs c e ρ h).post Q X
  | .nil, ρ, h, Q, X, g => by rw [Es_nil]; exact g
  | .cons e es, ρ, h, Q, X, g => by rw [Es_cons]; exact Rs.post_to (sE e ρ h _ X g) fun x h1 g => sEs es ρ h1 _ X g
theorem sO : ∀ (e : Exo) (ρ : Ev) (h : Hs) (Q : Option Int → Hs → Prop) (X : Nat → List D → Hs → Prop), wO c e ρ h Q X → (evO c e ρ h).post Q X
  | .none, ρ, h, Q, X, g => by rw [O_none]; exact g
  | .some e, ρ, h, Q, X, g => by rw [O_some]; exact sE e ρ h _ X g
theorem sW : ∀ (e : Exo) (ρ : Ev) (h : Hs) (Q : Bool → Hs → Prop) (X : Nat → List D → Hs → Prop), wW c e ρ h Q X → (evW c e ρ h).post Q X
  | .none, ρ, h, Q, X, g => by rw [W_none]; exact g
  | .some e, ρ, h, Q, X, g => by rw [W_some]; exact sT e ρ h _ X g
theorem sR : ∀ (e : Op) (ρ : Ev) (h : Hs) (Q : D → Hs → Prop) (X : Nat → List D → Hs → Prop), wR c e ρ h Q X → (evR c e ρ h).post Q X
  | .own i, ρ, h, Q, X, g => by rw [R_own]; exact g
  | .ex e, ρ, h, Q, X, g => by rw [R_ex]; exact sE e ρ h _ X g
theorem sRs : ∀ (e : Ops) (ρ : Ev) (h : Hs) (Q : List D → Hs → Prop) (X : Nat → List D → Hs → Prop), wRs c e ρ h Q X → (evRs c e ρ h).post Q X
  | .nil, ρ, h, Q, X, g => by rw [Rs_nil]; exact g
  | .cons e es, ρ, h, Q, X, g => by rw [Rs_cons]; exact Rs.post_to (sR e ρ h _ X g) fun x h1 g => sRs es ρ h1 _ X g
theorem sI : ∀ (e : It) (ρ : Ev) (h : Hs) (Q : Src → Hs → Prop) (X : Nat → List D → Hs → Prop), wI c e ρ h Q X → (evI c e ρ h).post Q X
  | .of (.ex e), ρ, h, Q, X, g => by rw [I_ex]; exact sE e ρ h _ X g
  | .of (.own i), ρ, h, Q, X, g => by rw [I_own]; exact g
  | .rng1 a, ρ, h, Q, X, g => by rw [I_rng1]; exact Rs.post_to (sE a ρ h _ X g) fun x h1 g => rngKD_of g
  | .rng2 a b, ρ, h, Q, X, g => by rw [I_rng2]; exact Rs.post_to (sE a ρ h _ X g) fun x h1 g => Rs.post_to (sE b ρ h1 _ X g) fun y h2 g => rngKD_of g
  | .rng3 _ _ _, ρ, h, Q, X, g => g.elim
  | .enum _, ρ, h, Q, X, g => g.elim
  | .zip _ _, ρ, h, Q, X, g => g.elim
end
end
/-! statements -/
section
variable (c : Sig)
mutual
def wS : St → Ev → Hs → (Fl → Hs → Prop) → (Nat → List D → Hs → Prop) → Prop
  | .set i e, ρ, h, Q, X => wE c e ρ h (fun d h1 => pu i (.val d) ρ (fun ρ1 => Q (.nx ρ1) h1)) (fun k fs h1 => Q (.xc k fs ρ) h1)
  | .own i e, ρ, h, Q, X => wE c e ρ h (fun d h1 => dlK d (fun xs => pu i (.own (.lst xs)) ρ (fun ρ1 => Q (.nx ρ1) h1))) (fun k fs h1 => Q (.xc k fs ρ) h1)
  | .frz i, ρ, h, Q, X => owK i ρ (fun o => obD o (fun d => pu i (.val d) ρ (fun ρ1 => Q (.nx ρ1) h)))
  | .app i e, ρ, h, Q, X => owK i ρ (fun o => lstK o (fun xs => wE c e ρ h (fun d h1 => lenK (xs.length + 1) (pu i (.own (.lst (xs ++ [d]))) ρ (fun ρ1 => Q (.nx ρ1) h1))) (fun k fs h1 => Q (.xc k fs ρ) h1)))
  | .stx i k e, ρ, h, Q, X => wE c e ρ h (fun d h1 => owK i ρ (fun o => lstK o (fun xs => wE c k ρ h1 (fun y h2 => stK xs y d (fun xs' => pu i (.own (.lst xs')) ρ (fun ρ1 => Q (.nx ρ1) h2))) (fun k fs h1 => Q (.xc k fs ρ) h1)))) (fun k fs h1 => Q (.xc k fs ρ) h1)
  | .bix a k e, ρ, h, Q, X => wE c e ρ h (fun d h1 => wE c a ρ h1 (fun b h2 => wE c k ρ h2 (fun y h3 => boxK h3 b (fun l xs => stK xs y d (fun xs' => d.pure = true ∧ Q (.nx ρ) (h3.set l (.lst xs'))))) (fun k fs h1 => Q (.xc k fs ρ) h1)) (fun k fs h1 => Q (.xc k fs ρ) h1)) (fun k fs h1 => Q (.xc k fs ρ) h1)
  | .ast t e, ρ, h, Q, X => wE c e ρ h (fun d h1 => optK (asg t d ρ) (fun ρ1 => Q (.nx ρ1) h1)) (fun k fs h1 => Q (.xc k fs ρ) h1)
  | .aug i op e, ρ, h, Q, X => slK i ρ (fun x => wE c e ρ h (fun y h1 => optK (augD op x y) (fun z => pu i (.val z) ρ (fun ρ1 => Q (.nx ρ1) h1))) (fun k fs h1 => Q (.xc k fs ρ) h1))
  | .exp e, ρ, h, Q, X => wE c e ρ h (fun d h1 => Q (.nx ρ) h1) (fun k fs h1 => Q (.xc k fs ρ) h1)
  | .ret e, ρ, h, Q, X => wE c e ρ h (fun d h1 => Q (.ret d) h1) (fun k fs h1 => Q (.xc k fs ρ) h1)
  | .retn, ρ, h, Q, X => Q (.ret .non) h
  | .ife t a b, ρ, h, Q, X => wT c t ρ h (fun k h1 => bK k (fun _ => wSs a ρ h1 Q X) (fun _ => wSs b ρ h1 Q X)) (fun k fs h1 => Q (.xc k fs ρ) h1)
  | .whl t b, ρ, h, Q, X => whlK c t b c.fuel ρ h Q X
  | .for t it b, ρ, h, Q, X => wI c it ρ h (fun s h1 => forK c t b s ρ h1 Q X) (fun k fs h1 => Q (.xc k fs ρ) h1)
  | .brk, ρ, h, Q, X => Q (.brk ρ) h
  | .cnt, ρ, h, Q, X => Q (.cnt ρ) h
  | .pas, ρ, h, Q, X => Q (.nx ρ) h
  | .rse k es, ρ, h, Q, X => wEs c es ρ h (fun ds h1 => Q (.xc k ds ρ) h1) (fun k fs h1 => Q (.xc k fs ρ) h1)
  | .try b hs, ρ, h, Q, X => wSs b ρ h (fun fl h1 => xcK fl h1 (fun k fs ρ1 h2 => wH hs k fs ρ1 h2 Q X) Q) X
  | s, ρ, h, Q, X => (exS c s ρ h).post Q X
def wSs : Sts → Ev → Hs → (Fl → Hs → Prop) → (Nat → List D → Hs → Prop) → Prop
  | .nil, ρ, h, Q, X => Q (.nx ρ) h
  | .cons s r, ρ, h, Q, X => wS s ρ h (fun fl h1 => flK fl h1 (fun ρ1 h2 => wSs r ρ1 h2 Q X) Q) X
def wH : Hds → Nat → List D → Ev → Hs → (Fl → Hs → Prop) → (Nat → List D → Hs → Prop) → Prop
  | .nil, k, fs, ρ, h, Q, X => Q (.xc k fs ρ) h
  | .cons x none b r, k, fs, ρ, h, Q, X => optK (c.isx x k) (fun i => bK i (fun _ => wSs b ρ h (fun fl h1 => xcK fl h1 (fun _ _ _ _ => False) Q) X) (fun _ => wH r k fs ρ h Q X))
  | .cons x (some i) b r, k, fs, ρ, h, Q, X => optK (c.isx x k) (fun j => bK j (fun _ => pu i (.val (.exc k fs)) ρ (fun ρ1 => wSs b ρ1 h (fun fl h1 => retK fl h1 Q) X)) (fun _ => wH r k fs ρ h Q X))
end
end
section
variable {c : Sig}
theorem flK_imp {fl : Fl} {h : Hs} {K K' : Ev → Hs → Prop} {Q : Fl → Hs → Prop} (p : flK fl h K Q) (g : ∀ ρ h, K ρ h → K' ρ h) : flK fl h K' Q := by cases fl <;> first | exact g _ _ p | exact p
theorem xcK_imp {fl : Fl} {h : Hs} {K K' : Nat → List D → Ev → Hs → Prop} {Q : Fl → Hs → Prop} (p : xcK fl h K Q) (g : ∀ k fs ρ h, K k fs ρ h → K' k fs ρ h) : xcK fl h K' Q := by cases fl <;> first | exact g _ _ _ _ p | exact p
theorem pu_imp {i : Nat} {s : Sl} {ρ : Ev} {K K' : Ev → Prop} (p : pu i s ρ K) (g : ∀ ρ, K ρ → K' ρ) : pu i s ρ K' := by
  rw [pu_eq] at p ⊢
  exact ⟨p.1, g _ p.2⟩
theorem stK_imp {xs : List D} {k y : D} {K K' : List D → Prop} (p : stK xs k y K) (g : ∀ r, K r → K' r) : stK xs k y K' := optK_imp p g
mutual
theorem sS : ∀ (s : St) (ρ : Ev) (h : Hs) (Q : Fl → Hs → Prop) (X : Nat → List D → Hs → Prop), wS c s ρ h Q X → (exS c s ρ h).post Q X
  | .set i e, ρ, h, Q, X, g => by rw [S_set]; exact Rs.post_imp (sE e ρ h _ _ g) (fun _ _ q => q) fun _ _ _ q => q
  | .own i e, ρ, h, Q, X, g => by rw [S_own]; exact sE e ρ h _ _ g
  | .frz i, ρ, h, Q, X, g => by rw [S_frz]; exact g
  | .app i e, ρ, h, Q, X, g => by
    rw [S_app]
    refine owK_imp g fun o g => lstK_imp g fun xs g => Rs.post_to (sE e ρ h _ _ g) fun d h1 g => ?_
    have g := g.to
    exact ⟨by have := g.1; omega, g.2⟩
  | .stx i k e, ρ, h, Q, X, g => by
    rw [S_stx]
    exact Rs.post_to (sE e ρ h _ _ g) fun d h1 g => owK_imp g fun o g => lstK_imp g fun xs g => sE k ρ h1 _ _ g
  | .bix a k e, ρ, h, Q, X, g => by
    rw [S_bix]
    exact Rs.post_to (sE e ρ h _ _ g) fun d h1 g => Rs.post_to (sE a ρ h1 _ _ g) fun b h2 g => sE k ρ h2 _ _ g
  | .ast t e, ρ, h, Q, X, g => by rw [S_ast]; exact sE e ρ h _ _ g
  | .aug i op e, ρ, h, Q, X, g => by rw [S_aug]; exact slK_imp g fun x g => sE e ρ h _ _ g
  | .exp e, ρ, h, Q, X, g => by rw [S_exp]; exact sE e ρ h _ _ g
  | .ret e, ρ, h, Q, X, g => by rw [S_ret]; exact sE e ρ h _ _ g
  | .retn, ρ, h, Q, X, g => by rw [S_retn]; exact g
  | .ife t a b, ρ, h, Q, X, g => by rw [S_ife]; exact Rs.post_to (sT t ρ h _ _ g) fun k h1 g => bK_imp g (fun g => sSs a ρ h1 Q X g) fun g => sSs b ρ h1 Q X g
  | .whl t b, ρ, h, Q, X, g => by
    rw [S_whl]
    have g : whlK c t b c.fuel ρ h Q X := g
    have g := g.to; exact g
  | .for t it b, ρ, h, Q, X, g => by
    rw [S_for]
    refine Rs.post_to (sI it ρ h _ _ g) fun s h1 g => ?_
    have g := g.to; exact g
  | .brk, ρ, h, Q, X, g => by rw [S_brk]; exact g
  | .cnt, ρ, h, Q, X, g => by rw [S_cnt]; exact g
  | .pas, ρ, h, Q, X, g => by rw [S_pas]; exact g
  | .rse k es, ρ, h, Q, X, g => by rw [S_rse]; exact sEs es ρ h _ _ g
  | .try b hs, ρ, h, Q, X, g => by
    rw [S_try]
    exact Rs.post_to (sSs b ρ h _ X g) fun fl h1 g => xcK_imp g fun k fs ρ1 h2 g => sH hs k fs ρ1 h2 Q X g
  | .owd _, ρ, h, Q, X, g => g
  | .swp _ _ _ _ _, ρ, h, Q, X, g => g
  | .par _ _ _ _, ρ, h, Q, X, g => g
theorem sSs : ∀ (s : Sts) (ρ : Ev) (h : Hs) (Q : Fl → Hs → Prop) (X : Nat → List D → Hs → Prop), wSs c s ρ h Q X → (exSs c s ρ h).post Q X
  | .nil, ρ, h, Q, X, g => by rw [Ss_nil]; exact g
  | .cons s r, ρ, h, Q, X, g => by rw [Ss_cons]; exact Rs.post_to (sS s ρ h _ X g) fun fl h1 g => flK_imp g fun ρ1 h2 g => sSs r ρ1 h2 Q X g
theorem sH : ∀ (hs : Hds) (k : Nat) (fs : List D) (ρ : Ev) (h : Hs) (Q : Fl → Hs → Prop) (X : Nat → List D → Hs → Prop), wH c hs k fs ρ h Q X → (exH c hs k fs ρ h).post Q X
  | .nil, k, fs, ρ, h, Q, X, g => by rw [H_nil]; exact g
  | .cons x none b r, k, fs, ρ, h, Q, X, g => by
    rw [H_none]
    exact optK_imp g fun i g => bK_imp g (fun g => sSs b ρ h _ X g) fun g => sH r k fs ρ h Q X g
  | .cons x (some i) b r, k, fs, ρ, h, Q, X, g => by
    rw [H_some]
    exact optK_imp g fun j g => bK_imp g (fun g => pu_imp g fun ρ1 g => sSs b ρ1 h _ X g) fun g => sH r k fs ρ h Q X g
end
structure fnK (rb : Bool) (n : Nat) (Q : D → Hs → Prop) (X : Nat → List D → Hs → Prop) (fl : Fl) (h : Hs) : Prop where
  to : finK rb n Q X fl h
theorem w_run {P : Prg} {k f : Nat} {ds : List D} {h : Hs} {Q : D → Hs → Prop} {X : Nat → List D → Hs → Prop} {F : Fn} (hF : P.fn f = some F) (hl : ds.length = F.ps.length) (g : wSs (P.sig (P.run k)) F.body (ent F ds) h (fnK F.rb h.length Q X) (fun _ _ _ => False)) : (P.run (k + 1) f ds h).post Q X := by
  refine post_run hF hl ?_
  refine Rs.post_to (sSs _ _ _ _ _ g) fun fl h g => ?_
  have g := g.to; exact g
theorem fn_ret {rb : Bool} {n : Nat} {d : D} {h : Hs} {Q : D → Hs → Prop} {X : Nat → List D → Hs → Prop} (e : h.length = n) (g : Q d h) : fnK rb n Q X (.ret d) h := by
  refine ⟨?_⟩; rw [finK_ret e]; exact g
theorem fn_cut {n : Nat} {d : D} {h : Hs} {Q : D → Hs → Prop} {X : Nat → List D → Hs → Prop} (hp : d.pure = true) (g : Q d (h.take n)) : fnK false n Q X (.ret d) h := by
  refine ⟨?_⟩
  simp only [finK, back]
  by_cases e : h.length = n
  · rw [if_pos e]
    subst e
    rw [List.take_length] at g; exact g
  · rw [if_neg e, if_neg (by simp), if_pos hp]; exact g
theorem fn_nx {rb : Bool} {n : Nat} {ρ : Ev} {h : Hs} {Q : D → Hs → Prop} {X : Nat → List D → Hs → Prop} (e : h.length = n) (g : Q .non h) : fnK rb n Q X (.nx ρ) h := by
  refine ⟨?_⟩; rw [finK_nx e]; exact g
theorem fn_xc {rb : Bool} {n : Nat} {ρ : Ev} {c : Nat} {fs : List D} {h : Hs} {Q : D → Hs → Prop} {X : Nat → List D → Hs → Prop} (e : h.length = n) (g : X c fs h) : fnK rb n Q X (.xc c fs ρ) h := by
  refine ⟨?_⟩; rw [finK_xc e]; exact g
/-- a call, by the callee's words -/
theorem c_run {P : Prg} {k f : Nat} {ds : List D} {h : Hs} {Q : D → Hs → Prop} {X : Nat → List D → Hs → Prop} {F : Fn} (hF : P.fn f = some F) (hl : ds.length = F.ps.length) (g : wSs (P.sig (P.run k)) F.body (ent F ds) h (fnK F.rb h.length Q X) (fun _ _ _ => False)) : callK (P.sig (P.run (k + 1))) f ds h Q X := by
  refine ⟨?_⟩
  exact w_run hF hl g
theorem k_run {P : Prg} {k f : Nat} {ds : List D} {h : Hs} {Q : D → Hs → Prop} {X : Nat → List D → Hs → Prop} (g : callK (P.sig (P.run k)) f ds h Q X) : (P.run k f ds h).post Q X := by
  have g := g.to; exact g
theorem k_of {P : Prg} {k f : Nat} {ds : List D} {h : Hs} {Q : D → Hs → Prop} {X : Nat → List D → Hs → Prop} (g : (P.run k f ds h).post Q X) : callK (P.sig (P.run k)) f ds h Q X := by
  refine ⟨?_⟩; exact g
theorem post_eq {α : Type} {r : Rs α} {v : α} {h1 : Hs} (g : r.post (fun a h => a = v ∧ h = h1) (fun _ _ _ => False)) : r = .ok v h1 := by
  cases r with
  | ok a h => obtain ⟨rfl, rfl⟩ := g; rfl
  | exc _ _ _ => exact g.elim
  | stuck => exact g.elim
theorem post_xc {α : Type} {r : Rs α} {k : Nat} {fs : List D} {h1 : Hs} (g : r.post (fun _ _ => False) (fun k' fs' h => k' = k ∧ fs' = fs ∧ h = h1)) : r = .exc k fs h1 := by
  cases r with
  | ok a h => exact g.elim
  | exc _ _ _ => obtain ⟨rfl, rfl, rfl⟩ := g; rfl
  | stuck => exact g.elim
/-- what is decided -/
theorem dK_t {p : Prop} [Decidable p] {K : Bool → Prop} (h : p) (g : K true) : dK p K := by refine ⟨?_⟩; rw [decide_eq_true h]; exact g
theorem dK_f {p : Prop} [Decidable p] {K : Bool → Prop} (h : ¬ p) (g : K false) : dK p K := by refine ⟨?_⟩; rw [decide_eq_false h]; exact g
theorem dK_c {p : Prop} [Decidable p] {K : Bool → Prop} (g1 : p → K true) (g2 : ¬ p → K false) : dK p K := by
  by_cases h : p
  · exact dK_t h (g1 h)
  · exact dK_f h (g2 h)
theorem dK_d {p : Prop} [Decidable p] {K : Bool → Prop} (g : K (decide p)) : dK p K := by refine ⟨?_⟩; exact g
theorem bK_t {b : Bool} {P N : Unit → Prop} (h : b = true) (g : P ()) : bK b P N := by rw [h]; exact g
theorem bK_f {b : Bool} {P N : Unit → Prop} (h : b = false) (g : N ()) : bK b P N := by rw [h]; exact g
theorem bK_c {b : Bool} {P N : Unit → Prop} (g1 : b = true → P ()) (g2 : b = false → N ()) : bK b P N := by
  cases h : b
  · exact g2 h
  · exact g1 h
theorem mulK_r {i j : Int} {K : Int → Prop} (h : -18446744073709551616 < j ∧ j < 18446744073709551616) (g : K (i * j)) : mulK i j K := by
  refine ⟨?_⟩
  refine ⟨?_, g⟩
  have : j.natAbs < 2 ^ 64 := by omega
  simp [mulOk, this]
theorem mulK_l {i j : Int} {K : Int → Prop} (h : -18446744073709551616 < i ∧ i < 18446744073709551616) (g : K (i * j)) : mulK i j K := by
  refine ⟨?_⟩
  refine ⟨?_, g⟩
  have : i.natAbs < 2 ^ 64 := by omega
  simp [mulOk, this]
theorem divK_of {i j : Int} {K : Int → Prop} (h : 0 < j ∧ j < 18446744073709551616) (g : K (i / j)) : divK i j K := by
  refine ⟨?_⟩
  refine ⟨?_, g⟩
  have h1 : j.natAbs ≠ 0 := by omega
  have h2 : j.natAbs < 2 ^ 64 := by omega
  have : j.natAbs.log2 < 64 := (Nat.log2_lt h1).mpr h2
  simp [divOk, h.1]; omega
theorem modK_of {i j : Int} {K : Int → Prop} (h : 0 < j) (g : K (i % j)) : modK i j K := by refine ⟨?_⟩; exact ⟨h, g⟩
theorem powK_of {i j : Int} {K : Int → Prop} (h : powOk i j = true) (g : K (i ^ j.toNat)) : powK i j K := by refine ⟨?_⟩; exact ⟨h, g⟩
theorem shlK_of {i j : Int} {K : Int → Prop} (h : powOk i j = true) (g : K (i * 2 ^ j.toNat)) : shlK i j K := by refine ⟨?_⟩; exact ⟨h, g⟩
theorem shrK_of {i j : Int} {K : Int → Prop} (h : 0 ≤ j) (g : K (i / 2 ^ j.toNat)) : shrK i j K := by refine ⟨?_⟩; exact ⟨h, g⟩
theorem lenK_of {n : Nat} {K : Prop} (h : n ≤ 1000000) (g : K) : lenK n K := by refine ⟨?_⟩; exact ⟨h, g⟩
theorem rngK_of {i j : Int} {K : List D → Prop} (h : (-1000000000000000 ≤ i ∧ i < 1000000000000000) ∧ -1000000000000000 ≤ j ∧ j < 1000000000000000) (g : K (rngL i (j - i).toNat)) : rngK i j K := by
  refine ⟨?_⟩
  refine ⟨⟨?_, ?_⟩, g⟩ <;> simp [big] <;> omega
theorem eqK_of {a b : D} {K : Bool → Prop} (h1 : a.cmpOk = true) (h2 : b.cmpOk = true) (g : K (a.eqv b)) : eqK a b K := by refine ⟨?_⟩; exact ⟨⟨h1, h2⟩, g⟩
theorem atK_of {xs : List D} {k : Int} {v : D} {K : D → Prop} (e : atI xs k = some v) (g : K v) : atK xs k K := by refine ⟨?_⟩; rw [e]; exact g
theorem ix_ok {n : Nat} {i : Int} (h0 : 0 ≤ i) (h1 : i < n) : ixN n i = some i.toNat := by
  unfold ixN
  rw [if_pos h0, if_pos h1]
theorem atK_at {xs : List D} {k : Int} {v : D} {K : D → Prop} (h0 : 0 ≤ k) (e : xs[k.toNat]? = some v) (g : K v) : atK xs k K := by
  have hl := (List.getElem?_eq_some_iff.mp e).1
  refine atK_of ?_ g
  simp [atI, ix_ok h0 (show k < xs.length by omega), e]
/-- a row of whole numbers -/
theorem atK_i {is : List Int} {k : Int} {K : D → Prop} (h : 0 ≤ k ∧ k < is.length) (g : K (.int (is.getD k.toNat 0))) : atK (is.map D.int) k K := by
  have hl : k.toNat < is.length := by omega
  refine atK_at h.1 (v := .int (is.getD k.toNat 0)) ?_ g
  simp [hl]
theorem slK_of {i : Nat} {ρ : Ev} {K : D → Prop} {d : D} (e : slotD i ρ = some d) (g : K d) : slK i ρ K := by unfold slK; rw [e]; exact g
/-- loops -/
theorem k_for {t : Tg} {b : Sts} {s : Src} {ρ : Ev} {h : Hs} {Q : Fl → Hs → Prop} {X : Nat → List D → Hs → Prop} (I : Nat → Ev → Hs → Prop) (hst : ∀ ρ h, s.still ρ h = true) (ho : s.isOwn = false) (h0 : I 0 ρ h)
    (step : ∀ i x ρ h, s.xs[i]? = some x → I i ρ h → optK (asg t x ρ) fun ρ2 => wSs c b ρ2 h (turnK (I (i + 1)) Q) X) (hend : ∀ ρ h, I s.xs.length ρ h → Q (.nx ρ) h) : forK c t b s ρ h Q X := by
  refine ⟨?_⟩
  refine ⟨ho, for_post hst I s.xs h0 (fun i x ρ h hx q => ?_) hend⟩
  rw [post_trn]
  exact optK_imp (step i x ρ h hx q) fun ρ2 g => sSs b ρ2 h _ X g
theorem rngL_mp : ∀ (n : Nat) (lo : Int), rngL lo n = (List.range n).map fun i : Nat => D.int (lo + (i : Int))
  | 0, _ => rfl
  | n + 1, lo => by
    rw [rngL, rngL_mp n, List.range_succ_eq_map, List.map_cons, List.map_map]
    congr 1
    · simp
    · apply List.map_congr_left
      intro i _
      simp
      omega
/-- .. over a range -/
theorem k_forR {t : Tg} {b : Sts} {lo : Int} {n : Nat} {ρ : Ev} {h : Hs} {Q : Fl → Hs → Prop} {X : Nat → List D → Hs → Prop} (I : Nat → Ev → Hs → Prop) (h0 : I 0 ρ h)
    (step : ∀ (i : Nat) ρ h, i < n → I i ρ h → optK (asg t (.int (lo + i)) ρ) fun ρ2 => wSs c b ρ2 h (turnK (I (i + 1)) Q) X) (hend : ∀ ρ h, I n ρ h → Q (.nx ρ) h) : forK c t b (.fix (rngL lo n)) ρ h Q X := by
  refine k_for I (fun _ _ => rfl) rfl h0 (fun i x ρ h hx q => ?_) fun ρ h q => hend ρ h (by rwa [Src.xs, rngL_len] at q)
  have hx : (rngL lo n)[i]? = some x := hx
  rw [rngL_mp, List.getElem?_map] at hx
  obtain ⟨m, hm, rfl⟩ := Option.map_eq_some_iff.mp hx
  have hi : i < n := by have := (List.getElem?_eq_some_iff.mp hm).1; simpa using this
  have : m = i := by
    rw [List.getElem?_range hi] at hm; exact (Option.some.inj hm).symm
  subst this
  exact step m ρ h hi q
/-- .. over a row -/
theorem k_forM {α : Type} {f : α → D} {t : Tg} {b : Sts} {xs : List α} {ρ : Ev} {h : Hs} {Q : Fl → Hs → Prop} {X : Nat → List D → Hs → Prop} (I : Nat → Ev → Hs → Prop) (h0 : I 0 ρ h)
    (step : ∀ (i : Nat) x ρ h, xs[i]? = some x → I i ρ h → optK (asg t (f x) ρ) fun ρ2 => wSs c b ρ2 h (turnK (I (i + 1)) Q) X) (hend : ∀ ρ h, I xs.length ρ h → Q (.nx ρ) h) : forK c t b (.fix (xs.map f)) ρ h Q X := by
  refine k_for I (fun _ _ => rfl) rfl h0 (fun i x ρ h hx q => ?_) fun ρ h q => hend ρ h (by rwa [Src.xs, List.length_map] at q)
  have hx : (xs.map f)[i]? = some x := hx
  rw [List.getElem?_map] at hx
  obtain ⟨m, hm, rfl⟩ := Option.map_eq_some_iff.mp hx
  exact step i m ρ h hm q
theorem k_whl {t : Ex} {b : Sts} {n m : Nat} {ρ : Ev} {h : Hs} {Q : Fl → Hs → Prop} {X : Nat → List D → Hs → Prop} (I : Nat → Ev → Hs → Prop) (hm : m < n) (h0 : I m ρ h)
    (step : ∀ i ρ h, I i ρ h → wT c t ρ h (fun k h1 => bK k (fun _ => wSs c b ρ h1 (turnK (fun ρ h => ∃ j, j < i ∧ I j ρ h) Q) X) (fun _ => Q (.nx ρ) h1)) (fun k fs h1 => Q (.xc k fs ρ) h1)) : whlK c t b n ρ h Q X := by
  refine ⟨?_⟩
  refine while_post I hm h0 fun i ρ h q => ?_
  exact Rs.post_to (sT t ρ h _ _ (step i ρ h q)) fun k h1 g => bK_imp g (fun g => sSs b ρ h1 _ X g) fun g => g
theorem k_lc {elt : Ex} {t : Tg} {w : Exo} {s : Src} {ρ : Ev} {h : Hs} {Q : List D → Hs → Prop} {X : Nat → List D → Hs → Prop} (I : Nat → List D → Hs → Prop) (hc : clear t ρ = true) (hl : s.xs.length ≤ 1000000) (hst : ∀ i ys h, I i ys h → s.still ρ h = true) (h0 : I 0 [] h)
    (step : ∀ i x ys h, s.xs[i]? = some x → I i ys h → optK (asg t x (wipeE ρ (slo t))) fun ρ1 => wW c w ρ1 h (fun k h3 => bK k (fun _ => wE c elt ρ1 h3 (fun y h4 => I (i + 1) (ys ++ [y]) h4) (fun _ _ _ => False)) (fun _ => I (i + 1) ys h3)) (fun _ _ _ => False))
    (hend : ∀ ys h, I s.xs.length ys h → Q ys h) : lcK c elt t w s ρ h Q X := by
  refine ⟨?_⟩
  refine ⟨hc, hl, lc_post I s.xs hst h0 (fun i x ys h hx q => ?_) hend⟩
  rw [post_lcT]
  refine optK_imp (step i x ys h hx q) fun ρ1 g => ?_
  exact Rs.post_imp (sW w ρ1 h _ _ g) (fun k h3 g => bK_imp g (fun g => Rs.post_imp (sE elt ρ1 h3 _ _ g) (fun y h4 q => q) fun _ _ _ q => q) fun g => g) fun _ _ _ q => q
/-- .. each item by itself -/
theorem k_lcm {elt : Ex} {t : Tg} {w : Exo} {s : Src} {ρ : Ev} {h : Hs} {Q : List D → Hs → Prop} {X : Nat → List D → Hs → Prop} (G : D → Option D) (hc : clear t ρ = true) (hl : s.xs.length ≤ 1000000) (hst : s.still ρ h = true)
    (step : ∀ x ∈ s.xs, optK (asg t x (wipeE ρ (slo t))) fun ρ1 => wW c w ρ1 h (fun k h3 => bK k (fun _ => wE c elt ρ1 h3 (fun y h4 => G x = some y ∧ h4 = h) (fun _ _ _ => False)) (fun _ => G x = none ∧ h3 = h)) (fun _ _ _ => False))
    (hend : Q (s.xs.filterMap G) h) : lcK c elt t w s ρ h Q X := by
  refine ⟨?_⟩
  refine ⟨hc, hl, lc_post (fun i ys h1 => h1 = h ∧ ys = (s.xs.take i).filterMap G) s.xs (fun i ys h1 q => by rw [q.1]; exact hst) ⟨rfl, by simp⟩ (fun i x ys h1 hx q => ?_) fun ys h1 q => ?_⟩
  · obtain ⟨rfl, rfl⟩ := q
    have ht : s.xs.take (i + 1) = s.xs.take i ++ [x] := by rw [List.take_add_one, hx]; rfl
    have g0 := step x (List.mem_of_getElem? hx)
    have g : (lcT c elt t w ρ x h1).post (fun o h2 => o = G x ∧ h2 = h1) X := by
      rw [post_lcT]
      refine optK_imp g0 fun ρ1 g => ?_
      exact Rs.post_imp (sW w ρ1 h1 _ _ g) (fun k h3 g => bK_imp g (fun g => Rs.post_imp (sE elt ρ1 h3 _ _ g) (fun y h4 q => ⟨q.1.symm, q.2⟩) fun _ _ _ q => q) fun g => ⟨g.1.symm, g.2⟩) fun _ _ _ q => q
    refine Rs.post_to g fun o h2 q => ?_
    obtain ⟨rfl, rfl⟩ := q
    rw [ht, List.filterMap_append]
    cases e : G x with
    | none => exact ⟨rfl, by simp [e]⟩
    | some y => exact ⟨rfl, by simp [e]⟩
  · obtain ⟨rfl, rfl⟩ := q
    rw [List.take_length]; exact hend
/-- a range's items: those that pass, and what is made of them -/
theorem k_lcR {elt : Ex} {t : Tg} {w : Exo} {lo : Int} {n : Nat} {ρ : Ev} {h : Hs} {Q : List D → Hs → Prop} {X : Nat → List D → Hs → Prop} (p : Nat → Bool) (g : Nat → D) (hc : clear t ρ = true) (hl : n ≤ 1000000)
    (step : ∀ i, i < n → optK (asg t (.int (lo + i)) (wipeE ρ (slo t))) fun ρ1 => wW c w ρ1 h (fun k h3 => bK k (fun _ => wE c elt ρ1 h3 (fun y h4 => p i = true ∧ y = g i ∧ h4 = h) (fun _ _ _ => False)) (fun _ => p i = false ∧ h3 = h)) (fun _ _ _ => False))
    (hend : Q (((List.range n).filter p).map g) h) : lcK c elt t w (.fix (rngL lo n)) ρ h Q X := by
  refine ⟨?_⟩
  refine ⟨hc, by rw [Src.xs, rngL_len]; exact hl, lc_post (fun i ys h1 => i ≤ n ∧ h1 = h ∧ ys = ((List.range i).filter p).map g) _ (fun i ys h1 q => rfl) ⟨Nat.zero_le _, rfl, by simp⟩ (fun i x ys h1 hx q => ?_) fun ys h1 q => ?_⟩
  · obtain ⟨_, rfl, rfl⟩ := q
    have hx : (rngL lo n)[i]? = some x := hx
    rw [rngL_mp, List.getElem?_map] at hx
    obtain ⟨m, hm, rfl⟩ := Option.map_eq_some_iff.mp hx
    have hi : i < n := by have := (List.getElem?_eq_some_iff.mp hm).1; simpa using this
    have : m = i := by
      rw [List.getElem?_range hi] at hm; exact (Option.some.inj hm).symm
    subst this
    rw [post_lcT]
    refine optK_imp (step m hi) fun ρ1 g => ?_
    refine Rs.post_imp (sW w ρ1 h1 _ _ g) (fun k h3 g => bK_imp g (fun g => Rs.post_imp (sE elt ρ1 h3 _ _ g) (fun y h4 q => ?_) fun _ _ _ q => q) fun g => ?_) fun _ _ _ q => q
    · obtain ⟨q1, rfl, rfl⟩ := q
      exact ⟨hi, rfl, by rw [List.range_succ, List.filter_append, List.map_append]; simp [q1]⟩
    · obtain ⟨q1, rfl⟩ := g
      exact ⟨hi, rfl, by rw [List.range_succ, List.filter_append, List.map_append]; simp [q1]⟩
  · obtain ⟨_, rfl, rfl⟩ := q
    rw [Src.xs, rngL_len]; exact hend
/-- a row's items -/
theorem k_lcM {α : Type} {f : α → D} {elt : Ex} {t : Tg} {w : Exo} {xs : List α} {ρ : Ev} {h : Hs} {Q : List D → Hs → Prop} {X : Nat → List D → Hs → Prop} (p : α → Bool) (g : α → D) (hc : clear t ρ = true) (hl : xs.length ≤ 1000000)
    (step : ∀ x ∈ xs, optK (asg t (f x) (wipeE ρ (slo t))) fun ρ1 => wW c w ρ1 h (fun k h3 => bK k (fun _ => wE c elt ρ1 h3 (fun y h4 => p x = true ∧ y = g x ∧ h4 = h) (fun _ _ _ => False)) (fun _ => p x = false ∧ h3 = h)) (fun _ _ _ => False))
    (hend : Q ((xs.filter p).map g) h) : lcK c elt t w (.fix (xs.map f)) ρ h Q X := by
  refine ⟨?_⟩
  refine ⟨hc, by rw [Src.xs, List.length_map]; exact hl, lc_post (fun i ys h1 => h1 = h ∧ ys = ((xs.take i).filter p).map g) _ (fun i ys h1 q => rfl) ⟨rfl, by simp⟩ (fun i x ys h1 hx q => ?_) fun ys h1 q => ?_⟩
  · obtain ⟨rfl, rfl⟩ := q
    have hx : (xs.map f)[i]? = some x := hx
    rw [List.getElem?_map] at hx
    obtain ⟨m, hm, rfl⟩ := Option.map_eq_some_iff.mp hx
    have ht : xs.take (i + 1) = xs.take i ++ [m] := by rw [List.take_add_one, hm]; rfl
    rw [post_lcT]
    refine optK_imp (step m (List.mem_of_getElem? hm)) fun ρ1 g => ?_
    refine Rs.post_imp (sW w ρ1 h1 _ _ g) (fun k h3 g => bK_imp g (fun g => Rs.post_imp (sE elt ρ1 h3 _ _ g) (fun y h4 q => ?_) fun _ _ _ q => q) fun g => ?_) fun _ _ _ q => q
    · obtain ⟨q1, rfl, rfl⟩ := q
      exact ⟨rfl, by rw [ht, List.filter_append, List.map_append]; simp [q1]⟩
    · obtain ⟨q1, rfl⟩ := g
      exact ⟨rfl, by rw [ht, List.filter_append, List.map_append]; simp [q1]⟩
  · obtain ⟨rfl, rfl⟩ := q
    rw [Src.xs, List.length_map, List.take_length]; exact hend
theorem k_lcP {elt : Ex} {t : Tg} {w : Exo} {xs : List D} {ρ : Ev} {h : Hs} {Q : List D → Hs → Prop} {X : Nat → List D → Hs → Prop} (p : D → Bool) (g : D → D) (hc : clear t ρ = true) (hl : xs.length ≤ 1000000)
    (step : ∀ x ∈ xs, optK (asg t x (wipeE ρ (slo t))) fun ρ1 => wW c w ρ1 h (fun k h3 => bK k (fun _ => wE c elt ρ1 h3 (fun y h4 => p x = true ∧ y = g x ∧ h4 = h) (fun _ _ _ => False)) (fun _ => p x = false ∧ h3 = h)) (fun _ _ _ => False))
    (hend : Q ((xs.filter p).map g) h) : lcK c elt t w (.fix xs) ρ h Q X := by
  have := k_lcM (f := id) (xs := xs) (Q := Q) (X := X) p g hc hl step hend
  rwa [List.map_id] at this
/-- .. with the same known of each item, and kept by each turn -/
theorem k_forC {t : Tg} {b : Sts} {xs : List D} {ρ : Ev} {h : Hs} {Q : Fl → Hs → Prop} {X : Nat → List D → Hs → Prop} (P : D → Prop) (I : Ev → Hs → Prop) (hP : ∀ x ∈ xs, P x) (h0 : I ρ h)
    (step : ∀ x ρ h, P x → I ρ h → optK (asg t x ρ) fun ρ2 => wSs c b ρ2 h (turnK I Q) X) (hend : ∀ ρ h, I ρ h → Q (.nx ρ) h) : forK c t b (.fix xs) ρ h Q X :=
  k_for (fun _ => I) (fun _ _ => rfl) rfl h0 (fun i x ρ h hx q => step x ρ h (hP x (List.mem_of_getElem? hx)) q) hend
end
end PV
namespace Ck35
open PySem L2 PV
/-! the text of the law, by gen.py -/
abbrev topAt (i : Nat) : Stmt := PySem.Challenge.pw_coinreaders_k35_ways_and_good_places.main.body.getD i (.Pass ⟨0, 0, 0, 0⟩)
def inCls (s : Stmt) : Stmt := match s with | .ClassDef _ _ _ (b :: _) _ _ _ _ _ _ _ => b | _ => s
def b_is_integer : Sts := (.cons (.ret (.and (.isi (.ex (.var 0)) [.int]) (.not (.isi (.ex (.var 0)) [.bool])))) .nil)
def f_is_integer : Fn := ⟨[PySem.Str.ofString "value"], [PySem.Str.ofString "value"], b_is_integer, false⟩
def b_way_to : Sts := (.cons (.ife (.or (.not (.call 0 (.cons (.var 0) .nil))) (.not (.chain .le .le (.cst (.int 1)) (.var 0) (.cst (.int 40))))) (.cons (.rse 1 (.cons (.var 0) .nil)) .nil) .nil) (.cons (.ife (.or (.not (.call 0 (.cons (.var 1) .nil))) (.not (.chain .le .lt (.cst (.int 0)) (.var 1) (.var 0)))) (.cons (.rse 1 (.cons (.var 1) .nil)) .nil) .nil) (.cons (.set 2 (.cst (.int 0))) (.cons (.set 3 (.bin .sub (.ex (.var 0)) (.ex (.cst (.int 1))))) (.cons (.own 4 (.lst false .nil)) (.cons (.whl (.cmp .le (.ex (.var 2)) (.ex (.var 3))) (.cons (.set 5 (.bin .fdiv (.ex (.bin .add (.ex (.var 2)) (.ex (.var 3)))) (.ex (.cst (.int 2))))) (.cons (.app 4 (.var 5)) (.cons (.ife (.cmp .eq (.ex (.var 5)) (.ex (.var 1))) (.cons .brk .nil) .nil) (.cons (.ife (.cmp .gt (.ex (.var 1)) (.ex (.var 5))) (.cons (.set 2 (.bin .add (.ex (.var 5)) (.ex (.cst (.int 1))))) .nil) (.cons (.set 3 (.bin .sub (.ex (.var 5)) (.ex (.cst (.int 1))))) .nil)) .nil))))) (.cons (.ret (.bi .tuple (.cons (.own 4) .nil))) .nil)))))))
def f_way_to : Fn := ⟨[PySem.Str.ofString "length", PySem.Str.ofString "place"], [PySem.Str.ofString "length", PySem.Str.ofString "place", PySem.Str.ofString "low", PySem.Str.ofString "high", PySem.Str.ofString "way", PySem.Str.ofString "middle"], b_way_to, false⟩
def b_check_list : Sts := (.cons (.ife (.or (.not (.isi (.ex (.var 0)) [.list, .tuple])) (.not (.chain .le .le (.cst (.int 1)) (.bi .len (.cons (.ex (.var 0)) .nil)) (.cst (.int 40))))) (.cons (.rse 2 (.cons (.var 0) .nil)) .nil) .nil) (.cons (.for (.slot 1) (.of (.ex (.var 0))) (.cons (.ife (.not (.call 0 (.cons (.var 1) .nil))) (.cons (.rse 2 (.cons (.var 0) .nil)) .nil) .nil) .nil)) .nil))
def f_check_list : Fn := ⟨[PySem.Str.ofString "numbers"], [PySem.Str.ofString "numbers", PySem.Str.ofString "number"], b_check_list, false⟩
def b_is_good : Sts := (.cons (.exp (.call 2 (.cons (.var 0) .nil))) (.cons (.for (.slot 2) (.of (.ex (.call 1 (.cons (.bi .len (.cons (.ex (.var 0)) .nil)) (.cons (.var 1) .nil))))) (.cons (.ife (.and (.cmp .lt (.ex (.var 2)) (.ex (.var 1))) (.cmp .gt (.ex (.idx (.ex (.var 0)) (.var 2))) (.ex (.idx (.ex (.var 0)) (.var 1))))) (.cons (.ret (.cst (.bl false))) .nil) .nil) (.cons (.ife (.and (.cmp .gt (.ex (.var 2)) (.ex (.var 1))) (.cmp .lt (.ex (.idx (.ex (.var 0)) (.var 2))) (.ex (.idx (.ex (.var 0)) (.var 1))))) (.cons (.ret (.cst (.bl false))) .nil) .nil) .nil))) (.cons (.ret (.cst (.bl true))) .nil)))
def f_is_good : Fn := ⟨[PySem.Str.ofString "numbers", PySem.Str.ofString "place"], [PySem.Str.ofString "numbers", PySem.Str.ofString "place", PySem.Str.ofString "middle"], b_is_good, false⟩
def b_refused_places : Sts := (.cons (.exp (.call 2 (.cons (.var 0) .nil))) (.cons (.ret (.bi .tuple (.cons (.ex (.lc (.var 1) (.slot 1) (.rng1 (.bi .len (.cons (.ex (.var 0)) .nil))) (.some (.not (.call 3 (.cons (.var 0) (.cons (.var 1) .nil))))))) .nil))) .nil))
def f_refused_places : Fn := ⟨[PySem.Str.ofString "numbers"], [PySem.Str.ofString "numbers", PySem.Str.ofString "place"], b_refused_places, false⟩
def b__law_integer : Sts := (.cons (.ret (.and (.isi (.ex (.var 0)) [.int]) (.not (.isi (.ex (.var 0)) [.bool])))) .nil)
def f__law_integer : Fn := ⟨[PySem.Str.ofString "value"], [PySem.Str.ofString "value"], b__law_integer, false⟩
def b__law_start : Sts := (.cons (.ret (.lst true (.cons (.bi .list (.cons (.ex (.var 0)) .nil)) (.cons (.cst (.int 0)) (.cons (.cst (.int 0)) (.cons (.cst (.int 0)) (.cons (.cst (.int 7)) .nil))))))) .nil)
def f__law_start : Fn := ⟨[PySem.Str.ofString "script"], [PySem.Str.ofString "script"], b__law_start, true⟩
def b__law_draw : Sts := (.cons (.ife (.cmp .lt (.ex (.var 1)) (.ex (.cst (.int 2)))) (.cons (.set 1 (.cst (.int 1))) .nil) .nil) (.cons (.ife (.and (.cmp .eq (.ex (.idx (.ex (.var 0)) (.cst (.int 3)))) (.ex (.cst (.int 0)))) (.cmp .lt (.ex (.idx (.ex (.var 0)) (.cst (.int 1)))) (.ex (.bi .len (.cons (.ex (.idx (.ex (.var 0)) (.cst (.int 0)))) .nil))))) (.cons (.set 2 (.bi .abs (.cons (.ex (.bi .int (.cons (.ex (.idx (.ex (.idx (.ex (.var 0)) (.cst (.int 0)))) (.idx (.ex (.var 0)) (.cst (.int 1))))) .nil))) .nil))) (.cons (.bix (.var 0) (.cst (.int 1)) (.bin .add (.ex (.idx (.ex (.var 0)) (.cst (.int 1)))) (.ex (.cst (.int 1))))) (.cons (.bix (.var 0) (.cst (.int 3)) (.cst (.int 4))) (.cons (.ife (.cmp .ge (.ex (.var 2)) (.ex (.bin .pow (.ex (.cst (.int 10))) (.ex (.cst (.int 18)))))) (.cons (.bix (.var 0) (.cst (.int 2)) (.var 2)) (.cons (.bix (.var 0) (.cst (.int 3)) (.cst (.int 60))) .nil)) (.cons (.bix (.var 0) (.cst (.int 4)) (.bin .mod (.ex (.bi .int (.cons (.ex (.bin .add (.ex (.bin .add (.ex (.bin .mul (.ex (.idx (.ex (.var 0)) (.cst (.int 4)))) (.ex (.cst (.int 48271))))) (.ex (.var 2)))) (.ex (.idx (.ex (.var 0)) (.cst (.int 1)))))) .nil))) (.ex (.cst (.int 2147483647))))) .nil)) .nil)))) .nil) (.cons (.ife (.cmp .gt (.ex (.idx (.ex (.var 0)) (.cst (.int 2)))) (.ex (.cst (.int 0)))) (.cons (.set 3 (.bin .mod (.ex (.bi .int (.cons (.ex (.idx (.ex (.var 0)) (.cst (.int 2)))) .nil))) (.ex (.var 1)))) (.cons (.bix (.var 0) (.cst (.int 2)) (.bin .fdiv (.ex (.idx (.ex (.var 0)) (.cst (.int 2)))) (.ex (.var 1)))) (.cons (.bix (.var 0) (.cst (.int 3)) (.bin .sub (.ex (.idx (.ex (.var 0)) (.cst (.int 3)))) (.ex (.cst (.int 1))))) (.cons (.ife (.or (.cmp .eq (.ex (.idx (.ex (.var 0)) (.cst (.int 2)))) (.ex (.cst (.int 0)))) (.cmp .eq (.ex (.idx (.ex (.var 0)) (.cst (.int 3)))) (.ex (.cst (.int 0))))) (.cons (.bix (.var 0) (.cst (.int 2)) (.cst (.int 0))) (.cons (.bix (.var 0) (.cst (.int 3)) (.cst (.int 0))) .nil)) .nil) (.cons (.ret (.var 3)) .nil))))) .nil) (.cons (.bix (.var 0) (.cst (.int 3)) (.bi .max2 (.cons (.ex (.cst (.int 0))) (.cons (.ex (.bin .sub (.ex (.idx (.ex (.var 0)) (.cst (.int 3)))) (.ex (.cst (.int 1))))) .nil)))) (.cons (.bix (.var 0) (.cst (.int 4)) (.bin .mod (.ex (.bi .int (.cons (.ex (.bin .add (.ex (.bin .mul (.ex (.idx (.ex (.var 0)) (.cst (.int 4)))) (.ex (.cst (.int 48271))))) (.ex (.cst (.int 12345))))) .nil))) (.ex (.cst (.int 2147483647))))) (.cons (.ret (.bin .mod (.ex (.bi .int (.cons (.ex (.bin .mod (.ex (.bi .int (.cons (.ex (.bin .add (.ex (.bin .mul (.ex (.idx (.ex (.var 0)) (.cst (.int 4)))) (.ex (.cst (.int 40692))))) (.ex (.cst (.int 3791))))) .nil))) (.ex (.cst (.int 2147483399))))) .nil))) (.ex (.var 1)))) .nil))))))
def f__law_draw : Fn := ⟨[PySem.Str.ofString "state", PySem.Str.ofString "limit"], [PySem.Str.ofString "state", PySem.Str.ofString "limit", PySem.Str.ofString "cell", PySem.Str.ofString "got"], b__law_draw, false⟩
def b__law_wide : Sts := (.cons (.set 1 (.cst (.int 0))) (.cons (.for (.slot 2) (.rng1 (.cst (.int 5))) (.cons (.set 1 (.bin .add (.ex (.bin .mul (.ex (.var 1)) (.ex (.bin .pow (.ex (.cst (.int 10))) (.ex (.cst (.int 9))))))) (.ex (.call 7 (.cons (.var 0) (.cons (.bin .pow (.ex (.cst (.int 10))) (.ex (.cst (.int 9)))) .nil)))))) .nil)) (.cons (.set 3 (.cst (.int 1))) (.cons (.for (.slot 2) (.rng1 (.call 7 (.cons (.var 0) (.cons (.cst (.int 41)) .nil)))) (.cons (.set 3 (.bin .mul (.ex (.var 3)) (.ex (.cst (.int 10))))) .nil)) (.cons (.ret (.bin .mod (.ex (.bi .int (.cons (.ex (.var 1)) .nil))) (.ex (.var 3)))) .nil)))))
def f__law_wide : Fn := ⟨[PySem.Str.ofString "state"], [PySem.Str.ofString "state", PySem.Str.ofString "number", PySem.Str.ofString "k", PySem.Str.ofString "limit"], b__law_wide, false⟩
def b__law_odd : Sts := (.cons (.set 1 (.call 7 (.cons (.var 0) (.cons (.cst (.int 10)) .nil)))) (.cons (.ife (.cmp .eq (.ex (.var 1)) (.ex (.cst (.int 0)))) (.cons (.ret (.cst .non)) .nil) .nil) (.cons (.ife (.cmp .eq (.ex (.var 1)) (.ex (.cst (.int 1)))) (.cons (.ret (.cmp .eq (.ex (.call 7 (.cons (.var 0) (.cons (.cst (.int 2)) .nil)))) (.ex (.cst (.int 1))))) .nil) .nil) (.cons (.ife (.cmp .eq (.ex (.var 1)) (.ex (.cst (.int 2)))) (.cons (.ret (.bin .sub (.ex (.bin .sub (.ex (.cst (.int 0))) (.ex (.cst (.int 1))))) (.ex (.bin .mul (.ex (.call 7 (.cons (.var 0) (.cons (.cst (.int 2)) .nil)))) (.ex (.call 8 (.cons (.var 0) .nil))))))) .nil) .nil) (.cons (.ife (.cmp .eq (.ex (.var 1)) (.ex (.cst (.int 3)))) (.cons (.ret (.bi .str (.cons (.ex (.call 7 (.cons (.var 0) (.cons (.cst (.int 3)) .nil)))) .nil))) .nil) .nil) (.cons (.ife (.cmp .eq (.ex (.var 1)) (.ex (.cst (.int 4)))) (.cons (.ret (.lst false (.cons (.call 7 (.cons (.var 0) (.cons (.cst (.int 2)) .nil))) .nil))) .nil) .nil) (.cons (.ife (.cmp .eq (.ex (.var 1)) (.ex (.cst (.int 5)))) (.cons (.ret (.bin .add (.ex (.cst (.int 2))) (.ex (.bin .mul (.ex (.call 7 (.cons (.var 0) (.cons (.cst (.int 2)) .nil)))) (.ex (.call 8 (.cons (.var 0) .nil))))))) .nil) .nil) (.cons (.ife (.cmp .eq (.ex (.var 1)) (.ex (.cst (.int 6)))) (.cons (.ret (.tup (.cons (.call 7 (.cons (.var 0) (.cons (.cst (.int 2)) .nil))) .nil))) .nil) .nil) (.cons (.ife (.cmp .eq (.ex (.var 1)) (.ex (.cst (.int 7)))) (.cons (.ret (.tup .nil)) .nil) .nil) (.cons (.ife (.cmp .eq (.ex (.var 1)) (.ex (.cst (.int 8)))) (.cons (.ret (.tup (.cons (.tup (.cons (.cst (.int 0)) (.cons (.cst (.int 1)) .nil))) (.cons (.lst false (.cons (.cst .non) (.cons (.cst (.str (PySem.Str.ofString "1"))) .nil))) .nil)))) .nil) .nil) (.cons (.ret (.cst (.str (PySem.Str.ofString "")))) .nil)))))))))))
def f__law_odd : Fn := ⟨[PySem.Str.ofString "state"], [PySem.Str.ofString "state", PySem.Str.ofString "kind"], b__law_odd, false⟩
def b__law_list : Sts := (.cons (.set 1 (.bin .add (.ex (.cst (.int 1))) (.ex (.call 7 (.cons (.var 0) (.cons (.cst (.int 9)) .nil)))))) (.cons (.ife (.cmp .eq (.ex (.call 7 (.cons (.var 0) (.cons (.cst (.int 6)) .nil)))) (.ex (.cst (.int 0)))) (.cons (.set 1 (.bin .add (.ex (.cst (.int 1))) (.ex (.call 7 (.cons (.var 0) (.cons (.cst (.int 40)) .nil)))))) .nil) .nil) (.cons (.set 2 (.call 7 (.cons (.var 0) (.cons (.cst (.int 5)) .nil)))) (.cons (.own 3 (.lst false .nil)) (.cons (.for (.slot 4) (.rng1 (.var 1)) (.cons (.ife (.cmp .eq (.ex (.var 2)) (.ex (.cst (.int 0)))) (.cons (.app 3 (.call 7 (.cons (.var 0) (.cons (.cst (.int 4)) .nil)))) .nil) (.cons (.ife (.cmp .eq (.ex (.var 2)) (.ex (.cst (.int 1)))) (.cons (.app 3 (.bin .sub (.ex (.cst (.int 0))) (.ex (.bin .mul (.ex (.bin .fdiv (.ex (.call 8 (.cons (.var 0) .nil))) (.ex (.bin .pow (.ex (.cst (.int 10))) (.ex (.cst (.int 20))))))) (.ex (.bin .sub (.ex (.bin .mul (.ex (.cst (.int 2))) (.ex (.call 7 (.cons (.var 0) (.cons (.cst (.int 2)) .nil)))))) (.ex (.cst (.int 1))))))))) .nil) (.cons (.ife (.cmp .eq (.ex (.var 2)) (.ex (.cst (.int 2)))) (.cons (.app 3 (.bin .fdiv (.ex (.var 4)) (.ex (.bin .add (.ex (.cst (.int 1))) (.ex (.call 7 (.cons (.var 0) (.cons (.cst (.int 2)) .nil)))))))) .nil) (.cons (.app 3 (.bin .sub (.ex (.bin .add (.ex (.bin .mul (.ex (.var 4)) (.ex (.cst (.int 2))))) (.ex (.call 7 (.cons (.var 0) (.cons (.cst (.int 5)) .nil)))))) (.ex (.cst (.int 3))))) .nil)) .nil)) .nil)) .nil)) (.cons (.for (.slot 4) (.rng1 (.call 7 (.cons (.var 0) (.cons (.cst (.int 4)) .nil)))) (.cons (.set 5 (.call 7 (.cons (.var 0) (.cons (.var 1) .nil)))) (.cons (.set 6 (.call 7 (.cons (.var 0) (.cons (.var 1) .nil)))) (.cons (.swp 3 (.var 5) (.var 6) (.idx (.own 3) (.var 6)) (.idx (.own 3) (.var 5))) .nil)))) (.cons (.frz 3) (.cons (.ret (.var 3)) .nil))))))))
def f__law_list : Fn := ⟨[PySem.Str.ofString "state"], [PySem.Str.ofString "state", PySem.Str.ofString "many", PySem.Str.ofString "kind", PySem.Str.ofString "numbers", PySem.Str.ofString "k", PySem.Str.ofString "at", PySem.Str.ofString "place"], b__law_list, false⟩
def b__law_way : Sts := (.cons (.set 2 (.cst (.int 0))) (.cons (.set 3 (.bin .sub (.ex (.var 0)) (.ex (.cst (.int 1))))) (.cons (.own 4 (.lst false .nil)) (.cons (.for (.slot 5) (.rng1 (.cst (.int 7))) (.cons (.set 6 (.bin .fdiv (.ex (.bin .add (.ex (.var 2)) (.ex (.var 3)))) (.ex (.cst (.int 2))))) (.cons (.app 4 (.var 6)) (.cons (.ife (.cmp .eq (.ex (.var 6)) (.ex (.var 1))) (.cons (.frz 4) (.cons (.ret (.var 4)) .nil)) .nil) (.cons (.ife (.cmp .gt (.ex (.var 1)) (.ex (.var 6))) (.cons (.set 2 (.bin .add (.ex (.var 6)) (.ex (.cst (.int 1))))) .nil) (.cons (.set 3 (.bin .sub (.ex (.var 6)) (.ex (.cst (.int 1))))) .nil)) .nil))))) (.cons (.frz 4) (.cons (.ret (.var 4)) .nil))))))
def f__law_way : Fn := ⟨[PySem.Str.ofString "length", PySem.Str.ofString "place"], [PySem.Str.ofString "length", PySem.Str.ofString "place", PySem.Str.ofString "low", PySem.Str.ofString "high", PySem.Str.ofString "found", PySem.Str.ofString "k", PySem.Str.ofString "middle"], b__law_way, false⟩
def b__law_good : Sts := (.cons (.for (.slot 2) (.of (.ex (.call 11 (.cons (.bi .len (.cons (.ex (.var 0)) .nil)) (.cons (.var 1) .nil))))) (.cons (.ife (.or (.and (.cmp .lt (.ex (.var 2)) (.ex (.var 1))) (.cmp .gt (.ex (.idx (.ex (.var 0)) (.var 2))) (.ex (.idx (.ex (.var 0)) (.var 1))))) (.and (.cmp .gt (.ex (.var 2)) (.ex (.var 1))) (.cmp .lt (.ex (.idx (.ex (.var 0)) (.var 2))) (.ex (.idx (.ex (.var 0)) (.var 1)))))) (.cons (.ret (.cst (.bl false))) .nil) .nil) .nil)) (.cons (.ret (.cst (.bl true))) .nil))
def f__law_good : Fn := ⟨[PySem.Str.ofString "numbers", PySem.Str.ofString "place"], [PySem.Str.ofString "numbers", PySem.Str.ofString "place", PySem.Str.ofString "middle"], b__law_good, false⟩
def b__law_numbers_are : Sts := (.cons (.ife (.or (.not (.isi (.ex (.var 0)) [.tuple])) (.cmp .ne (.ex (.bi .len (.cons (.ex (.var 0)) .nil))) (.ex (.bi .len (.cons (.ex (.var 1)) .nil))))) (.cons (.ret (.cst (.bl false))) .nil) .nil) (.cons (.ret (.cmp .eq (.ex (.bi .len (.cons (.ex (.lc (.var 2) (.slot 2) (.rng1 (.bi .len (.cons (.ex (.var 1)) .nil))) (.some (.or (.not (.call 5 (.cons (.idx (.ex (.var 0)) (.var 2)) .nil))) (.cmp .ne (.ex (.idx (.ex (.var 0)) (.var 2))) (.ex (.idx (.ex (.var 1)) (.var 2)))))))) .nil))) (.ex (.cst (.int 0))))) .nil))
def f__law_numbers_are : Fn := ⟨[PySem.Str.ofString "got", PySem.Str.ofString "due"], [PySem.Str.ofString "got", PySem.Str.ofString "due", PySem.Str.ofString "k"], b__law_numbers_are, false⟩
def b__law_way_told : Sts := (.cons (.set 2 (.and (.call 5 (.cons (.var 0) .nil)) (.chain .le .le (.cst (.int 1)) (.var 0) (.cst (.int 40))))) (.cons (.set 3 (.and (.var 2) (.and (.call 5 (.cons (.var 1) .nil)) (.chain .le .lt (.cst (.int 0)) (.var 1) (.var 0))))) (.cons (.try (.cons (.set 5 (.call 1 (.cons (.var 0) (.cons (.var 1) .nil)))) .nil) (.cons "InvalidNumber" (some 4) (.cons (.ife (.or (.var 3) (.or (.xis 4 ["InvalidList"]) (.not (.xis 4 ["ValueError"])))) (.cons (.ret (.cst (.bl false))) .nil) .nil) (.cons (.ret (.or (.and (.var 2) (.cmp .eq (.ex (.xfld 4 "value")) (.ex (.var 1)))) (.and (.not (.var 2)) (.cmp .eq (.ex (.xfld 4 "value")) (.ex (.var 0)))))) .nil)) .nil)) (.cons (.ret (.and (.var 3) (.call 13 (.cons (.var 5) (.cons (.call 11 (.cons (.var 0) (.cons (.var 1) .nil))) .nil))))) .nil))))
def f__law_way_told : Fn := ⟨[PySem.Str.ofString "length", PySem.Str.ofString "place"], [PySem.Str.ofString "length", PySem.Str.ofString "place", PySem.Str.ofString "good", PySem.Str.ofString "fits", PySem.Str.ofString "e", PySem.Str.ofString "got"], b__law_way_told, false⟩
def b__law_is_list : Sts := (.cons (.ife (.or (.not (.isi (.ex (.var 0)) [.list, .tuple])) (.or (.cmp .lt (.ex (.bi .len (.cons (.ex (.var 0)) .nil))) (.ex (.cst (.int 1)))) (.cmp .gt (.ex (.bi .len (.cons (.ex (.var 0)) .nil))) (.ex (.cst (.int 40)))))) (.cons (.ret (.cst (.bl false))) .nil) .nil) (.cons (.ret (.cmp .eq (.ex (.bi .len (.cons (.ex (.lc (.var 1) (.slot 1) (.of (.ex (.var 0))) (.some (.not (.call 5 (.cons (.var 1) .nil)))))) .nil))) (.ex (.cst (.int 0))))) .nil))
def f__law_is_list : Fn := ⟨[PySem.Str.ofString "value"], [PySem.Str.ofString "value", PySem.Str.ofString "number"], b__law_is_list, false⟩
def b__law_good_told : Sts := (.cons (.set 2 (.call 15 (.cons (.var 0) .nil))) (.cons (.set 3 (.and (.var 2) (.and (.call 5 (.cons (.var 1) .nil)) (.chain .le .lt (.cst (.int 0)) (.var 1) (.bi .len (.cons (.ex (.var 0)) .nil)))))) (.cons (.try (.cons (.set 5 (.call 3 (.cons (.var 0) (.cons (.var 1) .nil)))) .nil) (.cons "InvalidList" (some 4) (.cons (.ret (.and (.not (.var 2)) (.and (.not (.xis 4 ["InvalidNumber"])) (.and (.xis 4 ["ValueError"]) (.cmp .eq (.ex (.xfld 4 "value")) (.ex (.var 0))))))) .nil) (.cons "InvalidNumber" (some 4) (.cons (.ret (.and (.var 2) (.and (.not (.var 3)) (.and (.xis 4 ["ValueError"]) (.cmp .eq (.ex (.xfld 4 "value")) (.ex (.var 1))))))) .nil) .nil))) (.cons (.ret (.and (.var 3) (.and (.isi (.ex (.var 5)) [.bool]) (.cmp .eq (.ex (.var 5)) (.ex (.call 12 (.cons (.var 0) (.cons (.var 1) .nil)))))))) .nil))))
def f__law_good_told : Fn := ⟨[PySem.Str.ofString "numbers", PySem.Str.ofString "place"], [PySem.Str.ofString "numbers", PySem.Str.ofString "place", PySem.Str.ofString "right", PySem.Str.ofString "fits", PySem.Str.ofString "e", PySem.Str.ofString "got"], b__law_good_told, false⟩
def b__law_places_told : Sts := (.cons (.set 1 (.call 15 (.cons (.var 0) .nil))) (.cons (.try (.cons (.set 3 (.call 4 (.cons (.var 0) .nil))) .nil) (.cons "InvalidList" (some 2) (.cons (.ret (.and (.not (.var 1)) (.and (.not (.xis 2 ["InvalidNumber"])) (.cmp .eq (.ex (.xfld 2 "value")) (.ex (.var 0)))))) .nil) .nil)) (.cons (.ife (.not (.var 1)) (.cons (.ret (.cst (.bl false))) .nil) .nil) (.cons (.ret (.call 13 (.cons (.var 3) (.cons (.lc (.var 4) (.slot 4) (.rng1 (.bi .len (.cons (.ex (.var 0)) .nil))) (.some (.not (.call 12 (.cons (.var 0) (.cons (.var 4) .nil)))))) .nil)))) .nil))))
def f__law_places_told : Fn := ⟨[PySem.Str.ofString "numbers"], [PySem.Str.ofString "numbers", PySem.Str.ofString "right", PySem.Str.ofString "e", PySem.Str.ofString "got", PySem.Str.ofString "place"], b__law_places_told, false⟩
def b__law_spoilt : Sts := (.cons (.set 2 (.call 7 (.cons (.var 0) (.cons (.cst (.int 5)) .nil)))) (.cons (.set 3 (.call 7 (.cons (.var 0) (.cons (.bi .len (.cons (.ex (.var 1)) .nil)) .nil)))) (.cons (.ife (.cmp .eq (.ex (.var 2)) (.ex (.cst (.int 0)))) (.cons (.ret (.lst false .nil)) .nil) .nil) (.cons (.ife (.cmp .eq (.ex (.var 2)) (.ex (.cst (.int 1)))) (.cons (.ret (.lc (.var 3) (.slot 5) (.rng1 (.cst (.int 41))) .none)) .nil) .nil) (.cons (.ife (.cmp .eq (.ex (.var 2)) (.ex (.cst (.int 2)))) (.cons (.ret (.call 9 (.cons (.var 0) .nil))) .nil) .nil) (.cons (.ife (.cmp .eq (.ex (.var 2)) (.ex (.cst (.int 3)))) (.cons (.set 4 (.call 9 (.cons (.var 0) .nil))) (.cons (.ife (.call 5 (.cons (.var 4) .nil)) (.cons (.set 4 (.lst false (.cons (.var 4) .nil))) .nil) .nil) (.cons (.ret (.bi .tuple (.cons (.ex (.bin .add (.ex (.bin .add (.ex (.sli (.ex (.var 1)) .none (.some (.var 3)))) (.ex (.lst false (.cons (.var 4) .nil))))) (.ex (.sli (.ex (.var 1)) (.some (.var 3)) .none)))) .nil))) .nil))) .nil) (.cons (.ret (.bin .add (.ex (.bin .add (.ex (.sli (.ex (.var 1)) .none (.some (.var 3)))) (.ex (.lst false (.cons (.idx (.ex (.lst false (.cons (.cst (.bl true)) (.cons (.cst .non) (.cons (.cst (.str (PySem.Str.ofString "1"))) .nil))))) (.call 7 (.cons (.var 0) (.cons (.cst (.int 3)) .nil)))) .nil))))) (.ex (.sli (.ex (.var 1)) (.some (.bin .add (.ex (.var 3)) (.ex (.cst (.int 1))))) .none)))) .nil)))))))
def f__law_spoilt : Fn := ⟨[PySem.Str.ofString "state", PySem.Str.ofString "numbers"], [PySem.Str.ofString "state", PySem.Str.ofString "numbers", PySem.Str.ofString "kind", PySem.Str.ofString "at", PySem.Str.ofString "odd", PySem.Str.ofString "k"], b__law_spoilt, false⟩
def b__law_body : Sts := (.cons (.set 1 (.call 6 (.cons (.var 0) .nil))) (.cons (.set 2 (.call 10 (.cons (.var 1) .nil))) (.cons (.set 3 (.bi .tuple (.cons (.ex (.var 2)) .nil))) (.cons (.set 4 (.bin .add (.ex (.cst (.int 1))) (.ex (.call 7 (.cons (.var 1) (.cons (.cst (.int 40)) .nil)))))) (.cons (.set 5 (.call 9 (.cons (.var 1) .nil))) (.cons (.set 6 (.lst false (.cons (.tup (.cons (.var 4) (.cons (.call 7 (.cons (.var 1) (.cons (.var 4) .nil))) .nil))) (.cons (.tup (.cons (.var 4) (.cons (.var 4) .nil))) (.cons (.tup (.cons (.var 4) (.cons (.var 5) .nil))) (.cons (.tup (.cons (.var 5) (.cons (.cst (.int 0)) .nil))) (.cons (.tup (.cons (.cst (.int 41)) (.cons (.cst (.int 0)) .nil))) (.cons (.tup (.cons (.cst (.int 0)) (.cons (.cst (.int 0)) .nil))) (.cons (.tup (.cons (.cst (.int 40)) (.cons (.cst (.int 39)) .nil))) .nil))))))))) (.cons (.for (.slot 7) (.of (.ex (.var 6))) (.cons (.ife (.not (.call 14 (.cons (.idx (.ex (.var 7)) (.cst (.int 0))) (.cons (.idx (.ex (.var 7)) (.cst (.int 1))) .nil)))) (.cons (.ret (.cst (.bl false))) .nil) .nil) .nil)) (.cons (.set 8 (.call 18 (.cons (.var 1) (.cons (.var 2) .nil)))) (.cons (.set 9 (.call 7 (.cons (.var 1) (.cons (.bi .len (.cons (.ex (.var 2)) .nil)) .nil)))) (.cons (.for (.slot 10) (.rng1 (.cst (.int 2))) (.cons (.for (.slot 11) (.rng1 (.bi .len (.cons (.ex (.var 2)) .nil))) (.cons (.ife (.not (.call 16 (.cons (.var 2) (.cons (.bin .mod (.ex (.bi .int (.cons (.ex (.bin .add (.ex (.var 9)) (.ex (.var 11)))) .nil))) (.ex (.bi .len (.cons (.ex (.var 2)) .nil)))) .nil)))) (.cons (.ret (.cst (.bl false))) .nil) .nil) .nil)) (.cons (.for (.slot 11) (.of (.ex (.lst false (.cons (.bi .len (.cons (.ex (.var 2)) .nil)) (.cons (.bin .sub (.ex (.cst (.int 0))) (.ex (.cst (.int 1)))) (.cons (.cst (.bl true)) (.cons (.var 5) .nil))))))) (.cons (.ife (.or (.not (.call 16 (.cons (.var 2) (.cons (.var 11) .nil)))) (.not (.call 16 (.cons (.var 8) (.cons (.var 11) .nil))))) (.cons (.ret (.cst (.bl false))) .nil) .nil) .nil)) (.cons (.ife (.or (.not (.call 17 (.cons (.var 2) .nil))) (.or (.not (.call 17 (.cons (.var 3) .nil))) (.not (.call 17 (.cons (.var 8) .nil))))) (.cons (.ret (.cst (.bl false))) .nil) .nil) .nil)))) (.cons (.ret (.and (.cmp .eq (.ex (.bi .tuple (.cons (.ex (.var 2)) .nil))) (.ex (.var 3))) (.and (.call 16 (.cons (.var 3) (.cons (.var 9) .nil))) (.call 14 (.cons (.var 4) (.cons (.bin .sub (.ex (.var 4)) (.ex (.cst (.int 1)))) .nil)))))) .nil)))))))))))
def f__law_body : Fn := ⟨[PySem.Str.ofString "script"], [PySem.Str.ofString "script", PySem.Str.ofString "state", PySem.Str.ofString "numbers", PySem.Str.ofString "kept", PySem.Str.ofString "length", PySem.Str.ofString "odd", PySem.Str.ofString "pairs", PySem.Str.ofString "pair", PySem.Str.ofString "spoilt", PySem.Str.ofString "first", PySem.Str.ofString "k", PySem.Str.ofString "place"], b__law_body, false⟩
def b_law : Sts := (.cons (.try (.cons (.ret (.call 19 (.cons (.var 0) .nil))) .nil) (.cons "ReadError" none (.cons (.ret (.cst (.bl false))) .nil) .nil)) .nil)
def f_law : Fn := ⟨[PySem.Str.ofString "script"], [PySem.Str.ofString "script"], b_law, false⟩
def txt : Txt where
  fns := [("is_integer", f_is_integer), ("way_to", f_way_to), ("check_list", f_check_list), ("is_good", f_is_good), ("refused_places", f_refused_places), ("_law_integer", f__law_integer), ("_law_start", f__law_start), ("_law_draw", f__law_draw), ("_law_wide", f__law_wide), ("_law_odd", f__law_odd), ("_law_list", f__law_list), ("_law_way", f__law_way), ("_law_good", f__law_good), ("_law_numbers_are", f__law_numbers_are), ("_law_way_told", f__law_way_told), ("_law_is_list", f__law_is_list), ("_law_good_told", f__law_good_told), ("_law_places_told", f__law_places_told), ("_law_spoilt", f__law_spoilt), ("_law_body", f__law_body), ("law", f_law)]
  exs := [("ReadError", [], false), ("InvalidNumber", ["value"], true), ("InvalidList", ["value"], true)]
  isx := [("InvalidList", 0, false), ("InvalidList", 1, false), ("InvalidList", 2, true), ("InvalidNumber", 0, false), ("InvalidNumber", 1, true), ("InvalidNumber", 2, false), ("ReadError", 0, true), ("ReadError", 1, true), ("ReadError", 2, true), ("ValueError", 0, true), ("ValueError", 1, true), ("ValueError", 2, true)]
  con := []
  kws := [(3, 1)]
  fuel := 100
def fnd : List He.DefD := [dD "is_integer" (topAt 5), dD "way_to" (topAt 6), dD "check_list" (topAt 7), dD "is_good" (topAt 8), dD "refused_places" (topAt 9), dD "_law_integer" (topAt 11), dD "_law_start" (topAt 12), dD "_law_draw" (topAt 13), dD "_law_wide" (topAt 14), dD "_law_odd" (topAt 15), dD "_law_list" (topAt 16), dD "_law_way" (topAt 17), dD "_law_good" (topAt 18), dD "_law_numbers_are" (topAt 19), dD "_law_way_told" (topAt 20), dD "_law_is_list" (topAt 21), dD "_law_good_told" (topAt 22), dD "_law_places_told" (topAt 23), dD "_law_spoilt" (topAt 24), dD "_law_body" (topAt 25), dD "law" (topAt 26), dI "InvalidNumber" (inCls (topAt 2)), dI "InvalidList" (inCls (topAt 3))]
/-! each def matches its words -/
theorem m_is_integer : isSs txt.prg f_is_integer.body (fnME f_is_integer (defScope (topAt 5))) (defBody (topAt 5)) = true := by decide +kernel
theorem s_is_integer : scB f_is_integer.N f_is_integer.ps (defScope (topAt 5)) = true := by decide +kernel
theorem a_is_integer : BindOk (dD "is_integer" (topAt 5)) f_is_integer.ps := fun _ _ _ _ _ _ us hl => match us, hl with | [_], _ => rfl
theorem m_way_to : isSs txt.prg f_way_to.body (fnME f_way_to (defScope (topAt 6))) (defBody (topAt 6)) = true := by decide +kernel
theorem s_way_to : scB f_way_to.N f_way_to.ps (defScope (topAt 6)) = true := by decide +kernel
theorem a_way_to : BindOk (dD "way_to" (topAt 6)) f_way_to.ps := fun _ _ _ _ _ _ us hl => match us, hl with | [_, _], _ => rfl
theorem m_check_list : isSs txt.prg f_check_list.body (fnME f_check_list (defScope (topAt 7))) (defBody (topAt 7)) = true := by decide +kernel
theorem s_check_list : scB f_check_list.N f_check_list.ps (defScope (topAt 7)) = true := by decide +kernel
theorem a_check_list : BindOk (dD "check_list" (topAt 7)) f_check_list.ps := fun _ _ _ _ _ _ us hl => match us, hl with | [_], _ => rfl
theorem m_is_good : isSs txt.prg f_is_good.body (fnME f_is_good (defScope (topAt 8))) (defBody (topAt 8)) = true := by decide +kernel
theorem s_is_good : scB f_is_good.N f_is_good.ps (defScope (topAt 8)) = true := by decide +kernel
theorem a_is_good : BindOk (dD "is_good" (topAt 8)) f_is_good.ps := fun _ _ _ _ _ _ us hl => match us, hl with | [_, _], _ => rfl
theorem m_refused_places : isSs txt.prg f_refused_places.body (fnME f_refused_places (defScope (topAt 9))) (defBody (topAt 9)) = true := by decide +kernel
theorem s_refused_places : scB f_refused_places.N f_refused_places.ps (defScope (topAt 9)) = true := by decide +kernel
theorem a_refused_places : BindOk (dD "refused_places" (topAt 9)) f_refused_places.ps := fun _ _ _ _ _ _ us hl => match us, hl with | [_], _ => rfl
theorem m__law_integer : isSs txt.prg f__law_integer.body (fnME f__law_integer (defScope (topAt 11))) (defBody (topAt 11)) = true := by decide +kernel
theorem s__law_integer : scB f__law_integer.N f__law_integer.ps (defScope (topAt 11)) = true := by decide +kernel
theorem a__law_integer : BindOk (dD "_law_integer" (topAt 11)) f__law_integer.ps := fun _ _ _ _ _ _ us hl => match us, hl with | [_], _ => rfl
theorem m__law_start : isSs txt.prg f__law_start.body (fnME f__law_start (defScope (topAt 12))) (defBody (topAt 12)) = true := by decide +kernel
theorem s__law_start : scB f__law_start.N f__law_start.ps (defScope (topAt 12)) = true := by decide +kernel
theorem a__law_start : BindOk (dD "_law_start" (topAt 12)) f__law_start.ps := fun _ _ _ _ _ _ us hl => match us, hl with | [_], _ => rfl
theorem m__law_draw : isSs txt.prg f__law_draw.body (fnME f__law_draw (defScope (topAt 13))) (defBody (topAt 13)) = true := by decide +kernel
theorem s__law_draw : scB f__law_draw.N f__law_draw.ps (defScope (topAt 13)) = true := by decide +kernel
theorem a__law_draw : BindOk (dD "_law_draw" (topAt 13)) f__law_draw.ps := fun _ _ _ _ _ _ us hl => match us, hl with | [_, _], _ => rfl
theorem m__law_wide : isSs txt.prg f__law_wide.body (fnME f__law_wide (defScope (topAt 14))) (defBody (topAt 14)) = true := by decide +kernel
theorem s__law_wide : scB f__law_wide.N f__law_wide.ps (defScope (topAt 14)) = true := by decide +kernel
theorem a__law_wide : BindOk (dD "_law_wide" (topAt 14)) f__law_wide.ps := fun _ _ _ _ _ _ us hl => match us, hl with | [_], _ => rfl
theorem m__law_odd : isSs txt.prg f__law_odd.body (fnME f__law_odd (defScope (topAt 15))) (defBody (topAt 15)) = true := by decide +kernel
theorem s__law_odd : scB f__law_odd.N f__law_odd.ps (defScope (topAt 15)) = true := by decide +kernel
theorem a__law_odd : BindOk (dD "_law_odd" (topAt 15)) f__law_odd.ps := fun _ _ _ _ _ _ us hl => match us, hl with | [_], _ => rfl
theorem m__law_list : isSs txt.prg f__law_list.body (fnME f__law_list (defScope (topAt 16))) (defBody (topAt 16)) = true := by decide +kernel
theorem s__law_list : scB f__law_list.N f__law_list.ps (defScope (topAt 16)) = true := by decide +kernel
theorem a__law_list : BindOk (dD "_law_list" (topAt 16)) f__law_list.ps := fun _ _ _ _ _ _ us hl => match us, hl with | [_], _ => rfl
theorem m__law_way : isSs txt.prg f__law_way.body (fnME f__law_way (defScope (topAt 17))) (defBody (topAt 17)) = true := by decide +kernel
theorem s__law_way : scB f__law_way.N f__law_way.ps (defScope (topAt 17)) = true := by decide +kernel
theorem a__law_way : BindOk (dD "_law_way" (topAt 17)) f__law_way.ps := fun _ _ _ _ _ _ us hl => match us, hl with | [_, _], _ => rfl
theorem m__law_good : isSs txt.prg f__law_good.body (fnME f__law_good (defScope (topAt 18))) (defBody (topAt 18)) = true := by decide +kernel
theorem s__law_good : scB f__law_good.N f__law_good.ps (defScope (topAt 18)) = true := by decide +kernel
theorem a__law_good : BindOk (dD "_law_good" (topAt 18)) f__law_good.ps := fun _ _ _ _ _ _ us hl => match us, hl with | [_, _], _ => rfl
theorem m__law_numbers_are : isSs txt.prg f__law_numbers_are.body (fnME f__law_numbers_are (defScope (topAt 19))) (defBody (topAt 19)) = true := by decide +kernel
theorem s__law_numbers_are : scB f__law_numbers_are.N f__law_numbers_are.ps (defScope (topAt 19)) = true := by decide +kernel
theorem a__law_numbers_are : BindOk (dD "_law_numbers_are" (topAt 19)) f__law_numbers_are.ps := fun _ _ _ _ _ _ us hl => match us, hl with | [_, _], _ => rfl
theorem m__law_way_told : isSs txt.prg f__law_way_told.body (fnME f__law_way_told (defScope (topAt 20))) (defBody (topAt 20)) = true := by decide +kernel
theorem s__law_way_told : scB f__law_way_told.N f__law_way_told.ps (defScope (topAt 20)) = true := by decide +kernel
theorem a__law_way_told : BindOk (dD "_law_way_told" (topAt 20)) f__law_way_told.ps := fun _ _ _ _ _ _ us hl => match us, hl with | [_, _], _ => rfl
theorem m__law_is_list : isSs txt.prg f__law_is_list.body (fnME f__law_is_list (defScope (topAt 21))) (defBody (topAt 21)) = true := by decide +kernel
theorem s__law_is_list : scB f__law_is_list.N f__law_is_list.ps (defScope (topAt 21)) = true := by decide +kernel
theorem a__law_is_list : BindOk (dD "_law_is_list" (topAt 21)) f__law_is_list.ps := fun _ _ _ _ _ _ us hl => match us, hl with | [_], _ => rfl
theorem m__law_good_told : isSs txt.prg f__law_good_told.body (fnME f__law_good_told (defScope (topAt 22))) (defBody (topAt 22)) = true := by decide +kernel
theorem s__law_good_told : scB f__law_good_told.N f__law_good_told.ps (defScope (topAt 22)) = true := by decide +kernel
theorem a__law_good_told : BindOk (dD "_law_good_told" (topAt 22)) f__law_good_told.ps := fun _ _ _ _ _ _ us hl => match us, hl with | [_, _], _ => rfl
theorem m__law_places_told : isSs txt.prg f__law_places_told.body (fnME f__law_places_told (defScope (topAt 23))) (defBody (topAt 23)) = true := by decide +kernel
theorem s__law_places_told : scB f__law_places_told.N f__law_places_told.ps (defScope (topAt 23)) = true := by decide +kernel
theorem a__law_places_told : BindOk (dD "_law_places_told" (topAt 23)) f__law_places_told.ps := fun _ _ _ _ _ _ us hl => match us, hl with | [_], _ => rfl
theorem m__law_spoilt : isSs txt.prg f__law_spoilt.body (fnME f__law_spoilt (defScope (topAt 24))) (defBody (topAt 24)) = true := by decide +kernel
theorem s__law_spoilt : scB f__law_spoilt.N f__law_spoilt.ps (defScope (topAt 24)) = true := by decide +kernel
theorem a__law_spoilt : BindOk (dD "_law_spoilt" (topAt 24)) f__law_spoilt.ps := fun _ _ _ _ _ _ us hl => match us, hl with | [_, _], _ => rfl
theorem m__law_body : isSs txt.prg f__law_body.body (fnME f__law_body (defScope (topAt 25))) (defBody (topAt 25)) = true := by decide +kernel
theorem s__law_body : scB f__law_body.N f__law_body.ps (defScope (topAt 25)) = true := by decide +kernel
theorem a__law_body : BindOk (dD "_law_body" (topAt 25)) f__law_body.ps := fun _ _ _ _ _ _ us hl => match us, hl with | [_], _ => rfl
theorem m_law : isSs txt.prg f_law.body (fnME f_law (defScope (topAt 26))) (defBody (topAt 26)) = true := by decide +kernel
theorem s_law : scB f_law.N f_law.ps (defScope (topAt 26)) = true := by decide +kernel
theorem a_law : BindOk (dD "law" (topAt 26)) f_law.ps := fun _ _ _ _ _ _ us hl => match us, hl with | [_], _ => rfl
theorem k_is_good_1 : KwOk (dD "is_good" (topAt 8)) f_is_good.ps 1 := fun _ _ _ _ _ _ us ws h1 h2 => match us, ws, h1, h2 with | [_], [_], _, _ => rfl
section
variable {K : PySem.W.Frag} {h : Heap} {mg : Str → Option Value} {prog : Program} {wo : World} {base : Heap}
theorem defs (X : K.In h) (G : h.Ns mainGlobals mg) (c : He.SaysD txt.fa fnd K) : ∀ f F, txt.prg.fn f = some F → DefK txt.prg (txt.wd K) mg f F
  | 0, F, e => by
    cases e
    exact defK_of X G c (i := 0) (m := 0) rfl rfl m_is_integer s_is_integer a_is_integer (fun n hn => by
      have hn : (txt.kws.contains (0, n)) = true := hn
      simp [txt] at hn)
  | 1, F, e => by
    cases e
    exact defK_of X G c (i := 1) (m := 1) rfl rfl m_way_to s_way_to a_way_to (fun n hn => by
      have hn : (txt.kws.contains (1, n)) = true := hn
      simp [txt] at hn)
  | 2, F, e => by
    cases e
    exact defK_of X G c (i := 2) (m := 2) rfl rfl m_check_list s_check_list a_check_list (fun n hn => by
      have hn : (txt.kws.contains (2, n)) = true := hn
      simp [txt] at hn)
  | 3, F, e => by
    cases e
    exact defK_of X G c (i := 3) (m := 3) rfl rfl m_is_good s_is_good a_is_good fun n hn => (by
      have hn : (txt.kws.contains (3, n)) = true := hn
      simp [txt] at hn
      subst hn
      exact k_is_good_1)
  | 4, F, e => by
    cases e
    exact defK_of X G c (i := 4) (m := 4) rfl rfl m_refused_places s_refused_places a_refused_places (fun n hn => by
      have hn : (txt.kws.contains (4, n)) = true := hn
      simp [txt] at hn)
  | 5, F, e => by
    cases e
    exact defK_of X G c (i := 5) (m := 5) rfl rfl m__law_integer s__law_integer a__law_integer (fun n hn => by
      have hn : (txt.kws.contains (5, n)) = true := hn
      simp [txt] at hn)
  | 6, F, e => by
    cases e
    exact defK_of X G c (i := 6) (m := 6) rfl rfl m__law_start s__law_start a__law_start (fun n hn => by
      have hn : (txt.kws.contains (6, n)) = true := hn
      simp [txt] at hn)
  | 7, F, e => by
    cases e
    exact defK_of X G c (i := 7) (m := 7) rfl rfl m__law_draw s__law_draw a__law_draw (fun n hn => by
      have hn : (txt.kws.contains (7, n)) = true := hn
      simp [txt] at hn)
  | 8, F, e => by
    cases e
    exact defK_of X G c (i := 8) (m := 8) rfl rfl m__law_wide s__law_wide a__law_wide (fun n hn => by
      have hn : (txt.kws.contains (8, n)) = true := hn
      simp [txt] at hn)
  | 9, F, e => by
    cases e
    exact defK_of X G c (i := 9) (m := 9) rfl rfl m__law_odd s__law_odd a__law_odd (fun n hn => by
      have hn : (txt.kws.contains (9, n)) = true := hn
      simp [txt] at hn)
  | 10, F, e => by
    cases e
    exact defK_of X G c (i := 10) (m := 10) rfl rfl m__law_list s__law_list a__law_list (fun n hn => by
      have hn : (txt.kws.contains (10, n)) = true := hn
      simp [txt] at hn)
  | 11, F, e => by
    cases e
    exact defK_of X G c (i := 11) (m := 11) rfl rfl m__law_way s__law_way a__law_way (fun n hn => by
      have hn : (txt.kws.contains (11, n)) = true := hn
      simp [txt] at hn)
  | 12, F, e => by
    cases e
    exact defK_of X G c (i := 12) (m := 12) rfl rfl m__law_good s__law_good a__law_good (fun n hn => by
      have hn : (txt.kws.contains (12, n)) = true := hn
      simp [txt] at hn)
  | 13, F, e => by
    cases e
    exact defK_of X G c (i := 13) (m := 13) rfl rfl m__law_numbers_are s__law_numbers_are a__law_numbers_are (fun n hn => by
      have hn : (txt.kws.contains (13, n)) = true := hn
      simp [txt] at hn)
  | 14, F, e => by
    cases e
    exact defK_of X G c (i := 14) (m := 14) rfl rfl m__law_way_told s__law_way_told a__law_way_told (fun n hn => by
      have hn : (txt.kws.contains (14, n)) = true := hn
      simp [txt] at hn)
  | 15, F, e => by
    cases e
    exact defK_of X G c (i := 15) (m := 15) rfl rfl m__law_is_list s__law_is_list a__law_is_list (fun n hn => by
      have hn : (txt.kws.contains (15, n)) = true := hn
      simp [txt] at hn)
  | 16, F, e => by
    cases e
    exact defK_of X G c (i := 16) (m := 16) rfl rfl m__law_good_told s__law_good_told a__law_good_told (fun n hn => by
      have hn : (txt.kws.contains (16, n)) = true := hn
      simp [txt] at hn)
  | 17, F, e => by
    cases e
    exact defK_of X G c (i := 17) (m := 17) rfl rfl m__law_places_told s__law_places_told a__law_places_told (fun n hn => by
      have hn : (txt.kws.contains (17, n)) = true := hn
      simp [txt] at hn)
  | 18, F, e => by
    cases e
    exact defK_of X G c (i := 18) (m := 18) rfl rfl m__law_spoilt s__law_spoilt a__law_spoilt (fun n hn => by
      have hn : (txt.kws.contains (18, n)) = true := hn
      simp [txt] at hn)
  | 19, F, e => by
    cases e
    exact defK_of X G c (i := 19) (m := 19) rfl rfl m__law_body s__law_body a__law_body (fun n hn => by
      have hn : (txt.kws.contains (19, n)) = true := hn
      simp [txt] at hn)
  | 20, F, e => by
    cases e
    exact defK_of X G c (i := 20) (m := 20) rfl rfl m_law s_law a_law (fun n hn => by
      have hn : (txt.kws.contains (20, n)) = true := hn
      simp [txt] at hn)
  | _ + 21, F, e => by cases e
theorem inis (X : K.In h) (G : h.Ns mainGlobals mg) (c : He.SaysD txt.fa fnd K) (cB : txt.clsB K = true) : ∀ k, txt.prg.ini k = true → IniK (txt.wd K) prog wo mg base txt.prg k
  | 0, e => by cases e
  | 1, e => iniK1 X G c cB (k := 1) (m := 21) rfl rfl rfl (by decide +kernel) rfl rfl rfl rfl (fun _ _ _ _ _ _ us hl => match us, hl with | [_, _], _ => rfl)
  | 2, e => iniK1 X G c cB (k := 2) (m := 22) rfl rfl rfl (by decide +kernel) rfl rfl rfl rfl (fun _ _ _ _ _ _ us hl => match us, hl with | [_, _], _ => rfl)
  | _ + 3, e => by cases e
end
end Ck35
/-! P35: what the defs of k35 yield. -/
namespace Ck35
open PV
def isI : D → Bool
  | .int _ => true
  | _ => false
def val : D → Bool
  | .non => true | .bl _ => true | .int _ => true | .str _ => true | .tup _ => true | .lst _ => true
  | _ => false
abbrev rn (k i : Nat) (ds : List D) (h : Hs) : Rs D := txt.prg.run k i ds h
abbrev sg (k : Nat) : Sig := txt.prg.sig (txt.prg.run k)
theorem r0 (k : Nat) (d : D) (h : Hs) : rn (k+1) 0 [d] h = fin false h.length (exSs (sg k) b_is_integer [.val d] h) := rfl
theorem r2 (k : Nat) (d : D) (h : Hs) : rn (k+1) 2 [d] h = fin false h.length (exSs (sg k) b_check_list [.val d, .non] h) := rfl
theorem is_integer (k : Nat) (d : D) (h : Hs) (hv : val d = true) : rn (k+1) 0 [d] h = .ok (.bl (isI d)) h := by
  rw [r0]
  cases d <;> simp [val] at hv <;> simp [b_is_integer, exSs, exS, evE, evR, ofO, slotD, vw, isiD, Ty.plain, Ty.holds, fin, back, isI, lft]
theorem is_integer5 (k : Nat) (d : D) (h : Hs) (hv : val d = true) : rn (k+1) 5 [d] h = .ok (.bl (isI d)) h := by
  show fin false h.length (exSs (sg k) b__law_integer [.val d] h) = _
  cases d <;> simp [val] at hv <;> simp [b__law_integer, exSs, exS, evE, evR, ofO, slotD, vw, isiD, Ty.plain, Ty.holds, fin, back, isI, lft]
/-- the items of a list or a tuple -/
def seq : D → Option (List D)
  | .tup xs => some xs
  | .lst xs => some xs
  | _ => none
def chk (v : D) : Bool := match seq v with
  | some xs => decide (1 ≤ xs.length) && decide (xs.length ≤ 40) && xs.all isI
  | none => false
abbrev chkB : Sts := .cons (.ife (.not (.call 0 (.cons (.var 1) .nil))) (.cons (.rse 2 (.cons (.var 0) .nil)) .nil) .nil) .nil
theorem chk_go (k : Nat) (v : D) (h : Hs) (s : Src) (hs : ∀ ρ, s.still ρ h = true) : ∀ (xs : List D) (x : Sl), (∀ x ∈ xs, val x = true) →
    ∃ y, forGo (turn (sg (k+1)) (.slot 1) chkB) s.still xs [.val v, x] h = if xs.all isI then .ok (.nx [.val v, y]) h else .ok (.xc 2 [v] [.val v, y]) h
  | [], x, _ => ⟨x, by simp [forGo, hs]⟩
  | z :: xs, x, hv => by
    have hz := hv z List.mem_cons_self
    obtain ⟨y, ih⟩ := chk_go k v h s hs xs (.val z) fun x hx => hv x (List.mem_cons_of_mem _ hx)
    have ht : evT (sg (k+1)) (.not (.call 0 (.cons (.var 1) .nil))) [.val v, .val z] h = .ok (!isI z) h := t_not (t_call (es_cons (e_var rfl) es_nil) (is_integer k z h hz) rfl)
    cases hi : isI z with
    | true =>
      refine ⟨y, ?_⟩
      rw [hi] at ht
      have hb : turn (sg (k+1)) (.slot 1) chkB z [.val v, x] h = .ok (.nx [.val v, .val z]) h := by
        show exSs _ chkB [.val v, .val z] h = _
        rw [x_cons (x_skip ht), x_nil]
      rw [for_nx (hs _) hb, ih, List.all_cons, hi, Bool.true_and]
    | false =>
      refine ⟨.val z, ?_⟩
      rw [hi] at ht
      have hb : turn (sg (k+1)) (.slot 1) chkB z [.val v, x] h = .ok (.xc 2 [v] [.val v, .val z]) h := by
        show exSs _ chkB [.val v, .val z] h = _
        rw [x_end ((x_if1 ht).trans (x_rse (es_cons (e_var rfl) es_nil))) rfl]
      rw [for_xc (hs _) hb, List.all_cons, hi]
      simp
theorem check_list (k : Nat) (v : D) (h : Hs) (hv : val v = true) (hx : ∀ xs, seq v = some xs → xs.length ≤ lenMax ∧ ∀ x ∈ xs, val x = true) : rn (k+2) 2 [v] h = if chk v then .ok .non h else .exc 2 [v] h := by
  rw [r2]
  unfold b_check_list
  have hi : ∀ r, isiD [.list, .tuple] v = some r → evT (sg (k+1)) (.not (.isi (.ex (.var 0)) [.list, .tuple])) [.val v, .non] h = .ok (!r) h := fun r e => t_not (t_isi (e_var rfl) (by cases v <;> first | exact e | (simp [val] at hv; done)))
  cases hs : seq v with
  | none =>
    have e : isiD [.list, .tuple] v = some false := by cases v <;> first | rfl | (simp [seq] at hs; done) | (simp [val] at hv; done)
    rw [x_end ((x_if1 (t_or (hi _ e))).trans (x_rse (es_cons (e_var rfl) es_nil))) rfl]
    simp [fin, chk, hs]
  | some xs =>
    obtain ⟨hl, hx⟩ := hx xs hs
    have e : isiD [.list, .tuple] v = some true := by cases v <;> first | rfl | (simp [seq] at hs; done)
    have hlen : evE (sg (k+1)) (.bi .len (.cons (.ex (.var 0)) .nil)) [.val v, .non] h = .ok (.int xs.length) h := by
      cases v <;> simp [seq] at hs <;> subst hs <;> simp [evE, evRs, evR, slotD, vw, biD, lenD, ofO]
    have hc : evT (sg (k+1)) (.not (.chain .le .le (.cst (.int 1)) (.bi .len (.cons (.ex (.var 0)) .nil)) (.cst (.int 40)))) [.val v, .non] h = .ok (!(decide ((1:Int) ≤ xs.length) && decide ((xs.length:Int) ≤ 40))) h :=
      t_not (t_chain e_cst hlen (le_int _ _) e_cst (le_int _ _))
    have hor : evT (sg (k+1)) (.or (.not (.isi (.ex (.var 0)) [.list, .tuple])) (.not (.chain .le .le (.cst (.int 1)) (.bi .len (.cons (.ex (.var 0)) .nil)) (.cst (.int 40))))) [.val v, .non] h = .ok (!(decide ((1:Int) ≤ xs.length) && decide ((xs.length:Int) ≤ 40))) h := by
      rw [t_or (hi _ e), hc]; rfl
    cases hb : (decide ((1:Int) ≤ xs.length) && decide ((xs.length:Int) ≤ 40)) with
    | false =>
      rw [hb] at hor
      rw [x_end ((x_if1 hor).trans (x_rse (es_cons (e_var rfl) es_nil))) rfl]
      have : chk v = false := by
        have : (decide (1 ≤ xs.length) && decide (xs.length ≤ 40)) = false := by
          rw [← hb]; congr 1 <;> simp <;> omega
        simp [chk, hs, this]
      simp [fin, this]
    | true =>
      rw [hb] at hor
      rw [x_cons (x_skip hor)]
      have hsrc : srcD h v = some (.fix xs) := by cases v <;> simp [seq] at hs <;> subst hs <;> rfl
      obtain ⟨y, hf⟩ := chk_go k v h (.fix xs) (fun _ => rfl) xs .non hx
      have hfor : exS (sg (k+1)) (.for (.slot 1) (.of (.ex (.var 0))) (.cons (.ife (.not (.call 0 (.cons (.var 1) .nil))) (.cons (.rse 2 (.cons (.var 0) .nil)) .nil) .nil) .nil)) [.val v, .non] h =
          if xs.all isI then .ok (.nx [.val v, y]) h else .ok (.xc 2 [v] [.val v, y]) h := by
        rw [← hf]
        exact x_for (i_of (e_var rfl) hsrc) rfl
      have hck : chk v = xs.all isI := by
        have : (decide (1 ≤ xs.length) && decide (xs.length ≤ 40)) = true := by
          rw [← hb]; congr 1 <;> simp <;> omega
        simp [chk, hs, this]
      rw [hck]
      cases ha : xs.all isI with
      | true =>
        rw [ha] at hfor
        rw [x_cons hfor, x_nil]
        simp [fin, back]
      | false =>
        rw [ha] at hfor
        rw [x_end hfor rfl]
        simp [fin]
/-! ### the way to a place -/
def wayL : Nat → Int → Int → Int → List Int
  | 0, _, _, _ => []
  | f + 1, lo, hi, p => if lo ≤ hi then (lo + hi) / 2 :: (if (lo + hi) / 2 = p then [] else if (lo + hi) / 2 < p then wayL f ((lo + hi) / 2 + 1) hi p else wayL f lo ((lo + hi) / 2 - 1) p) else []
abbrev wayT : Ex := .cmp .le (.ex (.var 2)) (.ex (.var 3))
abbrev wayB : Sts := (.cons (.set 5 (.bin .fdiv (.ex (.bin .add (.ex (.var 2)) (.ex (.var 3)))) (.ex (.cst (.int 2))))) (.cons (.app 4 (.var 5)) (.cons (.ife (.cmp .eq (.ex (.var 5)) (.ex (.var 1))) (.cons .brk .nil) .nil) (.cons (.ife (.cmp .gt (.ex (.var 1)) (.ex (.var 5))) (.cons (.set 2 (.bin .add (.ex (.var 5)) (.ex (.cst (.int 1))))) .nil) (.cons (.set 3 (.bin .sub (.ex (.var 5)) (.ex (.cst (.int 1))))) .nil)) .nil))))
theorem way_go (c : Sig) (n p : Int) (h : Hs) : ∀ (f : Nat) (lo hi : Int) (acc : List D) (x : Sl), hi - lo + 1 ≤ f → acc.length + f ≤ 1000 → ∃ lo' hi' y,
    whlGo (evT c wayT) (exSs c wayB) (f + 1) [.val (.int n), .val (.int p), .val (.int lo), .val (.int hi), .own (.lst acc), x] h = .ok (.nx [.val (.int n), .val (.int p), lo', hi', .own (.lst (acc ++ (wayL f lo hi p).map D.int)), y]) h
  | 0, lo, hi, acc, x, hf, _ => by
    refine ⟨.val (.int lo), .val (.int hi), x, ?_⟩
    rw [whl_done (t_cmp (e_var rfl) (e_var rfl) ((le_int lo hi).trans (by simp; omega : _ = some false)))]
    simp [wayL]
  | f + 1, lo, hi, acc, x, hf, hl => by
    by_cases hlh : lo ≤ hi
    · have ht : evT c wayT [.val (.int n), .val (.int p), .val (.int lo), .val (.int hi), .own (.lst acc), x] h = .ok true h := t_cmp (e_var rfl) (e_var rfl) ((le_int lo hi).trans (by simp [hlh]))
      generalize hm : (lo + hi) / 2 = m
      have s1 : exS c (.set 5 (.bin .fdiv (.ex (.bin .add (.ex (.var 2)) (.ex (.var 3)))) (.ex (.cst (.int 2))))) [.val (.int n), .val (.int p), .val (.int lo), .val (.int hi), .own (.lst acc), x] h = .ok (.nx [.val (.int n), .val (.int p), .val (.int lo), .val (.int hi), .own (.lst acc), .val (.int m)]) h := by
        rw [← hm]
        exact x_set (e_bin (e_bin (e_var rfl) (e_var rfl) rfl) e_cst (fdiv_ok (by decide) (by decide +kernel))) (by simp)
      have s2 : exS c (.app 4 (.var 5)) [.val (.int n), .val (.int p), .val (.int lo), .val (.int hi), .own (.lst acc), .val (.int m)] h = .ok (.nx [.val (.int n), .val (.int p), .val (.int lo), .val (.int hi), .own (.lst (acc ++ [.int m])), .val (.int m)]) h :=
        x_app rfl (e_var rfl) (by unfold lenMax; omega)
      have t3 : evT c (.cmp .eq (.ex (.var 5)) (.ex (.var 1))) [.val (.int n), .val (.int p), .val (.int lo), .val (.int hi), .own (.lst (acc ++ [.int m])), .val (.int m)] h = .ok (m == p) h := t_cmp (e_var rfl) (e_var rfl) (eq_int _ _)
      have t4 : evT c (.cmp .gt (.ex (.var 1)) (.ex (.var 5))) [.val (.int n), .val (.int p), .val (.int lo), .val (.int hi), .own (.lst (acc ++ [.int m])), .val (.int m)] h = .ok (decide (m < p)) h := t_cmp (e_var rfl) (e_var rfl) (gt_int _ _)
      have hw : wayL (f + 1) lo hi p = m :: (if m = p then [] else if m < p then wayL f (m + 1) hi p else wayL f lo (m - 1) p) := by simp only [wayL, if_pos hlh, hm]
      rw [hw]
      by_cases hmp : m = p
      · refine ⟨.val (.int lo), .val (.int hi), .val (.int m), ?_⟩
        have hb : exSs c wayB [.val (.int n), .val (.int p), .val (.int lo), .val (.int hi), .own (.lst acc), x] h = .ok (.brk [.val (.int n), .val (.int p), .val (.int lo), .val (.int hi), .own (.lst (acc ++ [.int m])), .val (.int m)]) h := by
          rw [x_cons s1, x_cons s2, x_end ((x_if1 (t3.trans (by simp [hmp] : Rs.ok (m == p) h = Rs.ok true h))).trans x_brk) rfl]
        rw [whl_brk ht hb, if_pos hmp]
        simp
      · have hmp2 : (m == p) = false := by simpa using hmp
        rw [hmp2] at t3
        rw [if_neg hmp]
        by_cases hlt : m < p
        · obtain ⟨lo', hi', y, ih⟩ := way_go c n p h f (m + 1) hi (acc ++ [.int m]) (.val (.int m)) (by omega) (by simp; omega)
          refine ⟨lo', hi', y, ?_⟩
          rw [if_pos hlt, whl_nx ht (by
            rw [x_cons s1, x_cons s2, x_cons (x_skip t3)]
            exact (x_cons ((x_if1 (t4.trans (by simp [hlt]))).trans ((x_cons (x_set (e_bin (e_var rfl) e_cst rfl) (by simp))).trans x_nil))).trans x_nil : exSs c wayB _ h = .ok (.nx [.val (.int n), .val (.int p), .val (.int (m + 1)), .val (.int hi), .own (.lst (acc ++ [.int m])), .val (.int m)]) h), ih]
          simp
        · obtain ⟨lo', hi', y, ih⟩ := way_go c n p h f lo (m - 1) (acc ++ [.int m]) (.val (.int m)) (by omega) (by simp; omega)
          refine ⟨lo', hi', y, ?_⟩
          rw [if_neg hlt, whl_nx ht (by
            rw [x_cons s1, x_cons s2, x_cons (x_skip t3)]
            exact (x_cons ((x_if0 (t4.trans (by simp [hlt]))).trans ((x_cons (x_set (e_bin (e_var rfl) e_cst rfl) (by simp))).trans x_nil))).trans x_nil : exSs c wayB _ h = .ok (.nx [.val (.int n), .val (.int p), .val (.int lo), .val (.int (m - 1)), .own (.lst (acc ++ [.int m])), .val (.int m)]) h), ih]
          simp
    · refine ⟨.val (.int lo), .val (.int hi), x, ?_⟩
      rw [whl_done (t_cmp (e_var rfl) (e_var rfl) ((le_int lo hi).trans (by simp; omega : _ = some false)))]
      simp [wayL, hlh]
theorem way_to (k : Nat) (n p : Int) (h : Hs) (h1 : 1 ≤ n) (h2 : n ≤ 40) (h3 : 0 ≤ p) (h4 : p < n) : rn (k+2) 1 [.int n, .int p] h = .ok (.tup ((wayL 99 0 (n - 1) p).map D.int)) h := by
  show fin false h.length (exSs (sg (k+1)) b_way_to [.val (.int n), .val (.int p), .non, .non, .non, .non] h) = _
  unfold b_way_to
  have c0 : ∀ {k : Int} {c : Sig} {ρ : Ev} {h : Hs}, evE c (.cst (.int k)) ρ h = .ok (.int k) h := fun {k c ρ h} => e_cst
  have q1 : evT (sg (k+1)) (.or (.not (.call 0 (.cons (.var 0) .nil))) (.not (.chain .le .le (.cst (.int 1)) (.var 0) (.cst (.int 40))))) [.val (.int n), .val (.int p), .non, .non, .non, .non] h = .ok false h := by
    rw [t_or (t_not (t_call (es_cons (e_var rfl) es_nil) (is_integer k (.int n) h rfl) rfl)), t_not (t_chain c0 (e_var rfl) (le_int _ _) c0 (le_int _ _))]
    simp [isI, h1, h2]
  have q2 : evT (sg (k+1)) (.or (.not (.call 0 (.cons (.var 1) .nil))) (.not (.chain .le .lt (.cst (.int 0)) (.var 1) (.var 0)))) [.val (.int n), .val (.int p), .non, .non, .non, .non] h = .ok false h := by
    rw [t_or (t_not (t_call (es_cons (e_var rfl) es_nil) (is_integer k (.int p) h rfl) rfl)), t_not (t_chain c0 (e_var rfl) (le_int _ _) (e_var rfl) (lt_int _ _))]
    simp [isI, h3, h4]
  rw [x_cons (x_skip q1), x_cons (x_skip q2), x_cons (x_set c0 (by simp)), x_cons (x_set (e_bin (e_var rfl) c0 rfl) (by simp)), x_cons (x_own e_lnil (by simp))]
  obtain ⟨lo', hi', y, ih⟩ := way_go (sg (k+1)) n p h 99 0 (n - 1) [] .non (by omega) (by simp)
  simp only [List.set_cons_succ, List.set_cons_zero]
  rw [x_cons (x_whl.trans ih), x_ret (v := .tup ((wayL 99 0 (n - 1) p).map D.int)) (h1 := h) (by simp [evE, evRs, evR, ownD, vw, biD])]
  simp [fin, back]
end Ck35
/-! Q35: good places. -/
namespace PV
section
variable {c : Sig} {ρ : Ev} {h : Hs}
theorem e_idx {p q : Ex} {u v r : D} {h1 h2 : Hs} (hp : evE c p ρ h = .ok u h1) (hq : evE c q ρ h1 = .ok v h2) (hr : idxD (vw h2 u) v = some r) : evE c (.idx (.ex p) q) ρ h = .ok r h2 := by
  simp only [evE, evR, hp, hq, Rs.bind_ok, hr, ofO_some]
theorem e_idxo {i : Nat} {q : Ex} {xs : List D} {v r : D} {h2 : Hs} (ho : ρ[i]? = some (.own (.lst xs))) (hq : evE c q ρ h = .ok v h2) (hr : idxD (.lst xs) v = some r) : evE c (.idx (.own i) q) ρ h = .ok r h2 := by
  simp only [evE, evR, ownD, ho, ofO_some, hq, Rs.bind_ok, vw, hr]
theorem e_len {p : Ex} {u : D} {n : Int} {h1 : Hs} (hp : evE c p ρ h = .ok u h1) (hn : lenD (vw h1 u) = some n) : evE c (.bi .len (.cons (.ex p) .nil)) ρ h = .ok (.int n) h1 := by
  simp only [evE, evRs, evR, hp, Rs.bind_ok, List.map_cons, List.map_nil, biD, hn, Option.map_some, ofO_some]
end
end PV
namespace Ck35
open PV
/-- a list or a tuple of whole numbers -/
def Seq (v : D) (is : List Int) : Prop := v = .lst (is.map D.int) ∨ v = .tup (is.map D.int)
def at_ (is : List Int) (i : Int) : Int := is.getD i.toNat 0
section
variable {v : D} {is : List Int} {h : Hs}
theorem Seq.len (s : Seq v is) : lenD (vw h v) = some (is.length : Int) := by
  rcases s with rfl | rfl <;> simp [vw, lenD]
theorem Seq.idx (s : Seq v is) {i : Int} (h0 : 0 ≤ i) (h1 : i < is.length) : idxD (vw h v) (.int i) = some (.int (at_ is i)) := by
  have hin : i.toNat < is.length := by omega
  have e : ixN is.length i = some i.toNat := by
    unfold ixN
    rw [if_pos h0, if_pos h1]
  have hg : is[i.toNat]? = some (at_ is i) := by
    rw [List.getElem?_eq_getElem hin]
    simp [at_, hin]
  rcases s with rfl | rfl <;> simp [vw, idxD, atI, e, hg]
theorem Seq.val (s : Seq v is) : val v = true := by rcases s with rfl | rfl <;> rfl
theorem Seq.src (s : Seq v is) : srcD h v = some (.fix (is.map D.int)) := by rcases s with rfl | rfl <;> rfl
theorem Seq.seq (s : Seq v is) : seq v = some (is.map D.int) := by rcases s with rfl | rfl <;> rfl
theorem Seq.chk (s : Seq v is) (h1 : 1 ≤ is.length) (h2 : is.length ≤ 40) : chk v = true := by
  simp [Ck35.chk, s.seq, h1, h2]
  intro x hx; rfl
theorem Seq.check (s : Seq v is) (h1 : 1 ≤ is.length) (h2 : is.length ≤ 40) (k : Nat) : rn (k+2) 2 [v] h = .ok .non h := by
  rw [check_list k v h s.val (fun xs e => by
    rw [s.seq] at e; cases e
    refine ⟨by simp; unfold lenMax; omega, fun x hx => ?_⟩
    obtain ⟨i, _, rfl⟩ := List.mem_map.mp hx
    rfl), s.chk h1 h2]
  rfl
end
theorem wayL_mem : ∀ {f : Nat} {lo hi p m : Int}, m ∈ wayL f lo hi p → lo ≤ m ∧ m ≤ hi
  | 0, _, _, _, _, h => by simp [wayL] at h
  | f + 1, lo, hi, p, m, h => by
    simp only [wayL] at h
    split at h
    · rename_i hl
      rcases List.mem_cons.mp h with rfl | h -- pv
      · omega
      · split at h
        · cases h
        · split at h
          · have := wayL_mem h; omega
          · have := wayL_mem h; omega
    · cases h
/-- the middle m speaks against the place p -/
def against (is : List Int) (p m : Int) : Bool := (decide (m < p) && decide (at_ is p < at_ is m)) || (decide (p < m) && decide (at_ is m < at_ is p))
def good (is : List Int) (p : Int) : Bool := (wayL 99 0 ((is.length : Int) - 1) p).all fun m => !against is p m
abbrev goodB : Sts := (.cons (.ife (.and (.cmp .lt (.ex (.var 2)) (.ex (.var 1))) (.cmp .gt (.ex (.idx (.ex (.var 0)) (.var 2))) (.ex (.idx (.ex (.var 0)) (.var 1))))) (.cons (.ret (.cst (.bl false))) .nil) .nil) (.cons (.ife (.and (.cmp .gt (.ex (.var 2)) (.ex (.var 1))) (.cmp .lt (.ex (.idx (.ex (.var 0)) (.var 2))) (.ex (.idx (.ex (.var 0)) (.var 1))))) (.cons (.ret (.cst (.bl false))) .nil) .nil) .nil))
theorem good_go (c : Sig) {v : D} {is : List Int} (s : Seq v is) (p : Int) (h : Hs) (h0 : 0 ≤ p) (h1 : p < is.length) (st : Ev → Hs → Bool) (hst : ∀ ρ h, st ρ h = true) : ∀ (ms : List Int) (x : Sl), (∀ m ∈ ms, 0 ≤ m ∧ m < is.length) →
    ∃ y, forGo (turn c (.slot 2) goodB) st (ms.map D.int) [.val v, .val (.int p), x] h = if ms.all (fun m => !against is p m) then .ok (.nx [.val v, .val (.int p), y]) h else .ok (.ret (.bl false)) h
  | [], x, _ => ⟨x, by simp [forGo, hst]⟩
  | m :: ms, x, hm => by
    obtain ⟨m0, m1⟩ := hm m List.mem_cons_self
    obtain ⟨y, ih⟩ := good_go c s p h h0 h1 st hst ms (.val (.int m)) fun z hz => hm z (List.mem_cons_of_mem _ hz)
    have i0 : evE c (.idx (.ex (.var 0)) (.var 2)) [.val v, .val (.int p), .val (.int m)] h = .ok (.int (at_ is m)) h := e_idx (e_var rfl) (e_var rfl) (s.idx m0 m1)
    have i1 : evE c (.idx (.ex (.var 0)) (.var 1)) [.val v, .val (.int p), .val (.int m)] h = .ok (.int (at_ is p)) h := e_idx (e_var rfl) (e_var rfl) (s.idx h0 h1)
    have t1 : evT c (.and (.cmp .lt (.ex (.var 2)) (.ex (.var 1))) (.cmp .gt (.ex (.idx (.ex (.var 0)) (.var 2))) (.ex (.idx (.ex (.var 0)) (.var 1))))) [.val v, .val (.int p), .val (.int m)] h = .ok (decide (m < p) && decide (at_ is p < at_ is m)) h := by
      rw [t_and (t_cmp (e_var rfl) (e_var rfl) (lt_int m p)), t_cmp i0 i1 (gt_int _ _)]
      cases decide (m < p) <;> rfl
    have t2 : evT c (.and (.cmp .gt (.ex (.var 2)) (.ex (.var 1))) (.cmp .lt (.ex (.idx (.ex (.var 0)) (.var 2))) (.ex (.idx (.ex (.var 0)) (.var 1))))) [.val v, .val (.int p), .val (.int m)] h = .ok (decide (p < m) && decide (at_ is m < at_ is p)) h := by
      rw [t_and (t_cmp (e_var rfl) (e_var rfl) (gt_int m p)), t_cmp i0 i1 (lt_int _ _)]
      cases decide (p < m) <;> rfl
    cases b1 : (decide (m < p) && decide (at_ is p < at_ is m)) with
    | true =>
      rw [b1] at t1
      refine ⟨x, ?_⟩
      have hb : turn c (.slot 2) goodB (.int m) [.val v, .val (.int p), x] h = .ok (.ret (.bl false)) h := by
        show exSs c goodB [.val v, .val (.int p), .val (.int m)] h = _
        rw [x_end ((x_if1 t1).trans (x_ret e_cst)) rfl]; rfl
      rw [List.map_cons, for_ret (hst _ _) hb]
      have : against is p m = true := by simp only [against, b1, Bool.true_or]
      simp [this]
    | false =>
      rw [b1] at t1
      cases b2 : (decide (p < m) && decide (at_ is m < at_ is p)) with
      | true =>
        rw [b2] at t2
        refine ⟨x, ?_⟩
        have hb : turn c (.slot 2) goodB (.int m) [.val v, .val (.int p), x] h = .ok (.ret (.bl false)) h := by
          show exSs c goodB [.val v, .val (.int p), .val (.int m)] h = _
          rw [x_cons (x_skip t1), x_end ((x_if1 t2).trans (x_ret e_cst)) rfl]; rfl
        rw [List.map_cons, for_ret (hst _ _) hb]
        have : against is p m = true := by simp only [against, b2, Bool.or_true]
        simp [this]
      | false =>
        rw [b2] at t2
        refine ⟨y, ?_⟩
        have hb : turn c (.slot 2) goodB (.int m) [.val v, .val (.int p), x] h = .ok (.nx [.val v, .val (.int p), .val (.int m)]) h := by
          show exSs c goodB [.val v, .val (.int p), .val (.int m)] h = _
          rw [x_cons (x_skip t1), x_cons (x_skip t2), x_nil]
        rw [List.map_cons, for_nx (hst _ _) hb, ih]
        have : against is p m = false := by simp only [against, b1, b2, Bool.or_false]
        simp [this]
theorem is_good (k : Nat) {v : D} {is : List Int} (s : Seq v is) (p : Int) (h : Hs) (l1 : 1 ≤ is.length) (l2 : is.length ≤ 40) (h0 : 0 ≤ p) (h1 : p < is.length) : rn (k+3) 3 [v, .int p] h = .ok (.bl (good is p)) h := by
  show fin false h.length (exSs (sg (k+2)) b_is_good [.val v, .val (.int p), .non] h) = _
  unfold b_is_good
  rw [x_cons (x_exp ((e_call (es_cons (e_var rfl) es_nil)).trans (s.check l1 l2 k)))]
  have hw : evE (sg (k+2)) (.call 1 (.cons (.bi .len (.cons (.ex (.var 0)) .nil)) (.cons (.var 1) .nil))) [.val v, .val (.int p), .non] h = .ok (.tup ((wayL 99 0 ((is.length : Int) - 1) p).map D.int)) h :=
    (e_call (es_cons (e_len (e_var rfl) s.len) (es_cons (e_var rfl) es_nil))).trans (way_to k is.length p h (by omega) (by omega) h0 h1)
  obtain ⟨y, hf⟩ := good_go (sg (k+2)) s p h h0 h1 (fun _ _ => true) (fun _ _ => rfl) (wayL 99 0 ((is.length : Int) - 1) p) .non fun m hm => by
    have := wayL_mem hm; omega
  have hfor := (x_for (t := .slot 2) (b := goodB) (i_of hw rfl) rfl).trans hf
  cases hg : good is p with
  | true =>
    rw [show ((wayL 99 0 ((is.length : Int) - 1) p).all fun m => !against is p m) = true from hg] at hfor
    rw [x_cons hfor, x_ret e_cst]
    simp [fin, back, Cst.d]
  | false =>
    rw [show ((wayL 99 0 ((is.length : Int) - 1) p).all fun m => !against is p m) = false from hg] at hfor
    rw [x_end hfor rfl]
    simp [fin, back]
end Ck35
/-! U35: refused places, the longest rows. -/
namespace PV
section
variable {c : Sig} {ρ : Ev} {h : Hs}
theorem lcGo_pure {f : D → Hs → Rs (Option D)} {still : Hs → Bool} {G : D → Option D} (hs : still h = true) : ∀ {xs : List D}, (∀ x ∈ xs, f x h = .ok (G x) h) → lcGo f still xs h = .ok (xs.filterMap G) h
  | [], _ => by simp [lcGo, hs]
  | x :: xs, hf => by
    have ih := lcGo_pure (f := f) (still := still) (G := G) hs (xs := xs) fun y hy => hf y (List.mem_cons_of_mem _ hy)
    simp only [lcGo, hs, if_true, hf x List.mem_cons_self, Rs.bind_ok, ih, List.filterMap_cons]
    cases G x <;> rfl
theorem e_lc {elt : Ex} {t : Tg} {it : It} {w : Exo} {s : Src} (G : D → Option D) (hi : evI c it ρ h = .ok s h) (hs : s.still ρ h = true) (hc : clear t ρ = true) (hl : s.xs.length ≤ lenMax)
    (hG : ∀ x ∈ s.xs, ∃ ρ1, asg t x (wipeE ρ (slo t)) = some ρ1 ∧ ((G x = none ∧ evW c w ρ1 h = .ok false h) ∨ ∃ y, G x = some y ∧ evW c w ρ1 h = .ok true h ∧ evE c elt ρ1 h = .ok y h)) :
    evE c (.lc elt t it w) ρ h = .ok (.lst (s.xs.filterMap G)) h := by
  simp only [evE, hi, Rs.bind_ok, hc, decide_eq_true hl, Bool.and_true, if_true]
  rw [lcGo_pure (G := G) hs fun x hx => ?_]
  · rfl
  · obtain ⟨ρ1, e1, q⟩ := hG x hx
    simp only [e1]
    rcases q with ⟨g, e2⟩ | ⟨y, g, e2, e3⟩
    · simp only [e2, Rs.nox_ok, Rs.bind_ok, Bool.false_eq_true, if_false, g]
    · simp only [e2, e3, Rs.nox_ok, Rs.bind_ok, if_true, g]
theorem rngL_map : ∀ (n : Nat) (lo : Int), rngL lo n = (List.range n).map fun i : Nat => D.int (lo + (i : Int))
  | 0, _ => rfl
  | n + 1, lo => by
    rw [rngL, rngL_map n, List.range_succ_eq_map, List.map_cons, List.map_map]
    congr 1
    · simp
    · apply List.map_congr_left
      intro i _
      simp
      omega
theorem rngL_len2 (n : Nat) (lo : Int) : (rngL lo n).length = n := by rw [rngL_map]; simp
theorem w_some {e : Ex} {r : Bool} {h1 : Hs} (he : evT c e ρ h = .ok r h1) : evW c (.some e) ρ h = .ok r h1 := by simp only [evW, he]
theorem w_none : evW c .none ρ h = .ok true h := by simp only [evW]
end
end PV
namespace Ck35
open PV
def refL (is : List Int) : List Int := ((List.range is.length).map fun i : Nat => (i : Int)).filter fun p => !good is p
theorem filterMap_ints {q : Int → Bool} : ∀ (l : List Nat), ((l.map fun i : Nat => D.int (0 + (i : Int))).filterMap fun d => match d with | .int i => if q i then some (D.int i) else none | _ => none) = ((l.map fun i : Nat => (i : Int)).filter q).map D.int
  | [] => rfl
  | i :: l => by
    rw [List.map_cons, List.filterMap_cons, List.map_cons, List.filter_cons, filterMap_ints l]
    have e : (0 : Int) + (i : Int) = (i : Int) := by simp
    rw [e]
    cases hq : q (i : Int) <;> simp [hq]
theorem big_nat {n : Nat} (h : n ≤ 1000) : big (n : Int) = true := by
  simp [big]
  omega
theorem refused (k : Nat) {v : D} {is : List Int} (s : Seq v is) (h : Hs) (l1 : 1 ≤ is.length) (l2 : is.length ≤ 40) : rn (k+4) 4 [v] h = .ok (.tup ((refL is).map D.int)) h := by
  show fin false h.length (exSs (sg (k+3)) b_refused_places [.val v, .non] h) = _
  unfold b_refused_places
  rw [x_cons (x_exp ((e_call (es_cons (e_var rfl) es_nil)).trans (s.check l1 l2 (k+1))))]
  have hlc : evE (sg (k+3)) (.lc (.var 1) (.slot 1) (.rng1 (.bi .len (.cons (.ex (.var 0)) .nil))) (.some (.not (.call 3 (.cons (.var 0) (.cons (.var 1) .nil)))))) [.val v, .non] h = .ok (.lst ((refL is).map D.int)) h := by
    rw [e_lc (G := fun d => match d with | .int i => if !good is i then some (D.int i) else none | _ => none) (i_rng1 (e_len (e_var rfl) s.len) (big_nat (by omega))) rfl rfl (by
      show (rngL 0 _).length ≤ _
      rw [rngL_len2]; unfold lenMax; simp; omega) fun x hx => ?_]
    · show Rs.ok (D.lst (List.filterMap _ (rngL 0 _))) h = _
      rw [rngL_map, filterMap_ints (q := fun p => !good is p)]
      rfl
    · have hx : x ∈ rngL 0 ((is.length : Int).toNat) := hx
      rw [rngL_map] at hx
      obtain ⟨i, hi, rfl⟩ := List.mem_map.mp hx
      have hi2 : i < is.length := by simpa using hi
      refine ⟨[.val v, .val (.int (0 + (i : Int)))], rfl, ?_⟩
      have ht : evW (sg (k+3)) (.some (.not (.call 3 (.cons (.var 0) (.cons (.var 1) .nil))))) [.val v, .val (.int (0 + (i : Int)))] h = .ok (!good is (0 + (i : Int))) h :=
        w_some (t_not (t_call (es_cons (e_var rfl) (es_cons (e_var rfl) es_nil)) (is_good k s _ h l1 l2 (by omega) (by omega)) rfl))
      cases hg : good is (0 + (i : Int)) with
      | true => exact .inl ⟨by simp only [hg]; rfl, by rw [ht, hg]; rfl⟩
      | false => exact .inr ⟨.int (0 + (i : Int)), by simp only [hg]; rfl, by rw [ht, hg]; rfl, e_var rfl⟩
  have htup : evE (sg (k+3)) (.bi .tuple (.cons (.ex (.lc (.var 1) (.slot 1) (.rng1 (.bi .len (.cons (.ex (.var 0)) .nil))) (.some (.not (.call 3 (.cons (.var 0) (.cons (.var 1) .nil)))))))  .nil)) [.val v, .non] h = .ok (.tup ((refL is).map D.int)) h := by
    rw [evE, evRs, evR, hlc]
    simp [evRs, vw, biD, ofO]
  rw [x_ret htup]
  simp [fin, back]
end Ck35
/-! Z35: the drawn row. -/
namespace PV
section
variable {c : Sig} {ρ : Ev} {h : Hs}
theorem e_bin2 {op : BOp} {p q : Ex} {i j r : Int} {h1 h2 : Hs} (hp : evE c p ρ h = .ok (.int i) h1) (hq : evE c q ρ h1 = .ok (.int j) h2) (hr : binI op i j = some r) : evE c (.bin op (.ex p) (.ex q)) ρ h = .ok (.int r) h2 := by
  simp only [evE, evR, hp, hq, Rs.bind_ok, vw_int]
  have : binD op (.int i) (.int j) = some (.int r) := by simp [binD, hr]
  rw [this]; rfl
theorem for_inv {f : D → Ev → Hs → Rs Fl} {still : Ev → Hs → Bool} (I : Ev → Hs → Prop) (hst : ∀ ρ h, still ρ h = true) : ∀ (xs : List D), (∀ x ∈ xs, ∀ ρ h, I ρ h → ∃ ρ1 h1, f x ρ h = .ok (.nx ρ1) h1 ∧ I ρ1 h1) → ∀ ρ h, I ρ h → ∃ ρ1 h1, forGo f still xs ρ h = .ok (.nx ρ1) h1 ∧ I ρ1 h1
  | [], _, ρ, h, hi => ⟨ρ, h, for_nil (hst _ _), hi⟩
  | x :: xs, ht, ρ, h, hi => by
    obtain ⟨ρ1, h1, e1, i1⟩ := ht x List.mem_cons_self ρ h hi
    obtain ⟨ρ2, h2, e2, i2⟩ := for_inv I hst xs (fun y hy => ht y (List.mem_cons_of_mem _ hy)) ρ1 h1 i1
    exact ⟨ρ2, h2, by rw [for_nx (hst _ _) e1, e2], i2⟩
end
end PV
namespace Ck35
open PV
theorem sg_call (k f : Nat) (ds : List D) (h : Hs) : (sg k).call f ds h = txt.prg.run k f ds h := rfl
def Sta (h : Hs) : Prop := ∃ sc a b k d, h = [stO sc a b k d] ∧ 0 ≤ a
theorem draw (k : Nat) {h : Hs} (hs : Sta h) {lim : Int} (hl : lim ≤ 2 ^ 64) : ∃ r h', txt.prg.run (k+1) 7 [.ref 0, .int lim] h = .ok (.int r) h' ∧ Sta h' ∧ 0 ≤ r ∧ r < (if lim < 2 then 1 else lim) := by
  obtain ⟨sc, a, b, q, d, rfl, ha⟩ := hs
  obtain ⟨r, a', b', q', d', h1, h2, h3, e⟩ := draw_ok (c := sg k) (h := [stO sc a b q d]) (l := 0) (lim := lim) rfl ha hl
  refine ⟨r, [stO sc a' b' q' d'], ?_, ⟨sc, a', b', q', d', rfl, h1⟩, h2, h3⟩
  show fin false _ (exSs (sg k) b_draw [.val (.ref 0), .val (.int lim), .non, .non] [stO sc a b q d]) = _
  rw [e]
  simp [fin, back]
theorem e_draw (k : Nat) {h : Hs} (hs : Sta h) {lim : Int} (hl : lim ≤ 2 ^ 64) {e : Ex} {ρ : Ev} (he : evE (sg (k+1)) e ρ h = .ok (.int lim) h) (h0 : slotD 0 ρ = some (.ref 0)) :
    ∃ r h', evE (sg (k+1)) (.call 7 (.cons (.var 0) (.cons e .nil))) ρ h = .ok (.int r) h' ∧ Sta h' ∧ 0 ≤ r ∧ r < (if lim < 2 then 1 else lim) := by
  obtain ⟨r, h', e1, e2, e3, e4⟩ := draw k hs hl
  exact ⟨r, h', (e_call (es_cons (e_var h0) (es_cons he es_nil))).trans ((sg_call (k+1) 7 _ h).trans e1), e2, e3, e4⟩
theorem wide (k : Nat) {h : Hs} (hs : Sta h) : ∃ r h', txt.prg.run (k+2) 8 [.ref 0] h = .ok (.int r) h' ∧ Sta h' := by
  have c0 : ∀ {k : Int} {c : Sig} {ρ : Ev} {h : Hs}, evE c (.cst (.int k)) ρ h = .ok (.int k) h := fun {k c ρ h} => e_cst
  have p9 : ∀ {c : Sig} {ρ : Ev} {h : Hs}, evE c (.bin .pow (.ex (.cst (.int 10))) (.ex (.cst (.int 9)))) ρ h = .ok (.int (10 ^ 9)) h := e_bin c0 c0 (by decide +kernel)
  have key : ∃ r h', exSs (sg (k+1)) b__law_wide [.val (.ref 0), .non, .non, .non] h = .ok (.ret (.int r)) h' ∧ Sta h' := by
    unfold b__law_wide
    rw [x_cons (x_set c0 (by simp))]
    simp only [List.set_cons_succ, List.set_cons_zero]
    obtain ⟨ρ1, h1, f1, n1, z1, y1, e1, s1⟩ := for_inv (f := turn (sg (k+1)) (.slot 2) (.cons (.set 1 (.bin .add (.ex (.bin .mul (.ex (.var 1)) (.ex (.bin .pow (.ex (.cst (.int 10))) (.ex (.cst (.int 9))))))) (.ex (.call 7 (.cons (.var 0) (.cons (.bin .pow (.ex (.cst (.int 10))) (.ex (.cst (.int 9)))) .nil)))))) .nil)) (still := fun _ _ => true)
      (fun ρ h => ∃ n z y, ρ = [.val (.ref 0), .val (.int n), z, y] ∧ Sta h) (fun _ _ => rfl) (rngL 0 ((5 : Int).toNat)) (fun x hx ρ h ⟨n, z, y, e, s⟩ => by
        subst e
        obtain ⟨r, h', e1, e2, _, _⟩ := e_draw k s (lim := 10 ^ 9) (by decide) (ρ := [.val (.ref 0), .val (.int n), .val x, y]) p9 rfl
        refine ⟨[.val (.ref 0), .val (.int (n * 10 ^ 9 + r)), .val x, y], h', ?_, _, _, _, rfl, e2⟩
        show exSs (sg (k+1)) _ [.val (.ref 0), .val (.int n), .val x, y] h = _
        rw [x_cons (x_set (e_bin2 (e_bin (e_var rfl) p9 (mul_ok (by decide))) e1 rfl) (by simp)), x_nil]
        rfl) [.val (.ref 0), .val (.int 0), .non, .non] h ⟨0, _, _, rfl, hs⟩
    subst e1
    have ef := (x_for (c := sg (k+1)) (t := .slot 2) (it := .rng1 (.cst (.int 5))) (b := (.cons (.set 1 (.bin .add (.ex (.bin .mul (.ex (.var 1)) (.ex (.bin .pow (.ex (.cst (.int 10))) (.ex (.cst (.int 9))))))) (.ex (.call 7 (.cons (.var 0) (.cons (.bin .pow (.ex (.cst (.int 10))) (.ex (.cst (.int 9)))) .nil)))))) .nil)) (ρ := [.val (.ref 0), .val (.int 0), .non, .non]) (h := h) (i_rng1 c0 (by decide)) rfl).trans f1
    rw [x_cons ef, x_cons (x_set c0 (by simp))]
    simp only [List.set_cons_succ, List.set_cons_zero]
    obtain ⟨r, h2, d1, d2, d3, d4⟩ := e_draw k s1 (lim := 41) (by decide) (ρ := [.val (.ref 0), .val (.int n1), z1, .val (.int 1)]) c0 rfl
    obtain ⟨ρ3, h3, f3, n3, z3, m3, e3, m0, s3⟩ := for_inv (f := turn (sg (k+1)) (.slot 2) (.cons (.set 3 (.bin .mul (.ex (.var 3)) (.ex (.cst (.int 10))))) .nil)) (still := fun _ _ => true)
      (fun ρ h => ∃ n z m, ρ = [.val (.ref 0), .val (.int n), z, .val (.int m)] ∧ 0 < m ∧ Sta h) (fun _ _ => rfl) (rngL 0 (r.toNat)) (fun x hx ρ h ⟨n, z, m, e, hm, s⟩ => by
        subst e
        refine ⟨[.val (.ref 0), .val (.int n), .val x, .val (.int (m * 10))], h, ?_, _, _, _, rfl, by omega, s⟩
        show exSs (sg (k+1)) _ [.val (.ref 0), .val (.int n), .val x, .val (.int m)] h = _
        rw [x_cons (x_set (e_bin (e_var rfl) c0 (mul_ok (by decide))) (by simp)), x_nil]
        rfl) [.val (.ref 0), .val (.int n1), z1, .val (.int 1)] h2 ⟨_, _, _, rfl, by decide, d2⟩
    subst e3
    have hr41 : r < 41 := by simpa using d4
    have eg := (x_for (c := sg (k+1)) (t := .slot 2) (it := .rng1 (.call 7 (.cons (.var 0) (.cons (.cst (.int 41)) .nil)))) (b := (.cons (.set 3 (.bin .mul (.ex (.var 3)) (.ex (.cst (.int 10))))) .nil)) (ρ := [.val (.ref 0), .val (.int n1), z1, .val (.int 1)]) (h := h1) (i_rng1 d1 (by simp [big]; omega)) rfl).trans f3
    refine ⟨n3 % m3, h3, ?_, s3⟩
    rw [x_cons eg, x_ret (e_bin (e_int (e_var rfl)) (e_var rfl) (mod_ok m0))]
  obtain ⟨r, h', e, s⟩ := key
  refine ⟨r, h', ?_, s⟩
  show fin false h.length (exSs (sg (k+1)) b__law_wide [.val (.ref 0), .non, .non, .non] h) = _
  rw [e]
  obtain ⟨_, _, _, _, _, rfl, _⟩ := hs
  obtain ⟨_, _, _, _, _, rfl, _⟩ := s
  simp [fin, back]
end Ck35
/-! L35: the drawn row, whole. -/
namespace PV
section
variable {c : Sig} {ρ : Ev} {h : Hs}
theorem for_invN {f : D → Ev → Hs → Rs Fl} {still : Ev → Hs → Bool} (I : Nat → Ev → Hs → Prop) (hst : ∀ ρ h, still ρ h = true) (N : Nat) : ∀ (xs : List D) (n : Nat), n + xs.length ≤ N → (∀ x ∈ xs, ∀ m, m < N → ∀ ρ h, I m ρ h → ∃ ρ1 h1, f x ρ h = .ok (.nx ρ1) h1 ∧ I (m + 1) ρ1 h1) →
    ∀ ρ h, I n ρ h → ∃ ρ1 h1, forGo f still xs ρ h = .ok (.nx ρ1) h1 ∧ I (n + xs.length) ρ1 h1
  | [], n, _, _, ρ, h, hi => ⟨ρ, h, for_nil (hst _ _), hi⟩
  | x :: xs, n, hN, ht, ρ, h, hi => by
    simp only [List.length_cons] at hN
    obtain ⟨ρ1, h1, e1, i1⟩ := ht x List.mem_cons_self n (by omega) ρ h hi
    obtain ⟨ρ2, h2, e2, i2⟩ := for_invN I hst N xs (n + 1) (by omega) (fun y hy => ht y (List.mem_cons_of_mem _ hy)) ρ1 h1 i1
    refine ⟨ρ2, h2, by rw [for_nx (hst _ _) e1, e2], ?_⟩
    have : n + (x :: xs).length = n + 1 + xs.length := by simp only [List.length_cons]; omega
    rw [this]; exact i2
theorem setL_int {xs : List D} {i : Int} {d : D} (h0 : 0 ≤ i) (h1 : i < xs.length) : setL xs (.int i) d = some (xs.set i.toNat d) := by
  have e : ixN xs.length i = some i.toNat := by
    unfold ixN
    rw [if_pos h0, if_pos h1]
  simp [setL, e]
theorem x_swp {s : Nat} {k1 k2 e1 e2 : Ex} {xs : List D} {i j : Int} {d1 d2 : D} (ho : ρ[s]? = some (.own (.lst xs))) (he1 : evE c e1 ρ h = .ok d1 h) (he2 : evE c e2 ρ h = .ok d2 h) (hk1 : evE c k1 ρ h = .ok (.int i) h)
    (hk2 : evE c k2 (ρ.set s (.own (.lst (xs.set i.toNat d1)))) h = .ok (.int j) h) (i0 : 0 ≤ i) (i1 : i < xs.length) (j0 : 0 ≤ j) (j1 : j < xs.length) :
    exS c (.swp s k1 k2 e1 e2) ρ h = .ok (.nx ((ρ.set s (.own (.lst (xs.set i.toNat d1)))).set s (.own (.lst ((xs.set i.toNat d1).set j.toNat d2))))) h := by
  simp only [exS, es_cons he1 (es_cons he2 es_nil), lft_ok, ho, hk1, setL_int i0 i1, hk2]
  rw [setL_int j0 (by rw [List.length_set]; exact j1)]
  rfl
end
end PV
namespace Ck35
open PV
abbrev liB : Sts := (.cons (.ife (.cmp .eq (.ex (.var 2)) (.ex (.cst (.int 0)))) (.cons (.app 3 (.call 7 (.cons (.var 0) (.cons (.cst (.int 4)) .nil)))) .nil) (.cons (.ife (.cmp .eq (.ex (.var 2)) (.ex (.cst (.int 1)))) (.cons (.app 3 (.bin .sub (.ex (.cst (.int 0))) (.ex (.bin .mul (.ex (.bin .fdiv (.ex (.call 8 (.cons (.var 0) .nil))) (.ex (.bin .pow (.ex (.cst (.int 10))) (.ex (.cst (.int 20))))))) (.ex (.bin .sub (.ex (.bin .mul (.ex (.cst (.int 2))) (.ex (.call 7 (.cons (.var 0) (.cons (.cst (.int 2)) .nil)))))) (.ex (.cst (.int 1))))))))) .nil) (.cons (.ife (.cmp .eq (.ex (.var 2)) (.ex (.cst (.int 2)))) (.cons (.app 3 (.bin .fdiv (.ex (.var 4)) (.ex (.bin .add (.ex (.cst (.int 1))) (.ex (.call 7 (.cons (.var 0) (.cons (.cst (.int 2)) .nil)))))))) .nil) (.cons (.app 3 (.bin .sub (.ex (.bin .add (.ex (.bin .mul (.ex (.var 4)) (.ex (.cst (.int 2))))) (.ex (.call 7 (.cons (.var 0) (.cons (.cst (.int 5)) .nil)))))) (.ex (.cst (.int 3))))) .nil)) .nil)) .nil)) .nil)
theorem li_turn (k : Nat) {h : Hs} (hs : Sta h) (many kind x : Int) (is : List Int) (y z v : Sl) (hl : is.length < 1000) : ∃ r h', turn (sg (k+2)) (.slot 4) liB (.int x) [.val (.ref 0), .val (.int many), .val (.int kind), .own (.lst (is.map D.int)), y, z, v] h =
    .ok (.nx [.val (.ref 0), .val (.int many), .val (.int kind), .own (.lst ((is ++ [r]).map D.int)), .val (.int x), z, v]) h' ∧ Sta h' := by
  have c0 : ∀ {k : Int} {c : Sig} {ρ : Ev} {h : Hs}, evE c (.cst (.int k)) ρ h = .ok (.int k) h := fun {k c ρ h} => e_cst
  have hlen : (is.map D.int).length < lenMax := by rw [List.length_map]; unfold lenMax; omega
  have fin : ∀ (e : Ex) (r : Int) (h' : Hs), evE (sg (k+2)) e [.val (.ref 0), .val (.int many), .val (.int kind), .own (.lst (is.map D.int)), .val (.int x), z, v] h = .ok (.int r) h' →
      exSs (sg (k+2)) (.cons (.app 3 e) .nil) [.val (.ref 0), .val (.int many), .val (.int kind), .own (.lst (is.map D.int)), .val (.int x), z, v] h = .ok (.nx [.val (.ref 0), .val (.int many), .val (.int kind), .own (.lst ((is ++ [r]).map D.int)), .val (.int x), z, v]) h' := fun e r h' he => by
    rw [x_cons (x_app rfl he hlen), x_nil]
    simp
  have t0 : ∀ q : Int, evT (sg (k+2)) (.cmp .eq (.ex (.var 2)) (.ex (.cst (.int q)))) [.val (.ref 0), .val (.int many), .val (.int kind), .own (.lst (is.map D.int)), .val (.int x), z, v] h = .ok (kind == q) h := fun q => t_cmp (e_var rfl) c0 (eq_int _ _)
  show ∃ r h', exSs (sg (k+2)) liB [.val (.ref 0), .val (.int many), .val (.int kind), .own (.lst (is.map D.int)), .val (.int x), z, v] h = _ ∧ _
  by_cases q0 : kind = 0
  · obtain ⟨r, h', e1, e2, _, _⟩ := e_draw (k+1) hs (lim := 4) (by decide) (ρ := [.val (.ref 0), .val (.int many), .val (.int kind), .own (.lst (is.map D.int)), .val (.int x), z, v]) c0 rfl
    refine ⟨r, h', ?_, e2⟩
    rw [x_cons ((x_if1 ((t0 0).trans (by simp [q0]))).trans (fin _ r h' e1)), x_nil]
  · have n0 : (kind == 0) = false := by simpa using q0
    by_cases q1 : kind = 1
    · obtain ⟨a, h1, w1, w2⟩ := wide k hs
      obtain ⟨r, h', e1, e2, r0, r1⟩ := e_draw (k+1) w2 (lim := 2) (by decide) (ρ := [.val (.ref 0), .val (.int many), .val (.int kind), .own (.lst (is.map D.int)), .val (.int x), z, v]) c0 rfl
      have r2 : r < 2 := by simpa using r1
      have hw : evE (sg (k+2)) (.call 8 (.cons (.var 0) .nil)) [.val (.ref 0), .val (.int many), .val (.int kind), .own (.lst (is.map D.int)), .val (.int x), z, v] h = .ok (.int a) h1 := (e_call (es_cons (e_var rfl) es_nil)).trans ((sg_call (k+2) 8 _ h).trans w1)
      have f1 := e_bin2 (op := .fdiv) hw (e_bin (op := .pow) (c0 (k := 10)) (c0 (k := 20)) (by decide +kernel : binI .pow 10 20 = some (10 ^ 20))) (fdiv_ok (by decide) (by decide +kernel))
      have s1 := e_bin2 (op := .mul) (c0 (k := 2)) e1 (mul_ok (i := 2) (j := r) (by omega))
      have s2 := e_bin2 (op := .sub) s1 (c0 (k := 1)) (r := 2 * r - 1) rfl
      have m1 := e_bin2 (op := .mul) f1 s2 (mul_ok (i := a / 10 ^ 20) (j := 2 * r - 1) (by omega))
      have g1 := e_bin2 (op := .sub) (c0 (k := 0)) m1 (r := 0 - a / 10 ^ 20 * (2 * r - 1)) rfl
      refine ⟨0 - a / 10 ^ 20 * (2 * r - 1), h', ?_, e2⟩
      rw [x_cons ((x_if0 ((t0 0).trans (by rw [n0]))).trans ((x_cons ((x_if1 ((t0 1).trans (by simp [q1]))).trans (fin _ _ h' g1))).trans x_nil)), x_nil]
    · have n1 : (kind == 1) = false := by simpa using q1
      by_cases q2 : kind = 2
      · obtain ⟨r, h', e1, e2, r0, r1⟩ := e_draw (k+1) hs (lim := 2) (by decide) (ρ := [.val (.ref 0), .val (.int many), .val (.int kind), .own (.lst (is.map D.int)), .val (.int x), z, v]) c0 rfl
        have r2 : r < 2 := by simpa using r1
        have s1 := e_bin2 (op := .add) (c0 (k := 1)) e1 (r := 1 + r) rfl
        have hlog : (1 + r).natAbs.log2 < 9000 := by
          have : r = 0 ∨ r = 1 := by omega
          rcases this with rfl | rfl <;> decide +kernel
        have g1 := e_bin2 (op := .fdiv) (p := .var 4) (i := x) (e_var rfl) s1 (fdiv_ok (by omega) hlog)
        refine ⟨x / (1 + r), h', ?_, e2⟩
        rw [x_cons ((x_if0 ((t0 0).trans (by rw [n0]))).trans ((x_cons ((x_if0 ((t0 1).trans (by rw [n1]))).trans ((x_cons ((x_if1 ((t0 2).trans (by simp [q2]))).trans (fin _ _ h' g1))).trans x_nil))).trans x_nil)), x_nil]
      · have n2 : (kind == 2) = false := by simpa using q2
        obtain ⟨r, h', e1, e2, r0, r1⟩ := e_draw (k+1) hs (lim := 5) (by decide) (ρ := [.val (.ref 0), .val (.int many), .val (.int kind), .own (.lst (is.map D.int)), .val (.int x), z, v]) c0 rfl
        have s1 := e_bin (op := .mul) (p := .var 4) (i := x) (c := sg (k+2)) (h := h) (ρ := [.val (.ref 0), .val (.int many), .val (.int kind), .own (.lst (is.map D.int)), .val (.int x), z, v]) (e_var rfl) (c0 (k := 2)) (mul_ok (by decide))
        have s2 := e_bin2 (op := .add) s1 e1 (r := x * 2 + r) rfl
        have g1 := e_bin2 (op := .sub) s2 (c0 (k := 3)) (r := x * 2 + r - 3) rfl
        refine ⟨x * 2 + r - 3, h', ?_, e2⟩
        rw [x_cons ((x_if0 ((t0 0).trans (by rw [n0]))).trans ((x_cons ((x_if0 ((t0 1).trans (by rw [n1]))).trans ((x_cons ((x_if0 ((t0 2).trans (by rw [n2]))).trans (fin _ _ h' g1))).trans x_nil))).trans x_nil)), x_nil]
abbrev swB : Sts := (.cons (.set 5 (.call 7 (.cons (.var 0) (.cons (.var 1) .nil)))) (.cons (.set 6 (.call 7 (.cons (.var 0) (.cons (.var 1) .nil)))) (.cons (.swp 3 (.var 5) (.var 6) (.idx (.own 3) (.var 6)) (.idx (.own 3) (.var 5))) .nil)))
theorem sw_turn (k : Nat) {h : Hs} (hs : Sta h) (many kind : Int) (x : D) (is : List Int) (y z v : Sl) (hm : many = is.length) (m1 : 1 ≤ many) (m2 : many ≤ 40) : ∃ (js : List Int) (z' v' : Sl) (h' : Hs), turn (sg (k+2)) (.slot 4) swB x [.val (.ref 0), .val (.int many), .val (.int kind), .own (.lst (is.map D.int)), y, z, v] h =
    .ok (.nx [.val (.ref 0), .val (.int many), .val (.int kind), .own (.lst (js.map D.int)), .val x, z', v']) h' ∧ Sta h' ∧ js.length = is.length := by
  obtain ⟨i, h1, e1, s1, i0, i1⟩ := e_draw (k+1) hs (lim := many) (by omega) (ρ := [.val (.ref 0), .val (.int many), .val (.int kind), .own (.lst (is.map D.int)), .val x, z, v]) (e_var (i := 1) rfl) rfl
  obtain ⟨j, h2, e2, s2, j0, j1⟩ := e_draw (k+1) s1 (lim := many) (by omega) (ρ := [.val (.ref 0), .val (.int many), .val (.int kind), .own (.lst (is.map D.int)), .val x, .val (.int i), v]) (e_var (i := 1) rfl) rfl
  have i2 : i < is.length := by split at i1 <;> omega
  have j2 : j < is.length := by split at j1 <;> omega
  refine ⟨(is.set i.toNat (at_ is j)).set j.toNat (at_ is i), .val (.int i), .val (.int j), h2, ?_, s2, by simp⟩
  show exSs (sg (k+2)) swB [.val (.ref 0), .val (.int many), .val (.int kind), .own (.lst (is.map D.int)), .val x, z, v] h = _
  rw [x_cons (x_set e1 (by simp))]
  simp only [List.set_cons_succ, List.set_cons_zero]
  rw [x_cons (x_set e2 (by simp))]
  simp only [List.set_cons_succ, List.set_cons_zero]
  have sq : Seq (.lst (is.map D.int)) is := .inl rfl
  have a1 := sq.idx (h := []) j0 j2
  have a2 := sq.idx (h := []) i0 i2
  rw [x_cons (x_swp (i := i) (j := j) (d1 := .int (at_ is j)) (d2 := .int (at_ is i)) rfl (e_idxo rfl (e_var rfl) a1) (e_idxo rfl (e_var rfl) a2) (e_var rfl) (e_var rfl) i0 (by simpa using i2) j0 (by simpa using j2)), x_nil]
  simp [List.map_set]
theorem list_ok (k : Nat) {h : Hs} (hs : Sta h) : ∃ (is : List Int) (h' : Hs), txt.prg.run (k+3) 10 [.ref 0] h = .ok (.lst (is.map D.int)) h' ∧ Sta h' ∧ 1 ≤ is.length ∧ is.length ≤ 40 := by
  have c0 : ∀ {k : Int} {c : Sig} {ρ : Ev} {h : Hs}, evE c (.cst (.int k)) ρ h = .ok (.int k) h := fun {k c ρ h} => e_cst
  have key : ∃ (is : List Int) (h' : Hs), exSs (sg (k+2)) b__law_list [.val (.ref 0), .non, .non, .non, .non, .non, .non] h = .ok (.ret (.lst (is.map D.int))) h' ∧ Sta h' ∧ 1 ≤ is.length ∧ is.length ≤ 40 := by
    unfold b__law_list
    obtain ⟨r, h1, e1, s1, r0, r1⟩ := e_draw (k+1) hs (lim := 9) (by decide) (ρ := [.val (.ref 0), .non, .non, .non, .non, .non, .non]) c0 rfl
    have r9 : r < 9 := by simpa using r1
    rw [x_cons (x_set (e_bin2 (op := .add) (c0 (k := 1)) e1 (r := 1 + r) rfl) (by simp))]
    simp only [List.set_cons_succ, List.set_cons_zero]
    have step2 : ∃ (many : Int) (h2 : Hs), 1 ≤ many ∧ many ≤ 40 ∧ Sta h2 ∧ exS (sg (k+2)) (.ife (.cmp .eq (.ex (.call 7 (.cons (.var 0) (.cons (.cst (.int 6)) .nil)))) (.ex (.cst (.int 0)))) (.cons (.set 1 (.bin .add (.ex (.cst (.int 1))) (.ex (.call 7 (.cons (.var 0) (.cons (.cst (.int 40)) .nil)))))) .nil) .nil)
        [.val (.ref 0), .val (.int (1 + r)), .non, .non, .non, .non, .non] h1 = .ok (.nx [.val (.ref 0), .val (.int many), .non, .non, .non, .non, .non]) h2 := by
      obtain ⟨q, h2, e2, s2, q0, q1⟩ := e_draw (k+1) s1 (lim := 6) (by decide) (ρ := [.val (.ref 0), .val (.int (1 + r)), .non, .non, .non, .non, .non]) c0 rfl
      have ht := t_cmp e2 (c0 (k := 0)) (eq_int q 0)
      by_cases qz : q = 0
      · obtain ⟨p, h3, e3, s3, p0, p1⟩ := e_draw (k+1) s2 (lim := 40) (by decide) (ρ := [.val (.ref 0), .val (.int (1 + r)), .non, .non, .non, .non, .non]) c0 rfl
        have p40 : p < 40 := by simpa using p1
        refine ⟨1 + p, h3, by omega, by omega, s3, ?_⟩
        rw [x_if1 (ht.trans (by simp [qz] : Rs.ok (q == 0) h2 = Rs.ok true h2)), x_cons (x_set (e_bin2 (op := .add) (c0 (k := 1)) e3 (r := 1 + p) rfl) (by simp)), x_nil]
        rfl
      · exact ⟨1 + r, h2, by omega, by omega, s2, x_skip (ht.trans (by simp [qz] : Rs.ok (q == 0) h2 = Rs.ok false h2))⟩
    obtain ⟨many, h2, m1, m2, s2, e2⟩ := step2
    rw [x_cons e2]
    obtain ⟨kind, h3, e3, s3, _, _⟩ := e_draw (k+1) s2 (lim := 5) (by decide) (ρ := [.val (.ref 0), .val (.int many), .non, .non, .non, .non, .non]) c0 rfl
    rw [x_cons (x_set e3 (by simp)), x_cons (x_own e_lnil (by simp))]
    simp only [List.set_cons_succ, List.set_cons_zero]
    obtain ⟨ρ4, h4, f4, is, y4, z4, v4, ei, er, s4⟩ := for_invN (f := turn (sg (k+2)) (.slot 4) liB) (still := fun _ _ => true) (fun n ρ h => ∃ (is : List Int) (y z v : Sl), is.length = n ∧ ρ = [.val (.ref 0), .val (.int many), .val (.int kind), .own (.lst (is.map D.int)), y, z, v] ∧ Sta h) (fun _ _ => rfl) 100 (rngL 0 many.toNat) 0
      (by rw [rngL_len2]; omega) (fun x hx m hm ρ h ⟨is, y, z, v, ei, er, s⟩ => by
        subst er
        rw [rngL_map] at hx
        obtain ⟨o, _, rfl⟩ := List.mem_map.mp hx
        obtain ⟨r, h', e, s'⟩ := li_turn k s many kind (0 + (o : Int)) is y z v (by omega)
        exact ⟨_, h', e, is ++ [r], _, _, _, by simp [ei], rfl, s'⟩) [.val (.ref 0), .val (.int many), .val (.int kind), .own (.lst []), .non, .non, .non] h3 ⟨[], _, _, _, rfl, rfl, s3⟩
    rw [rngL_len2, Nat.zero_add] at ei
    subst er
    have g4 := (x_for (c := sg (k+2)) (t := .slot 4) (it := .rng1 (.var 1)) (b := liB) (ρ := [.val (.ref 0), .val (.int many), .val (.int kind), .own (.lst []), .non, .non, .non]) (h := h3) (i_rng1 (e_var (i := 1) rfl) (by simp [big]; omega)) rfl).trans f4
    rw [x_cons g4]
    obtain ⟨q, h5, e5, s5, q0, q1⟩ := e_draw (k+1) s4 (lim := 4) (by decide) (ρ := [.val (.ref 0), .val (.int many), .val (.int kind), .own (.lst (is.map D.int)), y4, z4, v4]) c0 rfl
    have q4 : q < 4 := by simpa using q1
    obtain ⟨ρ6, h6, f6, js, y6, z6, v6, ej, er6, s6⟩ := for_inv (f := turn (sg (k+2)) (.slot 4) swB) (still := fun _ _ => true) (fun ρ h => ∃ (js : List Int) (y z v : Sl), js.length = is.length ∧ ρ = [.val (.ref 0), .val (.int many), .val (.int kind), .own (.lst (js.map D.int)), y, z, v] ∧ Sta h) (fun _ _ => rfl) (rngL 0 q.toNat)
      (fun x hx ρ h ⟨js, y, z, v, ej, er, s⟩ => by
        subst er
        obtain ⟨ls, z', v', h', e, s', el⟩ := sw_turn k s many kind x js y z v (by omega) m1 m2
        exact ⟨_, h', e, ls, _, _, _, by omega, rfl, s'⟩) [.val (.ref 0), .val (.int many), .val (.int kind), .own (.lst (is.map D.int)), y4, z4, v4] h5 ⟨is, _, _, _, rfl, rfl, s5⟩
    subst er6
    have g6 := (x_for (c := sg (k+2)) (t := .slot 4) (it := .rng1 (.call 7 (.cons (.var 0) (.cons (.cst (.int 4)) .nil)))) (b := swB) (ρ := [.val (.ref 0), .val (.int many), .val (.int kind), .own (.lst (is.map D.int)), y4, z4, v4]) (h := h4) (i_rng1 e5 (by simp [big]; omega)) rfl).trans f6
    rw [x_cons g6, x_cons (x_frz rfl)]
    simp only [List.set_cons_succ, List.set_cons_zero]
    rw [x_ret (e_var rfl)]
    exact ⟨js, h6, rfl, s6, by omega, by omega⟩
  obtain ⟨is, h', e, s, l1, l2⟩ := key
  refine ⟨is, h', ?_, s, l1, l2⟩
  show fin false h.length (exSs (sg (k+2)) b__law_list [.val (.ref 0), .non, .non, .non, .non, .non, .non] h) = _
  rw [e]
  obtain ⟨_, _, _, _, _, rfl, _⟩ := hs
  obtain ⟨_, _, _, _, _, rfl, _⟩ := s
  simp [fin, back]
end Ck35
/-! Y35: what is told of ways and good places. -/
namespace PV
mutual
theorem D.eqv_refl : ∀ (d : D), d.flat = true → d.eqv d = true
  | .non, _ => rfl
  | .bl b, _ => by cases b <;> rfl
  | .int i, _ => by simp [D.eqv]
  | .str x, _ => by simp [D.eqv]
  | .tup xs, h => by simp only [D.flat] at h; simp only [D.eqv]; exact eqvAll_refl xs h
  | .lst xs, h => by simp only [D.flat] at h; simp only [D.eqv]; exact eqvAll_refl xs h
  | .dct _, h => by simp [D.flat] at h
  | .obj _ _, h => by simp [D.flat] at h
  | .exc _ _, h => by simp [D.flat] at h
  | .ref _, h => by simp [D.flat] at h
  | .scr _, h => by simp [D.flat] at h
theorem eqvAll_refl : ∀ (xs : List D), flatAll xs = true → eqvAll xs xs = true
  | [], _ => rfl
  | x :: xs, h => by
    simp only [flatAll, Bool.and_eq_true] at h
    simp [eqvAll, D.eqv_refl x h.1, eqvAll_refl xs h.2]
end
theorem eqK_same {a : D} {K : Bool → Prop} (h : a.cmpOk = true) (g : K true) : eqK a a K := by
  refine eqK_of h h ?_
  have : a.flat = true := by simp only [D.cmpOk, Bool.and_eq_true] at h; exact h.1
  rw [D.eqv_refl a this]; exact g
theorem cmpK_same {a : D} {K : Bool → Prop} (h : a.cmpOk = true) (g : K true) : cmpK .eq a a K := by
  cases a <;> first | exact dK_t rfl g | exact eqK_same h g
theorem flat_ints : ∀ (is : List Int), flatAll (is.map D.int) = true
  | [] => rfl
  | i :: is => by simp [flatAll, D.flat, flat_ints is]
theorem dep_ints : ∀ (is : List Int), depAll (is.map D.int) = 0
  | [] => rfl
  | i :: is => by simp [depAll, D.dep, dep_ints is]
end PV
namespace Ck35
open PV
local macro_rules | `(tactic| k_all) => `(tactic| ((conv => whnf); repeat ((first
  | refine dK_t (by first | assumption | omega | rfl) ?_ | refine dK_f (by first | omega | decide) ?_ | refine mulK_r (by omega) ?_ | refine mulK_l (by omega) ?_ | refine modK_of (by omega) ?_ | refine divK_of (by omega) ?_ | refine lenK_of (by (try simp only [List.length_append, List.length_map, List.length_cons, List.length_nil]); omega) ?_
  | refine rngK_of (by omega) ?_ | refine powK_of (by decide) ?_ | refine shrK_of (by omega) ?_ | refine atK_i (by omega) ?_); (conv => whnf))))
structure Okv (v : D) : Prop where
  val : val v = true
  cmp : v.cmpOk = true
  items : ∀ xs, seq v = some xs → xs.length ≤ 1000 ∧ ∀ x ∈ xs, Ck35.val x = true
section
variable {Q : D → Hs → Prop} {X : Nat → List D → Hs → Prop} {k : Nat} {h : Hs}
theorem callK_eq {f : Nat} {ds : List D} {v : D} {h1 : Hs} (e : txt.prg.run k f ds h = .ok v h1) (g : Q v h1) : callK (sg k) f ds h Q X := k_of (by rw [e]; exact g)
theorem callK_xc {f c : Nat} {ds fs : List D} {h1 : Hs} (e : txt.prg.run k f ds h = .exc c fs h1) (g : X c fs h1) : callK (sg k) f ds h Q X := k_of (by rw [e]; exact g)
theorem c_int {d : D} (hv : val d = true) (g : Q (.bl (isI d)) h) : callK (sg (k+1)) 0 [d] h Q X := callK_eq (is_integer k d h hv) g
theorem c_lint {d : D} (hv : val d = true) (g : Q (.bl (isI d)) h) : callK (sg (k+1)) 5 [d] h Q X := callK_eq (is_integer5 k d h hv) g
theorem c_check {v : D} (o : Okv v) (g1 : chk v = true → Q .non h) (g2 : chk v = false → X 2 [v] h) : callK (sg (k+2)) 2 [v] h Q X := by
  have e := check_list k v h o.val fun xs e => ⟨by have := (o.items xs e).1; unfold lenMax; omega, (o.items xs e).2⟩
  cases hc : chk v with
  | true => rw [hc] at e; exact callK_eq e (g1 hc)
  | false => rw [hc] at e; exact callK_xc e (g2 hc)
/-- a length with a place -/
def lenOk : D → Bool
  | .int n => decide (1 ≤ n) && decide (n ≤ 40)
  | _ => false
theorem c_way {a b : D} (ha : val a = true) (hb : val b = true) (g1 : lenOk a = false → X 1 [a] h) (g2 : ∀ n, a = .int n → 1 ≤ n → n ≤ 40 → (∀ p, b = .int p → ¬ (0 ≤ p ∧ p < n)) → X 1 [b] h)
    (g3 : ∀ n p, a = .int n → b = .int p → 1 ≤ n → n ≤ 40 → 0 ≤ p → p < n → Q (.tup ((wayL 99 0 (n - 1) p).map D.int)) h) : callK (sg (k+2)) 1 [a, b] h Q X := by
  by_cases hl : ∃ n, a = .int n ∧ 1 ≤ n ∧ n ≤ 40
  · obtain ⟨n, rfl, n1, n2⟩ := hl
    by_cases hp : ∃ p, b = .int p ∧ 0 ≤ p ∧ p < n
    · obtain ⟨p, rfl, p1, p2⟩ := hp
      exact callK_eq (way_to k n p h n1 n2 p1 p2) (g3 n p rfl rfl n1 n2 p1 p2)
    · have g := g2 n rfl n1 n2 fun p e q => hp ⟨p, e, q⟩
      refine c_run rfl rfl ?_
      k_all
      refine c_int (by rfl) ?_
      k_all
      refine c_int hb ?_
      cases b with
      | int p =>
        k_all
        refine dK_c (fun h1 => ?_) fun h1 => ?_
        · k_all
          refine dK_f (fun h2 => hp ⟨p, rfl, h1, h2⟩) ?_
          k_all
          exact fn_xc rfl g
        · k_all
          exact fn_xc rfl g
      | _ => first | (cases hb; done) | (k_all; exact fn_xc rfl g)
  · have g : X 1 [a] h := by
      refine g1 ?_
      cases a with
      | int n =>
        simp only [lenOk, Bool.and_eq_false_iff, decide_eq_false_iff_not]
        by_cases q : 1 ≤ n
        · exact .inr fun r => hl ⟨n, rfl, q, r⟩
        · exact .inl q
      | _ => rfl
    refine c_run rfl rfl ?_
    k_all
    refine c_int ha ?_
    cases a with
    | int n =>
      k_all
      refine dK_c (fun h1 => ?_) fun h1 => ?_
      · k_all
        refine dK_f (fun h2 => hl ⟨n, rfl, h1, h2⟩) ?_
        k_all
        exact fn_xc rfl g
      · k_all
        exact fn_xc rfl g
    | _ => first | (cases ha; done) | (k_all; exact fn_xc rfl g)
theorem seq_ints : ∀ {xs : List D}, xs.all isI = true → ∃ is : List Int, xs = is.map D.int
  | [], _ => ⟨[], rfl⟩
  | x :: xs, h => by
    simp only [List.all_cons, Bool.and_eq_true] at h -- pv
    obtain ⟨is, rfl⟩ := seq_ints h.2
    cases x <;> simp [isI] at h
    rename_i i
    exact ⟨i :: is, rfl⟩
theorem chk_seq {v : D} (h : chk v = true) : ∃ is, Seq v is ∧ 1 ≤ is.length ∧ is.length ≤ 40 := by
  cases v <;> simp [chk, seq] at h
  · rename_i xs
    obtain ⟨is, rfl⟩ := seq_ints (xs := xs) (by simp; exact h.2)
    exact ⟨is, .inr rfl, by simpa using h.1.1, by simpa using h.1.2⟩
  · rename_i xs
    obtain ⟨is, rfl⟩ := seq_ints (xs := xs) (by simp; exact h.2)
    exact ⟨is, .inl rfl, by simpa using h.1.1, by simpa using h.1.2⟩
theorem c_good {v p : D} (o : Okv v) (hp : val p = true) (g1 : chk v = false → X 2 [v] h) (g2 : ∀ is, Seq v is → 1 ≤ is.length → is.length ≤ 40 → (∀ q, p = .int q → ¬ (0 ≤ q ∧ q < is.length)) → X 1 [p] h)
    (g3 : ∀ is q, Seq v is → p = .int q → 1 ≤ is.length → is.length ≤ 40 → 0 ≤ q → q < is.length → Q (.bl (good is q)) h) : callK (sg (k+3)) 3 [v, p] h Q X := by
  cases hc : chk v with
  | true =>
    obtain ⟨is, s, l1, l2⟩ := chk_seq hc
    by_cases hq : ∃ q, p = .int q ∧ 0 ≤ q ∧ q < is.length
    · obtain ⟨q, rfl, q1, q2⟩ := hq
      exact callK_eq (is_good k s q h l1 l2 q1 q2) (g3 is q s rfl l1 l2 q1 q2)
    · have g := g2 is s l1 l2 fun q e z => hq ⟨q, e, z⟩
      refine c_run rfl rfl ?_
      k_all
      refine c_check o (fun _ => ?_) fun e => by rw [hc] at e; cases e
      have w : ∀ (Q' : D → Hs → Prop) (X' : Nat → List D → Hs → Prop), X' 1 [p] h → callK (sg (k+2)) 1 [.int is.length, p] h Q' X' := fun Q' X' g' =>
        c_way rfl hp (fun e => by simp [lenOk] at e; omega) (fun n _ _ _ _ => g') fun n q e1 e2 _ _ q1 q2 => by cases e1; exact absurd ⟨q, e2, q1, q2⟩ hq
      rcases s with rfl | rfl
      · k_all
        rw [List.length_map]
        refine w _ _ ?_
        k_all
        exact fn_xc rfl g
      · k_all
        rw [List.length_map]
        refine w _ _ ?_
        k_all
        exact fn_xc rfl g
  | false =>
    refine c_run rfl rfl ?_
    k_all
    refine c_check o (fun e => by rw [hc] at e; cases e) fun _ => ?_
    k_all
    exact fn_xc rfl (g1 hc)
theorem c_refused {v : D} (o : Okv v) (g1 : chk v = false → X 2 [v] h) (g2 : ∀ is, Seq v is → 1 ≤ is.length → is.length ≤ 40 → Q (.tup ((refL is).map D.int)) h) : callK (sg (k+4)) 4 [v] h Q X := by
  cases hc : chk v with
  | true =>
    obtain ⟨is, s, l1, l2⟩ := chk_seq hc
    exact callK_eq (refused k s h l1 l2) (g2 is s l1 l2)
  | false =>
    refine c_run rfl rfl ?_
    k_all
    refine c_check o (fun e => by rw [hc] at e; cases e) fun _ => ?_
    k_all
    exact fn_xc rfl (g1 hc)
theorem c_draw {lim : Int} (hs : Sta h) (hl : lim ≤ 18446744073709551616) (g : ∀ r h', Sta h' → 0 ≤ r → (2 ≤ lim → r < lim) → (lim < 2 → r < 1) → Q (.int r) h') : callK (sg (k+1)) 7 [.ref 0, .int lim] h Q X := by
  obtain ⟨r, h', e, s, r0, r1⟩ := draw k hs hl
  refine callK_eq e (g r h' s r0 (fun z => ?_) fun z => ?_)
  · rw [if_neg (by omega)] at r1; exact r1
  · rw [if_pos z] at r1; exact r1
theorem c_wide (hs : Sta h) (g : ∀ r h', Sta h' → Q (.int r) h') : callK (sg (k+2)) 8 [.ref 0] h Q X := by
  obtain ⟨r, h', e, s⟩ := wide k hs
  exact callK_eq e (g r h' s)
theorem c_list (hs : Sta h) (g : ∀ (is : List Int) h', Sta h' → 1 ≤ is.length → is.length ≤ 40 → Q (.lst (is.map D.int)) h') : callK (sg (k+3)) 10 [.ref 0] h Q X := by
  obtain ⟨is, h', e, s, l1, l2⟩ := list_ok k hs
  exact callK_eq e (g is h' s l1 l2)
/-! ### the law's own way -/
def wayF : Nat → Int → Int → Int → List Int
  | 0, _, _, _ => []
  | f + 1, lo, hi, p => (lo + hi) / 2 :: (if (lo + hi) / 2 = p then [] else if (lo + hi) / 2 < p then wayF f ((lo + hi) / 2 + 1) hi p else wayF f lo ((lo + hi) / 2 - 1) p)
theorem way_same : ∀ (f g : Nat) (lo hi p : Int), lo ≤ p → p ≤ hi → hi - lo + 1 < 2 ^ f → hi - lo + 1 < 2 ^ g → wayF f lo hi p = wayL g lo hi p
  | 0, g, lo, hi, p, h1, h2, h3, h4 => by simp at h3; omega
  | f + 1, 0, lo, hi, p, h1, h2, h3, h4 => by simp at h4; omega
  | f + 1, g + 1, lo, hi, p, h1, h2, h3, h4 => by
    have e1 : (2 : Int) ^ (f + 1) = 2 * 2 ^ f := by rw [Int.pow_succ]; omega
    have e2 : (2 : Int) ^ (g + 1) = 2 * 2 ^ g := by rw [Int.pow_succ]; omega
    rw [e1] at h3
    rw [e2] at h4
    simp only [wayF, wayL, if_pos (show lo ≤ hi by omega)]
    congr 1
    by_cases q : (lo + hi) / 2 = p
    · simp [q]
    · rw [if_neg q, if_neg q]
      by_cases q2 : (lo + hi) / 2 < p
      · rw [if_pos q2, if_pos q2]
        exact way_same f g _ hi p (by omega) h2 (by omega) (by omega)
      · rw [if_neg q2, if_neg q2]
        exact way_same f g lo _ p h1 (by omega) (by omega) (by omega)
theorem c_lway {n p : Int} (n1 : 1 ≤ n) (n2 : n ≤ 40) (p1 : 0 ≤ p) (p2 : p < n) (g : Q (.lst ((wayL 99 0 (n - 1) p).map D.int)) h) : callK (sg (k+1)) 11 [.int n, .int p] h Q X := by
  refine c_run rfl rfl ?_
  k_all
  have h99 : (2:Int) ^ 99 > 1000 := by decide +kernel
  have h7 : (2:Int) ^ 7 = 128 := by decide +kernel
  rw [← way_same 7 99 0 (n - 1) p p1 (by omega) (by omega) (by omega)] at g
  refine k_forR (fun i ρ h1 => ∃ (lo hi : Int) (acc : List Int) (x y : Sl), h1 = h ∧ ρ = [.val (.int n), .val (.int p), .val (.int lo), .val (.int hi), .own (.lst (acc.map D.int)), x, y] ∧ lo ≤ p ∧ p ≤ hi ∧ hi - lo + 1 < 2 ^ (7 - i) ∧ i ≤ 7 ∧ acc.length = i ∧ Q (.lst ((acc ++ wayF (7 - i) lo hi p).map D.int)) h) ⟨0, n - 1, [], _, _, rfl, rfl, p1, by omega, by show _ < (2:Int) ^ 7; omega, by omega, rfl, g⟩ ?_ ?_
  · rintro i ρ h1 hi7 ⟨lo, hi, acc, x, y, rfl, rfl, a1, a2, a3, a4, a5, a6⟩
    k_all
    have hacc : ∀ m : Int, acc.map D.int ++ [.int m] = (acc ++ [m]).map D.int := fun m => by simp
    obtain ⟨j, hj⟩ : ∃ j, 7 - i = j + 1 := ⟨6 - i, by have : i < 7 := hi7; omega⟩
    have hj2 : 7 - (i + 1) = j := by omega
    rw [hj] at a3 a6
    have e1 : (2 : Int) ^ (j + 1) = 2 * 2 ^ j := by rw [Int.pow_succ]; omega
    rw [e1] at a3
    have a7 : Q (.lst (List.map D.int (acc ++ ((lo + hi) / 2 :: (if (lo + hi) / 2 = p then [] else if (lo + hi) / 2 < p then wayF j ((lo + hi) / 2 + 1) hi p else wayF j lo ((lo + hi) / 2 - 1) p))))) h1 := a6
    generalize hmd : (lo + hi) / 2 = md at a7
    rw [List.append_cons] at a7
    refine dK_c (fun e => ?_) fun e => ?_
    · k_all
      rw [hacc]
      rw [if_pos e, List.append_nil] at a7
      exact fn_ret rfl a7
    · k_all
      rw [if_neg e] at a7
      refine dK_c (fun e2 => ?_) fun e2 => ?_
      · k_all
        rw [if_pos e2] at a7
        exact ⟨md + 1, hi, acc ++ [md], _, _, rfl, by rw [hacc], by omega, a2, by rw [hj2]; omega, by have : i < 7 := hi7; omega, by simp [a5], by rw [hj2]; exact a7⟩
      · k_all
        rw [if_neg e2] at a7
        exact ⟨lo, md - 1, acc ++ [md], _, _, rfl, by rw [hacc], a1, by omega, by rw [hj2]; omega, by have : i < 7 := hi7; omega, by simp [a5], by rw [hj2]; exact a7⟩
  · rintro ρ h1 ⟨lo, hi, acc, x, y, rfl, rfl, a1, a2, a3, a4, a5, a6⟩
    simp at a3
    omega
end
end Ck35
/-! YB35: the law's own words. -/
namespace Ck35
open PV
local macro_rules | `(tactic| k_all) => `(tactic| ((conv => whnf); repeat ((first
  | refine dK_t (by first | assumption | omega | rfl) ?_ | refine dK_f (by first | omega | decide) ?_ | refine mulK_r (by omega) ?_ | refine mulK_l (by omega) ?_ | refine modK_of (by omega) ?_ | refine divK_of (by omega) ?_ | refine lenK_of (by (try simp only [List.length_append, List.length_map, List.length_cons, List.length_nil]); omega) ?_
  | refine rngK_of (by omega) ?_ | refine powK_of (by decide) ?_ | refine shrK_of (by omega) ?_ | refine atK_i (by omega) ?_); (conv => whnf))))
section
variable {Q : D → Hs → Prop} {X : Nat → List D → Hs → Prop} {k : Nat} {h : Hs}
theorem c_lgood {v : D} {is : List Int} {p : Int} (s : Seq v is) (l1 : 1 ≤ is.length) (l2 : is.length ≤ 40) (p1 : 0 ≤ p) (p2 : p < is.length) (g : Q (.bl (good is p)) h) : callK (sg (k+2)) 12 [v, .int p] h Q X := by
  rcases s with rfl | rfl
  all_goals
    refine c_run rfl rfl ?_
    k_all
    rw [List.length_map]
    refine c_lway (by omega) (by omega) p1 p2 ?_
    conv => whnf
    refine k_forM (fun i ρ h1 => ∃ x : Sl, h1 = h ∧ ρ = [_, .val (.int p), x] ∧ good is p = ((wayL 99 0 ((is.length : Int) - 1) p).drop i).all fun m => !against is p m) ⟨_, rfl, rfl, rfl⟩ ?_ ?_
    · rintro i m ρ h1 hx ⟨x, rfl, rfl, e⟩
      obtain ⟨m0, m1⟩ := wayL_mem (List.mem_of_getElem? hx)
      have hd : (wayL 99 0 ((is.length : Int) - 1) p).drop i = m :: (wayL 99 0 ((is.length : Int) - 1) p).drop (i + 1) := by
        obtain ⟨hl, e2⟩ := List.getElem?_eq_some_iff.mp hx
        rw [List.drop_eq_getElem_cons hl, e2]
      rw [hd, List.all_cons] at e
      have ea : against is p m = ((decide (m < p) && decide (at_ is p < at_ is m)) || (decide (p < m) && decide (at_ is m < at_ is p))) := rfl
      have ret : against is p m = true → fnK false h1.length Q X (.ret (.bl false)) h1 := fun z => fn_ret rfl (by rw [z] at e; simp at e; rw [← e]; exact g)
      have nxt : against is p m = false → good is p = ((wayL 99 0 ((is.length : Int) - 1) p).drop (i + 1)).all fun m => !against is p m := fun z => by rw [z] at e; simpa using e
      k_all
      refine dK_c (fun h1 => ?_) fun h1 => ?_
      · k_all
        refine dK_c (fun h2 => ?_) fun h2 => ?_
        · k_all
          exact ret (by rw [ea]; simp; exact .inl ⟨h1, h2⟩)
        · k_all
          exact ⟨_, rfl, rfl, nxt (by rw [ea]; simp; exact ⟨fun _ => Int.not_lt.mp h2, fun _ => by omega⟩)⟩
      · k_all
        refine dK_c (fun h2 => ?_) fun h2 => ?_
        · k_all
          refine dK_c (fun h3 => ?_) fun h3 => ?_
          · k_all
            exact ret (by rw [ea]; simp; exact .inr ⟨h2, h3⟩)
          · k_all
            exact ⟨_, rfl, rfl, nxt (by rw [ea]; simp; exact ⟨fun _ => by omega, fun _ => Int.not_lt.mp h3⟩)⟩
        · k_all
          exact ⟨_, rfl, rfl, nxt (by rw [ea]; simp; exact ⟨fun _ => by omega, fun _ => by omega⟩)⟩
    · rintro ρ h1 ⟨x, rfl, rfl, e⟩
      k_all
      rw [List.drop_of_length_le (Nat.le_refl _)] at e
      refine fn_ret rfl ?_
      rw [e] at g; exact g
theorem c_same (is : List Int) (l : is.length ≤ 1000) (g : Q (.bl true) h) : callK (sg (k+2)) 13 [.tup (is.map D.int), .lst (is.map D.int)] h Q X := by
  refine c_run rfl rfl ?_
  k_all
  rw [List.length_map]
  k_all
  refine k_lcR (fun _ => false) (fun _ => .non) rfl (by omega) (fun i hi => ?_) ?_
  · have hi2 : i < is.length := by omega
    k_all
    refine c_lint (by rfl) ?_
    k_all
    exact ⟨rfl, rfl⟩
  · k_all
    have : ((List.range ((is.length : Int) - 0).toNat).filter fun _ => false) = [] := by simp
    rw [this]
    k_all
    exact fn_ret rfl g
theorem chk_no {v : D} {xs : List D} (hs : seq v = some xs) (q : ¬ (1 ≤ xs.length ∧ xs.length ≤ 40)) : chk v = false := by
  simp only [chk, hs]
  by_cases q1 : 1 ≤ xs.length
  · have : ¬ xs.length ≤ 40 := fun z => q ⟨q1, z⟩
    simp [this]
  · simp [q1]
theorem chk_in {v : D} {xs : List D} (hs : seq v = some xs) (l1 : 1 ≤ xs.length) (l2 : xs.length ≤ 40) : chk v = decide (((((xs.filter fun x => !isI x).map id).length : Nat) : Int) = 0) := by
  simp only [chk, hs, l1, l2, decide_true, Bool.and_self, Bool.true_and, List.map_id]
  rw [Bool.eq_iff_iff]
  simp
theorem seq_cases {v : D} (hv : val v = true) : (∃ xs, seq v = some xs ∧ (v = .tup xs ∨ v = .lst xs)) ∨ (seq v = none ∧ (v = .non ∨ (∃ b, v = .bl b) ∨ (∃ i, v = .int i) ∨ ∃ x, v = .str x)) := by
  cases v <;> simp [val, seq] at hv ⊢
theorem c_islist {v : D} (o : Okv v) (g : Q (.bl (chk v)) h) : callK (sg (k+2)) 15 [v] h Q X := by
  rcases seq_cases o.val with ⟨xs, hs, hq⟩ | ⟨hs, hq⟩
  · have hi := (o.items xs hs).2
    rcases hq with rfl | rfl
    all_goals
      refine c_run rfl rfl ?_
      k_all
      refine dK_c (fun h1 => ?_) fun h1 => ?_
      · k_all
        rw [chk_no hs (by omega)] at g
        exact fn_ret rfl g
      · k_all
        refine dK_c (fun h2 => ?_) fun h2 => ?_
        · k_all
          rw [chk_no hs (by omega)] at g
          exact fn_ret rfl g
        · k_all
          refine k_lcP (fun x => !isI x) id rfl (by omega) (fun x hx => ?_) ?_
          · k_all
            refine c_lint (hi x hx) ?_
            cases isI x with
            | true => k_all; exact ⟨rfl, rfl⟩
            | false => k_all; exact ⟨rfl, rfl, rfl⟩
          · conv => whnf
            refine dK_d ?_
            refine fn_ret rfl ?_
            rw [chk_in hs (by omega) (by omega)] at g
            exact g
  · rcases hq with rfl | ⟨b, rfl⟩ | ⟨b, rfl⟩ | ⟨b, rfl⟩
    all_goals
      refine c_run rfl rfl ?_
      k_all
      exact fn_ret rfl g
end
end Ck35
/-! YC35: what is told. -/
namespace Ck35
open PV
local macro_rules | `(tactic| k_all) => `(tactic| ((conv => whnf); repeat ((first
  | refine dK_t (by first | assumption | omega | rfl) ?_ | refine dK_f (by first | omega | decide) ?_ | refine mulK_r (by omega) ?_ | refine mulK_l (by omega) ?_ | refine modK_of (by omega) ?_ | refine divK_of (by omega) ?_ | refine lenK_of (by (try simp only [List.length_append, List.length_map, List.length_cons, List.length_nil]); omega) ?_
  | refine rngK_of (by omega) ?_ | refine powK_of (by decide) ?_ | refine shrK_of (by omega) ?_ | refine atK_i (by omega) ?_); (conv => whnf))))
section
variable {Q : D → Hs → Prop} {X : Nat → List D → Hs → Prop} {k : Nat} {h : Hs}
theorem c_waytold {a b : D} (oa : Okv a) (ob : Okv b) (g : Q (.bl true) h) : callK (sg (k+3)) 14 [a, b] h Q X := by
  have ma : cmpK .eq a a = fun K => cmpK .eq a a K := rfl
  by_cases hl : ∃ n, a = .int n ∧ 1 ≤ n ∧ n ≤ 40
  · obtain ⟨n, rfl, n1, n2⟩ := hl
    by_cases hp : ∃ p, b = .int p ∧ 0 ≤ p ∧ p < n
    · obtain ⟨p, rfl, p1, p2⟩ := hp
      refine c_run rfl rfl ?_
      k_all
      refine c_lint (by rfl) ?_
      k_all
      refine c_lint (by rfl) ?_
      k_all
      refine c_way rfl rfl (fun e => by simp [lenOk] at e; omega) (fun _ e _ _ q => by cases e; exact absurd ⟨p1, p2⟩ (q p rfl)) fun n' p' e1 e2 _ _ _ _ => ?_
      cases e1
      cases e2
      k_all
      refine c_lway n1 n2 p1 p2 ?_
      k_all
      have hlen : (wayL 99 0 (n - 1) p).length ≤ 99 := by
        have : ∀ (f : Nat) (lo hi p : Int), (wayL f lo hi p).length ≤ f := fun f => by
          induction f with
          | zero => intro lo hi p; simp [wayL]
          | succ f ih =>
            intro lo hi p
            rw [wayL]
            split
            · rw [List.length_cons]
              split
              · simp
              · split
                · have := ih ((lo + hi) / 2 + 1) hi p; omega
                · have := ih lo ((lo + hi) / 2 - 1) p; omega
            · simp
        exact this _ _ _ _
      refine c_same _ (by omega) ?_
      k_all
      exact fn_ret rfl g
    · have wayx : ∀ (Q' : D → Hs → Prop) (X' : Nat → List D → Hs → Prop), X' 1 [b] h → callK (sg (k+2)) 1 [.int n, b] h Q' X' := fun Q' X' g' =>
        c_way rfl ob.val (fun e => by simp [lenOk] at e; omega) (fun _ e _ _ _ => g') fun n' p' e1 e2 _ _ q1 q2 => by cases e1; exact absurd ⟨p', e2, q1, q2⟩ hp
      have hv := ob.val
      cases b with
      | int p =>
        by_cases h1 : 0 ≤ p
        · have h2 : ¬ p < n := fun h2 => hp ⟨p, rfl, h1, h2⟩
          refine c_run rfl rfl ?_
          k_all
          refine c_lint (by rfl) ?_
          k_all
          refine c_lint (by rfl) ?_
          k_all
          refine wayx _ _ ?_
          k_all
          exact ⟨rfl, fn_ret rfl g⟩
        · refine c_run rfl rfl ?_
          k_all
          refine c_lint (by rfl) ?_
          k_all
          refine c_lint (by rfl) ?_
          k_all
          refine wayx _ _ ?_
          k_all
          exact ⟨rfl, fn_ret rfl g⟩
      | _ => first
        | (cases hv; done)
        | (refine c_run rfl rfl ?_
           k_all
           refine c_lint (by rfl) ?_
           k_all
           refine c_lint hv ?_
           k_all
           refine wayx _ _ ?_
           k_all
           refine cmpK_same ob.cmp ?_
           k_all
           exact ⟨rfl, fn_ret rfl g⟩)
        | (refine c_run rfl rfl ?_
           k_all
           refine c_lint (by rfl) ?_
           k_all
           refine c_lint hv ?_
           k_all
           refine wayx _ _ ?_
           k_all
           exact ⟨rfl, fn_ret rfl g⟩)
  · have hno : lenOk a = false := by
      cases a with
      | int n =>
        simp only [lenOk, Bool.and_eq_false_iff, decide_eq_false_iff_not]
        by_cases q : 1 ≤ n
        · exact .inr fun r => hl ⟨n, rfl, q, r⟩
        · exact .inl q
      | _ => rfl
    have wayx : ∀ (Q' : D → Hs → Prop) (X' : Nat → List D → Hs → Prop), X' 1 [a] h → callK (sg (k+2)) 1 [a, b] h Q' X' := fun Q' X' g' =>
      c_way oa.val ob.val (fun _ => g') (fun n e q1 q2 _ => absurd ⟨n, e, q1, q2⟩ hl) fun n p e _ q1 q2 _ _ => absurd ⟨n, e, q1, q2⟩ hl
    have hv := oa.val
    cases a with
    | int n =>
      by_cases h1 : 1 ≤ n
      · have h2 : ¬ n ≤ 40 := fun h2 => hl ⟨n, rfl, h1, h2⟩
        refine c_run rfl rfl ?_
        k_all
        refine c_lint (by rfl) ?_
        k_all
        refine wayx _ _ ?_
        k_all
        exact ⟨rfl, fn_ret rfl g⟩
      · refine c_run rfl rfl ?_
        k_all
        refine c_lint (by rfl) ?_
        k_all
        refine wayx _ _ ?_
        k_all
        exact ⟨rfl, fn_ret rfl g⟩
    | _ => first
      | (cases hv; done)
      | (refine c_run rfl rfl ?_
         k_all
         refine c_lint hv ?_
         k_all
         refine wayx _ _ ?_
         k_all
         refine cmpK_same oa.cmp ?_
         k_all
         exact ⟨rfl, fn_ret rfl g⟩)
      | (refine c_run rfl rfl ?_
         k_all
         refine c_lint hv ?_
         k_all
         refine wayx _ _ ?_
         k_all
         exact ⟨rfl, fn_ret rfl g⟩)
end
end Ck35
/-! YD35: what is told, further. -/
namespace Ck35
open PV
local macro_rules | `(tactic| k_all) => `(tactic| ((conv => whnf); repeat ((first
  | refine dK_t (by first | assumption | omega | rfl) ?_ | refine dK_f (by first | omega | decide) ?_ | refine mulK_r (by omega) ?_ | refine mulK_l (by omega) ?_ | refine modK_of (by omega) ?_ | refine divK_of (by omega) ?_ | refine lenK_of (by (try simp only [List.length_append, List.length_map, List.length_cons, List.length_nil]); omega) ?_
  | refine rngK_of (by omega) ?_ | refine powK_of (by decide) ?_ | refine shrK_of (by omega) ?_ | refine atK_i (by omega) ?_); (conv => whnf))))
section
variable {Q : D → Hs → Prop} {X : Nat → List D → Hs → Prop} {k : Nat} {h : Hs}
theorem cmpK_sameV {v : D} {K : Bool → Prop} (o : Okv v) (g : K true) : cmpK .eq (vw h v) (vw h v) K := by
  have e : vw h v = v := by
    have hv := o.val
    cases v <;> first | rfl | cases hv
  rw [e]
  exact cmpK_same o.cmp g
theorem c_goodtold {v p : D} (o : Okv v) (op : Okv p) (g : Q (.bl true) h) : callK (sg (k+4)) 16 [v, p] h Q X := by
  cases hc : chk v with
  | false =>
    have isl : ∀ (Q' : D → Hs → Prop) (X' : Nat → List D → Hs → Prop), Q' (.bl false) h → callK (sg (k+3)) 15 [v] h Q' X' := fun Q' X' g' => c_islist o (by rw [hc]; exact g')
    refine c_run rfl rfl ?_
    k_all
    refine isl _ _ ?_
    k_all
    refine c_good o op.val (fun _ => ?_) (fun is s l1 l2 => by rw [s.chk l1 l2] at hc; cases hc) fun is q s _ l1 l2 => by rw [s.chk l1 l2] at hc; cases hc
    k_all
    refine cmpK_sameV o ?_
    k_all
    exact ⟨rfl, fn_ret rfl g⟩
  | true =>
    obtain ⟨is, s, l1, l2⟩ := chk_seq hc
    have isl : ∀ (Q' : D → Hs → Prop) (X' : Nat → List D → Hs → Prop), Q' (.bl true) h → callK (sg (k+3)) 15 [v] h Q' X' := fun Q' X' g' => c_islist o (by rw [hc]; exact g')
    by_cases hq : ∃ q, p = .int q ∧ 0 ≤ q ∧ q < is.length
    · obtain ⟨q, rfl, q1, q2⟩ := hq
      have lg : ∀ (Q' : D → Hs → Prop) (X' : Nat → List D → Hs → Prop), Q' (.bl (good is q)) h → callK (sg (k+3)) 12 [v, .int q] h Q' X' := fun Q' X' g' => c_lgood s l1 l2 q1 q2 g'
      have gd : ∀ (Q' : D → Hs → Prop) (X' : Nat → List D → Hs → Prop), Q' (.bl (good is q)) h → callK (sg (k+3)) 3 [v, .int q] h Q' X' := fun Q' X' g' => callK_eq (is_good k s q h l1 l2 q1 q2) g'
      rcases s with rfl | rfl
      all_goals
        refine c_run rfl rfl ?_
        k_all
        refine isl _ _ ?_
        k_all
        refine c_lint (by rfl) ?_
        k_all
        rw [List.length_map]
        k_all
        refine gd _ _ ?_
        k_all
        refine lg _ _ ?_
        k_all
        exact fn_ret rfl g
    · have gd : ∀ (Q' : D → Hs → Prop) (X' : Nat → List D → Hs → Prop), X' 1 [p] h → callK (sg (k+3)) 3 [v, p] h Q' X' := fun Q' X' g' =>
        c_good o op.val (fun e => by rw [hc] at e; cases e) (fun _ _ _ _ _ => g') fun is' q s' e _ _ q1 q2 => by
          have : is' = is := by
            have e1 := s.seq
            rw [s'.seq] at e1
            have e2 := Option.some.inj e1
            exact (List.map_inj_right (fun a b z => by cases z; rfl)).mp e2
          subst this
          exact absurd ⟨q, e, q1, q2⟩ hq
      have hv := op.val
      have hcm := op.cmp
      cases p with
      | int q =>
        rcases s with rfl | rfl
        all_goals
          refine c_run rfl rfl ?_
          k_all
          refine isl _ _ ?_
          k_all
          refine c_lint (by rfl) ?_
          k_all
          refine dK_c (fun h1 => ?_) fun h1 => ?_
          · have h2 : ¬ q < is.length := fun h2 => hq ⟨q, rfl, h1, h2⟩
            k_all
            rw [List.length_map]
            k_all
            refine gd _ _ ?_
            k_all
            exact ⟨rfl, fn_ret rfl g⟩
          · k_all
            refine gd _ _ ?_
            k_all
            exact ⟨rfl, fn_ret rfl g⟩
      | _ => first
        | (cases hv; done)
        | (refine c_run rfl rfl ?_
           k_all
           refine isl _ _ ?_
           k_all
           refine c_lint hv ?_
           k_all
           refine gd _ _ ?_
           k_all
           refine cmpK_same hcm ?_
           k_all
           exact ⟨rfl, fn_ret rfl g⟩)
        | (refine c_run rfl rfl ?_
           k_all
           refine isl _ _ ?_
           k_all
           refine c_lint hv ?_
           k_all
           refine gd _ _ ?_
           k_all
           exact ⟨rfl, fn_ret rfl g⟩)
theorem c_placestold {v : D} (o : Okv v) (g : Q (.bl true) h) : callK (sg (k+5)) 17 [v] h Q X := by
  cases hc : chk v with
  | false =>
    have isl : ∀ (Q' : D → Hs → Prop) (X' : Nat → List D → Hs → Prop), Q' (.bl false) h → callK (sg (k+4)) 15 [v] h Q' X' := fun Q' X' g' => c_islist o (by rw [hc]; exact g')
    refine c_run rfl rfl ?_
    k_all
    refine isl _ _ ?_
    k_all
    refine c_refused o (fun _ => ?_) (fun is s l1 l2 => by rw [s.chk l1 l2] at hc; cases hc)
    k_all
    refine cmpK_sameV o ?_
    k_all
    exact ⟨rfl, fn_ret rfl g⟩
  | true =>
    obtain ⟨is, s, l1, l2⟩ := chk_seq hc
    have isl : ∀ (Q' : D → Hs → Prop) (X' : Nat → List D → Hs → Prop), Q' (.bl true) h → callK (sg (k+4)) 15 [v] h Q' X' := fun Q' X' g' => c_islist o (by rw [hc]; exact g')
    have rf : ∀ (Q' : D → Hs → Prop) (X' : Nat → List D → Hs → Prop), Q' (.tup ((refL is).map D.int)) h → callK (sg (k+4)) 4 [v] h Q' X' := fun Q' X' g' => callK_eq (refused k s h l1 l2) g'
    have lg : ∀ (q : Int) (Q' : D → Hs → Prop) (X' : Nat → List D → Hs → Prop), 0 ≤ q → q < is.length → Q' (.bl (good is q)) h → callK (sg (k+4)) 12 [v, .int q] h Q' X' := fun q Q' X' q1 q2 g' => c_lgood s l1 l2 q1 q2 g'
    have hr : (refL is).length ≤ 1000 := by
      have := List.length_filter_le (fun p => !good is p) ((List.range is.length).map fun i : Nat => (i : Int))
      unfold refL
      simp at this
      omega
    rcases s with rfl | rfl
    all_goals
      refine c_run rfl rfl ?_
      k_all
      refine isl _ _ ?_
      k_all
      refine rf _ _ ?_
      k_all
      rw [List.length_map]
      k_all
      refine k_lcR (fun i => !good is (i : Int)) (fun i => .int (i : Int)) rfl (by omega) (fun i hi => ?_) ?_
      · have hi2 : i < is.length := by omega
        k_all
        refine lg _ _ _ (by omega) (by omega) ?_
        have e0 : (0 : Int) + (i : Int) = i := by omega
        rw [e0]
        cases good is (i : Int) with
        | true => k_all; exact ⟨rfl, rfl⟩
        | false => k_all; exact ⟨rfl, rfl, rfl⟩
      · k_all
        have e : (((List.range ((is.length : Int) - 0).toNat).filter fun i : Nat => !good is (i : Int)).map fun i : Nat => D.int (i : Int)) = (refL is).map D.int := by
          have e1 : ((is.length : Int) - 0).toNat = is.length := by omega
          rw [e1]
          unfold refL
          rw [List.filter_map, List.map_map]
          rfl
        rw [e]
        refine c_same _ hr ?_
        k_all
        exact fn_ret rfl g
/-! ### what is drawn -/
theorem okv_int (i : Int) : Okv (.int i) := ⟨rfl, rfl, fun xs e => by cases e⟩
theorem okv_bl (i : Bool) : Okv (.bl i) := ⟨rfl, rfl, fun xs e => by cases e⟩
theorem okv_non : Okv .non := ⟨rfl, rfl, fun xs e => by cases e⟩
theorem okv_list {xs : List D} (h1 : xs.length ≤ 1000) (h2 : ∀ x ∈ xs, val x = true) (h3 : (D.lst xs).cmpOk = true) : Okv (.lst xs) := ⟨rfl, h3, fun ys e => by cases e; exact ⟨h1, h2⟩⟩
theorem okv_tup {xs : List D} (h1 : xs.length ≤ 1000) (h2 : ∀ x ∈ xs, val x = true) (h3 : (D.tup xs).cmpOk = true) : Okv (.tup xs) := ⟨rfl, h3, fun ys e => by cases e; exact ⟨h1, h2⟩⟩
theorem cut_js (is : List Int) (lo hi : Option Int) : ∃ js : List Int, cut (is.map D.int) lo hi = js.map D.int ∧ js.length ≤ is.length := by
  refine ⟨(is.drop (cutAt (is.map D.int).length 0 lo)).take (cutAt (is.map D.int).length (is.map D.int).length hi - cutAt (is.map D.int).length 0 lo), ?_, ?_⟩
  · simp only [cut, List.map_take, List.map_drop]
  · rw [List.length_take, List.length_drop]; omega
theorem flat_app : ∀ (xs ys : List D), flatAll (xs ++ ys) = (flatAll xs && flatAll ys)
  | [], ys => by simp [flatAll]
  | x :: xs, ys => by simp [flatAll, flat_app xs ys, Bool.and_assoc]
theorem dep_app : ∀ (xs ys : List D), depAll (xs ++ ys) = max (depAll xs) (depAll ys)
  | [], ys => by simp [depAll]
  | x :: xs, ys => by simp [depAll, dep_app xs ys, Nat.max_assoc]
/-- a spoilt row -/
theorem okv_mid (js ks : List Int) (x : D) (hj : js.length ≤ 40) (hk : ks.length ≤ 40) (o : Okv x) (hd : x.dep ≤ 3) : Okv (.lst (js.map D.int ++ [x] ++ ks.map D.int)) ∧ Okv (.tup (js.map D.int ++ [x] ++ ks.map D.int)) := by
  have hf : x.flat = true := by have := o.cmp; simp only [D.cmpOk, Bool.and_eq_true] at this; exact this.1
  have e1 : flatAll (js.map D.int ++ [x] ++ ks.map D.int) = true := by
    rw [flat_app, flat_app, flat_ints, flat_ints]; simp [flatAll, hf]
  have e2 : depAll (js.map D.int ++ [x] ++ ks.map D.int) ≤ 3 := by
    rw [dep_app, dep_app, dep_ints, dep_ints]; simp [depAll]; omega
  have e3 : ∀ y ∈ js.map D.int ++ [x] ++ ks.map D.int, val y = true := by
    intro y hy
    simp only [List.mem_append, List.mem_map, List.mem_singleton] at hy
    rcases hy with (⟨i, _, rfl⟩ | rfl) | ⟨i, _, rfl⟩
    · rfl
    · exact o.val
    · rfl
  refine ⟨okv_list (by simp; omega) e3 ?_, okv_tup (by simp; omega) e3 ?_⟩
  · unfold D.cmpOk
    rw [Bool.and_eq_true, decide_eq_true_eq]
    exact ⟨e1, Nat.le_trans (show depAll _ + 1 ≤ 4 from Nat.succ_le_succ e2) (by decide)⟩
  · unfold D.cmpOk
    rw [Bool.and_eq_true, decide_eq_true_eq]
    exact ⟨e1, Nat.le_trans (show depAll _ + 1 ≤ 4 from Nat.succ_le_succ e2) (by decide)⟩
end
end Ck35
/-! YF35: odd values. -/
namespace Ck35
open PV
local macro_rules | `(tactic| k_all) => `(tactic| ((conv => whnf); repeat ((first
  | refine dK_t (by first | assumption | omega | rfl) ?_ | refine dK_f (by first | omega | decide) ?_ | refine mulK_r (by omega) ?_ | refine mulK_l (by omega) ?_ | refine modK_of (by omega) ?_ | refine divK_of (by omega) ?_ | refine lenK_of (by (try simp only [List.length_append, List.length_map, List.length_cons, List.length_nil]); omega) ?_
  | refine rngK_of (by omega) ?_ | refine powK_of (by decide) ?_ | refine shrK_of (by omega) ?_ | refine atK_i (by omega) ?_); (conv => whnf))))
section
variable {Q : D → Hs → Prop} {X : Nat → List D → Hs → Prop} {k : Nat} {h : Hs}
theorem c_odd (hs : Sta h) (g : ∀ r h', Okv r → r.dep ≤ 3 → Sta h' → Q r h') : callK (sg (k+3)) 9 [.ref 0] h Q X := by
  have dr : ∀ (lim : Int) (h : Hs) (Q' : D → Hs → Prop) (X' : Nat → List D → Hs → Prop), Sta h → lim ≤ 1000 → (∀ r h', Sta h' → 0 ≤ r → (2 ≤ lim → r < lim) → Q' (.int r) h') → callK (sg (k+2)) 7 [.ref 0, .int lim] h Q' X' := fun lim h Q' X' hs hl g' => c_draw hs (by omega) fun r h' s r0 r1 _ => g' r h' s r0 r1
  have len1 : ∀ {h : Hs}, Sta h → h.length = 1 := fun ⟨_, _, _, _, _, e, _⟩ => by rw [e]; rfl
  refine c_run rfl rfl ?_
  k_all
  refine dr _ _ _ _ hs (by omega) fun kd h1 s1 k0 k1 => ?_
  have fin : ∀ {h' : Hs} {r : D}, Okv r → r.dep ≤ 3 → Sta h' → fnK false h.length Q X (.ret r) h' := fun o d s => fn_ret ((len1 s).trans (len1 hs).symm) (g _ _ o d s)
  k_all
  refine dK_c (fun _ => ?_) fun _ => ?_
  · k_all
    exact fin okv_non (by first | decide | exact Nat.zero_le _) s1
  k_all
  refine dK_c (fun _ => ?_) fun _ => ?_
  · k_all
    refine dr _ _ _ _ s1 (by omega) fun r h2 s2 _ _ => ?_
    k_all
    refine dK_d ?_
    exact fin (okv_bl _) (by first | decide | exact Nat.zero_le _) s2
  k_all
  refine dK_c (fun _ => ?_) fun _ => ?_
  · k_all
    refine dr _ _ _ _ s1 (by omega) fun r h2 s2 r0 r1 => ?_
    k_all
    refine c_wide s2 fun r2 h3 s3 => ?_
    k_all
    exact fin (okv_int _) (by first | decide | exact Nat.zero_le _) s3
  k_all
  refine dK_c (fun _ => ?_) fun _ => ?_
  · k_all
    refine dr _ _ _ _ s1 (by omega) fun r h2 s2 r0 r1 => ?_
    have r1 := r1 (by omega)
    have hr : r = 0 ∨ r = 1 ∨ r = 2 := by omega
    rcases hr with rfl | rfl | rfl
    all_goals
      k_all
      refine fin ⟨rfl, by decide +kernel, fun xs e => by cases e⟩ (by first | decide | exact Nat.zero_le _ | (simp [D.dep, depAll])) s2
  k_all
  refine dK_c (fun _ => ?_) fun _ => ?_
  · k_all
    refine dr _ _ _ _ s1 (by omega) fun r h2 s2 r0 r1 => ?_
    k_all
    refine fin (okv_list (by simp) (by simp [val]) rfl) (by first | decide | exact Nat.zero_le _ | (simp [D.dep, depAll])) s2
  k_all
  refine dK_c (fun _ => ?_) fun _ => ?_
  · k_all
    refine dr _ _ _ _ s1 (by omega) fun r h2 s2 r0 r1 => ?_
    k_all
    refine c_wide s2 fun r2 h3 s3 => ?_
    have r1 := r1 (by omega)
    k_all
    exact fin (okv_int _) (by first | decide | exact Nat.zero_le _) s3
  k_all
  refine dK_c (fun _ => ?_) fun _ => ?_
  · k_all
    refine dr _ _ _ _ s1 (by omega) fun r h2 s2 r0 r1 => ?_
    k_all
    refine fin (okv_tup (by simp) (by simp [val]) rfl) (by first | decide | exact Nat.zero_le _ | (simp [D.dep, depAll])) s2
  k_all
  refine dK_c (fun _ => ?_) fun _ => ?_
  · k_all
    refine fin (okv_tup (by simp) (by simp) rfl) (by first | decide | exact Nat.zero_le _ | (simp [D.dep, depAll])) s1
  k_all
  refine dK_c (fun _ => ?_) fun _ => ?_
  · k_all
    refine fin (okv_tup (by simp) (by simp [val, Cst.d]) (by decide +kernel)) (by first | decide | exact Nat.zero_le _ | (simp [D.dep, depAll])) s1
  · k_all
    refine fin ⟨rfl, by decide +kernel, fun xs e => by cases e⟩ (by first | decide | exact Nat.zero_le _ | (simp [D.dep, depAll])) s1
theorem cmp_ints (is : List Int) : (D.lst (is.map D.int)).cmpOk = true := by simp [D.cmpOk, D.flat, flat_ints, D.dep, dep_ints]
theorem cmp_intt (is : List Int) : (D.tup (is.map D.int)).cmpOk = true := by simp [D.cmpOk, D.flat, flat_ints, D.dep, dep_ints]
theorem c_spoilt {is : List Int} (hs : Sta h) (l1 : 1 ≤ is.length) (l2 : is.length ≤ 40) (g : ∀ r h', Okv r → Sta h' → Q r h') : callK (sg (k+4)) 18 [.ref 0, .lst (is.map D.int)] h Q X := by
  have dr : ∀ (lim : Int) (h : Hs) (Q' : D → Hs → Prop) (X' : Nat → List D → Hs → Prop), Sta h → lim ≤ 1000 → (∀ r h', Sta h' → 0 ≤ r → (2 ≤ lim → r < lim) → (lim < 2 → r < 1) → Q' (.int r) h') → callK (sg (k+3)) 7 [.ref 0, .int lim] h Q' X' := fun lim h Q' X' hs hl g' => c_draw hs (by omega) fun r h' s r0 r1 r2 => g' r h' s r0 r1 r2
  have len1 : ∀ {h : Hs}, Sta h → h.length = 1 := fun ⟨_, _, _, _, _, e, _⟩ => by rw [e]; rfl
  have fin : ∀ {h' : Hs} {r : D}, Okv r → Sta h' → fnK false h.length Q X (.ret r) h' := fun o s => fn_ret ((len1 s).trans (len1 hs).symm) (g _ _ o s)
  refine c_run rfl rfl ?_
  k_all
  refine dr _ _ _ _ hs (by omega) fun kd h1 s1 k0 k1 k2 => ?_
  k_all
  rw [List.length_map]
  refine dr _ _ _ _ s1 (by omega) fun at_ h2 s2 a0 a1 a2 => ?_
  have ha : at_ < is.length := by omega
  k_all
  refine dK_c (fun _ => ?_) fun _ => ?_
  · k_all
    exact fin (okv_list (by simp) (by simp) rfl) s2
  k_all
  refine dK_c (fun _ => ?_) fun _ => ?_
  · k_all
    refine k_lcR (fun _ => true) (fun _ => .int at_) rfl (by omega) (fun i hi => ?_) ?_
    · k_all
      exact ⟨rfl, rfl, rfl⟩
    · k_all
      have e : (((List.range (41 - 0 : Int).toNat).filter fun _ => true).map fun _ => D.int at_) = ((List.range 41).map fun _ => at_).map D.int := rfl
      rw [e]
      refine fin (okv_list (by simp) (fun x hx => ?_) ?_) s2
      · obtain ⟨i, _, rfl⟩ := List.mem_map.mp hx; rfl
      · exact cmp_ints _
  k_all
  refine dK_c (fun _ => ?_) fun _ => ?_
  · k_all
    refine c_odd s2 fun r h3 o _ s3 => ?_
    k_all
    exact fin o s3
  obtain ⟨js, e1, hj⟩ := cut_js is none (some at_)
  obtain ⟨ks, e2, hk⟩ := cut_js is (some at_) none
  obtain ⟨ls, e3, hl⟩ := cut_js is (some (at_ + 1)) none
  k_all
  refine dK_c (fun _ => ?_) fun _ => ?_
  · k_all
    refine c_odd s2 fun r h3 o od s3 => ?_
    have on : ∀ i : Int, Okv (.lst [.int i]) := fun i => okv_list (by simp) (by simp [val]) rfl
    k_all
    refine c_lint o.val ?_
    cases hi : isI r with
    | true =>
      cases r <;> simp [isI] at hi
      rename_i i
      k_all
      rw [e1]
      k_all
      rw [e2]
      k_all
      exact fin (okv_mid js ks _ (by omega) (by omega) (on i) (by simp [D.dep, depAll])).2 s3
    | false =>
      k_all
      rw [e1]
      k_all
      rw [e2]
      k_all
      exact fin (okv_mid js ks _ (by omega) (by omega) o (by omega)).2 s3
  · k_all
    rw [e1]
    refine dr _ _ _ _ s2 (by omega) fun r h3 s3 r0 r1 _ => ?_
    have r1 := r1 (by omega)
    have hr : r = 0 ∨ r = 1 ∨ r = 2 := by omega
    rcases hr with rfl | rfl | rfl
    all_goals
      refine atK_at (by decide) rfl ?_
      k_all
      rw [e3]
      k_all
      refine fin (okv_mid js ls _ (by omega) (by omega) ?_ (by decide)).1 s3
      first
      | exact okv_bl true
      | exact okv_non
      | exact ⟨rfl, by decide +kernel, fun xs e => by cases e⟩
theorem c_start (ns : List Int) (g : Q (.ref 0) [stO ns 0 0 0 7]) : callK (sg (k+1)) 6 [.scr ns] [] Q X := by
  have e : txt.prg.run (k+1) 6 [.scr ns] [] = .ok (.ref 0) [stO ns 0 0 0 7] := by
    show fin true 0 (exSs (sg k) b__law_start [.val (.scr ns)] []) = _
    have pi : ∀ (is : List Int), pureAll (is.map D.int) = true := fun is => by
      induction is with
      | nil => rfl
      | cons i is ih => simp [pureAll, D.pure, ih]
    simp [b__law_start, exSs, exS, evE, evEs, evRs, evR, slotD, ofO, vw, biD, Cst.d, lft, pureAll, D.pure, pi, fin, back, stO]
  exact callK_eq e g
theorem okv_lst {is : List Int} (l2 : is.length ≤ 40) : Okv (.lst (is.map D.int)) := okv_list (by simp; omega) (fun x hx => by obtain ⟨i, _, rfl⟩ := List.mem_map.mp hx; rfl) (cmp_ints _)
theorem okv_tpl {is : List Int} (l2 : is.length ≤ 40) : Okv (.tup (is.map D.int)) := okv_tup (by simp; omega) (fun x hx => by obtain ⟨i, _, rfl⟩ := List.mem_map.mp hx; rfl) (cmp_intt _)
theorem c_body (ns : List Int) (g : Q (.bl true) []) : callK (sg (k+6)) 19 [.scr ns] [] Q X := by
  have dr : ∀ (lim : Int) (h : Hs) (Q' : D → Hs → Prop) (X' : Nat → List D → Hs → Prop), Sta h → lim ≤ 1000 → (∀ r h', Sta h' → 0 ≤ r → (2 ≤ lim → r < lim) → (lim < 2 → r < 1) → Q' (.int r) h') → callK (sg (k+5)) 7 [.ref 0, .int lim] h Q' X' := fun lim h Q' X' hs hl g' => c_draw hs (by omega) fun r h' s r0 r1 r2 => g' r h' s r0 r1 r2
  refine c_run rfl rfl ?_
  k_all
  refine c_start ns ?_
  k_all
  refine c_list ⟨ns, 0, 0, 0, 7, rfl, by decide⟩ fun is h1 s1 l1 l2 => ?_
  k_all
  refine dr _ _ _ _ s1 (by omega) fun r h2 s2 r0 r1 _ => ?_
  have r1 := r1 (by omega)
  k_all
  refine c_odd s2 fun odd h3 oo _ s3 => ?_
  k_all
  refine dr _ _ _ _ s3 (by omega) fun pl h4 s4 p0 p1 p2 => ?_
  k_all
  have wt : ∀ (a b : D) (h : Hs) (Q' : D → Hs → Prop) (X' : Nat → List D → Hs → Prop), Okv a → Okv b → Q' (.bl true) h → callK (sg (k+5)) 14 [a, b] h Q' X' := fun a b h Q' X' oa ob g' => c_waytold oa ob g'
  have gt : ∀ (a b : D) (h : Hs) (Q' : D → Hs → Prop) (X' : Nat → List D → Hs → Prop), Okv a → Okv b → Q' (.bl true) h → callK (sg (k+5)) 16 [a, b] h Q' X' := fun a b h Q' X' oa ob g' => c_goodtold oa ob g'
  have pt : ∀ (a : D) (h : Hs) (Q' : D → Hs → Prop) (X' : Nat → List D → Hs → Prop), Okv a → Q' (.bl true) h → callK (sg (k+5)) 17 [a] h Q' X' := fun a h Q' X' oa g' => c_placestold oa g'
  refine k_forC (fun x => ∃ a b, x = .tup [a, b] ∧ Okv a ∧ Okv b) (fun ρ h => ∃ y, ρ = [_, _, _, _, _, _, _, y, .non, .non, .non, .non] ∧ Sta h) (fun x hx => ?_) ⟨_, rfl, s4⟩ ?_ ?_
  · simp only [List.mem_cons, List.not_mem_nil, or_false] at hx
    rcases hx with rfl | rfl | rfl | rfl | rfl | rfl | rfl
    · exact ⟨_, _, rfl, okv_int _, okv_int _⟩
    · exact ⟨_, _, rfl, okv_int _, okv_int _⟩
    · exact ⟨_, _, rfl, okv_int _, oo⟩
    · exact ⟨_, _, rfl, oo, okv_int _⟩
    · exact ⟨_, _, rfl, okv_int _, okv_int _⟩
    · exact ⟨_, _, rfl, okv_int _, okv_int _⟩
    · exact ⟨_, _, rfl, okv_int _, okv_int _⟩
  · rintro x ρ h ⟨a, b, rfl, oa, ob⟩ ⟨y, rfl, s⟩
    k_all
    refine atK_at (by decide) rfl ?_
    k_all
    refine atK_at (by decide) rfl ?_
    k_all
    refine wt _ _ _ _ _ oa ob ?_
    k_all
    exact ⟨_, rfl, s⟩
  rintro ρ h ⟨y, rfl, s⟩
  k_all
  refine c_spoilt s l1 l2 fun sp h5 os s5 => ?_
  k_all
  rw [List.length_map]
  refine dr _ _ _ _ s5 (by omega) fun fst h6 s6 f0 f1 f2 => ?_
  k_all
  refine k_forR (fun _ ρ h => ∃ y z, ρ = [_, _, _, _, _, _, _, _, _, _, y, z] ∧ Sta h) ⟨_, _, rfl, s6⟩ ?_ ?_
  · rintro i ρ h hi ⟨y, z, rfl, s⟩
    k_all
    rw [List.length_map]
    k_all
    refine k_forR (fun _ ρ h => ∃ z, ρ = [_, _, _, _, _, _, _, _, _, _, _, z] ∧ Sta h) ⟨_, rfl, s⟩ ?_ ?_
    · rintro j ρ h hj ⟨z, rfl, s⟩
      k_all
      rw [List.length_map]
      k_all
      refine gt _ _ _ _ _ (okv_lst l2) (okv_int _) ?_
      k_all
      exact ⟨_, rfl, s⟩
    · rintro ρ h ⟨z, rfl, s⟩
      k_all
      rw [List.length_map]
      refine k_forC (fun x => Okv x) (fun ρ h => ∃ z, ρ = [_, _, _, _, _, _, _, _, _, _, _, z] ∧ Sta h) (fun x hx => ?_) ⟨_, rfl, s⟩ ?_ ?_
      · simp only [List.mem_cons, List.not_mem_nil, or_false] at hx
        rcases hx with rfl | rfl | rfl | rfl
        · exact okv_int _
        · exact okv_int _
        · exact okv_bl _
        · exact oo
      · rintro x ρ h ox ⟨z, rfl, s⟩
        k_all
        refine gt _ _ _ _ _ (okv_lst l2) ox ?_
        k_all
        refine gt _ _ _ _ _ os ox ?_
        k_all
        exact ⟨_, rfl, s⟩
      · rintro ρ h ⟨z, rfl, s⟩
        k_all
        refine pt _ _ _ _ (okv_lst l2) ?_
        k_all
        refine pt _ _ _ _ (okv_tpl l2) ?_
        k_all
        refine pt _ _ _ _ os ?_
        k_all
        exact ⟨_, _, rfl, s⟩
  · rintro ρ h ⟨y, z, rfl, s⟩
    k_all
    refine eqK_same (cmp_intt _) ?_
    k_all
    refine gt _ _ _ _ _ (okv_tpl l2) (okv_int _) ?_
    k_all
    refine wt _ _ _ _ _ (okv_int _) (okv_int _) ?_
    k_all
    exact fn_cut rfl g
theorem c_law (ns : List Int) (g : Q (.bl true) []) : callK (sg (k+7)) 20 [.scr ns] [] Q X := by
  refine c_run rfl rfl ?_
  k_all
  refine c_body ns ?_
  k_all
  exact fn_ret rfl g
end
theorem law (k : Nat) (ns : List Int) : txt.prg.run (k+7) 20 [.scr ns] [] = .ok (.bl true) [] := post_eq (k_run (c_law ns ⟨rfl, rfl⟩))
section
end
end Ck35
set_option maxHeartbeats 0
namespace Ck35
open PySem L2 PV
abbrev lev : Nat := 6
theorem run_law : ∀ ns : List Int, ns.length ≤ 63 → txt.prg.run (lev + 1) 20 [.scr ns] [] = .ok (.bl true) [] := fun ns _ => law 0 ns
end Ck35
namespace Ck35
open PySem L2 PV
abbrev R : PySem.W.OpenRow := PySem.W.OpenLaw.row PySem.Challenge.rw_coinreaders_k35_ways_and_good_places
theorem run (w : World) : HandSHeadRun.RunEq R (PySem.W.view R.prog [26]) (txt.hook 6 fnd) (fun s => txt.ob 6 fnd (HandSHeadRun.getT s)) 20000 ["ReadError", "InvalidNumber", "InvalidList", "is_integer", "way_to", "check_list", "is_good", "refused_places", "_law_integer", "_law_start", "_law_draw", "_law_wide", "_law_odd", "_law_list", "_law_way", "_law_good", "_law_numbers_are", "_law_way_told", "_law_is_list", "_law_good_told", "_law_places_told", "_law_spoilt", "_law_body"] w := by
  intro os
  kernel_rfl
end Ck35
open PySem PySem.W PySem.Calls PyProof.Rows -- pv
theorem PySem.Challenge.cw_coinreaders_k35_ways_and_good_places_holds : PySem.Challenge.rw_coinreaders_k35_ways_and_good_places.Holds := by
  w_on; o_law
  refine HandSHeadRun.head_any (r := OpenLaw.row PySem.Challenge.rw_coinreaders_k35_ways_and_good_places) (q := view (OpenLaw.row PySem.Challenge.rw_coinreaders_k35_ways_and_good_places).prog [26]) (H := Ck35.txt.hook 6 Ck35.fnd) (ob := fun s => Ck35.txt.ob 6 Ck35.fnd (HandSHeadRun.getT s)) (M := 20000) (loose := ["ReadError", "InvalidNumber", "InvalidList", "is_integer", "way_to", "check_list", "is_good", "refused_places", "_law_integer", "_law_start", "_law_draw", "_law_wide", "_law_odd", "_law_list", "_law_way", "_law_good", "_law_numbers_are", "_law_way_told", "_law_is_list", "_law_good_told", "_law_places_told", "_law_spoilt", "_law_body"]) (d := HandSHeadRun.topDef (OpenLaw.row PySem.Challenge.rw_coinreaders_k35_ways_and_good_places).prog 26) (kwd := [])
    (fun s => PV.Txt.ob_eq Ck35.txt (HandSHeadRun.getT_eq s)) (by kernel_rfl) (fun s => by kernel_rfl) Ck35.run (by kernel_rfl) (by kernel_rfl) (by kernel_rfl) (by rfl) (by first | assumption | decide +kernel) (by decide +kernel) ⟨rfl, rfl, rfl, rfl, rfl, by decide +kernel⟩ ?hw ?hc
  case hw => w_witness2
  case hc =>
    refine PV.walk_pv (l := PySem.Challenge.rw_coinreaders_k35_ways_and_good_places) (n := 63) (k := Ck35.lev + 1 + 2) (x := "script") rfl (by decide) (by kernel_rfl) ⟨rfl, by decide, by decide⟩ ?F
    intro w mg fa h Y G hmg0
    obtain ⟨K, X, c, cB⟩ := Y
    have hmg : mg ("law" : PySem.Str) = some (.ref fa) := by -- pv
      have e : (HandSHeadRun.topDef (OpenLaw.row PySem.Challenge.rw_coinreaders_k35_ways_and_good_places).prog 26).name = ("law" : PySem.Str) := by kernel_rfl
      rw [← e]; exact hmg0
    exact PV.law_F (t := Ck35.txt) (fn := Ck35.fnd) X G c cB (by decide +kernel) (Ck35.defs X G c) (fun base => Ck35.inis X G c cB) (i := 20) (j := Ck35.lev) (st := Ck35.topAt 26) rfl rfl Ck35.m_law Ck35.s_law Ck35.a_law rfl Ck35.run_law hmg
